import PyProof.Rows.All
import Wide.All
import OpenK.AllK
import Wide.FinOn
import PyProof.DictWalks
import Lean
import PySem.Challenge.RW_nn0202_01
open PySem PySem.W PySem.Calls PyProof.Rows
set_option genSizeOf false
set_option genInjectivity false
set_option Elab.async false
namespace Mine
theorem hdAux {α β γ : Prop} (_ : α) (_ : β) (_ : γ) (g : PySem.Challenge.rw_nn0202_01.row.Holds) : PySem.Challenge.rw_nn0202_01.row.Holds := g
theorem hdAux2 {α β γ : Prop} (hl : α) (hw : β) (hc : γ) (g : PySem.Challenge.rw_nn0202_01.row.Holds) : PySem.Challenge.rw_nn0202_01.row.Holds := hdAux hl hw hc g
set_option maxRecDepth 100000 in
set_option maxHeartbeats 8000000 in
theorem hd (no : False) : PySem.Challenge.rw_nn0202_01.row.Holds := by
  apply hdAux2
  case g =>
    w_on
    have said : PySem.Challenge.rw_nn0202_01.row.wellSaid = true := no.elim
    k_head
  case hl => exact no.elim
  case hw => exact no.elim
  case hc => exact no.elim
section
noncomputable def asK : List Addr := [2, 3, 15, 17, 18, 20, 21, 22, 23, 25, 26, 28, 29, 37, 38, 40, 41, 43, 44, 45, 47, 48, 50, 51, 52, 53, 55, 56, 58, 59, 60, 62, 63, 65, 66, 67, 69, 70, 72, 73, 74, 76, 77, 79, 80, 81, 83, 84, 86, 87, 88, 90, 91, 93, 94, 95, 97, 98, 100, 101, 102, 104, 105, 107, 108, 109, 111, 112, 114, 115, 116, 118, 119, 121, 122, 123, 125, 126, 128, 129, 130, 131, 132, 133, 134, 137, 144, 145, 147, 148, 150, 151, 152, 154, 155, 157, 158, 159, 160, 161, 162, 165, 172, 173, 174, 184, 186, 187, 189, 190, 191, 193, 194, 196, 197, 198, 199, 200, 201, 202, 205, 207, 208, 210, 211, 212, 214, 215, 217, 218, 219, 221, 222, 224, 225, 226, 229, 230, 231, 233, 234, 236, 237, 238, 240, 241, 243, 244, 245, 248, 249, 250, 252, 253, 255, 256, 257, 259, 260, 262, 263, 264, 266, 267, 269, 270, 271, 274, 275, 276, 278, 279, 281, 282, 283, 286, 287, 288, 290, 291, 293, 294, 295, 298, 299]
set_option maxRecDepth 100000 in
theorem asK_is (P : Params) : asK = (hd.heap_1 P).map (·.1) := by kernel_rfl
noncomputable abbrev HK : Hook := kHook hd.heap_1 asK asK_is
noncomputable def goT (ok : Thread → Bool) (st : SharedT → Thread → Option (SharedT × Thread)) : Nat → SharedT × Thread → Option SharedT
  | 0, _ => none
  | n + 1, x => bif through x.2 then some x.1 else bif ok x.2 then (st x.1 x.2).bind (goT ok st n) else none
theorem goT_top {p : Program} {w : World} {a : Nat} {ann : Option Value} {s' : SharedT} (n : Nat) (x : SharedT × Thread) (h : goT (stepOk a ann) (stepT (denote treeTable) p w) n x = some s') : topRun treeTable p w a ann n x.1.abs x.2 = some s'.abs := by
  induction n generalizing x with
  | zero => cases h
  | succ n ih =>
    rw [goT] at h
    rw [topRun]
    by_cases ht : through x.2 = true
    · simp only [ht, cond_true, Option.some.injEq] at h ⊢
      exact congrArg SharedT.abs h
    · by_cases hk : stepOk a ann x.2 = true
      · simp only [ht, hk, cond_true, cond_false] at h ⊢
        obtain ⟨y, hy, h⟩ := Option.bind_eq_some_iff.mp h
        rw [stepT_spec (s' := y.1) (t' := y.2) hy]
        exact ih y h
      · simp only [ht, hk, cond_false] at h
        cases h
noncomputable abbrev pg : Program := PySem.Challenge.rw_nn0202_01.row.toRowW.prog
noncomputable abbrev Xh : Shared → Bool := fun s => xlAt hd.view_1 [] s && recOk (RowW.records PySem.Challenge.rw_nn0202_01.row.toRowW) s
noncomputable def bootT (P : Params) : BT := .node (boot_o_0 P) (.node (boot_o_1 P) (.node (boot_o_3 P) (.node (boot_o_7 P) .nil .nil) .nil) (.node (boot_o_5 P) (.node (boot_o_9 P) .nil .nil) .nil)) (.node (boot_o_2 P) (.node (boot_o_4 P) (.node (boot_o_8 P) .nil .nil) .nil) (.node (boot_o_6 P) (.node (boot_o_10 P) .nil .nil) .nil))
noncomputable abbrev bootS (w : World) (os : OsState) : SharedT := ⟨bootT w.params, 11, (boot_heap w.params).life, #[], boot_drawn, boot_toks, os⟩
noncomputable abbrev hdRun (w : World) (os : OsState) : Option SharedT := goT (Fast.tw6613529449190102663 11 (some (.ref 6))) (Fast.tw10156331382660048174 (Fast.tw11892475500146522536 Fast.tw14364793385576792824) pg w) 4014 (bootS w os, topStub pg)
noncomputable abbrev hdFit (w : World) (s : Shared) : Bool := staticsOk (importedModules pg.main.body) (boot_heap w.params) s.heap && namesBound pg s.heap && gensDone s && laidKept (boot_heap w.params) s.heap
set_option maxRecDepth 100000 in
set_option maxHeartbeats 8000000 in
theorem hdA (w : World) (os : OsState) : (hdRun w os).map (fun x => hdFit w x.abs) = some true := by
  kernel_rfl
set_option maxRecDepth 100000 in
set_option maxHeartbeats 8000000 in
theorem hdB (w : World) (os : OsState) : (hdRun w os).map (fun x => Fast.tw4187177175401517315 hd.view_1 [Str.ofString "PaperError"] (importedModules pg.main.body) Xh true x.abs) = some (openGood hd.view_1 [Str.ofString "PaperError"]) := by
  kernel_rfl
set_option maxRecDepth 100000 in
set_option maxHeartbeats 8000000 in
theorem hdC (w : World) (os : OsState) : (hdRun w os).map (fun x => Hook.obs HK x.abs) = some (Hook.val HK w) := by
  kernel_rfl
theorem bootS_is (w : World) (os : OsState) : (bootS w os).abs = ⟨boot_heap w.params, #[], boot_drawn, boot_toks, os⟩ := by kernel_rfl
theorem boot_size (w : World) : (boot_heap w.params).objs.size = 11 := by kernel_rfl
theorem boot_ns (w : World) : (boot_heap w.params).isNs mainGlobals = true := by kernel_rfl
theorem boot_ann (w : World) : (boot_heap w.params).nsMap mainGlobals "__annotations__" = some (.ref 6) := by kernel_rfl
theorem hdOpens (w : World) : ∃ os, fencedOpening treeTable pg w 4014 = some ⟨boot_heap w.params, #[], boot_drawn, boot_toks, os⟩ := by
  have h := boot_open (p := pg) (N := 4014) (by kernel_rfl) (by decide) (fun s => by kernel_rfl) w
  revert h
  cases fencedOpening treeTable pg w 4014 with
  | none => intro h; cases h
  | some s => intro h; injection h with h; exact ⟨s.os, by cases s; simp_all⟩
theorem hdRun_is (w : World) (os : OsState) : hdRun w os = goT (stepOk 11 (some (.ref 6))) (stepT (denote treeTable) pg w) 4014 (bootS w os, topStub pg) := by
  unfold hdRun
  rw [← Fast.te6613529449190102663, ← Fast.te10156331382660048174, ← Fast.te11892475500146522536, ← Fast.te14364793385576792824]
theorem hdEnds (w : World) : ∃ os x, hdRun w os = some x ∧ openEnds treeTable pg w 4014 = some x.abs := by
  obtain ⟨os, ho⟩ := hdOpens w
  have hA := hdA w os
  cases hx : hdRun w os with
  | none => rw [hx] at hA; cases hA
  | some x =>
    rw [hx] at hA
    have fit : hdFit w x.abs = true := Option.some.inj hA
    have run := goT_top _ _ ((hdRun_is w os).symm.trans hx)
    rw [bootS_is] at run
    refine ⟨os, x, hx, ?_⟩
    rw [openEnds, ho, Option.bind_some, topFrom]
    simp only [boot_size, boot_ns, boot_ann, run, Option.bind_some]
    show (match hdFit w x.abs with | true => some x.abs | false => none) = _
    rw [fit]
set_option maxRecDepth 100000 in
set_option maxHeartbeats 8000000 in
theorem hdLeft : LeftO PySem.Challenge.rw_nn0202_01.row.toRowW.prog hd.view_1 [Str.ofString "PaperError"] (fun s => xlAt hd.view_1 [] s && recOk (RowW.records PySem.Challenge.rw_nn0202_01.row.toRowW) s) (Hook.obs HK) (Hook.val HK) 4014 := by
  intro w
  obtain ⟨os, x, hx, he⟩ := hdEnds w
  have B := hdB w os
  have C := hdC w os
  rw [hx] at B C
  rw [← Fast.te4187177175401517315] at B
  exact (congrArg (Option.map _) he).trans (congrArg some (Prod.ext (Option.some.inj B) (Option.some.inj C)))
set_option maxRecDepth 100000 in
set_option maxHeartbeats 8000000 in
theorem lawSaid : PySem.Challenge.rw_nn0202_01.wellSaid = true := (congrFun Fast.te9446332074065402090 PySem.Challenge.rw_nn0202_01).trans (by kernel_rfl)
end
section

noncomputable def Halt (P : Prop) : Prop := P
theorem off_of_lt {d : Nat} {l : List (Addr × Obj)} (h : AllLt d l) : ∀ p ∈ l, p.1 ≠ d := fun p hp => Nat.ne_of_lt (ktn_ltOf h p hp)

structure PenSt where
  k : Int
  d : Int
  t1 : Tok
  t2 : Tok
  c1 : Nat
  c2 : Nat
  vs : List Value
  ns : List Int
  ok : IntsAre vs ns
  len : ns.length ≤ 63
noncomputable def penA (la : Nat) (x : PenSt) : Obj := listOf [.ref la, .int x.k x.t1, .int x.d x.t2].toArray x.c1
noncomputable def penB (x : PenSt) : Obj := listOf x.vs.toArray x.c2

inductive PenAt (pa la : Nat) (x : PenSt) : List (Addr × Obj) → (PenSt → List (Addr × Obj)) → Prop where
  | head {r : List (Addr × Obj)} : pa ≠ la → (∀ p ∈ r, p.1 ≠ pa) → (∀ p ∈ r, p.1 ≠ la) → PenAt pa la x ((pa, penA la x) :: (la, penB x) :: r) (fun y => (pa, penA la y) :: (la, penB y) :: r)
  | tail {p : Addr × Obj} {r : List (Addr × Obj)} {g : PenSt → List (Addr × Obj)} : p.1 ≠ pa → p.1 ≠ la → PenAt pa la x r g → PenAt pa la x (p :: r) (fun y => p :: g y)

theorem PenAt.split {pa la : Nat} {x : PenSt} : ∀ {l : List (Addr × Obj)} {g : PenSt → List (Addr × Obj)}, PenAt pa la x l g → ∃ pre post, pa ≠ la ∧ l = pre ++ (pa, penA la x) :: (la, penB x) :: post ∧ (∀ y, g y = pre ++ (pa, penA la y) :: (la, penB y) :: post) ∧ ∀ p ∈ pre ++ post, p.1 ≠ pa ∧ p.1 ≠ la
  | _, _, .head h1 h2 h3 => ⟨[], _, h1, rfl, fun _ => rfl, fun p hp => ⟨h2 p hp, h3 p hp⟩⟩
  | _, _, .tail (p := q) h1 h2 h => by
    obtain ⟨pre, post, a, b, c, d⟩ := h.split
    refine ⟨q :: pre, post, a, by rw [b]; rfl, fun y => congrArg (q :: ·) (c y), fun p hp => ?_⟩
    rcases List.mem_cons.mp hp with rfl | hp
    · exact ⟨h1, h2⟩
    · exact d p hp

theorem PenAt.mem {pa la : Nat} {x y : PenSt} {l : List (Addr × Obj)} {g : PenSt → List (Addr × Obj)} (P : PenAt pa la x l g) {q : Addr × Obj} (hq : q ∈ l) (h1 : q.1 ≠ pa) (h2 : q.1 ≠ la) : q ∈ g y := by
  obtain ⟨pre, post, _, rfl, hg, _⟩ := P.split
  rw [hg]
  simp only [List.mem_append, List.mem_cons] at hq ⊢
  rcases hq with hq | rfl | rfl | hq
  · exact .inl hq
  · exact absurd rfl h1
  · exact absurd rfl h2
  · exact .inr (.inr (.inr hq))
section
variable {prog : Program} {w : World} {A : Around} {E : Value → Shared → Prop} {s : Shared} {h₀ : Heap} {L : Addr} {m : Str → Option Value} {Q : Value → Shared → Prop}
theorem len_led {sa : Addr} {items : List Value} {n : Nat} {news : List (Addr × Obj)} (N : News h₀ L s.heap news) (hm : (sa, listOf items.toArray n) ∈ news) (hz : items.length ≤ 1000)
    (h : Q (.int items.length (s.toks + 1)) { s with toks := s.toks + 1 + 1 }) : wpAny (model prog w) A (call (.builtin "len") [.ref sa]) Q E s :=
  Calls.call_len_list (News.isList N hm) (by simp only [List.size_toArray]; lia) (by simpa only [List.size_toArray] using h)
theorem item_led {value slice : PySem.Expr} {sa : Addr} {items : List Value} {n : Nat} {r : Int} {t : Tok} {news : List (Addr × Obj)} (N : News h₀ L s.heap news) (hm : (sa, listOf items.toArray n) ∈ news) (h0 : 0 ≤ r) (h1 : r < (items.length : Int)) (hz : items.length ≤ 1000)
    (h : ∀ v, items[r.toNat]? = some v → v ∈ items → Q v s)
    (hs : subscripted slice false (.ref sa) (.int r t) = operate [.ref sa, .int r t] (getItem (.ref sa) (.int r t)) := by with_unfolding_all rfl) : wpAny (model prog w) A (subscriptTail value slice (.ref sa) (.int r t)) Q E s := by
  have hlt : r.toNat < items.length := by lia
  exact tail_any (News.isList N hm).typeIs slot_list_getitem.lookup (wpAny_getItem_list (News.isList N hm) h0 (by lia) (by simp [List.getElem?_eq_getElem hlt]) (h items[r.toNat] (List.getElem?_eq_getElem hlt) (List.getElem_mem hlt))) hs
theorem pop_ints {la : Addr} {vs : List Value} {ns : List Int} {n : Nat} {u : Tok} {news : List (Addr × Obj)} {g : Obj → List (Addr × Obj)} (F : Fr h₀ L s.heap m) (N : News h₀ L s.heap news)
    (U : UpdF la (listOf vs.toArray n) news g) (hI : IntsAre vs ns) (hne : decide (ns = []) = false) (hlen : ns.length ≤ 63)
    (h : ∀ i t vs' ns' h', IntsAre vs' ns' → ns'.length ≤ 63 → Fr h₀ L h' m → News h₀ L h' (g (listOf vs'.toArray (n + 1))) → Q (.int i t) { s with heap := h' }) :
    wpAny (model prog w) A (call (.builtin "list.pop") [.ref la, .int 0 u]) Q E s := by
  cases hI with
  | nil => simp at hne
  | cons i t hI' =>
    rename_i vs' ns'
    have hl := hI'.length
    simp only [List.length_cons] at hlen
    obtain ⟨pre, post, rfl, hg, c, e⟩ := U.split
    have up : ∀ (pre : List (Addr × Obj)), (∀ p ∈ pre, p.1 ≠ la) → Upd la (listOf (Value.int i t :: vs').toArray n) (listOf ([] ++ vs').toArray (n + 1)) (pre ++ (la, listOf (Value.int i t :: vs').toArray n) :: post) (pre ++ (la, listOf ([] ++ vs').toArray (n + 1)) :: post) := by
      intro pre
      induction pre with
      | nil => exact fun _ => .head e
      | cons q r ih => exact fun h => .tail (h q (.head _)) (ih fun p hp => h p (.tail _ hp))
    refine kl_popAt (k := 0) (p := []) (q := vs') (y := .int i t) F N (by decide) ?_ rfl (up pre c) ?_ fun h' F' N' => h i t vs' ns' h' hI' (by lia) F' (by rw [hg]; exact N')
    · simp [seqIndex?]
    · have := sizeLine_eq
      simp only [List.length_cons]
      lia
end
end
section
section
variable {prog : Program} {w : World} {A : Around} {E : Value → Shared → Prop} {s : Shared} {env : Env} {h₀ : Heap} {x : Str} {body : List Stmt} {Q : Flow → Shared → Prop}

noncomputable def LEnd {σ : Type} (h₀ : Heap) (L : Addr) (x : Str) (M : σ → Str → Option Value) (Led : σ → List (Addr × Obj)) (Inv : σ → Prop) (I : Addr) (oI : Obj) (s₁ s₂ : Shared) : Prop :=
  ∃ (c : σ) (h' : Heap) (tk : Nat) (m' : Str → Option Value) (news' : List (Addr × Obj)), s₂ = { s₁ with heap := h', toks := tk } ∧ Fr h₀ L h' m' ∧ News h₀ L h' news' ∧ (I, oI) ∈ news' ∧ (∀ p ∈ Led c, p ∈ news') ∧ (∀ p ∈ Led c, p.1 ≠ I) ∧ (∀ z, z ≠ x → m' z = M c z) ∧ Inv c
noncomputable def LPost {σ : Type} (h₀ : Heap) (L : Addr) (x : Str) (M : σ → Str → Option Value) (Led : σ → List (Addr × Obj)) (Inv : σ → Prop) (I : Addr) (oI : Obj) (s₁ : Shared) (Q : Flow → Shared → Prop) (f : Flow) (s₂ : Shared) : Prop :=
  match f with
  | .ret v => Q (.ret v) s₂
  | .brk => Q .next s₂
  | .next => LEnd h₀ L x M Led Inv I oI s₁ s₂
  | .cont => LEnd h₀ L x M Led Inv I oI s₁ s₂
theorem LEnd.intro {σ : Type} {L : Addr} {M : σ → Str → Option Value} {Led : σ → List (Addr × Obj)} {Inv : σ → Prop} {I : Addr} {oI : Obj} {s₁ : Shared} {h' : Heap} {tk : Nat} {m' : Str → Option Value} {news' : List (Addr × Obj)} (c : σ)
    (F : Fr h₀ L h' m') (N : News h₀ L h' news') (hI : (I, oI) ∈ news') (hn : ∀ p ∈ Led c, p ∈ news') (ho : ∀ p ∈ Led c, p.1 ≠ I) (hm : ∀ z, z ≠ x → m' z = M c z) (hv : Inv c) :
    LEnd h₀ L x M Led Inv I oI s₁ { s₁ with heap := h', toks := tk } := ⟨c, h', tk, m', news', rfl, F, N, hI, hn, ho, hm, hv⟩

theorem lp_at {σ : Type} {I : Addr} {fp : List Addr} {n : Nat} {P : Nat → Value → Prop} {St : Nat → Heap → Prop} {m₀ : Str → Option Value} {news : List (Addr × Obj)} (ext : List (Addr × Obj))
    (M : σ → Str → Option Value) (Led : σ → List (Addr × Obj)) (Inv : Nat → σ → Prop) (c₀ : σ)
    (W : Walks prog w A I fp [I] n P St) (hIo : ∀ i h, St i h → ∃ o, h.get? I = some o) (hIf : I ∈ fp) (hfp : ∀ b ∈ fp, b = I ∨ (∃ o, (b, o) ∈ ext))
    (hext : ∀ i c, Inv i c → ∀ p ∈ ext, p ∈ Led c)
    (hLI : env.locals ≠ I) (hI0 : h₀.get? I = none) (hnw : ∀ p ∈ news, p.1 ≠ I) (hst : St 0 s.heap)
    (F : Fr h₀ env.locals s.heap m₀) (N : News h₀ env.locals s.heap news) (hm : ∀ z, z ≠ x → m₀ z = M c₀ z) (hl : ∀ p ∈ Led c₀, p ∈ news) (hj : Inv 0 c₀)
    (turn : ∀ i v c h tk oI, i < n → P i v → Inv i c → (∀ p ∈ Led c, p.1 ≠ I) → Fr h₀ env.locals h (fun z => if z = x then some v else M c z) → News h₀ env.locals h ((I, oI) :: Led c) →
      wpAny (model prog w) A (execs body env) (LPost h₀ env.locals x M Led (Inv (i + 1)) I oI { s with heap := h, toks := tk } Q) E { s with heap := h, toks := tk })
    (done : ∀ c (u : Option Value) h tk, Inv n c → (∀ p ∈ Led c, p.1 ≠ I) → Fr h₀ env.locals h (fun z => if z = x then u else M c z) → News h₀ env.locals h (Led c) → Q .next { s with heap := h, toks := tk }) :
    LoopAtV prog w A h₀ env x body Q E (.ref I) s := by
  have up : ∀ {h : Heap} {c : σ} {m' : Str → Option Value} (u : Option Value), (∀ z, z ≠ x → m' z = M c z) → Fr h₀ env.locals h (fun z => if z = x then u else m' z) → Fr h₀ env.locals h (fun z => if z = x then u else M c z) := by
    intro h c m' u hm' F'
    have e : (fun z => if z = x then u else M c z) = fun z => if z = x then u else m' z := by
      funext z
      by_cases hz : z = x
      · rw [if_pos hz, if_pos hz]
      · rw [if_neg hz, if_neg hz, hm' z hz]
    rw [e]
    exact F'
  have upm : ∀ {m' : Str → Option Value}, (fun z => if z = x then m' x else m' z) = m' := by
    intro m'
    funext z
    by_cases hz : z = x
    · rw [if_pos hz, hz]
    · rw [if_neg hz]
  have NL : News h₀ env.locals s.heap (Led c₀) := fun p hp => N p (hl p hp)
  refine ⟨I, fp, [I], n, P, St, m₀, Led c₀, fun i m nx => ∃ c, nx = Led c ∧ (∀ z, z ≠ x → m z = M c z) ∧ Inv i c, rfl, W, ?_, ?_, ?_, hst, F, NL, ⟨c₀, rfl, hm, hj⟩, ?_, ?_⟩
  · intro hb
    rcases hfp _ hb with e | ⟨o, ho⟩
    · exact hLI e
    · exact (NL _ (hext 0 c₀ hj _ ho)).2.1 rfl
  · intro b hb
    rw [List.mem_singleton.mp hb]
    exact hI0
  · intro p hp hb
    exact hnw p (hl p hp) (List.mem_singleton.mp hb)
  · rintro i v m₁ news₁ s₁ own ⟨hh, tk, rfl⟩ hi hP ⟨c, rfl, hm₁, hInv⟩ hoff hown howng hall hst₁ F₁ N₁
    obtain ⟨oI, hoI⟩ := hIo _ _ hst₁
    have hIown : (I, oI) ∈ own := hall I hIf hI0 oI hoI
    have off : ∀ p ∈ Led c, p.1 ≠ I := fun p hp e => hoff p hp (List.mem_singleton.mpr e)
    have N₂ : News h₀ env.locals hh ((I, oI) :: Led c) := fun p hp => by
      rcases List.mem_cons.mp hp with rfl | hp
      · exact N₁ _ (List.mem_append_left _ hIown)
      · exact N₁ p (List.mem_append_right _ hp)
    refine wpAny_mono (turn i v c hh tk oI hi hP hInv off (up _ hm₁ F₁) N₂) (fun f s₂ p => ?_) fun _ _ e => e
    have fin : LEnd h₀ env.locals x M Led (Inv (i + 1)) I oI { s with heap := hh, toks := tk } s₂ → LoopStepU h₀ env.locals [I] own (fun m nx => ∃ c, nx = Led c ∧ (∀ z, z ≠ x → m z = M c z) ∧ Inv (i + 1) c) { s with heap := hh, toks := tk } .next s₂ := by
      rintro ⟨c', h', tk', m', news', e, F', N', hI', hn', ho', hm', hv'⟩
      refine ⟨rfl, h', tk', m', Led c', e, F', fun p hp => ?_, fun p hp hb => ho' p hp (List.mem_singleton.mp hb), c', rfl, hm', hv'⟩
      rcases List.mem_append.mp hp with hp | hp
      · have e1 := howng p hp
        rcases hfp _ (hown p hp) with q | ⟨o, ho⟩
        · have e2 : s.heap = s.heap := rfl
          have : p = (I, oI) := by
            obtain ⟨p1, p2⟩ := p
            simp only at q e1
            subst q
            have e3 : some p2 = some oI := e1.symm.trans hoI
            rw [Option.some.inj e3]
          rw [this]
          exact N' _ hI'
        · have h1 := (N₂ _ (List.mem_cons_of_mem _ (hext i c hInv _ ho))).1
          have : p = (p.1, o) := by
            obtain ⟨p1, p2⟩ := p
            simp only at e1 h1
            have e3 : some p2 = some o := e1.symm.trans h1
            rw [Option.some.inj e3]
          rw [this]
          exact N' _ (hn' _ (hext (i + 1) c' hv' _ ho))
      · exact N' _ (hn' _ hp)
    cases f with
    | ret v => exact .ret p
    | brk => exact .brk p
    | next => exact .next (fin p)
    | cont => exact .cont (fin p)
  · rintro h' tk m' news' F' N' hoff ⟨c, rfl, hm', hv'⟩
    exact done c (m' x) h' tk hv' (fun p hp e => hoff p hp (List.mem_singleton.mpr e)) (up (m' x) hm' (by rw [upm]; exact F')) N'

theorem lp_list {σ : Type} {l : Addr} {vs : List Value} {nn : Nat} {m₀ : Str → Option Value} {news : List (Addr × Obj)}
    (M : σ → Str → Option Value) (Led : σ → List (Addr × Obj)) (Inv : Nat → σ → Prop) (c₀ : σ)
    (hh : A.handled = none) (F : Fr h₀ env.locals s.heap m₀) (N : News h₀ env.locals s.heap news) (hl : (l, listOf vs.toArray nn) ∈ news) (hext : ∀ i c, Inv i c → (l, listOf vs.toArray nn) ∈ Led c)
    (hm : ∀ z, z ≠ x → m₀ z = M c₀ z) (hs : ∀ p ∈ Led c₀, p ∈ news) (hj : Inv 0 c₀)
    (turn : ∀ i v c I h tk oI, vs[i]? = some v → Inv i c → (∀ p ∈ Led c, p.1 ≠ I) → Fr h₀ env.locals h (fun z => if z = x then some v else M c z) → News h₀ env.locals h ((I, oI) :: Led c) →
      wpAny (model prog w) A (execs body env) (LPost h₀ env.locals x M Led (Inv (i + 1)) I oI { s with heap := h, toks := tk } Q) E { s with heap := h, toks := tk })
    (done : ∀ c (u : Option Value) h tk, Inv vs.length c → Fr h₀ env.locals h (fun z => if z = x then u else M c z) → News h₀ env.locals h (Led c) → Q .next { s with heap := h, toks := tk }) :
    wpAny (model prog w) A (pyIter (.ref l)) (fun it s₂ => LoopAtV prog w A h₀ env x body Q E it s₂) E s := by
  have hls := News.isList N hl
  have hlt : l < s.heap.objs.size := Heap.lt_size (N _ hl).1
  refine wpAny_pyIter_list hls ?_
  have W := Walks.list (prog := prog) (w := w) hh s.heap.objs.size l (Nat.ne_of_lt hlt) vs.toArray
  have hsz : vs.toArray.size = vs.length := by simp
  rw [hsz] at W
  refine lp_at [(l, listOf vs.toArray nn)] M Led Inv c₀ W (fun i h st => by obtain ⟨o, e, _⟩ := st.1; exact ⟨o, e⟩) (by simp) (fun b hb => ?_) (fun i c hv p hp => ?_) (Nat.ne_of_lt F.ns.lt) (next_is_new F) (fun p hp => Nat.ne_of_lt (Heap.lt_size (N p hp).1))
    ⟨⟨_, Heap.get?_push_size _ rfl, rfl, rfl⟩, hls.at fun o e => Heap.get?_push_of_some _ e⟩ (F.push _) (fun p hp => ⟨Heap.get?_push_of_some _ (N p hp).1, (N p hp).2⟩) hm hs hj ?_ ?_
  · rcases List.mem_cons.mp hb with rfl | hb
    · exact .inl rfl
    · exact .inr ⟨_, by rw [List.mem_singleton.mp hb]; exact List.mem_singleton.mpr rfl⟩
  · rw [List.mem_singleton.mp hp]
    exact hext i c hv
  · intro i v c h tk oI hi hP hv ho F' N'
    exact turn i v c _ h tk oI (by simpa using hP) hv ho F' N'
  · intro c u h tk hv _ F' N'
    exact done c u h tk hv F' N'

theorem lp_range {σ : Type} {r : Addr} {a b : Int} {t u v : Tok} {n : Nat} {m₀ : Str → Option Value} {news : List (Addr × Obj)}
    (M : σ → Str → Option Value) (Led : σ → List (Addr × Obj)) (Inv : Nat → σ → Prop) (c₀ : σ)
    (hh : A.handled = none) (hr : IsRange s.heap r a b 1 t u v) (hsm : Builtin.Range.small a b 1 = true) (hn : Builtin.Range.rangeSize a b 1 = (n : Int)) (F : Fr h₀ env.locals s.heap m₀) (N : News h₀ env.locals s.heap news)
    (hm : ∀ z, z ≠ x → m₀ z = M c₀ z) (hs : ∀ p ∈ Led c₀, p ∈ news) (hj : Inv 0 c₀)
    (turn : ∀ i t c I h tk oI, i < n → Inv i c → (∀ p ∈ Led c, p.1 ≠ I) → Fr h₀ env.locals h (fun z => if z = x then some (.int (a + (i : Int)) t) else M c z) → News h₀ env.locals h ((I, oI) :: Led c) →
      wpAny (model prog w) A (execs body env) (LPost h₀ env.locals x M Led (Inv (i + 1)) I oI { s with heap := h, toks := tk } Q) E { s with heap := h, toks := tk })
    (done : ∀ c (u : Option Value) h tk, Inv n c → Fr h₀ env.locals h (fun z => if z = x then u else M c z) → News h₀ env.locals h (Led c) → Q .next { s with heap := h, toks := tk }) :
    wpAny (model prog w) A (pyIter (.ref r)) (fun it s₂ => LoopAtV prog w A h₀ env x body Q E it s₂) E s := by
  refine wpAny_pyIter_range hr hsm ?_
  have W : Walks prog w A s.heap.objs.size [s.heap.objs.size] [s.heap.objs.size] n _ _ := Walks.range hh s.heap.objs.size a 1 n
  refine lp_at [] M Led Inv c₀ W (fun i h st => ⟨_, st⟩) (by simp) (fun b hb => .inl (List.mem_singleton.mp hb)) (fun _ _ _ p hp => by cases hp) (Nat.ne_of_lt F.ns.lt) (next_is_new F) (fun p hp => Nat.ne_of_lt (Heap.lt_size (N p hp).1))
    (by show IsRangeIter _ _ _ _ _; rw [hn]; simpa using Heap.get?_push_size _ rfl) (F.push _) (fun p hp => ⟨Heap.get?_push_of_some _ (N p hp).1, (N p hp).2⟩) hm hs hj ?_ ?_
  · rintro i v c h tk oI hi ⟨t, rfl⟩ hv ho F' N'
    exact turn i t c _ h tk oI hi hv ho (by simpa using F') N'
  · intro c u h tk hv _ F' N'
    exact done c u h tk hv F' N'

theorem lp_dict {σ : Type} {d : Addr} {o : Obj} {kvs : List (Int × Value)} {m₀ : Str → Option Value} {news : List (Addr × Obj)}
    (M : σ → Str → Option Value) (Led : σ → List (Addr × Obj)) (Inv : Nat → σ → Prop) (c₀ : σ)
    (hh : A.handled = none) (lo : (d == sysModules) = false) (hd : o.IsDictOf (intKind prog w) kvs) (F : Fr h₀ env.locals s.heap m₀) (N : News h₀ env.locals s.heap news) (hl : (d, o) ∈ news) (hext : ∀ i c, Inv i c → (d, o) ∈ Led c)
    (hm : ∀ z, z ≠ x → m₀ z = M c₀ z) (hs : ∀ p ∈ Led c₀, p ∈ news) (hj : Inv 0 c₀)
    (turn : ∀ i k y t c I h tk oI, kvs[i]? = some (k, y) → Inv i c → (∀ p ∈ Led c, p.1 ≠ I) → Fr h₀ env.locals h (fun z => if z = x then some (.int k t) else M c z) → News h₀ env.locals h ((I, oI) :: Led c) →
      wpAny (model prog w) A (execs body env) (LPost h₀ env.locals x M Led (Inv (i + 1)) I oI { s with heap := h, toks := tk } Q) E { s with heap := h, toks := tk })
    (done : ∀ c (u : Option Value) h tk, Inv kvs.length c → Fr h₀ env.locals h (fun z => if z = x then u else M c z) → News h₀ env.locals h (Led c) → Q .next { s with heap := h, toks := tk }) :
    wpAny (model prog w) A (pyIter (.ref d)) (fun it s₂ => LoopAtV prog w A h₀ env x body Q E it s₂) E s := by
  obtain ⟨ep, hk⟩ := KdkAt.of hd
  have hda := hk.dictAt (N _ hl).1
  have hlt : d < s.heap.objs.size := Heap.lt_size (N _ hl).1
  refine wpAny_pyIter_dict lo hda ?_
  have W := Walks.dictKeys (prog := prog) (w := w) (knd := intKind prog w) hh s.heap.objs.size d (Nat.ne_of_lt hlt) kvs ep
  refine lp_at [(d, o)] M Led Inv c₀ W (fun i h st => by obtain ⟨o, e, _⟩ := st.1; exact ⟨o, e⟩) (by simp) (fun b hb => ?_) (fun i c hv p hp => ?_) (Nat.ne_of_lt F.ns.lt) (next_is_new F) (fun p hp => Nat.ne_of_lt (Heap.lt_size (N p hp).1))
    ⟨⟨_, Heap.get?_push_size _ rfl, rfl, rfl⟩, hda.push _⟩ (F.push _) (fun p hp => ⟨Heap.get?_push_of_some _ (N p hp).1, (N p hp).2⟩) hm hs hj ?_ ?_
  · rcases List.mem_cons.mp hb with rfl | hb
    · exact .inl rfl
    · exact .inr ⟨o, by rw [List.mem_singleton.mp hb]; exact List.mem_singleton.mpr rfl⟩
  · rw [List.mem_singleton.mp hp]
    exact hext i c hv
  · rintro i v c h tk oI hi ⟨k, y, hy, hkv⟩ hv ho F' N'
    obtain ⟨t, rfl⟩ := Value.isInt_shape hkv
    exact turn i k y t c _ h tk oI hy hv ho F' N'
  · intro c u h tk hv _ F' N'
    exact done c u h tk hv F' N'
end
section
variable {σ : Type} {h₀ : Heap} {L : Addr} {x : Str} {M : σ → Str → Option Value} {Led : σ → List (Addr × Obj)} {Inv Inv' : σ → Prop} {I : Addr} {oI : Obj} {s₁ s₂ : Shared} {Q : Flow → Shared → Prop} {f : Flow}
theorem LPost.mono (h : LPost h₀ L x M Led Inv I oI s₁ Q f s₂) (k : ∀ c, Inv c → Inv' c) : LPost h₀ L x M Led Inv' I oI s₁ Q f s₂ := by
  have e : LEnd h₀ L x M Led Inv I oI s₁ s₂ → LEnd h₀ L x M Led Inv' I oI s₁ s₂ := by
    rintro ⟨c, h', tk, m', news', a, F, N, b, d, e, g, i⟩
    exact ⟨c, h', tk, m', news', a, F, N, b, d, e, g, k _ i⟩
  cases f with
  | next => exact e h
  | cont => exact e h
  | brk => exact h
  | ret v => exact h
end
end
section
inductive TabRel {β : Type} (R : Value → β → Prop) : List (Int × Value) → List (Int × β) → Prop where
  | nil : TabRel R [] []
  | cons {k : Int} {v : Value} {b : β} {kvs : List (Int × Value)} {es : List (Int × β)} : R v b → TabRel R kvs es → TabRel R ((k, v) :: kvs) ((k, b) :: es)
section
variable {β : Type} {R R' : Value → β → Prop}
theorem TabRel.mono {kvs : List (Int × Value)} {es : List (Int × β)} (h : TabRel R kvs es) (m : ∀ v b, R v b → R' v b) : TabRel R' kvs es := by
  induction h with
  | nil => exact .nil
  | cons a _ ih => exact .cons (m _ _ a) ih
theorem TabRel.length {kvs : List (Int × Value)} {es : List (Int × β)} (h : TabRel R kvs es) : kvs.length = es.length := by
  induction h with
  | nil => rfl
  | cons a _ ih => simp [ih]
theorem TabRel.keys {kvs : List (Int × Value)} {es : List (Int × β)} (h : TabRel R kvs es) : kvs.map (·.1) = es.map (·.1) := by
  induction h with
  | nil => rfl
  | cons a _ ih => simp [ih]
theorem TabRel.append {kvs kvs' : List (Int × Value)} {es es' : List (Int × β)} (h : TabRel R kvs es) (h' : TabRel R kvs' es') : TabRel R (kvs ++ kvs') (es ++ es') := by
  induction h with
  | nil => exact h'
  | cons a _ ih => exact .cons a ih
theorem TabRel.get {kvs : List (Int × Value)} {es : List (Int × β)} (h : TabRel R kvs es) : ∀ {i : Nat} {k : Int} {v : Value}, kvs[i]? = some (k, v) → ∃ b, es[i]? = some (k, b) ∧ R v b := by
  induction h with
  | nil => intro i k v e; simp at e
  | cons a _ ih =>
    intro i k v e
    cases i with
    | zero => simp at e; obtain ⟨rfl, rfl⟩ := e; exact ⟨_, by simp, a⟩
    | succ i => simp at e; obtain ⟨b, h1, h2⟩ := ih e; exact ⟨b, by simpa using h1, h2⟩

noncomputable def putK (es : List (Int × β)) (k : Int) (b : β) : List (Int × β) :=
  if es.any (fun p => p.1 = k) then es.map (fun p => if p.1 = k then (p.1, b) else p) else es ++ [(k, b)]
noncomputable def lookK (es : List (Int × β)) (k : Int) : Option β := (es.find? fun p => p.1 = k).map (·.2)
theorem TabRel.look {kvs : List (Int × Value)} {es : List (Int × β)} (h : TabRel R kvs es) (k : Int) : (valueAt kvs k = none ∧ lookK es k = none) ∨ ∃ v b, valueAt kvs k = some v ∧ lookK es k = some b ∧ R v b := by
  induction h with
  | nil => exact .inl ⟨rfl, rfl⟩
  | @cons k' v b kvs es a _ ih =>
    by_cases e : k' = k
    · subst e
      exact .inr ⟨v, b, by simp [valueAt], by simp [lookK], a⟩
    · rcases ih with ⟨h1, h2⟩ | ⟨v', b', h1, h2, h3⟩
      · exact .inl ⟨by simpa [valueAt, List.find?_cons, e] using h1, by simpa [lookK, List.find?_cons, e] using h2⟩
      · exact .inr ⟨v', b', by simpa [valueAt, List.find?_cons, e] using h1, by simpa [lookK, List.find?_cons, e] using h2, h3⟩
theorem TabRel.anyEq {kvs : List (Int × Value)} {es : List (Int × β)} (h : TabRel R kvs es) (k : Int) : kvs.any (fun p => p.1 = k) = es.any (fun p => p.1 = k) := by
  induction h with
  | nil => rfl
  | cons a _ ih => simp [ih]
theorem TabRel.mapEq {kvs : List (Int × Value)} {es : List (Int × β)} (h : TabRel R kvs es) (k : Int) {v : Value} {b : β} (r : R v b) : TabRel R (kvs.map (fun p => if p.1 = k then (p.1, v) else p)) (es.map (fun p => if p.1 = k then (p.1, b) else p)) := by
  induction h with
  | nil => exact .nil
  | @cons k' v' b' kvs es a _ ih =>
    simp only [List.map_cons]
    by_cases e : k' = k
    · simp only [e, if_true]; exact .cons r (by simpa only [e] using ih)
    · simp only [e, if_false]; exact .cons a ih
theorem TabRel.store {kvs : List (Int × Value)} {es : List (Int × β)} (h : TabRel R kvs es) (k : Int) {v : Value} {b : β} (r : R v b) : TabRel R (stored kvs k v) (putK es k b) := by
  unfold stored putK
  rw [h.anyEq k]
  split
  · exact h.mapEq k r
  · exact h.append (.cons r .nil)
theorem stored_len (kvs : List (Int × Value)) (k : Int) (v : Value) : (stored kvs k v).length ≤ kvs.length + 1 := by
  unfold stored
  split <;> simp
end

structure Ent where
  way : Str
  one : Int
  two : Int
noncomputable abbrev entD (w : World) (e : Ent) (t1 t2 t3 t4 t5 t6 : Tok) : Obj :=
  dictOf [⟨PyData.keyHash w.params (Str.ofString "way"), .str (Str.ofString "way") t1, .str e.way t2⟩, ⟨PyData.keyHash w.params (Str.ofString "one"), .str (Str.ofString "one") t3, .int e.one t4⟩, ⟨PyData.keyHash w.params (Str.ofString "two"), .str (Str.ofString "two") t5, .int e.two t6⟩] 3
noncomputable def EntIn (w : World) (l : List (Addr × Obj)) (v : Value) (e : Ent) : Prop :=
  ∃ (xa dx : Nat) (t1 t2 t3 t4 t5 t6 : Tok), v = .ref xa ∧ (xa, instObj 200 dx) ∈ l ∧ (dx, entD w e t1 t2 t3 t4 t5 t6) ∈ l
theorem EntIn.mono {w : World} {l l' : List (Addr × Obj)} (h : ∀ p ∈ l, p ∈ l') : ∀ v e, EntIn w l v e → EntIn w l' v e := by
  rintro v e ⟨xa, dx, t1, t2, t3, t4, t5, t6, rfl, h1, h2⟩
  exact ⟨xa, dx, t1, t2, t3, t4, t5, t6, rfl, h _ h1, h _ h2⟩

inductive ListRel {β : Type} (R : Value → β → Prop) : List Value → List β → Prop where
  | nil : ListRel R [] []
  | cons {v : Value} {b : β} {vs : List Value} {bs : List β} : R v b → ListRel R vs bs → ListRel R (v :: vs) (b :: bs)
section
variable {β : Type} {R R' : Value → β → Prop}
theorem ListRel.mono {vs : List Value} {bs : List β} (h : ListRel R vs bs) (m : ∀ v b, R v b → R' v b) : ListRel R' vs bs := by
  induction h with
  | nil => exact .nil
  | cons a _ ih => exact .cons (m _ _ a) ih
theorem ListRel.length {vs : List Value} {bs : List β} (h : ListRel R vs bs) : vs.length = bs.length := by
  induction h with
  | nil => rfl
  | cons a _ ih => simp [ih]
theorem ListRel.append {vs vs' : List Value} {bs bs' : List β} (h : ListRel R vs bs) (h' : ListRel R vs' bs') : ListRel R (vs ++ vs') (bs ++ bs') := by
  induction h with
  | nil => exact h'
  | cons a _ ih => exact .cons a ih
theorem ListRel.snoc {vs : List Value} {bs : List β} (h : ListRel R vs bs) {v : Value} {b : β} (r : R v b) : ListRel R (vs ++ [v]) (bs ++ [b]) := h.append (.cons r .nil)
theorem ListRel.get {vs : List Value} {bs : List β} (h : ListRel R vs bs) : ∀ {i : Nat} {v : Value}, vs[i]? = some v → ∃ b, bs[i]? = some b ∧ R v b := by
  induction h with
  | nil => intro i v e; simp at e
  | cons a _ ih =>
    intro i v e
    cases i with
    | zero => simp at e; subst e; exact ⟨_, by simp, a⟩
    | succ i => simp at e; obtain ⟨b, h1, h2⟩ := ih e; exact ⟨b, by simpa using h1, h2⟩
end
noncomputable abbrev tupO (vs : List Value) : Obj := { cls := .type "tuple", data := .seq vs.toArray }
noncomputable def TupIn (l : List (Addr × Obj)) (v : Value) (e : Ent) : Prop := ∃ (ta : Nat) (t1 t2 t3 : Tok), v = .ref ta ∧ (ta, tupO [.str e.way t1, .int e.one t2, .int e.two t3]) ∈ l
theorem TupIn.mono {l l' : List (Addr × Obj)} (h : ∀ p ∈ l, p ∈ l') : ∀ v e, TupIn l v e → TupIn l' v e := by
  rintro v e ⟨ta, t1, t2, t3, rfl, h1⟩
  exact ⟨ta, t1, t2, t3, rfl, h _ h1⟩
noncomputable def RowIn (l : List (Addr × Obj)) (v : Value) (p : Int × Ent) : Prop := ∃ (ra : Nat) (t0 : Tok) (u : Value), v = .ref ra ∧ (ra, tupO [.int p.1 t0, u]) ∈ l ∧ TupIn l u p.2
theorem RowIn.mono {l l' : List (Addr × Obj)} (h : ∀ p ∈ l, p ∈ l') : ∀ v e, RowIn l v e → RowIn l' v e := by
  rintro v e ⟨ra, t0, u, rfl, h1, h2⟩
  exact ⟨ra, t0, u, rfl, h _ h1, TupIn.mono h _ _ h2⟩
noncomputable def Apart (l l' : List (Addr × Obj)) : Prop := ∀ q ∈ l, ∀ p ∈ l', q.1 ≠ p.1
theorem take_snoc {α : Type} {l : List α} {i : Nat} {a : α} (h : l[i]? = some a) : l.take (i + 1) = l.take i ++ [a] := by
  rw [List.take_add_one, h]; rfl
end
section
theorem CompEnd.mono {h₀ : Heap} {L : Addr} {m : Str → Option Value} {s₁ : Shared} {I : Addr} {oI : Obj} {C : Addr} {oC : Obj} {D : Addr} {oD : Obj} {S : List (Addr × Obj) → Prop} {rest rest' : Value → List (Addr × Obj) → Prop} {y : Value} {s₂ : Shared}
    (h : LCg.CompEnd h₀ L m s₁ I oI C oC D oD S rest y s₂) (k : ∀ news', rest y news' → rest' y news') : LCg.CompEnd h₀ L m s₁ I oI C oC D oD S rest' y s₂ := by
  obtain ⟨h', tk, news', e, F, N, o, hS, r⟩ := h
  exact ⟨h', tk, news', e, F, N, o, hS, k _ r⟩
section
variable {prog : Program} {w : World} {A : Around} {E : Value → Shared → Prop} {s : Shared} {h₀ : Heap} {L : Addr} {m : Str → Option Value} {env : Env}
theorem comp_inv {elt : Expr} {x : Str} {scope : Scope} {cl : List (Str × Addr)} {S : List (Addr × Obj) → Prop} {P : Nat → Value → Prop} {Fin : List Value → List (Addr × Obj) → Prop} {n : Nat} (Inv : Nat → List Value → List (Addr × Obj) → Prop)
    (turn : ∀ i ys news v I oI C oC D m₂ h tk (E' : Value → Shared → Prop), i < n → P i v → Inv i ys news → LCg.NsObj oC m₂ → m₂ x = some v → Fr h₀ L h m → News h₀ L h ((I, oI) :: (C, oC) :: (D, LCg.lst ys) :: news) → LCg.Off3 I C D news → ((@Ne Nat I C) ∧ (@Ne Nat I D) ∧ (@Ne Nat C D)) →
      wpAny (model prog w) A (eval elt (compEnvC scope cl C env)) (LCg.CompEnd h₀ L m { s with heap := h, toks := tk } I oI C oC D (LCg.lst ys) S (fun y news' => Inv (i + 1) (ys ++ [y]) news')) E' { s with heap := h, toks := tk })
    (done : ∀ ys news, Inv n ys news → Fin ys news) : ∀ (k i : Nat) (ys : List Value) (news : List (Addr × Obj)), i + k = n → Inv i ys news → LCg.CompRest prog w A h₀ L m env elt x scope cl s S P Fin k i ys news
  | 0, i, ys, news, e, hi => LCg.CompRest.zero (done _ _ ((show i = n by lia) ▸ hi))
  | k + 1, i, ys, news, e, hi => LCg.CompRest.succ fun v I oI C oC D m₂ h tk E' hP hC hx F N off ne =>
      wpAny_mono (turn i ys news v I oI C oC D m₂ h tk E' (by lia) hP hi hC hx F N off ne) (fun _ _ q => CompEnd.mono q fun news' r => comp_inv Inv turn done k (i + 1) _ news' (by lia) r) fun _ _ q => q
theorem comp_invT {ct elt : Expr} {x : Str} {scope : Scope} {cl : List (Str × Addr)} {S : List (Addr × Obj) → Prop} {P : Nat → Value → Prop} {Fin : List Value → List (Addr × Obj) → Prop} {n : Nat} (Inv : Nat → List Value → List (Addr × Obj) → Prop)
    (turn : ∀ i ys news v I oI C oC D m₂ h tk (E' : Value → Shared → Prop), i < n → P i v → Inv i ys news → LCg.NsObj oC m₂ → m₂ x = some v → Fr h₀ L h m → News h₀ L h ((I, oI) :: (C, oC) :: (D, LCg.lst ys) :: news) → LCg.Off3 I C D news → ((@Ne Nat I C) ∧ (@Ne Nat I D) ∧ (@Ne Nat C D)) →
      wpAny (model prog w) A (isTrue ct (compEnvC scope cl C env) (eval ct (compEnvC scope cl C env))) (fun ok s' => if ok = true then
        wpAny (model prog w) A (eval elt (compEnvC scope cl C env)) (LCg.CompEnd h₀ L m { s with heap := h, toks := tk } I oI C oC D (LCg.lst ys) S (fun y news' => Inv (i + 1) (ys ++ [y]) news')) E' s'
        else LCg.CompEnd h₀ L m { s with heap := h, toks := tk } I oI C oC D (LCg.lst ys) S (fun _ news' => Inv (i + 1) ys news') Value.none s') E' { s with heap := h, toks := tk })
    (done : ∀ ys news, Inv n ys news → Fin ys news) : ∀ (k i : Nat) (ys : List Value) (news : List (Addr × Obj)), i + k = n → Inv i ys news → LCt.CompRestT prog w A h₀ L m env ct elt x scope cl s S P Fin k i ys news
  | 0, i, ys, news, e, hi => LCt.CompRestT.zero (done _ _ ((show i = n by lia) ▸ hi))
  | k + 1, i, ys, news, e, hi => LCt.CompRestT.succ fun v I oI C oC D m₂ h tk E' hP hC hx F N off ne =>
      wpAny_mono (turn i ys news v I oI C oC D m₂ h tk E' (by lia) hP hi hC hx F N off ne) (fun ok s' q => by
        cases ok with
        | true =>
          simp only [if_true] at q ⊢
          exact wpAny_mono q (fun _ _ q => CompEnd.mono q fun news' r => comp_invT Inv turn done k (i + 1) _ news' (by lia) r) fun _ _ q => q
        | false =>
          simp only [Bool.false_eq_true, if_false] at q ⊢
          exact CompEnd.mono q fun news' r => comp_invT Inv turn done k (i + 1) _ news' (by lia) r) fun _ _ q => q

noncomputable def CompSrcD (prog : Program) (w : World) (A : Around) (h₀ : Heap) (L : Addr) (m : Str → Option Value) (env : Env) (elt : Expr) (x : Str) (scope : Scope) (cl : List (Str × Addr)) (Fin : Shared → List Value → List (Addr × Obj) → Prop) (xv : Value) (s₁ : Shared) : Prop :=
  ∃ (d : Addr) (o : Obj) (kvs : List (Int × Value)) (news : List (Addr × Obj)), xv = .ref d ∧ A.handled = none ∧ (d == sysModules) = false ∧ Fr h₀ L s₁.heap m ∧ News h₀ L s₁.heap news ∧ (d, o) ∈ news ∧ o.IsDictOf (intKind prog w) kvs ∧ kvs.length ≤ sizeLine ∧
    ∀ s₂ : Shared, (∃ h, s₂ = { s₁ with heap := h }) → LCg.CompRest prog w A h₀ L m env elt x scope cl s₂ (fun nw => (d, o) ∈ nw) (fun i v => ∃ k y t, kvs[i]? = some (k, y) ∧ v = .int k t) (Fin s₂) kvs.length 0 [] news
theorem dict_walks {I d : Addr} {kvs : List (Int × Value)} {ep : Nat} (hh : A.handled = none) (hne : d ≠ I) :
    Walks prog w A I [I, d] [I] kvs.length (fun i v => ∃ k y t, kvs[i]? = some (k, y) ∧ v = .int k t) (fun i h => h.IsKeyIter I d i kvs.length ep ∧ h.DictAt (intKind prog w) d kvs ep) :=
  let W := Walks.dictKeys (prog := prog) (w := w) (knd := intKind prog w) hh I d hne kvs ep
  { sub := W.sub, frame := W.frame, done := W.done, self := W.self,
    item := fun i s Q E hi st hQ => W.item i s Q E hi st fun v h' tk hP => hQ v h' tk (by obtain ⟨k, y, h1, h2⟩ := hP; obtain ⟨t, rfl⟩ := Value.isInt_shape h2; exact ⟨k, y, t, h1, rfl⟩) }
theorem dict_st {d I : Addr} {o : Obj} {kvs : List (Int × Value)} {ep : Nat} (hk : KdkAt (intKind prog w) o kvs ep) : ∀ i (h h' : Heap) (oi : Obj) (nw : List (Addr × Obj)), (h.IsKeyIter I d i kvs.length ep ∧ h.DictAt (intKind prog w) d kvs ep) → h.get? I = some oi → h'.get? I = some oi → (∀ b o, h₀.get? b = some o → h'.get? b = some o) → News h₀ L h' nw → (d, o) ∈ nw → (h'.IsKeyIter I d i kvs.length ep ∧ h'.DictAt (intKind prog w) d kvs ep) :=
  fun i h h' oi nw st e e' k N S => ⟨by obtain ⟨o', q, r⟩ := st.1; rw [e] at q; cases q; exact ⟨oi, e', r⟩, hk.dictAt (N _ S).1⟩

theorem ListComp_D {elt iter : Expr} {x : Str} {px : Pos} {scope : Scope} {cl : List (Str × Addr)} {pos : Pos} {Q : Value → Shared → Prop} (_F₀ : Fr h₀ L s.heap m)
    (hclos : closureFor scope env = pure cl) (hcell : ∀ y ∈ scope.names, y.2 ≠ .cell) (hkind : scope.kind = .function)
    (hnames : ∀ y ∈ scope.names, y.2 = .local → scope.names.lookup y.1 = some .local) (hx : scope.names.lookup x = some .local)
    (h : wpAny (model prog w) A (eval iter env) (CompSrcD prog w A h₀ L m env elt x scope cl (fun s₂ => LCg.FinE h₀ L m s₂ Q)) E s)
    (hs : ∀ x, foldedSetIterable iter env x = pure x := by intro _; rfl) :
    wpAny (model prog w) A (eval (.ListComp elt [⟨.Name x px, iter, [], 0⟩] scope pos) env) Q E s := by
  rw [eval_ListComp]
  refine wpAny_comprehension_free (use := none) rfl hs hclos hkind hnames (wpAny_mono h (fun xv s₁ h₁ => ?_) fun _ _ e => e)
  obtain ⟨d, o, kvs, news, rfl, hh, lo, F, N, S, hd, hsz, R⟩ := h₁
  obtain ⟨ep, hk⟩ := KdkAt.of hd
  have hda := hk.dictAt (N _ S).1
  have hlt : d < s₁.heap.objs.size := Heap.lt_size (N _ S).1
  refine wpAny_pyIter_dict lo hda ?_
  refine LCg.block_U (dict_walks (ep := ep) hh (Nat.ne_of_lt hlt)) hsz (fun i h st => by obtain ⟨o, e, _⟩ := st.1; exact ⟨o, e⟩) (dict_st hk) hcell hkind hx ⟨⟨_, Heap.get?_push_size _ rfl, rfl, rfl⟩, hda.push _⟩ (fun b hb => ?_)
    (F.keeps fun _ _ e => Heap.get?_push_of_some _ e) (N.grown fun _ _ e => Heap.get?_push_of_some _ e) (Nat.ne_of_lt F.ns.lt) (next_is_new F) (fun p hp => Nat.ne_of_lt (Heap.lt_size (N p hp).1)) S (R _ ⟨_, rfl⟩) ?_
  · show b < (s₁.heap.push _).objs.size
    rw [Heap.size_push]
    rcases List.mem_cons.mp hb with rfl | hb
    · exact Nat.lt_succ_self _
    · rw [List.mem_singleton.mp hb]; exact Nat.lt_succ_of_lt hlt
  · intro D C h tk m' ys news' F' N' o1 hn hC₀ hD₀ hCL hDL hCD offC fin
    refine ⟨m', hn, fun h'' hs'' => fin D h'' tk (F'.change hs'' hCL hC₀) (fun p hp => ?_) o1⟩
    refine ⟨hs''.extBut _ _ ?_ (N' p hp).1, (N' p hp).2⟩
    rcases List.mem_cons.mp hp with rfl | hp
    · exact Ne.symm hCD
    · exact offC p hp
end
theorem off1_mem {D : Addr} : ∀ {l : List (Addr × Obj)}, LCg.Off1 D l → ∀ p ∈ l, p.1 ≠ D
  | [], _, _, h => nomatch h
  | _ :: _, x, p, h => by
    rcases List.mem_cons.mp h with rfl | h
    · exact x.1
    · exact off1_mem x.2 p h
theorem valueAt_of_mem {kvs : List (Int × Value)} (nd : (kvs.map (·.1)).Nodup) {k : Int} {v : Value} (h : (k, v) ∈ kvs) : valueAt kvs k = some v := by
  induction kvs with
  | nil => cases h
  | cons p r ih =>
    obtain ⟨k', v'⟩ := p
    simp only [List.map_cons, List.nodup_cons] at nd
    rcases List.mem_cons.mp h with e | h
    · cases e; simp [valueAt]
    · have hne : k' ≠ k := fun e => nd.1 (e ▸ List.mem_map.mpr ⟨_, h, rfl⟩)
      have := ih nd.2 h
      simpa [valueAt, List.find?_cons, hne] using this
section
variable {prog : Program} {w : World} {A : Around} {E : Value → Shared → Prop} {s : Shared} {h₀ : Heap} {L d : Addr} {news : List (Addr × Obj)} {o : Obj} {kvs : List (Int × Value)} {k : Int} {t : Tok}
theorem notin_split {Q : Value → Shared → Prop} (N : News h₀ L s.heap news) (hp : (d, o) ∈ news) (hd : o.IsDictOf (intKind prog w) kvs) (lo : (d == sysModules) = false)
    (h1 : ∀ v, valueAt kvs k = some v → Q (.bool false) { s with toks := s.toks + 1 }) (h2 : valueAt kvs k = none → Q (.bool true) { s with toks := s.toks + 1 }) :
    wpAny (model prog w) A (compareOp .NotIn (.int k t) (.ref d)) Q E s := by
  cases e : valueAt kvs k with
  | none => exact kdg_notin N hp hd lo (intKind_is _ _ _ _) false (by rw [e]; rfl) (h2 e)
  | some v => exact kdg_notin N hp hd lo (intKind_is _ _ _ _) true (by rw [e]; rfl) (h1 v e)
end
end
section
noncomputable def TableIn (prog : Program) (w : World) (l : List (Addr × Obj)) (v : Value) (es : List (Int × Ent)) : Prop :=
  ∃ (D : Nat) (o : Obj) (kvs : List (Int × Value)), v = .ref D ∧ (D, o) ∈ l ∧ o.IsDictOf (intKind prog w) kvs ∧ (D == sysModules) = false ∧ kvs.length ≤ 100 ∧ TabRel (EntIn w l) kvs es
theorem TableIn.mono {prog : Program} {w : World} {l l' : List (Addr × Obj)} (h : ∀ p ∈ l, p ∈ l') : ∀ v e, TableIn prog w l v e → TableIn prog w l' v e := by
  rintro v e ⟨D, o, kvs, rfl, h1, h2, h3, h4, h5⟩
  exact ⟨D, o, kvs, rfl, h _ h1, h2, h3, h4, h5.mono (EntIn.mono h)⟩
noncomputable def addNew (acc : List (Int × Ent)) (p : Int × Ent) : List (Int × Ent) := match lookK acc p.1 with
  | some _ => acc
  | none => putK acc p.1 p.2
noncomputable def overlay (tabs : List (List (Int × Ent))) : List (Int × Ent) := tabs.foldl (fun acc t => t.foldl addNew acc) []
structure OvSt where
  o : Obj
  kvs : List (Int × Value)
  es : List (Int × Ent)
  u : Option Value
noncomputable def OvInv (prog : Program) (w : World) (news : List (Addr × Obj)) (n : Nat) (es : List (Int × Ent)) (c : OvSt) : Prop :=
  c.o.IsDictOf (intKind prog w) c.kvs ∧ TabRel (EntIn w news) c.kvs c.es ∧ c.es = es ∧ c.kvs.length ≤ n
section
variable {prog : Program} {w : World} {A : Around} {E : Value → Shared → Prop} {s : Shared} {env : Env} {h₀ : Heap} {x : Str} {body : List Stmt} {Q : Flow → Shared → Prop}
theorem over_inner {D Fd I1 : Nat} {oD o oI1 : Obj} {kvsD kvs : List (Int × Value)} {esD es : List (Int × Ent)} {m₀ : Str → Option Value} {news : List (Addr × Obj)} {n0 : Nat}
    (hh : A.handled = none) (lo : (D == sysModules) = false) (hD : (D, oD) ∈ news) (hdD : oD.IsDictOf (intKind prog w) kvsD) (relD : TabRel (EntIn w news) kvsD esD) (hlD : kvsD.length ≤ 100) (hd : o.IsDictOf (intKind prog w) kvs) (rel : TabRel (EntIn w news) kvs es) (hl : kvs.length ≤ n0)
    (F : Fr h₀ env.locals s.heap m₀) (N : News h₀ env.locals s.heap ((I1, oI1) :: (Fd, o) :: news))
    (turn : ∀ k t (c : OvSt) v e I h tk oI, valueAt kvsD k = some v → EntIn w news v e → c.o.IsDictOf (intKind prog w) c.kvs → TabRel (EntIn w news) c.kvs c.es → c.kvs.length ≤ n0 + 100 → Fd ≠ I → I1 ≠ I → (∀ p ∈ news, p.1 ≠ I) →
      Fr h₀ env.locals h (fun z => if z = x then some (.int k t) else m₀ z) → News h₀ env.locals h ((I, oI) :: (Fd, c.o) :: (I1, oI1) :: news) →
      wpAny (model prog w) A (execs body env) (LPost h₀ env.locals x (fun _ => m₀) (fun c : OvSt => (Fd, c.o) :: (I1, oI1) :: news) (OvInv prog w news (c.kvs.length + 1) (addNew c.es (k, e))) I oI { s with heap := h, toks := tk } Q) E { s with heap := h, toks := tk })
    (done : ∀ (c : OvSt) (u : Option Value) h tk, OvInv prog w news (n0 + 100) (esD.foldl addNew es) c → Fr h₀ env.locals h (fun z => if z = x then u else m₀ z) → News h₀ env.locals h ((Fd, c.o) :: (I1, oI1) :: news) → Q .next { s with heap := h, toks := tk }) :
    wpAny (model prog w) A (pyIter (.ref D)) (fun it s₂ => LoopAtV prog w A h₀ env x body Q E it s₂) E s := by
  have nd : (kvsD.map (·.1)).Nodup := by
    obtain ⟨_, _, _, _, _, _, hn⟩ := hdD
    exact hn
  refine lp_dict (fun _ => m₀) (fun c : OvSt => (Fd, c.o) :: (I1, oI1) :: news) (fun i => OvInv prog w news (n0 + i) ((esD.take i).foldl addNew es)) ⟨o, kvs, es, none⟩ hh lo hdD F N (.tail _ (.tail _ hD)) (fun i c _ => .tail _ (.tail _ hD)) (fun _ _ => rfl) ?_ ⟨hd, rel, rfl, hl⟩ ?_ ?_
  · intro p hp
    rcases List.mem_cons.mp hp with rfl | hp
    · exact .tail _ (.head _)
    · rcases List.mem_cons.mp hp with rfl | hp
      · exact .head _
      · exact .tail _ (.tail _ hp)
  · rintro i k y t c I h tk oI hy ⟨c1, c2, c3, c4⟩ ho F' N'
    obtain ⟨e, he, hye⟩ := relD.get hy
    have hi : i < kvsD.length := by
      rcases Nat.lt_or_ge i kvsD.length with q | q
      · exact q
      · rw [List.getElem?_eq_none q] at hy; cases hy
    refine wpAny_mono (turn k t c y e I h tk oI (valueAt_of_mem nd (List.mem_of_getElem? hy)) hye c1 c2 (by lia) (ho _ (.head _)) (ho _ (.tail _ (.head _))) (fun p hp => ho p (.tail _ (.tail _ hp))) F' N') (fun f s₂ q => LPost.mono q ?_) fun _ _ q => q
    rintro c' ⟨d1, d2, d3, d4⟩
    refine ⟨d1, d2, ?_, by lia⟩
    rw [d3, take_snoc he, List.foldl_append, c3]
    rfl
  · rintro c u h tk ⟨c1, c2, c3, c4⟩ F' N'
    have ht : esD.take kvsD.length = esD := by rw [relD.length]; exact List.take_length
    rw [ht] at c3
    exact done c u h tk ⟨c1, c2, c3, by lia⟩ F' N'
theorem over_outer {TA Fd : Nat} {o : Obj} {refs : List Value} {nn : Nat} {tabs : List (List (Int × Ent))} {m₀ : Str → Option Value} {news : List (Addr × Obj)} {z₁ : Str}
    (hz : z₁ ≠ x) (hh : A.handled = none) (hT : (TA, listOf refs.toArray nn) ∈ news) (relT : ListRel (TableIn prog w news) refs tabs) (hlT : refs.length ≤ 100) (hd : o.IsDictOf (intKind prog w) []) (lF : ∀ p ∈ news, p.1 < Fd)
    (F : Fr h₀ env.locals s.heap m₀) (N : News h₀ env.locals s.heap ((Fd, o) :: news))
    (turn : ∀ (c : OvSt) (D : Nat) (oD : Obj) kvsD esD n0 I h tk oI, c.o.IsDictOf (intKind prog w) c.kvs → TabRel (EntIn w news) c.kvs c.es → c.kvs.length ≤ n0 → n0 ≤ 10000 → (D, oD) ∈ news → oD.IsDictOf (intKind prog w) kvsD → (D == sysModules) = false → kvsD.length ≤ 100 → TabRel (EntIn w news) kvsD esD → Fd ≠ I → (∀ p ∈ news, p.1 ≠ I) → (∀ p ∈ news, p.1 ≠ Fd) →
      Fr h₀ env.locals h (fun z => if z = x then some (.ref D) else if z = z₁ then c.u else m₀ z) → News h₀ env.locals h ((I, oI) :: (Fd, c.o) :: news) →
      wpAny (model prog w) A (execs body env) (LPost h₀ env.locals x (fun c : OvSt => fun z => if z = z₁ then c.u else m₀ z) (fun c : OvSt => (Fd, c.o) :: news) (OvInv prog w news (n0 + 100) (esD.foldl addNew c.es)) I oI { s with heap := h, toks := tk } Q) E { s with heap := h, toks := tk })
    (done : ∀ (c : OvSt) (u : Option Value) h tk, OvInv prog w news 10100 (overlay tabs) c → Fr h₀ env.locals h (fun z => if z = x then u else if z = z₁ then c.u else m₀ z) → News h₀ env.locals h ((Fd, c.o) :: news) → Q .next { s with heap := h, toks := tk }) :
    wpAny (model prog w) A (pyIter (.ref TA)) (fun it s₂ => LoopAtV prog w A h₀ env x body Q E it s₂) E s := by
  refine lp_list (fun c : OvSt => fun z => if z = z₁ then c.u else m₀ z) (fun c : OvSt => (Fd, c.o) :: news) (fun i => OvInv prog w news (100 * i) ((tabs.take i).foldl (fun acc t => t.foldl addNew acc) [])) ⟨o, [], [], m₀ z₁⟩ hh F N (.tail _ hT) (fun i c _ => .tail _ hT) ?_ (fun p hp => hp) ⟨hd, .nil, rfl, Nat.le_refl _⟩ ?_ ?_
  · intro z _
    by_cases e : z = z₁
    · simp only [e, if_true]
    · simp only [e, if_false]
  · rintro i v c I h tk oI hv ⟨c1, c2, c3, c4⟩ ho F' N'
    obtain ⟨esD, he, D, oD, kvsD, rfl, h1, h2, h3, h4, h5⟩ := relT.get hv
    have hi : i < refs.length := by
      rcases Nat.lt_or_ge i refs.length with q | q
      · exact q
      · rw [List.getElem?_eq_none q] at hv; cases hv
    refine wpAny_mono (turn c D oD kvsD esD (100 * i) I h tk oI c1 c2 c4 (by lia) h1 h2 h3 h4 h5 (ho _ (.head _)) (fun p hp => ho p (.tail _ hp)) (fun p hp => Nat.ne_of_lt (lF p hp)) F' N') (fun f s₂ q => LPost.mono q ?_) fun _ _ q => q
    rintro c' ⟨d1, d2, d3, d4⟩
    refine ⟨d1, d2, ?_, by lia⟩
    rw [d3, take_snoc he, List.foldl_append, c3]
    rfl
  · rintro c u h tk ⟨c1, c2, c3, c4⟩ F' N'
    have ht : tabs.take refs.length = tabs := by rw [relT.length]; exact List.take_length
    rw [ht] at c3
    exact done c u h tk ⟨c1, c2, c3, by lia⟩ F' N'
end
section
variable {prog : Program} {w : World} {h₀ : Heap} {L : Addr} {Q : Flow → Shared → Prop} {news : List (Addr × Obj)} {Fd I1 I : Nat} {oI oI1 : Obj} {s₁ : Shared} {h : Heap} {tk : Nat} {m₀ m' : Str → Option Value} {x : Str} {k : Int} {v : Value} {e : Ent} {c : OvSt}
theorem over_e1 (h1 : c.o.IsDictOf (intKind prog w) c.kvs) (h2 : TabRel (EntIn w news) c.kvs c.es) (hv : valueAt c.kvs k = some v) (F : Fr h₀ L h m') (N : News h₀ L h ((I, oI) :: (Fd, c.o) :: (I1, oI1) :: news)) (n1 : Fd ≠ I) (n2 : I1 ≠ I) (n3 : ∀ p ∈ news, p.1 ≠ I) (hm : ∀ z, z ≠ x → m' z = m₀ z) :
    LPost h₀ L x (fun _ => m₀) (fun c : OvSt => (Fd, c.o) :: (I1, oI1) :: news) (OvInv prog w news (c.kvs.length + 1) (addNew c.es (k, e))) I oI s₁ Q .next { s₁ with heap := h, toks := tk } := by
  refine LEnd.intro c F N (.head _) (fun p hp => .tail _ hp) ?_ hm ⟨h1, h2, ?_, Nat.le_succ _⟩
  · intro p hp
    rcases List.mem_cons.mp hp with rfl | hp
    · exact n1
    · rcases List.mem_cons.mp hp with rfl | hp
      · exact n2
      · exact n3 p hp
  · rcases h2.look k with ⟨a, _⟩ | ⟨v', b, _, hb, _⟩
    · rw [hv] at a; cases a
    · simp [addNew, hb]
theorem over_e2 {o' : Obj} (h1 : o'.IsDictOf (intKind prog w) (stored c.kvs k v)) (h2 : TabRel (EntIn w news) c.kvs c.es) (hv : valueAt c.kvs k = none) (he : EntIn w news v e) (F : Fr h₀ L h m') (N : News h₀ L h ((I, oI) :: (Fd, o') :: (I1, oI1) :: news)) (n1 : Fd ≠ I) (n2 : I1 ≠ I) (n3 : ∀ p ∈ news, p.1 ≠ I) (hm : ∀ z, z ≠ x → m' z = m₀ z) :
    LPost h₀ L x (fun _ => m₀) (fun c : OvSt => (Fd, c.o) :: (I1, oI1) :: news) (OvInv prog w news (c.kvs.length + 1) (addNew c.es (k, e))) I oI s₁ Q .next { s₁ with heap := h, toks := tk } := by
  refine LEnd.intro ⟨o', stored c.kvs k v, addNew c.es (k, e), c.u⟩ F N (.head _) (fun p hp => .tail _ hp) ?_ hm ⟨h1, ?_, rfl, stored_len _ _ _⟩
  · intro p hp
    rcases List.mem_cons.mp hp with rfl | hp
    · exact n1
    · rcases List.mem_cons.mp hp with rfl | hp
      · exact n2
      · exact n3 p hp
  · rcases h2.look k with ⟨_, b⟩ | ⟨v', b, a, _, _⟩
    · have : addNew c.es (k, e) = putK c.es k e := by simp [addNew, b]
      rw [this]
      exact h2.store k he
    · rw [hv] at a; cases a
theorem over_e3 {c' : OvSt} {n : Nat} {es : List (Int × Ent)} {u u' : Option Value} {z₁ : Str} {vD : Value} (hv : OvInv prog w news n es c') (F : Fr h₀ L h (fun z => if z = z₁ then u else if z = x then some vD else if z = z₁ then u' else m₀ z)) (N : News h₀ L h ((Fd, c'.o) :: (I, oI) :: news)) (n1 : Fd ≠ I) (n3 : ∀ p ∈ news, p.1 ≠ I) :
    LPost h₀ L x (fun c : OvSt => fun z => if z = z₁ then c.u else m₀ z) (fun c : OvSt => (Fd, c.o) :: news) (OvInv prog w news n es) I oI s₁ Q .next { s₁ with heap := h, toks := tk } := by
  obtain ⟨a, b, c, d⟩ := hv
  refine LEnd.intro ⟨c'.o, c'.kvs, c'.es, u⟩ F N (.tail _ (.head _)) ?_ ?_ ?_ ⟨a, b, c, d⟩
  · intro p hp
    rcases List.mem_cons.mp hp with rfl | hp
    · exact .head _
    · exact .tail _ (.tail _ hp)
  · intro p hp
    rcases List.mem_cons.mp hp with rfl | hp
    · exact n1
    · exact n3 p hp
  · intro z hz
    by_cases e : z = z₁
    · simp only [e, if_true]
    · simp only [e, hz, if_false]
end
end
section
namespace BY
open Builtin PySem.W.FB
set_option maxRecDepth 100000
theorem slot_rfind : Slot "bytes" "rfind" "bytes.rfind" :=
  .of (owner := "bytes") (n := "rfind") (by rw [typeLookup_type, builtinLookup_eq_fast]; kernel_rfl) (by decide +kernel) (by decide +kernel) (by decide +kernel)
    (by first | exact .inl (by decide +kernel) | exact .inr (by decide +kernel)) (by rw [isSubtype_type]; kernel_rfl)
theorem type_rfind : typeOf (.builtin "bytes.rfind") = pure (.type "method_descriptor") := by show builtinType _ = _; rw [builtinType_eq_fast]; kernel_rfl
theorem entry_rfind : entryFor table "bytes.rfind" = some Builtin.«bytes.rfind» := entryFor_of_tree (by kernel_rfl)
theorem args_rfind (a b c d : Value) : argsOk "bytes.rfind" ⟨[a, b, c, d], []⟩ := by
  unfold argsOk; rw [signature?_of (id := "bytes.rfind") (n := ['d', 'n', 'i', 'f', 'r']) (o := ['s', 'e', 't', 'y', 'b']) (by kernel_rfl) owner_bytes]; kernel_rfl
noncomputable def rfd (b c : Array UInt8) : Int := match (if (b.size : Int) < c.size then none else some ((0 : Nat), b.size) : Option (Nat × Nat)).bind fun p => Bytes.rfind? b c p.1 p.2 with
  | some i => (i : Int)
  | none => -1
theorem special_int {i : Int} {t : Tok} {name : PySem.Str} {r : Option Value} (h : typeLookup (.type "int") name = pure r) : specialOf (.int i t) name = pure r := by
  have e : specialOf (.int i t) name = typeLookup (.type "int") name := rfl
  rw [e, h]
theorem bound_int (i : Int) (t : Tok) : Bytes.bound? (some (.int i t)) = pure (some i) := by
  unfold Bytes.bound?
  simp only []
  rw [special_int F.slot_int_index.lookup]
  rfl
theorem gives_rfind (b c : Array UInt8) (t u t1 t2 : Tok) : Gives («bytes.rfind» ⟨[.bytes b t, .bytes c u, .int 0 t1, .int b.size t2], []⟩) (.int (rfd b c)) := by
  refine .of_wp fun M A E s Q hq => ?_
  unfold «bytes.rfind» Bytes.searchM
  refine wpAny_bind ?_
  unfold Bytes.searchArgs
  simp only []
  refine wpAny_bind (wpAny_of_eq (a := (Value.bytes b t, [.bytes c u, .int 0 t1, .int b.size t2])) rfl ?_)
  refine wpAny_bind (wpAny_of_eq (bound_int 0 t1) ?_)
  refine wpAny_bind (wpAny_of_eq (bound_int b.size t2) ?_)
  simp only [List.headD_cons]
  rw [KBy.buffer_eq]
  refine wpAny_bind (wpAny_pure ?_)
  refine wpAny_bind (wpAny_pure ?_)
  refine wpAny_bind (wpAny_of_eq (a := b) rfl ?_)
  refine wpAny_pure ?_
  have e : Bytes.window b.size (some 0) (some (b.size : Int)) = (0, (b.size : Int)) := by
    unfold Bytes.window
    simp only [Option.getD_some]
    have h0 : ¬ ((0 : Int) < 0) := by lia
    have h1 : ¬ ((b.size : Int) < 0) := by lia
    simp only [h0, h1, if_false]
    rw [Int.min_self]
  simp only [e]
  have key : ∀ r : Option Nat, (match r with | some i => (i : Int) | none => -1) = rfd b c → wpAny M A (match r with
      | some i => retInt (i : Int)
      | none => do rule s!"{Bytes.Kind.bytes.name}.rfind.not-found"; if false = true then raiseError "ValueError" "subsection not found" else retInt (-1)) (fun fin s' => ∃ v, fin = .done (.ret v) ∧ Q v s') E s := by
    intro r hr
    have hq' : Q (.int (rfd b c) s.toks) { s with toks := s.toks + 1 } := hq
    cases r with
    | some i =>
      simp only [] at hr ⊢
      rw [hr]
      exact wpAny_bind (wpAny_mkInt (wpAny_pure ⟨_, rfl, hq'⟩))
    | none =>
      simp only [] at hr ⊢
      refine wpAny_bind (wpAny_rule ?_)
      rw [if_neg Bool.false_ne_true, hr]
      exact wpAny_bind (wpAny_mkInt (wpAny_pure ⟨_, rfl, hq'⟩))
  refine key _ ?_
  unfold rfd
  simp only [Int.sub_zero, if_true, Int.toNat_zero, Int.toNat_natCast]
section
variable {prog : Program} {w : World} {A : Around} {E : Value → Shared → Prop} {s : Shared}
theorem rfind {b c : Array UInt8} {t u t1 t2 : Tok} {e : Int} {Q : Value → Shared → Prop} (he : e = (b.size : Int)) (h : ∀ t' k, Q (.int (rfd b c) t') { s with toks := k }) :
    wpAny (model prog w) A (call (.builtin "bytes.rfind") [.bytes b t, .bytes c u, .int 0 t1, .int e t2]) Q E s := by
  subst he
  exact call_gives slot_rfind (typeIs_bytes _ _ _) entry_rfind (args_rfind _ _ _ _) (gives_rfind b c t u t1 t2) (h _ _)
theorem method_rfind {M : Model} {b : Array UInt8} {t : Tok} {pl : Sem Bool} {Q : Value × List Value → Shared → Prop} (h : Q (.builtin "bytes.rfind", [.bytes b t]) s) : wpAny M A (getMethod (.bytes b t) "rfind" pl) Q E s := by
  with_reducible exact KBd.method_of (.bytes b t) (typeIs_bytes _ _ _) slot_rfind type_rfind KBd.noRef h
end

noncomputable def enc (x : PySem.Str) : Array UInt8 := (x.cps.toList.map Nat.toUInt8).toArray
theorem road_ascii (id : String) (self : Value) (x : PySem.Str) : _codecs.encodeRoad id self x (PySem.Str.ofString "ascii") none = (do mkBytes (← _codecs.encodeNarrow id _codecs.asciiCodec none self x)) := by kernel_rfl
theorem encode_tree (x : PySem.Str) (t u : Tok) : «str.encode» ⟨[.str x t, .str (PySem.Str.ofString "ascii") u], []⟩ = (do ret (← _codecs.encodeRoad "str.encode" (.str x t) x (PySem.Str.ofString "ascii") none)) := by kernel_rfl
theorem forIn_two {α σ : Type} (l : List α) (init s1 : σ) (f : α → σ → Sem (ForInStep σ)) (h1 : ∀ a, f a init = pure (.yield s1)) (h2 : ∀ a, f a s1 = pure (.done s1)) : forIn l init f = (pure (if l = [] then init else s1) : Sem σ) := by
  cases l with
  | nil => rfl
  | cons a r =>
    rw [List.forIn_cons, h1]
    simp only [pure_bind]
    cases r with
    | nil => rfl
    | cons b r =>
      rw [List.forIn_cons, h2]
      rfl
theorem foldl_enc (l : List Nat) (acc : Array UInt8) : l.foldl (fun acc y => acc ++ ([y.toUInt8] : List UInt8).toArray) acc = acc ++ (l.map Nat.toUInt8).toArray := by
  induction l generalizing acc with
  | nil => simp
  | cons a r ih => rw [List.foldl_cons, ih]; simp
theorem findIdx_none (l : List Nat) (h : ∀ c ∈ l, c < 128) : l.toArray.findIdx? _codecs.asciiCodec.bad = none := by
  rw [List.findIdx?_toArray, List.findIdx?_eq_none_iff]
  intro c hc
  have := h c hc
  show decide (128 ≤ c) = false
  exact decide_eq_false (by lia)
theorem enc_size (x : PySem.Str) : (enc x).size = x.cps.size := by
  unfold enc
  simp
theorem narrow_ascii (id : String) (self : Value) (x : PySem.Str) (h : ∀ c ∈ x.cps.toList, c < 128) (hz : x.cps.size ≤ sizeLine) : _codecs.encodeNarrow id _codecs.asciiCodec none self x = pure (enc x) := by
  unfold _codecs.encodeNarrow
  simp only []
  rw [Std.Legacy.Range.forIn_eq_forIn_range']
  by_cases h0 : x.cps.size = 0
  · have : x.cps = #[] := Array.eq_empty_of_size_eq_zero h0
    have e : (List.range' [:x.length].start [:x.length].size [:x.length].step) = [] := by
      unfold PySem.Str.length
      rw [h0]
      rfl
    rw [e, List.forIn_nil]
    unfold enc
    rw [this]
    rfl
  · rw [forIn_two (s1 := (x.cps.size, enc x, {}))]
    · simp only [pure_bind]
      congr 1
      rw [if_neg]
      intro e
      have := congrArg List.length e
      simp only [List.length_range', List.length_nil, Std.Legacy.Range.size, PySem.Str.length] at this
      simp only [Nat.sub_zero, Nat.add_sub_cancel, Nat.div_one] at this
      exact h0 this
    · intro a
      rw [if_neg (by simp)]
      obtain ⟨c, hc⟩ : ∃ c, x.cps[0]? = some c := ⟨_, Array.getElem?_eq_getElem (by lia)⟩
      rw [hc]
      simp only []
      have hb : (!_codecs.asciiCodec.bad c) = true := by
        have hm : c ∈ x.cps.toList := by
          have := Array.mem_of_getElem? hc
          simpa using this
        have := h c hm
        show (!decide (128 ≤ c)) = true
        rw [decide_eq_false (by lia)]
        rfl
      rw [if_pos hb]
      have hf : Array.findIdx? _codecs.asciiCodec.bad x.cps = none := by
        have := findIdx_none x.cps.toList h
        simpa using this
      have he : x.cps.extract 0 x.cps.size = x.cps := by simp
      have he' : x.cps.extract 0 = x.cps := by simp
      simp only [he', hf, Option.getD_none, Nat.zero_add]
      have hd : Array.foldl (fun acc y => acc ++ (_codecs.asciiCodec.bytesOf y).toArray) #[] x.cps = enc x := by
        have := foldl_enc x.cps.toList #[]
        rw [← Array.foldl_toList]
        exact this.trans (by simp [enc])
      rw [hd]
    · intro a
      simp only []
      rw [if_neg (by rw [enc_size]; lia), Array.getElem?_eq_none (Nat.le_refl _)]
theorem gives_encode (x : PySem.Str) (t u : Tok) (h : ∀ c ∈ x.cps.toList, c < 128) (hz : x.cps.size ≤ sizeLine) : Gives («str.encode» ⟨[.str x t, .str (PySem.Str.ofString "ascii") u], []⟩) (.bytes (enc x)) := by
  rw [encode_tree, road_ascii, narrow_ascii _ _ _ h hz]
  exact .of_eq rfl
theorem intS_ascii (i : Int) : ∀ c ∈ (PySem.Str.ofString (toString i)).cps.toList, c < 128 := by
  intro c hc
  rw [Str.ofString_eq_toList] at hc
  simp only [List.mem_map] at hc
  obtain ⟨d, hd, rfl⟩ := hc
  exact int_ascii i d hd
theorem intS_cps {i : Int} (h0 : 0 ≤ i) : (PySem.Str.ofString (toString i)).cps.toList = (Nat.toDigits 10 i.toNat).map Char.toNat := by
  have := KIN.signs_num i.toNat
  rwa [Int.toNat_of_nonneg h0] at this
theorem intS_len {i : Int} (h0 : 0 ≤ i) (h1 : i ≤ 100000000000000000000) : (PySem.Str.ofString (toString i)).length ≤ 21 := by
  have e := congrArg List.length (intS_cps h0)
  rw [List.length_map, Array.length_toList] at e
  show (PySem.Str.ofString (toString i)).cps.size ≤ 21
  rw [e]
  exact digits10_le (by lia) (by lia)
section
variable {prog : Program} {w : World} {A : Around} {E : Value → Shared → Prop} {s : Shared}
theorem method_encode {M : Model} {x : PySem.Str} {t : Tok} {pl : Sem Bool} {Q : Value × List Value → Shared → Prop} (h : Q (.builtin "str.encode", [.str x t]) s) : wpAny M A (getMethod (.str x t) "encode" pl) Q E s := by
  with_reducible exact getMethod_builtin (typeIs_str _ _ _) F.plainAttrs_str F.slot_str_encode F.type_str_encode (fun _ e => nomatch e) h
theorem encode_int {i : Int} {t u : Tok} {Q : Value → Shared → Prop} (h0 : 0 ≤ i) (h1 : i ≤ 100000000000000000000) (h : ∀ t' k, (enc (PySem.Str.ofString (toString i))).size ≤ 21 → Q (.bytes (enc (PySem.Str.ofString (toString i))) t') { s with toks := k }) :
    wpAny (model prog w) A (call (.builtin "str.encode") [.str (PySem.Str.ofString (toString i)) t, .str (PySem.Str.ofString "ascii") u]) Q E s :=
  have hl := intS_len h0 h1
  call_gives F.slot_str_encode (typeIs_str _ _ _) F.entry_str_encode (F.args_str_encode_2 _ _) (gives_encode _ t u (intS_ascii i) (by rw [sizeLine_eq]; exact Nat.le_trans hl (by lia))) ⟨by rw [enc_size, sizeLine_eq]; exact Nat.le_trans hl (by lia), h _ _ (by rw [enc_size]; exact hl)⟩
end
end BY
end
section
noncomputable def IterW (prog : Program) (w : World) (A : Around) (xv : Value) (s : Shared) (S : List (Addr × Obj) → Prop) (n : Nat) (P : Nat → Value → Prop) : Prop :=
  ∃ (it : Obj) (fp : List Addr) (St : Nat → Heap → Prop), it.isFreed = false ∧
    (∀ (Q : Value → Shared → Prop) (E : Value → Shared → Prop), Q (.ref s.heap.objs.size) { s with heap := s.heap.push it } → wpAny (model prog w) A (pyIter xv) Q E s) ∧
    Walks prog w A s.heap.objs.size fp [s.heap.objs.size] n P St ∧ St 0 (s.heap.push it) ∧ (∀ b ∈ fp, b < s.heap.objs.size + 1) ∧ (∀ i h, St i h → ∃ o, h.get? s.heap.objs.size = some o) ∧
    (∀ h₀ L i (h h' : Heap) (o : Obj) (nw : List (Addr × Obj)), St i h → h.get? s.heap.objs.size = some o → h'.get? s.heap.objs.size = some o → News h₀ L h' nw → S nw → St i h')
section
variable {prog : Program} {w : World} {A : Around} {s : Shared} {h₀ : Heap} {L : Addr} {news : List (Addr × Obj)}
theorem IterW.range {r : Addr} {a b : Int} {t u v : Tok} {n : Nat} (hh : A.handled = none) (hr : IsRange s.heap r a b 1 t u v) (hsm : Builtin.Range.small a b 1 = true) (hn : Builtin.Range.rangeSize a b 1 = (n : Int)) :
    IterW prog w A (.ref r) s (fun _ => True) n (fun i v => ∃ t, v = .int (a + (i : Int)) t) := by
  have W : Walks prog w A s.heap.objs.size [s.heap.objs.size] [s.heap.objs.size] n _ _ := Walks.range hh s.heap.objs.size a 1 n
  have e : (fun (i : Nat) (v : Value) => ∃ t, v = .int (a + (i : Int) * 1) t) = fun (i : Nat) (v : Value) => ∃ t, v = .int (a + (i : Int)) t := by
    funext i v
    rw [Int.mul_one]
  rw [e] at W
  refine ⟨_, _, _, rfl, fun Q E hq => wpAny_pyIter_range hr hsm hq, W, ?_, fun b hb => ?_, fun i h st => ⟨_, st⟩, fun h₀ L i h h' o nw st e1 e2 _ _ => ?_⟩
  · show IsRangeIter _ _ _ _ _
    rw [hn]
    simpa using Heap.get?_push_size _ rfl
  · rw [List.mem_singleton.mp hb]
    exact Nat.lt_succ_self _
  · have st' : h.get? s.heap.objs.size = some _ := st
    rw [e1] at st'
    show h'.get? s.heap.objs.size = some _
    rw [e2, st']
theorem IterW.list {l : Addr} {vs : List Value} {nn : Nat} (hh : A.handled = none) (N : News h₀ L s.heap news) (hl : (l, listOf vs.toArray nn) ∈ news) :
    IterW prog w A (.ref l) s (fun nw => (l, listOf vs.toArray nn) ∈ nw) vs.length (fun i v => vs[i]? = some v) := by
  have hls := News.isList N hl
  have hlt : l < s.heap.objs.size := Heap.lt_size (N _ hl).1
  have W := Walks.list (prog := prog) (w := w) hh s.heap.objs.size l (Nat.ne_of_lt hlt) vs.toArray
  have hsz : vs.toArray.size = vs.length := by simp
  rw [hsz] at W
  have e : (fun (i : Nat) (v : Value) => vs.toArray[i]? = some v) = fun (i : Nat) (v : Value) => vs[i]? = some v := by
    funext i v
    simp
  rw [e] at W
  refine ⟨_, _, _, rfl, fun Q E hq => wpAny_pyIter_list hls hq, W, ⟨⟨_, Heap.get?_push_size _ rfl, rfl, rfl⟩, hls.at fun o e => Heap.get?_push_of_some _ e⟩, fun b hb => ?_, fun i h st => by obtain ⟨o, e, _⟩ := st.1; exact ⟨o, e⟩, fun h₀ L i h h' o nw st e1 e2 N' hS => ?_⟩
  · rcases List.mem_cons.mp hb with rfl | hb
    · exact Nat.lt_succ_self _
    · rw [List.mem_singleton.mp hb]; exact Nat.lt_succ_of_lt hlt
  · obtain ⟨⟨o', q, r⟩, _⟩ := st
    rw [e1] at q
    cases q
    exact ⟨⟨o, e2, r⟩, News.isList N' hS⟩
theorem IterW.dict {d : Addr} {o : Obj} {kvs : List (Int × Value)} (hh : A.handled = none) (lo : (d == sysModules) = false) (N : News h₀ L s.heap news) (hl : (d, o) ∈ news) (hd : o.IsDictOf (intKind prog w) kvs) :
    IterW prog w A (.ref d) s (fun nw => (d, o) ∈ nw) kvs.length (fun i v => ∃ k y t, kvs[i]? = some (k, y) ∧ v = .int k t) := by
  obtain ⟨ep, hk⟩ := KdkAt.of hd
  have hda := hk.dictAt (N _ hl).1
  have hlt : d < s.heap.objs.size := Heap.lt_size (N _ hl).1
  refine ⟨_, _, _, rfl, fun Q E hq => wpAny_pyIter_dict lo hda hq, dict_walks (ep := ep) hh (Nat.ne_of_lt hlt), ⟨⟨_, Heap.get?_push_size _ rfl, rfl, rfl⟩, hda.push _⟩, fun b hb => ?_, fun i h st => by obtain ⟨o, e, _⟩ := st.1; exact ⟨o, e⟩, fun h₀ L i h h' oi nw st e1 e2 N' hS => ?_⟩
  · rcases List.mem_cons.mp hb with rfl | hb
    · exact Nat.lt_succ_self _
    · rw [List.mem_singleton.mp hb]; exact Nat.lt_succ_of_lt hlt
  · exact ⟨by obtain ⟨o', q, r⟩ := st.1; rw [e1] at q; cases q; exact ⟨oi, e2, r⟩, hk.dictAt (N' _ hS).1⟩
end
section
variable {prog : Program} {w : World} {A : Around} {E : Value → Shared → Prop} {s : Shared} {h₀ : Heap} {L : Addr} {m : Str → Option Value} {env : Env}
noncomputable def SrcW (prog : Program) (w : World) (A : Around) (h₀ : Heap) (L : Addr) (m : Str → Option Value) (env : Env) (elt : Expr) (x : Str) (scope : Scope) (cl : List (Str × Addr)) (Fin : Shared → List Value → List (Addr × Obj) → Prop) (xv : Value) (s₁ : Shared) : Prop :=
  ∃ (news : List (Addr × Obj)) (S : List (Addr × Obj) → Prop) (n : Nat) (P : Nat → Value → Prop), IterW prog w A xv s₁ S n P ∧ n ≤ sizeLine ∧ Fr h₀ L s₁.heap m ∧ News h₀ L s₁.heap news ∧ S news ∧
    ∀ s₂ : Shared, (∃ h, s₂ = { s₁ with heap := h }) → LCg.CompRest prog w A h₀ L m env elt x scope cl s₂ S P (Fin s₂) n 0 [] news
noncomputable def SrcWT (prog : Program) (w : World) (A : Around) (h₀ : Heap) (L : Addr) (m : Str → Option Value) (env : Env) (ct elt : Expr) (x : Str) (scope : Scope) (cl : List (Str × Addr)) (Fin : Shared → List Value → List (Addr × Obj) → Prop) (xv : Value) (s₁ : Shared) : Prop :=
  ∃ (news : List (Addr × Obj)) (S : List (Addr × Obj) → Prop) (n : Nat) (P : Nat → Value → Prop), IterW prog w A xv s₁ S n P ∧ n ≤ sizeLine ∧ Fr h₀ L s₁.heap m ∧ News h₀ L s₁.heap news ∧ S news ∧
    ∀ s₂ : Shared, (∃ h, s₂ = { s₁ with heap := h }) → LCt.CompRestT prog w A h₀ L m env ct elt x scope cl s₂ S P (Fin s₂) n 0 [] news
theorem ListComp_W {elt iter : Expr} {x : Str} {px : Pos} {scope : Scope} {cl : List (Str × Addr)} {pos : Pos} {Q : Value → Shared → Prop} (_F₀ : Fr h₀ L s.heap m)
    (hclos : closureFor scope env = pure cl) (hcell : ∀ y ∈ scope.names, y.2 ≠ .cell) (hkind : scope.kind = .function)
    (hnames : ∀ y ∈ scope.names, y.2 = .local → scope.names.lookup y.1 = some .local) (hx : scope.names.lookup x = some .local)
    (h : wpAny (model prog w) A (eval iter env) (SrcW prog w A h₀ L m env elt x scope cl (fun s₂ => LCg.FinE h₀ L m s₂ Q)) E s)
    (hs : ∀ x, foldedSetIterable iter env x = pure x := by intro _; rfl) :
    wpAny (model prog w) A (eval (.ListComp elt [⟨.Name x px, iter, [], 0⟩] scope pos) env) Q E s := by
  rw [eval_ListComp]
  refine wpAny_comprehension_free (use := none) rfl hs hclos hkind hnames (wpAny_mono h (fun xv s₁ h₁ => ?_) fun _ _ e => e)
  obtain ⟨news, S, n, P, ⟨it, fp, St, hfr, hit, W, hst, hfp, hIo, hSt⟩, hsz, F, N, hS, R⟩ := h₁
  refine hit _ _ ?_
  refine LCg.block_U W hsz hIo (fun i h h' o nw a b c _ N' hs' => hSt h₀ L i h h' o nw a b c N' hs') hcell hkind hx hst (fun b hb => ?_)
    (F.keeps fun _ _ e => Heap.get?_push_of_some _ e) (N.grown fun _ _ e => Heap.get?_push_of_some _ e) (Nat.ne_of_lt F.ns.lt) (next_is_new F) (fun p hp => Nat.ne_of_lt (Heap.lt_size (N p hp).1)) hS (R _ ⟨_, rfl⟩) ?_
  · show b < (s₁.heap.push _).objs.size
    rw [Heap.size_push]
    exact hfp b hb
  · intro D C h tk m' ys news' F' N' o1 hn hC₀ hD₀ hCL hDL hCD offC fin
    refine ⟨m', hn, fun h'' hs'' => fin D h'' tk (F'.change hs'' hCL hC₀) (fun p hp => ?_) o1⟩
    refine ⟨hs''.extBut _ _ ?_ (N' p hp).1, (N' p hp).2⟩
    rcases List.mem_cons.mp hp with rfl | hp
    · exact Ne.symm hCD
    · exact offC p hp
theorem ListComp_WT {ct elt iter : Expr} {x : Str} {px : Pos} {scope : Scope} {cl : List (Str × Addr)} {pos : Pos} {Q : Value → Shared → Prop} (_F₀ : Fr h₀ L s.heap m)
    (hclos : closureFor scope env = pure cl) (hcell : ∀ y ∈ scope.names, y.2 ≠ .cell) (hkind : scope.kind = .function)
    (hnames : ∀ y ∈ scope.names, y.2 = .local → scope.names.lookup y.1 = some .local) (hx : scope.names.lookup x = some .local)
    (h : wpAny (model prog w) A (eval iter env) (SrcWT prog w A h₀ L m env ct elt x scope cl (fun s₂ => LCg.FinE h₀ L m s₂ Q)) E s)
    (hs : ∀ x, foldedSetIterable iter env x = pure x := by intro _; rfl) :
    wpAny (model prog w) A (eval (.ListComp elt [⟨.Name x px, iter, [ct], 0⟩] scope pos) env) Q E s := by
  rw [eval_ListComp]
  refine wpAny_comprehension_free (use := none) rfl hs hclos hkind hnames (wpAny_mono h (fun xv s₁ h₁ => ?_) fun _ _ e => e)
  obtain ⟨news, S, n, P, ⟨it, fp, St, hfr, hit, W, hst, hfp, hIo, hSt⟩, hsz, F, N, hS, R⟩ := h₁
  refine hit _ _ ?_
  refine LCt.block_T W hsz hIo (fun i h h' o nw a b c _ N' hs' => hSt h₀ L i h h' o nw a b c N' hs') hcell hkind hx hst (fun b hb => ?_)
    (F.keeps fun _ _ e => Heap.get?_push_of_some _ e) (N.grown fun _ _ e => Heap.get?_push_of_some _ e) (Nat.ne_of_lt F.ns.lt) (next_is_new F) (fun p hp => Nat.ne_of_lt (Heap.lt_size (N p hp).1)) hS (R _ ⟨_, rfl⟩) ?_
  · show b < (s₁.heap.push _).objs.size
    rw [Heap.size_push]
    exact hfp b hb
  · intro D C h tk m' ys news' F' N' o1 hn hC₀ hD₀ hCL hDL hCD offC fin
    refine ⟨m', hn, fun h'' hs'' => fin D h'' tk (F'.change hs'' hCL hC₀) (fun p hp => ?_) o1⟩
    refine ⟨hs''.extBut _ _ ?_ (N' p hp).1, (N' p hp).2⟩
    rcases List.mem_cons.mp hp with rfl | hp
    · exact Ne.symm hCD
    · exact offC p hp
theorem Assign_ListComp_W {elt iter : Expr} {x y : Str} {px py : Pos} {scope : Scope} {cl : List (Str × Addr)} {pos spos : Pos} {Q : Flow → Shared → Prop} (_F₀ : Fr h₀ L s.heap m) (hLe : env.locals = L)
    (hsw : swapsWith (.ListComp elt [⟨.Name x px, iter, [], 0⟩] scope pos) (some (.Name y py)) spos.line env = pure true)
    (hclos : closureFor scope env = pure cl) (hcell : ∀ z ∈ scope.names, z.2 ≠ .cell) (hkind : scope.kind = .function)
    (hnames : ∀ z ∈ scope.names, z.2 = .local → scope.names.lookup z.1 = some .local) (hx : scope.names.lookup x = some .local)
    (hy : env.kindOf y = some .local) (hp : (env.scope.kind == .class || (env.scope.kind == .module && env.locals != env.globals)) = false)
    (h : wpAny (model prog w) A (eval iter env) (SrcW prog w A h₀ L m env elt x scope cl (fun s₂ => LCg.FinA h₀ L m s₂ y Q)) E s)
    (hs : ∀ x, foldedSetIterable iter env x = pure x := by intro _; rfl) :
    wpAny (model prog w) A (exec (.Assign [.Name y py] (.ListComp elt [⟨.Name x px, iter, [], 0⟩] scope pos) spos) env) Q E s := by
  subst hLe
  rw [exec_Assign_Name_used _ _ _ _ hsw]
  refine wpAny_bind (wpAny_standAt (wpAny_bind ?_))
  show wpAny _ A (do let _ ← comprehension (.ListComp elt [⟨.Name x px, iter, [], 0⟩] scope pos) scope env _ (newList []) false (eval iter env) (some (assign (.Name y py) env))) _ _ s
  refine wpAny_bind (wpAny_mono (wpAny_comprehension_free (use := some (assign (.Name y py) env)) (Q := fun _ s' => Q .next s') rfl hs hclos hkind hnames
    (wpAny_mono h (fun xv s₁ h₁ => ?_) fun _ _ e => e)) (fun _ s' hq => wpAny_pure (wpAny_pure hq)) fun _ _ e => e)
  obtain ⟨news, S, n, P, ⟨it, fp, St, hfr, hit, W, hst, hfp, hIo, hSt⟩, hsz, F, N, hS, R⟩ := h₁
  refine hit _ _ ?_
  refine LCg.block_U W hsz hIo (fun i h h' o nw a b c _ N' hs' => hSt h₀ env.locals i h h' o nw a b c N' hs') hcell hkind hx hst (fun b hb => ?_)
    (F.keeps fun _ _ e => Heap.get?_push_of_some _ e) (N.grown fun _ _ e => Heap.get?_push_of_some _ e) (Nat.ne_of_lt F.ns.lt) (next_is_new F) (fun p hp => Nat.ne_of_lt (Heap.lt_size (N p hp).1)) hS (R _ ⟨_, rfl⟩) ?_
  · show b < (s₁.heap.push _).objs.size
    rw [Heap.size_push]
    exact hfp b hb
  · intro D C h' tk m' ys news' F' N' o1 hn hC₀ hD₀ hCL hDL hCD offC fin
    show wpAny _ A (assign (.Name y py) env (.ref D)) _ _ _
    refine wpAny_assign_Name (wpAny_storeName_local hy F'.ns (fun h₂ hn₂ hs₂ => ?_) hp)
    have hL₀ : h₀.get? env.locals = none := Heap.get?_none_of_le F'.above
    have F₂ : Fr h₀ env.locals h₂ (fun z => if z = y then some (.ref D) else m z) := ⟨hn₂, fun b o e => hs₂.extBut b o (fun q => by rw [q, hL₀] at e; cases e) (F'.keep b o e), F'.above⟩
    refine ⟨m', hn.sameBut hs₂ hCL, fun h'' hs'' => fin D h'' _ (F₂.change hs'' hCL hC₀) (fun p hp => ?_) o1⟩
    have z : h₂.get? p.1 = some p.2 := hs₂.extBut _ _ (N' p hp).2.1 (N' p hp).1
    refine ⟨hs''.extBut _ _ ?_ z, (N' p hp).2⟩
    rcases List.mem_cons.mp hp with rfl | hp
    · exact Ne.symm hCD
    · exact offC p hp
theorem Assign_ListComp_WT {ct elt iter : Expr} {x y : Str} {px py : Pos} {scope : Scope} {cl : List (Str × Addr)} {pos spos : Pos} {Q : Flow → Shared → Prop} (_F₀ : Fr h₀ L s.heap m) (hLe : env.locals = L)
    (hsw : swapsWith (.ListComp elt [⟨.Name x px, iter, [ct], 0⟩] scope pos) (some (.Name y py)) spos.line env = pure true)
    (hclos : closureFor scope env = pure cl) (hcell : ∀ z ∈ scope.names, z.2 ≠ .cell) (hkind : scope.kind = .function)
    (hnames : ∀ z ∈ scope.names, z.2 = .local → scope.names.lookup z.1 = some .local) (hx : scope.names.lookup x = some .local)
    (hy : env.kindOf y = some .local) (hp : (env.scope.kind == .class || (env.scope.kind == .module && env.locals != env.globals)) = false)
    (h : wpAny (model prog w) A (eval iter env) (SrcWT prog w A h₀ L m env ct elt x scope cl (fun s₂ => LCg.FinA h₀ L m s₂ y Q)) E s)
    (hs : ∀ x, foldedSetIterable iter env x = pure x := by intro _; rfl) :
    wpAny (model prog w) A (exec (.Assign [.Name y py] (.ListComp elt [⟨.Name x px, iter, [ct], 0⟩] scope pos) spos) env) Q E s := by
  subst hLe
  rw [exec_Assign_Name_used _ _ _ _ hsw]
  refine wpAny_bind (wpAny_standAt (wpAny_bind ?_))
  show wpAny _ A (do let _ ← comprehension (.ListComp elt [⟨.Name x px, iter, [ct], 0⟩] scope pos) scope env _ (newList []) false (eval iter env) (some (assign (.Name y py) env))) _ _ s
  refine wpAny_bind (wpAny_mono (wpAny_comprehension_free (use := some (assign (.Name y py) env)) (Q := fun _ s' => Q .next s') rfl hs hclos hkind hnames
    (wpAny_mono h (fun xv s₁ h₁ => ?_) fun _ _ e => e)) (fun _ s' hq => wpAny_pure (wpAny_pure hq)) fun _ _ e => e)
  obtain ⟨news, S, n, P, ⟨it, fp, St, hfr, hit, W, hst, hfp, hIo, hSt⟩, hsz, F, N, hS, R⟩ := h₁
  refine hit _ _ ?_
  refine LCt.block_T W hsz hIo (fun i h h' o nw a b c _ N' hs' => hSt h₀ env.locals i h h' o nw a b c N' hs') hcell hkind hx hst (fun b hb => ?_)
    (F.keeps fun _ _ e => Heap.get?_push_of_some _ e) (N.grown fun _ _ e => Heap.get?_push_of_some _ e) (Nat.ne_of_lt F.ns.lt) (next_is_new F) (fun p hp => Nat.ne_of_lt (Heap.lt_size (N p hp).1)) hS (R _ ⟨_, rfl⟩) ?_
  · show b < (s₁.heap.push _).objs.size
    rw [Heap.size_push]
    exact hfp b hb
  · intro D C h' tk m' ys news' F' N' o1 hn hC₀ hD₀ hCL hDL hCD offC fin
    show wpAny _ A (assign (.Name y py) env (.ref D)) _ _ _
    refine wpAny_assign_Name (wpAny_storeName_local hy F'.ns (fun h₂ hn₂ hs₂ => ?_) hp)
    have hL₀ : h₀.get? env.locals = none := Heap.get?_none_of_le F'.above
    have F₂ : Fr h₀ env.locals h₂ (fun z => if z = y then some (.ref D) else m z) := ⟨hn₂, fun b o e => hs₂.extBut b o (fun q => by rw [q, hL₀] at e; cases e) (F'.keep b o e), F'.above⟩
    refine ⟨m', hn.sameBut hs₂ hCL, fun h'' hs'' => fin D h'' _ (F₂.change hs'' hCL hC₀) (fun p hp => ?_) o1⟩
    have z : h₂.get? p.1 = some p.2 := hs₂.extBut _ _ (N' p hp).2.1 (N' p hp).1
    refine ⟨hs''.extBut _ _ ?_ z, (N' p hp).2⟩
    rcases List.mem_cons.mp hp with rfl | hp
    · exact Ne.symm hCD
    · exact offC p hp
end
end
section
theorem ints_snoc {ys : List Value} {ns : List Int} (h : IntsAre ys ns) (k : Int) (t : Tok) : IntsAre (ys ++ [.int k t]) (ns ++ [k]) := by
  induction h with
  | nil => exact .cons _ _ .nil
  | cons a b _ ih => exact .cons _ _ ih
section
variable {prog : Program} {w : World} {A : Around} {h₀ : Heap} {L : Addr} {m : Str → Option Value} {env : Env} {ct elt : Expr} {x : Str} {scope : Scope} {cl : List (Str × Addr)} {Fin : Shared → List Value → List (Addr × Obj) → Prop} {news : List (Addr × Obj)} {S : List (Addr × Obj) → Prop} {n : Nat} {P : Nat → Value → Prop} {xv : Value} {s₁ : Shared}
noncomputable def IntEl (h₀ : Heap) (L : Addr) (m : Str → Option Value) (s₁ : Shared) (led : List (Addr × Obj)) (g : Int) (v : Value) (s₂ : Shared) : Prop :=
  ∃ (h' : Heap) (tk' : Nat) (t' : Tok) (led' : List (Addr × Obj)), s₂ = { s₁ with heap := h', toks := tk' } ∧ Fr h₀ L h' m ∧ News h₀ L h' led' ∧ (∀ p ∈ led, p ∈ led') ∧ v = .int g t'
noncomputable def NoEl (h₀ : Heap) (L : Addr) (m : Str → Option Value) (s₁ : Shared) (led : List (Addr × Obj)) (s₂ : Shared) : Prop :=
  ∃ (h' : Heap) (tk' : Nat) (led' : List (Addr × Obj)), s₂ = { s₁ with heap := h', toks := tk' } ∧ Fr h₀ L h' m ∧ News h₀ L h' led' ∧ (∀ p ∈ led, p ∈ led')
theorem comp_intsT (I₀ : IterW prog w A xv s₁ S n P) (hn : n ≤ 100000) (F : Fr h₀ L s₁.heap m) (N : News h₀ L s₁.heap news) (hS : S news) (f : Nat → Bool) (g : Nat → Int)
    (turn : ∀ (i : Nat) (v : Value) (ys : List Value) (I : Nat) (oI : Obj) (C : Nat) (oC : Obj) (R : Nat) m₂ h tk (E' : Value → Shared → Prop), i < n → P i v → LCg.NsObj oC m₂ → m₂ x = some v → LCg.Off3 I C R news → I ≠ C → I ≠ R → C ≠ R →
      Fr h₀ L h m → News h₀ L h ((I, oI) :: (C, oC) :: (R, LCg.lst ys) :: news) → wpAny (model prog w) A (isTrue ct (compEnvC scope cl C env) (eval ct (compEnvC scope cl C env))) (fun ok s' => if ok = true then
        wpAny (model prog w) A (eval elt (compEnvC scope cl C env)) (fun y s₂ => Halt (f i = true ∧ IntEl h₀ L m s₁ ((I, oI) :: (C, oC) :: (R, LCg.lst ys) :: news) (g i) y s₂)) E' s' else Halt (f i = false ∧ NoEl h₀ L m s₁ ((I, oI) :: (C, oC) :: (R, LCg.lst ys) :: news) s')) E' { s₁ with heap := h, toks := tk })
    (done : ∀ (ys : List Value) hg, IntsAre ys (((List.range n).filter f).map g) → Fin { s₁ with heap := hg } ys news) :
    SrcWT prog w A h₀ L m env ct elt x scope cl Fin xv s₁ := by
  refine ⟨news, S, n, P, I₀, by rw [sizeLine_eq]; lia, F, N, hS, ?_⟩
  rintro s₂ ⟨hg, rfl⟩
  refine comp_invT (fun i ys nw => nw = news ∧ IntsAre ys (((List.range i).filter f).map g)) ?_ ?_ n 0 [] _ (Nat.zero_add _) ⟨rfl, .nil⟩
  · rintro i ys nw v I oI C oC R m₂ h tk E' hi hP ⟨rfl, hr⟩ hC hx F' N' off ne
    refine wpAny_mono (turn i v ys I oI C oC R m₂ h tk E' hi hP hC hx off ne.1 ne.2.1 ne.2.2 F' N') (fun ok s' q => ?_) fun _ _ q => q
    cases ok with
    | true =>
      simp only [if_true] at q ⊢
      refine wpAny_mono q (fun y s₃ q => ?_) fun _ _ q => q
      obtain ⟨hf, h', tk', t', led', rfl, F3, N3, hsub, rfl⟩ := q
      refine LCg.CompEnd.intro F3 N3 nw hsub off hS ⟨rfl, ?_⟩
      rw [List.range_succ, List.filter_append, List.map_append, List.filter_cons_of_pos hf]
      exact ints_snoc hr _ _
    | false =>
      simp only [Bool.false_eq_true, if_false] at q ⊢
      obtain ⟨hf, h', tk', led', rfl, F3, N3, hsub⟩ := q
      refine LCg.CompEnd.intro F3 N3 nw hsub off hS ⟨rfl, ?_⟩
      rw [List.range_succ, List.filter_append, List.map_append, List.filter_cons_of_neg (by rw [hf]; exact Bool.false_ne_true)]
      simpa using hr
  · rintro ys nw ⟨rfl, hr⟩
    exact done ys hg hr
theorem comp_ints (I₀ : IterW prog w A xv s₁ S n P) (hn : n ≤ 100000) (F : Fr h₀ L s₁.heap m) (N : News h₀ L s₁.heap news) (hS : S news) (g : Nat → Int)
    (turn : ∀ (i : Nat) (v : Value) (ys : List Value) (I : Nat) (oI : Obj) (C : Nat) (oC : Obj) (R : Nat) m₂ h tk (E' : Value → Shared → Prop), i < n → P i v → LCg.NsObj oC m₂ → m₂ x = some v → LCg.Off3 I C R news → I ≠ C → I ≠ R → C ≠ R →
      Fr h₀ L h m → News h₀ L h ((I, oI) :: (C, oC) :: (R, LCg.lst ys) :: news) → wpAny (model prog w) A (eval elt (compEnvC scope cl C env)) (fun y s₂ => Halt (IntEl h₀ L m s₁ ((I, oI) :: (C, oC) :: (R, LCg.lst ys) :: news) (g i) y s₂)) E' { s₁ with heap := h, toks := tk })
    (done : ∀ (ys : List Value) hg, IntsAre ys ((List.range n).map g) → Fin { s₁ with heap := hg } ys news) :
    SrcW prog w A h₀ L m env elt x scope cl Fin xv s₁ := by
  refine ⟨news, S, n, P, I₀, by rw [sizeLine_eq]; lia, F, N, hS, ?_⟩
  rintro s₂ ⟨hg, rfl⟩
  refine comp_inv (fun i ys nw => nw = news ∧ IntsAre ys ((List.range i).map g)) ?_ ?_ n 0 [] _ (Nat.zero_add _) ⟨rfl, .nil⟩
  · rintro i ys nw v I oI C oC R m₂ h tk E' hi hP ⟨rfl, hr⟩ hC hx F' N' off ne
    refine wpAny_mono (turn i v ys I oI C oC R m₂ h tk E' hi hP hC hx off ne.1 ne.2.1 ne.2.2 F' N') (fun y s₃ q => ?_) fun _ _ q => q
    obtain ⟨h', tk', t', led', rfl, F3, N3, hsub, rfl⟩ := q
    refine LCg.CompEnd.intro F3 N3 nw hsub off hS ⟨rfl, ?_⟩
    rw [List.range_succ, List.map_append]
    exact ints_snoc hr _ _
  · rintro ys nw ⟨rfl, hr⟩
    exact done ys hg hr
end
end
section
section
variable {prog : Program} {w : World} {A : Around} {E : Value → Shared → Prop} {s : Shared} {h₀ : Heap} {L : Addr} {m : Str → Option Value} {news : List (Addr × Obj)}
theorem max_dict {d : Addr} {o : Obj} {kvs : List (Int × Value)} {Q : Value → Shared → Prop} (hh : A.handled = none) (lo : (d == sysModules) = false) (F : Fr h₀ L s.heap m) (N : News h₀ L s.heap news) (hl : (d, o) ∈ news) (hd : o.IsDictOf (intKind prog w) kvs) (hne : 0 < kvs.length)
    (h : ∀ h' M (t : Tok) tk, Fr h₀ L h' m → News h₀ L h' news → M ∈ kvs.map (·.1) → (∀ a, a ∈ kvs.map (·.1) → a ≤ M) → Q (.int M t) { s with heap := h', toks := tk }) :
    wpAny (model prog w) A (call (.builtin "max") [.ref d]) Q E s := by
  obtain ⟨ep, hk⟩ := KdkAt.of hd
  have hda := hk.dictAt (N _ hl).1
  have hlt : d < s.heap.objs.size := Heap.lt_size (N _ hl).1
  refine call_max_walk (wpAny_pyIter_dict lo hda ?_)
  refine ⟨_, _, _, _, _, _, _, rfl, dict_walks (ep := ep) (kvs := kvs) hh (Nat.ne_of_lt hlt), ⟨⟨_, Heap.get?_push_size _ rfl, rfl, rfl⟩, hda.push _⟩, fun b hb => ?_, hne, CmpOf.ints_gt (fun i => ((kvs[i]?).map (·.1)).getD 0) (fun i v hP => ?_), fun v h' tk hP hk' => ?_⟩
  · show b < (s.heap.push _).objs.size
    rw [Heap.size_push]
    rcases List.mem_cons.mp hb with rfl | hb
    · exact Nat.lt_succ_self _
    · rw [List.mem_singleton.mp hb]; exact Nat.lt_succ_of_lt hlt
  · obtain ⟨k, y, t, e, rfl⟩ := hP
    exact ⟨t, by rw [e]; rfl⟩
  · obtain ⟨k, y, t, e, rfl⟩ := hP
    obtain ⟨h1, h2⟩ := argBest_gt (fun i => ((kvs[i]?).map (·.1)).getD 0) (kvs.length - 1)
    have hkeep : ∀ b o, s.heap.get? b = some o → h'.get? b = some o := fun b o e => hk' b o (fun hm => by
      rw [List.mem_singleton.mp hm] at e
      exact Nat.lt_irrefl _ (Heap.lt_size e)) (Heap.get?_push_of_some _ e)
    refine h h' k t tk (F.grownK hkeep) (N.grown hkeep) (List.mem_map.mpr ⟨(k, y), List.mem_of_getElem? e, rfl⟩) fun a ha => ?_
    obtain ⟨⟨k2, y2⟩, hm, rfl⟩ := List.mem_map.mp ha
    obtain ⟨j, hj⟩ := List.getElem?_of_mem hm
    have hjl : j < kvs.length := (List.getElem?_eq_some_iff.mp hj).1
    have := h2 j (by lia)
    simp only [hj, e, Option.map_some, Option.getD_some] at this
    exact this
theorem len_dict {d : Addr} {o : Obj} {kvs : List (Int × Value)} {Q : Value → Shared → Prop} (N : News h₀ L s.heap news) (hp : (d, o) ∈ news) (hd : o.IsDictOf (intKind prog w) kvs) (lo : (d == sysModules) = false) (hfit : kvs.length ≤ 16777216) (h : ∀ t k, Q (.int kvs.length t) { s with toks := k }) :
    wpAny (model prog w) A (call (.builtin "len") [.ref d]) Q E s := kda_len N hp hd lo hfit (h _ _)
end
noncomputable def SizeIs (ks : List Int) (r : Int) : Prop := (ks = [] ∧ r = 0) ∨ ((r - 1) ∈ ks ∧ ∀ a, a ∈ ks → a ≤ r - 1)
theorem SizeIs.some {kvs : List (Int × Value)} {M : Int} (h1 : M ∈ kvs.map (·.1)) (h2 : ∀ a, a ∈ kvs.map (·.1) → a ≤ M) : SizeIs (kvs.map (·.1)) (M + 1) := .inr ⟨by rw [Int.add_sub_cancel]; exact h1, fun a ha => by rw [Int.add_sub_cancel]; exact h2 a ha⟩
theorem SizeIs.none {kvs : List (Int × Value)} (h : ¬ (0 : Int) < kvs.length) : SizeIs (kvs.map (·.1)) 0 := by
  have e : kvs = [] := List.length_eq_zero_iff.mp (by lia)
  subst e
  exact .inl ⟨rfl, rfl⟩
end
section
theorem rowsSize1 : True := by
  k_with_none
  k_with "call builtin:len" => focus ((k_here; k_dflt (refine' len_dict ?_ ?_ ?_ ?_ ?_ ?_; (rotate_right 6; (focus (k_asm)); (focus (k_mem)); (focus (assumption)); (focus (assumption)); (focus (lia)); rotate_left 1)); intro t9 k9))
  k_with "call builtin:max" => focus ((k_here; k_dflt (refine' max_dict ?_ ?_ ?_ ?_ ?_ ?_ ?_ ?_; (rotate_right 8; (focus (exact rfl)); rotate_left 7); (rotate_right 6; (focus (k_asm)); (focus (k_asm)); (focus (k_mem)); (focus (assumption)); rotate_left 2); (rotate_right 3; (focus (assumption)); (focus (lia)); rotate_left 1)); intro h' M9 t9 k9 F' N' m9 l9))
  trivial
set_option maxRecDepth 100000 in
set_option maxHeartbeats 8000000 in
theorem size_ok {w : World} {mean : ExcName → Option Value} {mg mb : Str → Option Value} {dp un : Nat} {gd : Option (List Code)} {cn : Str} {cs : Scope} {a : Addr} {ccd : Value} {cl : List (Str × Addr)} {outer : List Env} {A₀ : Around} {base h₀ : Heap} {L : Addr} {m : Str → Option Value} {s : Shared}
    {Q E : Value → Shared → Prop} {D : Nat} {o : Obj} {kvs : List (Int × Value)} {rest : List (Addr × Obj)}
    (B : Below A₀ base outer h₀) (F : Fr h₀ L s.heap m) (X : (Mine.hd.heap_1 w.params).In h₀) (N : News h₀ L s.heap rest)
    (T : Top Mine.hd.view_1 (looseW Mine.hd.view_1 [Str.ofString "PaperError"]) mean mg mb h₀) (hk : cs.kind = .function)
    (hD : (D, o) ∈ rest) (ho : o.IsDictOf (intKind PySem.Challenge.rw_nn0202_01.row.prog w) kvs) (hl : kvs.length ≤ 10100) (hn : (D == sysModules) = false) (hd : dp < 380) (hu : un < 380)
    (hret : ∀ (r : Int) (t : Tok) h' tk', SizeIs (kvs.map (·.1)) r → Fr h₀ L h' m → News h₀ L h' rest → Q (.int r t) { s with heap := h', toks := tk' }) :
    wpAny (model PySem.Challenge.rw_nn0202_01.row.prog w) (ktrTop dp un gd cn cs L a ccd cl outer) (call (.ref 225) [.ref D]) Q E s := by
  revert X
  k_fill
  intro X
  refine wpAny_call ?_
  k_dflt cell_enter
  k_steps
  all_goals first
    | (refine' hret _ _ _ _ ?z ?F ?N; (case F => k_asm); (case N => k_asm); (case z => first | exact SizeIs.some (by assumption) (by assumption) | exact SizeIs.none (by lia)))
end
section
section
variable {prog : Program} {w : World} {A : Around} {E : Value → Shared → Prop} {s : Shared}
theorem setItem_list_neg {l : Addr} {items : Array Value} {k : Int} {n : Nat} {t : Tok} {v x : Value} {Q : Unit → Shared → Prop} (hl₀ : s.heap.get? l = some (listOf items n))
    (h0 : k < 0) (h1 : -(items.size : Int) ≤ k) (hfit : -(2 ^ 63) ≤ k) (hx : items[(k + items.size).toNat]? = some x)
    (hQ : ∀ h' n', h'.get? l = some (listOf (items.setIfInBounds (k + items.size).toNat v) n') → Heap.SameBut l s.heap h' → Q () { s with heap := h' }) :
    wpAny (model prog w) A (setItem (.ref l) (.int k t) v) Q E s := by
  have hl : s.heap.IsList l items := ⟨_, hl₀, rfl, n, rfl⟩
  have ho := hl₀
  have hd : (listOf items n).data = .seq items n := rfl
  unfold setItem
  try with_reducible refine wpAny_holding ?_
  first | refine wpAny_bind (wpAny_pure ?_) | skip
  refine wpAny_bind (wpAny_sequenceKey hl.typeIs (by decide) ?_)
  refine wpAny_bind (wpAny_callSpecial?_slot (name := Str.ofString "__setitem__") hl.typeIs slot_list_setitem
    (wpAny_call_entry slot_list_setitem hl.typeIs entry_list_setitem ?_ (args_list_setitem _ _ _)))
  show wpAny _ _ (Builtin.List.listSubscript? (.int k t) >>= _) _ _ s
  refine wpAny_bind (wpAny_listSubscript_int (fitsIndex_neg h0 hfit) ?_)
  clear hfit
  have hidx := seqIndex_neg h0 h1
  obtain ⟨j, rfl⟩ : ∃ j : Nat, k = Int.negSucc j := by
    cases k with
    | ofNat n => exact absurd h0 (Int.not_lt.mpr (Int.ofNat_nonneg n))
    | negSucc n => exact ⟨n, rfl⟩
  show wpAny _ _ ((Builtin.List.listItems (.ref l) >>= fun xs => pure ((seqIndex? (Int.negSucc j) xs.size).bind fun i => xs[i]?.map (i, ·))) >>= _) _ _ s
  refine wpAny_bind (wpAny_bind ?_)
  show wpAny _ _ (seqItems? (.ref l) >>= _) _ _ s
  refine wpAny_bind (wpAny_seqItems ho hd (wpAny_pure (wpAny_pure ?_)))
  rw [hidx]
  simp only [Option.bind_some, hx, Option.map_some]
  show wpAny _ _ (setSeqItemAt l _ v >>= _) _ _ s
  obtain ⟨n', hd'⟩ := Obj.data_mapSeq hd (·.setIfInBounds (Int.negSucc j + (items.size : Int)).toNat v)
  have hfin := Heap.get?_update_self (Obj.mapSeq (·.setIfInBounds (Int.negSucc j + (items.size : Int)).toNat v)) ho (Obj.isFreed_of_seq hd')
  refine wpAny_bind (wpAny_setSeqItemAt ho hd ?_)
  first
    | exact wpAny_bind (wpAny_pure (wpAny_pure ⟨.none, rfl, wpAny_pure (hQ _ _ hfin (Heap.SameBut.update ..))⟩))
    | exact wpAny_pure ⟨.none, rfl, wpAny_pure (hQ _ _ hfin (Heap.SameBut.update ..))⟩
end
noncomputable def PairIn (tl : List (Addr × Obj)) (v : Value) (p : Int × Int) : Prop := ∃ (R : Nat) (t1 t2 : Tok), v = .ref R ∧ (R, tupO [.int p.1 t1, .int p.2 t2]) ∈ tl
theorem PairIn.mono {tl tl' : List (Addr × Obj)} (h : ∀ p ∈ tl, p ∈ tl') : ∀ v p, PairIn tl v p → PairIn tl' v p := by
  rintro v p ⟨R, t1, t2, rfl, hm⟩
  exact ⟨R, t1, t2, rfl, h _ hm⟩
noncomputable def runStep (l : List (Int × Int)) (x : Int) : List (Int × Int) := match l.getLast? with
  | none => [(x, 1)]
  | some (b, k) => if x = b + k then l.dropLast ++ [(b, k + 1)] else if b + k < x then l ++ [(x, 1)] else l
noncomputable def runsOf (ns : List Int) : List (Int × Int) := ns.foldl runStep []
structure RnSt where
  refs : List Value
  prs : List (Int × Int)
  nn : Nat
  tl : List (Addr × Obj)
noncomputable def RnInv (l : Nat) (ns : List Int) (i : Nat) (c : RnSt) : Prop := ListRel (PairIn c.tl) c.refs c.prs ∧ c.prs = runsOf (ns.take i) ∧ ∀ p ∈ c.tl, l < p.1
noncomputable abbrev rnLed (S : Nat × Obj) (l : Nat) (rest : List (Addr × Obj)) (c : RnSt) : List (Addr × Obj) := (l, listOf c.refs.toArray c.nn) :: S :: (c.tl ++ rest)
theorem ListRel.snoc_inv {β : Type} {R : Value → β → Prop} {vs : List Value} {bs : List β} {b : β} (h : ListRel R vs (bs ++ [b])) : ∃ vs' v, vs = vs' ++ [v] ∧ ListRel R vs' bs ∧ R v b := by
  induction bs generalizing vs with
  | nil =>
    cases h with
    | cons r t => cases t with
      | nil => exact ⟨[], _, rfl, .nil, r⟩
  | cons a bs ih =>
    cases h with
    | cons r t =>
      obtain ⟨vs', v, rfl, h1, h2⟩ := ih t
      exact ⟨_ :: vs', v, rfl, .cons r h1, h2⟩
theorem runStep_nil {x : Int} : runStep [] x = [(x, 1)] := rfl
theorem runStep_on {l : List (Int × Int)} {b k x : Int} (h : x = b + k) : runStep (l ++ [(b, k)]) x = l ++ [(b, k + 1)] := by
  unfold runStep
  simp [h]
theorem runStep_new {l : List (Int × Int)} {b k x : Int} (h : ¬ x = b + k) (h2 : b + k < x) : runStep (l ++ [(b, k)]) x = l ++ [(b, k)] ++ [(x, 1)] := by
  unfold runStep
  simp [h, h2]
theorem runStep_old {l : List (Int × Int)} {b k x : Int} (h : ¬ x = b + k) (h2 : ¬ b + k < x) : runStep (l ++ [(b, k)]) x = l ++ [(b, k)] := by
  unfold runStep
  simp [h, h2]
theorem runsOf_take {ns : List Int} {i : Nat} {x : Int} (h : ns[i]? = some x) : runsOf (ns.take (i + 1)) = runStep (runsOf (ns.take i)) x := by
  unfold runsOf
  rw [List.take_add_one, h]
  simp [List.foldl_append]
theorem runStep_len (l : List (Int × Int)) (x : Int) : (runStep l x).length ≤ l.length + 1 := by
  rcases List.eq_nil_or_concat l with rfl | ⟨pr, ⟨b, k⟩, rfl⟩
  · exact Nat.le_refl _
  · rw [List.concat_eq_append]
    by_cases h : x = b + k
    · rw [runStep_on h]; simp
    · by_cases h2 : b + k < x
      · rw [runStep_new h h2]; simp
      · rw [runStep_old h h2]; simp
theorem runs_fold_len : ∀ (ns : List Int) (l : List (Int × Int)), (ns.foldl runStep l).length ≤ l.length + ns.length
  | [], l => Nat.le_refl _
  | x :: r, l => by
    have h1 := runs_fold_len r (runStep l x)
    have h2 := runStep_len l x
    rw [List.foldl_cons, List.length_cons]
    lia
theorem runsOf_len (ns : List Int) : (runsOf ns).length ≤ ns.length := by
  have := runs_fold_len ns []
  unfold runsOf
  simpa using this
noncomputable def datP (p : Int × Int) : Dat := .tuple [.int p.1, .int p.2]
theorem pairs_dat {tl : List (Addr × Obj)} {vs : List Value} {ps : List (Int × Int)} (h : ListRel (PairIn tl) vs ps) : DatAll tl vs (ps.map datP) := by
  induction h with
  | nil => exact .nil
  | cons r _ ih =>
    obtain ⟨R, t1, t2, rfl, hm⟩ := r
    exact .cons (.tuple hm (.cons (.int _ _) (.cons (.int _ _) .nil))) ih
theorem pairs_ok (ps : List (Int × Int)) : ∀ d ∈ ps.map datP, kqdOk 8 d = true := by
  intro d hd
  obtain ⟨p, _, rfl⟩ := List.mem_map.mp hd
  rfl
section
variable {prog : Program} {w : World} {A : Around} {E : Value → Shared → Prop} {s : Shared} {h₀ : Heap} {L : Addr} {news tl : List (Addr × Obj)} {Q : Value → Shared → Prop} {l e n n' : Nat} {vs : List Value} {ps : List (Int × Int)}
theorem pairs_ne_nil (N : News h₀ L s.heap news) (ml : (l, listOf vs.toArray n) ∈ news) (me : (e, listOf #[] n') ∈ news) (h1 : ListRel (PairIn tl) vs ps) (hs : ∀ p ∈ tl, p ∈ news) (hne : ps ≠ []) (hu : A.units + 64 < cLine) (h : Q (.bool true) s) : wpAny (model prog w) A (compareOp .NotEq (.ref l) (.ref e)) Q E s := by
  refine kqd_ne (ys := []) (n₂ := []) N ml rfl rfl (pairs_dat h1) hs me rfl rfl .nil (fun p hp => nomatch hp) (pairs_ok ps) (fun d hd => nomatch hd) hu ?_
  have e9 : ¬ (ps.map datP = []) := by
    intro q
    exact hne (List.map_eq_nil_iff.mp q)
  rw [decide_eq_false e9]
  exact h
theorem pairs_eq_nil (N : News h₀ L s.heap news) (ml : (l, listOf vs.toArray n) ∈ news) (me : (e, listOf #[] n') ∈ news) (h1 : ListRel (PairIn tl) vs ps) (hs : ∀ p ∈ tl, p ∈ news) (hne : ps ≠ []) (hu : A.units + 64 < cLine) (h : Q (.bool false) s) : wpAny (model prog w) A (compareOp .Eq (.ref l) (.ref e)) Q E s := by
  refine kqd_eq (ys := []) (n₂ := []) N ml rfl rfl (pairs_dat h1) hs me rfl rfl .nil (fun p hp => nomatch hp) (pairs_ok ps) (fun d hd => nomatch hd) hu ?_
  have e9 : ¬ (ps.map datP = []) := by
    intro q
    exact hne (List.map_eq_nil_iff.mp q)
  rw [decide_eq_false e9]
  exact h
end
theorem runs_loop {w : World} {A : Around} {E : Value → Shared → Prop} {s : Shared} {env : Env} {h₀ : Heap} {x : Str} {body : List Stmt} {Q : Flow → Shared → Prop} {prog : Program}
    {m₀ : Str → Option Value} {rest : List (Addr × Obj)} {ls l nn : Nat} {vs : List Value} {ns : List Int}
    (hh : A.handled = none) (F : Fr h₀ env.locals s.heap m₀) (N : News h₀ env.locals s.heap ((ls, listOf vs.toArray nn) :: (l, listOf #[] 0) :: rest)) (hi : IntsAre vs ns) (hz : ns.length ≤ 1000)
    (l1 : l < ls ∧ AllLt ls rest) (l2 : AllLt l rest)
    (turnA : ∀ (i : Nat) (n : Int) t (c : RnSt) I h tk oI, ns[i]? = some n → RnInv l ns i c → c.prs = [] → l ≠ I → ls ≠ I → (∀ p ∈ c.tl ++ rest, p.1 ≠ I) → (∀ p ∈ c.tl ++ rest, p.1 ≠ l) → ls ≠ l →
      Fr h₀ env.locals h (fun z => if z = x then some (.int n t) else m₀ z) → News h₀ env.locals h ((I, oI) :: (l, listOf #[] c.nn) :: (ls, listOf vs.toArray nn) :: (c.tl ++ rest)) →
      wpAny (model prog w) A (execs body env) (LPost h₀ env.locals x (fun _ => m₀) (rnLed (ls, listOf vs.toArray nn) l rest) (RnInv l ns (i + 1)) I oI { s with heap := h, toks := tk } Q) E { s with heap := h, toks := tk })
    (turnB : ∀ (i : Nat) (n : Int) t (c : RnSt) I h tk oI (pr : List (Int × Int)) (rf : List Value) (b k : Int) (R : Nat) (t1 t2 : Tok), ns[i]? = some n → RnInv l ns i c → c.prs = pr ++ [(b, k)] → rf.length ≤ 1000 → ListRel (PairIn c.tl) (rf ++ [Value.ref R]) (pr ++ [(b, k)]) → ListRel (PairIn c.tl) rf pr → (R, tupO [.int b t1, .int k t2]) ∈ c.tl → R ≠ l → l ≠ I → ls ≠ I → (∀ p ∈ c.tl ++ rest, p.1 ≠ I) → (∀ p ∈ c.tl ++ rest, p.1 ≠ l) → ls ≠ l →
      Fr h₀ env.locals h (fun z => if z = x then some (.int n t) else m₀ z) → News h₀ env.locals h ((I, oI) :: (l, listOf (rf ++ [Value.ref R]).toArray c.nn) :: (R, tupO [.int b t1, .int k t2]) :: (ls, listOf vs.toArray nn) :: (c.tl ++ rest)) →
      wpAny (model prog w) A (execs body env) (LPost h₀ env.locals x (fun _ => m₀) (rnLed (ls, listOf vs.toArray nn) l rest) (RnInv l ns (i + 1)) I oI { s with heap := h, toks := tk } Q) E { s with heap := h, toks := tk })
    (done : ∀ (c : RnSt) (u : Option Value) h tk, ListRel (PairIn c.tl) c.refs (runsOf ns) → (∀ p ∈ c.tl, l < p.1) → Fr h₀ env.locals h (fun z => if z = x then u else m₀ z) → News h₀ env.locals h ((l, listOf c.refs.toArray c.nn) :: (ls, listOf vs.toArray nn) :: (c.tl ++ rest)) → Halt (Q .next { s with heap := h, toks := tk })) :
    wpAny (model prog w) A (pyIter (.ref ls)) (fun it s₂ => LoopAtV prog w A h₀ env x body Q E it s₂) E s := by
  have hlen := hi.length
  have off : ∀ (c : RnSt) (n : Nat), RnInv l ns n c → ∀ p ∈ c.tl ++ rest, p.1 ≠ l := by
    rintro c n ⟨_, _, hc⟩ p hp
    rcases List.mem_append.mp hp with hp | hp
    · exact Nat.ne_of_gt (hc p hp)
    · exact Nat.ne_of_lt (ktn_ltOf l2 p hp)
  refine lp_list (fun _ => m₀) (rnLed (ls, listOf vs.toArray nn) l rest) (fun i c => RnInv l ns i c) ⟨[], [], 0, []⟩ hh F N (.head _) (fun i c _ => .tail _ (.head _)) (fun _ _ => rfl) ?_ ⟨.nil, rfl, fun p hp => nomatch hp⟩ ?_ ?_
  · intro p hp
    simp only [rnLed, List.nil_append, List.mem_cons] at hp
    rcases hp with rfl | rfl | hp
    · exact .tail _ (.head _)
    · exact .head _
    · exact .tail _ (.tail _ hp)
  · intro i v c I h tk oI hv hI ho F' N'
    obtain ⟨n, t, rfl, hn⟩ := hi.at _ _ hv
    have o1 : l ≠ I := ho (l, _) (.head _)
    have o2 : ls ≠ I := ho (ls, _) (.tail _ (.head _))
    have o3 : ∀ p ∈ c.tl ++ rest, p.1 ≠ I := fun p hp => ho p (.tail _ (.tail _ hp))
    rcases List.eq_nil_or_concat c.prs with e | ⟨pr, ⟨b, k⟩, e⟩
    · have h1 := hI.1
      rw [e] at h1
      have e2 : c.refs = [] := by
        generalize c.refs = z at h1
        cases h1
        rfl
      have N2 : News h₀ env.locals h ((I, oI) :: (l, listOf c.refs.toArray c.nn) :: (ls, listOf vs.toArray nn) :: (c.tl ++ rest)) := N'
      rw [e2] at N2
      exact turnA i n t c I h tk oI hn hI e o1 o2 o3 (off c i hI) (Nat.ne_of_gt l1.1) F' N2
    · have h1 := hI.1
      rw [e, List.concat_eq_append] at h1
      obtain ⟨rf, v, e2, h2, R, t1, t2, rfl, hm⟩ := h1.snoc_inv
      have h1' := h1
      rw [e2] at h1'
      have hln := h1.length
      rw [e2, ← List.concat_eq_append (as := pr), ← e, hI.2.1] at hln
      have hl2 := runsOf_len (ns.take i)
      have hl3 : (ns.take i).length ≤ ns.length := by rw [List.length_take]; exact Nat.min_le_right _ _
      have N2 : News h₀ env.locals h ((I, oI) :: (l, listOf c.refs.toArray c.nn) :: (ls, listOf vs.toArray nn) :: (c.tl ++ rest)) := N'
      rw [e2] at N2
      refine turnB i n t c I h tk oI pr rf b k R t1 t2 hn hI (by rw [e, List.concat_eq_append]) ?_ h1' h2 hm (Nat.ne_of_gt (hI.2.2 _ hm)) o1 o2 o3 (off c i hI) (Nat.ne_of_gt l1.1) F' (cb_drop N2 fun p hp => ?_)
      · rw [List.length_append] at hln
        simp only [List.length_cons, List.length_nil] at hln
        lia
      rcases List.mem_cons.mp hp with rfl | hp
      · exact .head _
      · rcases List.mem_cons.mp hp with rfl | hp
        · exact .tail _ (.head _)
        · rcases List.mem_cons.mp hp with rfl | hp
          · exact .tail _ (.tail _ (.tail _ (List.mem_append_left _ hm)))
          · exact .tail _ (.tail _ hp)
  · intro c u h tk hI F' N'
    refine done c u h tk ?_ hI.2.2 F' N'
    have e := hI.2.1
    rw [hlen, List.take_length] at e
    rw [← e]
    exact hI.1
end
section
section
variable {c : Nat → Int} {n : Nat} {cmp : Nat → Nat → (Bool → Shared → Prop) → Shared → Prop}
noncomputable def Pm (n : Nat) (p : Array Nat) : Prop := p.toList.Perm (List.range n)
theorem Pm.size {p : Array Nat} (h : Pm n p) : p.size = n := by
  have := h.length_eq
  simpa using this
theorem Pm.lt {p : Array Nat} (h : Pm n p) {k : Nat} (hk : k < n) : p.getD k 0 < n := by
  have hs := h.size
  have e : p.getD k 0 = p[k] := by simp [Array.getD, hs, hk]
  rw [e]
  have hm : p[k] ∈ p.toList := by simp
  exact List.mem_range.mp (h.mem_iff.mp hm)
theorem Pm.ne {p : Array Nat} (h : Pm n p) (hi : ∀ i j, i < n → j < n → c i = c j → i = j) {i j : Nat} (hij : i < j) (hj : j < n) : c (p.getD i 0) ≠ c (p.getD j 0) := by
  intro e
  have e2 := hi _ _ (h.lt (by lia)) (h.lt hj) e
  have hs := h.size
  have hn : p.toList.Nodup := h.nodup_iff.mpr List.nodup_range
  have e3 : p.getD i 0 = p[i] := by simp [Array.getD, hs, Nat.lt_trans hij hj]
  have e4 : p.getD j 0 = p[j] := by simp [Array.getD, hs, hj]
  rw [e3, e4] at e2
  have hl : p.toList.length = n := by simpa using hs
  have := (List.getElem_inj (h₀ := by lia) (h₁ := by lia) hn).mp (show p.toList[i]'(by lia) = p.toList[j]'(by lia) by simpa using e2)
  lia
noncomputable def Asc (c : Nat → Int) (p : Array Nat) (m : Nat) : Prop := ∀ i j, i < j → j < m → c (p.getD i 0) < c (p.getD j 0)
noncomputable def Dsc (c : Nat → Int) (p : Array Nat) (m : Nat) : Prop := ∀ i j, i < j → j < m → c (p.getD j 0) < c (p.getD i 0)
theorem Asc.up {p : Array Nat} {k : Nat} (h : Asc c p k) (hk : 1 ≤ k) (hl : c (p.getD (k - 1) 0) < c (p.getD k 0)) : Asc c p (k + 1) := by
  intro i j hij hj
  by_cases e : j = k
  · subst e
    by_cases e2 : i = j - 1
    · rw [e2]; exact hl
    · exact Int.lt_trans (h i (j - 1) (by lia) (by lia)) hl
  · exact h i j hij (by lia)
theorem Dsc.up {p : Array Nat} {k : Nat} (h : Dsc c p k) (hk : 1 ≤ k) (hl : c (p.getD k 0) < c (p.getD (k - 1) 0)) : Dsc c p (k + 1) := by
  intro i j hij hj
  by_cases e : j = k
  · subst e
    by_cases e2 : i = j - 1
    · rw [e2]; exact hl
    · exact Int.lt_trans hl (h i (j - 1) (by lia) (by lia))
  · exact h i j hij (by lia)
variable {s : Shared} (hc : ∀ i j C, i < n → j < n → C (decide (c i < c j)) s → cmp i j C s) (hi : ∀ i j, i < n → j < n → c i = c j → i = j)
include hc hi
theorem s_asc {p : Array Nat} (hp : Pm n p) {Q : Nat → Shared → Prop} : ∀ (f k : Nat), 1 ≤ k → k + f ≤ n → Asc c p k → (∀ m, k ≤ m → m ≤ k + f → Asc c p m → (m = k + f ∨ c (p.getD m 0) < c (p.getD (m - 1) 0)) → Q m s) → (kas_asc p f k).kasWp cmp Q s
  | 0, k, _, _, ha, h => h k (Nat.le_refl _) (Nat.le_refl _) ha (.inl rfl)
  | f + 1, k, h1, h2, ha, h => by
    refine hc _ _ _ (hp.lt (by lia)) (hp.lt (by lia)) ?_
    by_cases e : c (p.getD k 0) < c (p.getD (k - 1) 0)
    · rw [decide_eq_true e]
      dsimp only
      rw [if_pos rfl]
      exact h k (Nat.le_refl _) (by lia) ha (.inr e)
    · rw [decide_eq_false e]
      dsimp only
      rw [if_neg Bool.false_ne_true]
      have hne := hp.ne hi (i := k - 1) (j := k) (by lia) (by lia)
      exact s_asc hp f (k + 1) (by lia) (by lia) (ha.up h1 (by lia)) fun m a b => by
        have q := h m (by lia) (by lia)
        rw [show k + 1 + f = k + (f + 1) by lia]
        exact q
theorem s_desc {p : Array Nat} (hp : Pm n p) {Q : Array Nat × Nat × Nat → Shared → Prop} : ∀ (f k : Nat), 1 ≤ k → k + f ≤ n → Dsc c p k → (∀ m, k ≤ m → m ≤ k + f → Dsc c p m → Q (p, m, 0) s) → (kas_desc f p k 0).kasWp cmp Q s
  | 0, k, _, _, ha, h => h k (Nat.le_refl _) (Nat.le_refl _) ha
  | f + 1, k, h1, h2, ha, h => by
    refine hc _ _ _ (hp.lt (by lia)) (hp.lt (by lia)) ?_
    by_cases e : c (p.getD k 0) < c (p.getD (k - 1) 0)
    · rw [decide_eq_true e]
      dsimp only
      rw [if_pos rfl, if_neg (by lia)]
      exact s_desc hp f (k + 1) (by lia) (by lia) (ha.up h1 e) fun m a b => h m (by lia) (by lia)
    · rw [decide_eq_false e]
      dsimp only
      rw [if_neg Bool.false_ne_true]
      have hne := hp.ne hi (i := k - 1) (j := k) (by lia) (by lia)
      refine hc _ _ _ (hp.lt (by lia)) (hp.lt (by lia)) ?_
      rw [decide_eq_true (by lia)]
      dsimp only
      rw [if_pos rfl]
      exact h k (Nat.le_refl _) (by lia) ha
omit hc hi in
theorem getD_rev {p : Array Nat} {m k : Nat} (hm : m ≤ p.size) (hk : k < m) : (kas_rev p 0 m).getD k 0 = p.getD (m - 1 - k) 0 := by
  have e := getElem?_mirror_all (xs := p) (i := 0) (j := m) hm k
  rw [if_pos ⟨Nat.zero_le _, hk⟩] at e
  have e2 : ∀ (a : Array Nat) (i : Nat), a.getD i 0 = (a[i]?).getD 0 := fun a i => Array.getD_eq_getD_getElem?
  rw [e2, e2]
  unfold kas_rev
  rw [e]
  have e3 : 0 + m - 1 - k = m - 1 - k := by lia
  rw [e3]
omit hc hi in
theorem Pm.rev {p : Array Nat} (h : Pm n p) (m : Nat) : Pm n (kas_rev p 0 m) := (mirror_perm p 0 m _).toList.trans h
omit hc hi in
theorem Dsc.rev {p : Array Nat} {m : Nat} (hm : m ≤ p.size) (h : Dsc c p m) : Asc c (kas_rev p 0 m) m := by
  intro i j hij hj
  rw [getD_rev hm (by lia), getD_rev hm hj]
  exact h _ _ (by lia) (by lia)
theorem s_count {p : Array Nat} (hp : Pm n p) (h2 : 1 ≤ n) {Q : Nat × Array Nat → Shared → Prop} (h : ∀ m p', 1 ≤ m → m ≤ n → Pm n p' → Asc c p' m → Q (m, p') s) : (kas_count n p).kasWp cmp Q s := by
  unfold kas_count
  rw [KasT.kasWp_bind]
  refine s_asc hc hi hp (n - 1) 1 (Nat.le_refl _) (by lia) (fun i j a b => by lia) fun m m1 m2 ha hst => ?_
  by_cases e : (m == n) = true
  · rw [if_pos e]
    exact h m p m1 (by lia) hp ha
  · rw [if_neg e]
    have e' : m ≠ n := fun q => e (by rw [q]; exact beq_self_eq_true n)
    by_cases e1 : m > 1
    · rw [if_pos e1]
      refine hc _ _ _ (hp.lt (by lia)) (hp.lt (by lia)) ?_
      rw [decide_eq_true (ha 0 (m - 1) (by lia) (by lia))]
      dsimp only
      rw [if_pos rfl]
      exact h m p m1 (by lia) hp ha
    · rw [if_neg e1]
      have em : m = 1 := by lia
      subst em
      have hd : c (p.getD 1 0) < c (p.getD 0 0) := by
        rcases hst with q | q
        · lia
        · exact q
      unfold kas_descPart
      rw [KasT.kasWp_bind]
      refine s_desc hc hi hp (n - (1 + 1)) (1 + 1) (by lia) (by lia) ?_ fun m m1 m2 hd2 => ?_
      · intro i j a b
        have : i = 0 := by lia
        have : j = 1 := by lia
        subst i j
        exact hd
      · rw [if_neg (by simp)]
        unfold kas_tail3
        rw [KasT.kasWp_bind]
        exact s_asc hc hi (hp.rev m) (n - m) m (by lia) (by lia) (hd2.rev (by rw [hp.size]; lia)) fun m' a b ha' _ => h m' _ (by lia) (by lia) (hp.rev m) ha'
theorem s_place {p : Array Nat} (hp : Pm n p) {k : Nat} (hk : k < n) (ha : Asc c p k) {Q : Nat → Shared → Prop} : ∀ (f l r : Nat), l ≤ r → r ≤ k → r - l ≤ f → (∀ i, i < l → c (p.getD i 0) < c (p.getD k 0)) → (∀ i, r ≤ i → i < k → c (p.getD k 0) < c (p.getD i 0)) →
    (∀ l', l' ≤ k → (∀ i, i < l' → c (p.getD i 0) < c (p.getD k 0)) → (∀ i, l' ≤ i → i < k → c (p.getD k 0) < c (p.getD i 0)) → Q l' s) → (kas_place p k f l r).kasWp cmp Q s
  | 0, l, r, h1, h2, h3, a, b, h => h l (by lia) a fun i x y => b i (by lia) y
  | f + 1, l, r, h1, h2, h3, a, b, h => by
    unfold kas_place
    by_cases e : l ≥ r
    · rw [if_pos e]
      exact h l (by lia) a fun i x y => b i (by lia) y
    · rw [if_neg e]
      refine hc _ _ _ (hp.lt hk) (hp.lt (by lia)) ?_
      by_cases e2 : c (p.getD k 0) < c (p.getD ((l + r) / 2) 0)
      · rw [decide_eq_true e2]
        dsimp only
        rw [if_pos rfl]
        refine s_place hp hk ha f l ((l + r) / 2) (by lia) (by lia) (by lia) a (fun i x y => ?_) h
        by_cases e3 : i = (l + r) / 2
        · rw [e3]; exact e2
        · exact Int.lt_trans e2 (ha _ i (by lia) y)
      · rw [decide_eq_false e2]
        dsimp only
        rw [if_neg Bool.false_ne_true]
        have hne := hp.ne hi (i := (l + r) / 2) (j := k) (by lia) hk
        refine s_place hp hk ha f ((l + r) / 2 + 1) r (by lia) (by lia) (by lia) (fun i x => ?_) b h
        by_cases e3 : i = (l + r) / 2
        · rw [e3]; lia
        · exact Int.lt_trans (ha i ((l + r) / 2) (by lia) (by lia)) (by lia)
omit hc hi in
theorem getD_bub {p : Array Nat} {k l i : Nat} (hk : k < p.size) (hl : l ≤ k) : (bubble p k (k - l)).getD i 0 = if i = l then p.getD k 0 else if l < i ∧ i ≤ k then p.getD (i - 1) 0 else p.getD i 0 := by
  have e := getElem?_bubble (xs := p) hk (k - l) (by lia) i
  have e2 : ∀ (a : Array Nat) (i : Nat), a.getD i 0 = (a[i]?).getD 0 := fun a i => Array.getD_eq_getD_getElem?
  have e3 : k - (k - l) = l := by lia
  rw [e3] at e
  rw [e2, e, e2, e2, e2]
  split
  · rfl
  · split <;> rfl
theorem s_bin {Q : Array Nat → Shared → Prop} : ∀ (f : Nat) (p : Array Nat) (k : Nat), Pm n p → Asc c p k → k + f ≤ n → (∀ p', Pm n p' → Asc c p' (k + f) → Q p' s) → (kas_bin f p k).kasWp cmp Q s
  | 0, p, k, hp, ha, _, h => h p hp ha
  | f + 1, p, k, hp, ha, hk, h => by
    unfold kas_bin
    rw [KasT.kasWp_bind]
    refine s_place hc hi hp (by lia) ha k 0 k (by lia) (Nat.le_refl _) (by lia) (fun i x => by lia) (fun i x y => by lia) fun l hl a b => ?_
    refine s_bin f _ (k + 1) ((bubble_perm p k _).toList.trans hp) ?_ (by lia) fun p' h1 h2 => h p' h1 (by rw [show k + (f + 1) = k + 1 + f by lia]; exact h2)
    have hks : k < p.size := by rw [hp.size]; lia
    intro i j hij hj
    rw [getD_bub hks hl, getD_bub hks hl]
    by_cases ei : i = l
    · rw [if_pos ei, if_neg (by lia), if_pos (by lia)]
      exact b _ (by lia) (by lia)
    · rw [if_neg ei]
      by_cases ei2 : l < i ∧ i ≤ k
      · rw [if_pos ei2, if_neg (by lia), if_pos (by lia)]
        exact ha _ _ (by lia) (by lia)
      · rw [if_neg ei2]
        by_cases ej : j = l
        · rw [if_pos ej]
          exact a _ (by lia)
        · rw [if_neg ej]
          by_cases ej2 : l < j ∧ j ≤ k
          · rw [if_pos ej2]
            exact ha _ _ (by lia) (by lia)
          · rw [if_neg ej2]
            exact ha _ _ hij (by lia)
theorem s_sort (h2 : 1 ≤ n) {Q : Array Nat → Shared → Prop} (h : ∀ p, Pm n p → Asc c p n → Q p s) : (kas_sort n).kasWp cmp Q s := by
  unfold kas_sort
  rw [KasT.kasWp_bind]
  refine s_count hc hi (by show List.Perm _ _; exact .refl _) h2 fun m p' m1 m2 hp ha => ?_
  by_cases e : m < n
  · rw [if_pos e]
    have em : max m 1 = m := by lia
    rw [em]
    exact s_bin hc hi (n - m) p' m hp ha (by lia) fun p'' h1 h3 => h p'' h1 (by rw [show m + (n - m) = n by lia] at h3; exact h3)
  · rw [if_neg e]
    have em : m = n := by lia
    rw [em] at ha
    exact h p' hp ha
end
end
section
noncomputable def code (p : Int × Int) : Int := p.1 * 1000 + p.2
noncomputable def Small (p : Int × Int) : Prop := 0 ≤ p.1 ∧ p.1 < 1000 ∧ 0 ≤ p.2 ∧ p.2 < 1000
theorem code_lt {p q : Int × Int} (hp : Small p) (hq : Small q) : decide (code p < code q) = if p.1 = q.1 then decide (p.2 < q.2) else decide (p.1 < q.1) := by
  obtain ⟨a1, a2, a3, a4⟩ := hp
  obtain ⟨b1, b2, b3, b4⟩ := hq
  unfold code
  by_cases e : p.1 = q.1
  · rw [if_pos e, e]
    by_cases e2 : p.2 < q.2
    · rw [decide_eq_true e2, decide_eq_true (by lia)]
    · rw [decide_eq_false e2, decide_eq_false (by lia)]
  · rw [if_neg e]
    by_cases e2 : p.1 < q.1
    · rw [decide_eq_true e2, decide_eq_true (by lia)]
    · rw [decide_eq_false e2, decide_eq_false (by lia)]
theorem code_inj {p q : Int × Int} (hp : Small p) (hq : Small q) (h : code p = code q) : p = q := by
  obtain ⟨a1, a2, a3, a4⟩ := hp
  obtain ⟨b1, b2, b3, b4⟩ := hq
  unfold code at h
  exact Prod.ext (by lia) (by lia)
theorem ListRel.at {β : Type} {R : Value → β → Prop} {vs : List Value} {bs : List β} (h : ListRel R vs bs) : ∀ {i : Nat} {b : β}, bs[i]? = some b → ∃ v, vs[i]? = some v ∧ R v b := by
  induction h with
  | nil => intro i b e; simp at e
  | cons r _ ih =>
    intro i b e
    cases i with
    | zero => simp at e; subst e; exact ⟨_, rfl, r⟩
    | succ i => simp at e; obtain ⟨v, h1, h2⟩ := ih e; exact ⟨v, by simpa using h1, h2⟩
section
variable {prog : Program} {w : World} {A : Around} {E : Value → Shared → Prop} {s : Shared} {h₀ : Heap} {L : Addr} {m : Str → Option Value} {news tl : List (Addr × Obj)} {vs : List Value} {ps : List (Int × Int)}
theorem pair_lt {x y : Nat} {p q : Int × Int} {t1 t2 t3 t4 : Tok} {Q : Bool → Shared → Prop} (hx : s.heap.get? x = some (tupO [.int p.1 t1, .int p.2 t2])) (hy : s.heap.get? y = some (tupO [.int q.1 t3, .int q.2 t4])) (hp : Small p) (hq : Small q) (h : Q (decide (code p < code q)) s) :
    wpAny (model prog w) A (keyLt' (tuples' true) (.ref x) (.ref y)) Q E s := by
  rw [code_lt hp hq] at h
  refine kat_lt hx rfl hy rfl (kat_cons (wpAny_eqBool_int ?_))
  by_cases e : p.1 = q.1
  · have e' : (p.1 == q.1) = true := beq_iff_eq.mpr e
    rw [if_pos e] at h
    rw [e']
    refine kat_yes (kat_cons (wpAny_eqBool_int ?_))
    by_cases e2 : p.2 = q.2
    · have e2' : (p.2 == q.2) = true := beq_iff_eq.mpr e2
      rw [e2']
      refine kat_yes (kat_nil ?_)
      have e3 : ¬ p.2 < q.2 := by lia
      rw [decide_eq_false e3] at h
      exact h
    · have e2' : (p.2 == q.2) = false := beq_eq_false_iff_ne.mpr e2
      rw [e2']
      refine kat_no (kat_one _ _ ?_)
      exact wpAny_lt_int h
  · have e' : (p.1 == q.1) = false := beq_eq_false_iff_ne.mpr e
    rw [if_neg e] at h
    rw [e']
    exact kat_no (oneLt_int h)
theorem pairs_tups (N : News h₀ L s.heap news) (hs : ∀ p ∈ tl, p ∈ news) (h : ListRel (PairIn tl) vs ps) : ∃ fs, KatTups s.heap vs fs ∧ fs.length = ps.length ∧ ∀ v ∈ fs, ∃ i t, v = .int i t := by
  induction h with
  | nil => exact ⟨[], .nil, rfl, fun v hv => nomatch hv⟩
  | cons r _ ih =>
    obtain ⟨fs, h1, h2, h3⟩ := ih
    obtain ⟨R, t1, t2, rfl, hm⟩ := r
    refine ⟨.int _ t1 :: fs, KatTups.cons (News.get N (hs _ hm)) rfl rfl rfl h1, by simp [h2], fun v hv => ?_⟩
    rcases List.mem_cons.mp hv with rfl | hv
    · exact ⟨_, _, rfl⟩
    · exact h3 v hv
theorem getD_at {v : Value} {i : Nat} (h : vs[i]? = some v) : vs.getD i Value.none = v := by
  rw [List.getD_eq_getElem?_getD, h]
  rfl
noncomputable def pickBy {α : Type} (l : List α) (d : α) (p : List Nat) : List α := p.map fun i => l.getD i d
theorem pickBy_perm {α : Type} (l : List α) (d : α) {p : List Nat} (h : p.Perm (List.range l.length)) : (pickBy l d p).Perm l := by
  have e : pickBy l d (List.range l.length) = l := by
    unfold pickBy
    refine List.ext_getElem (by simp) fun i h1 h2 => ?_
    simp [h2]
  have q : (pickBy l d p).Perm (pickBy l d (List.range l.length)) := h.map _
  rw [e] at q
  exact q
theorem pickBy_rel {R : Value → Int × Int → Prop} (h : ListRel R vs ps) : ∀ {p : List Nat}, (∀ i ∈ p, i < ps.length) → ListRel R (pickBy vs Value.none p) (pickBy ps (0, 0) p)
  | [], _ => .nil
  | i :: r, hp => by
    have hi := hp i (.head _)
    obtain ⟨v, h1, h2⟩ := h.at (List.getElem?_eq_getElem hi)
    have e1 := getD_at h1
    have e2 : ps.getD i (0, 0) = ps[i] := by simp [hi]
    show ListRel R (vs.getD i Value.none :: pickBy vs Value.none r) (ps.getD i (0, 0) :: pickBy ps (0, 0) r)
    rw [e1, e2]
    exact .cons h2 (pickBy_rel h fun j hj => hp j (.tail _ hj))
theorem sorted_pairs {l nn : Nat} {Q : Value → Shared → Prop} (F : Fr h₀ L s.heap m) (N : News h₀ L s.heap news) (ml : (l, listOf vs.toArray nn) ∈ news) (h1 : ListRel (PairIn tl) vs ps) (hs : ∀ p ∈ tl, p ∈ news) (hb : ∀ p ∈ ps, Small p) (hnd : ps.Nodup) (h2 : 2 ≤ ps.length) (h64 : ps.length < 64)
    (h : ∀ D vs' ps' c h', Fr h₀ L h' m → News h₀ L h' ((D, listOf vs'.toArray c) :: news) → (∀ q ∈ news, q.1 < D) → ListRel (PairIn tl) vs' ps' → ps'.Perm ps → ps'.Pairwise (fun a b => code a < code b) → Q (.ref D) { s with heap := h' }) :
    wpAny (model prog w) A (call (.builtin "sorted") [.ref l]) Q E s := by
  have hlen := h1.length
  refine kat_sorted F N (News.isList N ml) (by lia) (by lia) fun D e1 h' F' N' hD => ?_
  have hs' : ∀ p ∈ tl, p ∈ (D, seqObj "list" #[] e1) :: news := fun p hp => .tail _ (hs p hp)
  obtain ⟨fs, k1, k2, k3⟩ := pairs_tups (s := { s with heap := h' }) N' hs' h1
  refine kat_kind (T := .type "int") k1 (by lia) (fun v hv => ?_) rfl ?_
  · obtain ⟨i, t, rfl⟩ := k3 v hv
    exact Looks.of_pure rfl
  · have hat : ∀ i, i < vs.length → ∃ (R : Nat) (t1 t2 : Tok), vs.getD i Value.none = .ref R ∧ h'.get? R = some (tupO [.int (ps.getD i (0, 0)).1 t1, .int (ps.getD i (0, 0)).2 t2]) ∧ Small (ps.getD i (0, 0)) := fun i hi => by
      have hi' : i < ps.length := by lia
      obtain ⟨v, a1, R, t1, t2, rfl, hm⟩ := h1.at (List.getElem?_eq_getElem hi')
      have e2 : ps.getD i (0, 0) = ps[i] := by simp [hi']
      refine ⟨R, t1, t2, getD_at a1, ?_, ?_⟩
      · rw [e2]; exact N'.get (hs' _ hm)
      · rw [e2]; exact hb _ (List.getElem_mem hi')
    refine s_sort (c := fun i => code (ps.getD i (0, 0))) (n := vs.length) (fun i j C hi hj hC => ?_) (fun i j hi hj e => ?_) (by lia) fun p hp ha => ?_
    · obtain ⟨R, t1, t2, e1, g1, b1⟩ := hat i hi
      obtain ⟨R', t3, t4, e2, g2, b2⟩ := hat j hj
      unfold kas_ask
      rw [e1, e2]
      exact pair_lt g1 g2 b1 b2 hC
    · have hi' : i < ps.length := by lia
      have hj' : j < ps.length := by lia
      obtain ⟨_, _, _, _, _, b1⟩ := hat i hi
      obtain ⟨_, _, _, _, _, b2⟩ := hat j hj
      have e' := code_inj b1 b2 e
      have e2 : ps.getD i (0, 0) = ps[i] := by simp [hi']
      have e3 : ps.getD j (0, 0) = ps[j] := by simp [hj']
      rw [e2, e3] at e'
      exact (List.getElem_inj (h₀ := hi') (h₁ := hj') hnd).mp e'
    · have hpl : p.toList.Perm (List.range ps.length) := by rw [← hlen]; exact hp
      have hin : ∀ i ∈ p.toList, i < ps.length := fun i hi => List.mem_range.mp (hpl.mem_iff.mp hi)
      refine KasFin.intro F' N' (UpdF.head (fun q hq => Nat.ne_of_lt (hD q hq))) fun h'' c F'' N'' => ?_
      refine h D (pickBy vs Value.none p.toList) (pickBy ps (0, 0) p.toList) c h'' F'' N'' hD (pickBy_rel h1 hin) (pickBy_perm ps _ hpl) ?_
      rw [List.pairwise_iff_getElem]
      intro i j hi hj hij
      have hsz : p.toList.length = ps.length := by simpa using hpl.length_eq
      have hsz' : p.size = ps.length := by simpa using hsz
      unfold pickBy at hi hj ⊢
      rw [List.length_map] at hi hj
      rw [List.getElem_map, List.getElem_map]
      have q := ha i j hij (by lia)
      have e1 : p.getD i 0 = p.toList[i] := by simp [Array.getD, hsz', show i < ps.length by lia]
      have e2 : p.getD j 0 = p.toList[j] := by simp [Array.getD, hsz', show j < ps.length by lia]
      rw [e1, e2] at q
      exact q
end
end
section
section
open Builtin
variable {prog : Program} {w : World} {A : Around} {E : Value → Shared → Prop} {s : Shared} {h₀ : Heap} {L : Addr} {m : Str → Option Value} {news : List (Addr × Obj)} {vs : List Value}
theorem sort_short {a : Addr} {n : Nat} {P : PySem.Fin → Shared → Prop} (ho : s.heap.get? a = some (seqObj "list" vs.toArray n)) (hz : vs.length < 2)
    (h : P (.done (.ret .none)) { s with heap := sortedHeap s.heap a vs vs.toArray }) :
    wpAny (model prog w) A (Builtin.«list.sort» ⟨[.ref a], []⟩) P E s := by
  have ha : a < s.heap.objs.size := Heap.lt_size ho
  have hsz : vs.toArray.size < 2 := by rw [List.size_toArray]; exact hz
  rw [list_sort_plain]
  refine wpAny_bind (listItems_at ho rfl ?_)
  refine wpAny_bind (listUpdate_at ho rfl ?_ (by rw [List.size_toArray, sizeLine_eq]; lia) (Nat.zero_le _))
  obtain ⟨e1, ho1⟩ : ∃ e1, (s.heap.update a (Obj.mapSeq fun _ => #[])).get? a = some (seqObj "list" #[] e1) := ⟨_, get?_update_seq ho (fun _ => #[])⟩
  refine wpAny_bind (seqEpoch_at ho1 rfl ?_)
  refine wpAny_bind (wpAny_newTuple ?_ (by show vs.length ≤ _; rw [sizeLine_eq]; lia))
  refine wpAny_bind (wpAny_newList ?_ (Nat.zero_le _))
  refine wpAny_holding ?_
  have ho6 : (((s.heap.update a (Obj.mapSeq fun _ => #[])).push (seqObj "tuple" vs.toArray 0)).push (seqObj "list" #[] 0)).get? a = some (seqObj "list" #[] e1) := by
    rw [Heap.get?_push_ne _ _ _ (by rw [size_push', Heap.size_update]; exact Nat.ne_of_lt (Nat.lt_succ_of_lt ha)), Heap.get?_push_ne _ _ _ (by rw [Heap.size_update]; exact Nat.ne_of_lt ha)]
    exact ho1
  show wpAny (model prog w) A _ P E { s with heap := ((s.heap.update a (Obj.mapSeq fun _ => #[])).push (seqObj "tuple" vs.toArray 0)).push (seqObj "list" #[] 0) }
  dsimp only
  rw [if_pos hsz, if_pos hsz]
  refine wpAny_bind (wpAny_pure ?_)
  rw [StateT.run_pure]
  refine wpAny_bind (wpAny_pure ?_)
  dsimp only
  have em : (vs.toArray.zip vs.toArray).map (·.2) = vs.toArray := by
    refine Array.ext (by simp) fun i h1 h2 => ?_
    simp
  refine wpAny_bind (seqEpoch_at ho6 rfl ?_)
  refine wpAny_bind (listUpdate_at ho6 rfl ?_ (hsz2 := by rw [Array.size_map]; show (pairsOf vs).size ≤ _; rw [pairsOf_size, sizeLine_eq]; lia))
  simp only [bne_self_eq_false, Bool.false_eq_true, if_false]
  refine wpAny_pure ?_
  have key : ∀ arr : Array Value, arr = vs.toArray → P (.done (.ret .none)) { s with heap := (((s.heap.update a (Obj.mapSeq fun _ => #[])).push (seqObj "tuple" vs.toArray 0)).push (seqObj "list" #[] 0)).update a (Obj.mapSeq fun _ => arr) } := by
    intro arr e
    rw [e]
    exact h
  exact key _ em
theorem sorted_short {l nn : Nat} {Q : Value → Shared → Prop} (F : Fr h₀ L s.heap m) (N : News h₀ L s.heap news) (ml : (l, listOf vs.toArray nn) ∈ news) (hz : vs.length < 2)
    (h : ∀ D c h', Fr h₀ L h' m → News h₀ L h' ((D, listOf vs.toArray c) :: news) → (∀ q ∈ news, q.1 < D) → Q (.ref D) { s with heap := h' }) :
    wpAny (model prog w) A (call (.builtin "sorted") [.ref l]) Q E s := by
  have hl : s.heap.IsList l vs.toArray := News.isList N ml
  refine Calls.call_function_entry kind_sorted plain_sorted entry_sorted (args_sorted1 _) ?_
  unfold Builtin.«sorted»
  refine wpAny_bind (m := checkCount "sorted" 1 1 _) (wpAny_pure ?_)
  refine wpAny_bind (collect_list hl ?_ (by rw [sizeLine_eq]; lia))
  refine wpAny_bind (wpAny_newList ?_ (by show vs.toArray.toList.length ≤ _; rw [sizeLine_eq]; simp; lia))
  have hsz : ((s.heap.push (seqObj "list" #[] 0)).update s.heap.objs.size (Obj.mapSeq (· ++ vs.toArray))).objs.size = s.heap.objs.size + 1 := by
    rw [Heap.size_update, size_push']
  have hoL : (((s.heap.push (seqObj "list" #[] 0)).update s.heap.objs.size (Obj.mapSeq (· ++ vs.toArray))).push (seqObj "list" vs.toArray 0)).get? (s.heap.objs.size + 1) = some (seqObj "list" vs.toArray 0) := by
    rw [← hsz]; exact Heap.get?_push_size _ rfl
  show wpAny _ _ _ _ _ { s with heap := ((s.heap.push (seqObj "list" #[] 0)).update s.heap.objs.size (Obj.mapSeq (· ++ vs.toArray))).push (seqObj "list" vs.toArray 0) }
  rw [hsz]
  refine wpAny_bind (wpAny_holding (wpAny_call_entry slot_list_sort ⟨_, hoL, rfl⟩ entry_list_sort (sort_short hoL hz ⟨_, rfl, ?_⟩) (args_list_sort _)))
  obtain ⟨e, he⟩ := sortedAll_at s.heap vs vs.toArray
  exact wpAny_pure ⟨_, rfl, h _ e _ (F.kept fun _ _ => sortedAll_old) (N.kept_cons F (fun _ _ => sortedAll_old) (Nat.le_succ _) he) fun q hq => Nat.lt_succ_of_lt (Heap.lt_size (N q hq).1)⟩
variable {tl : List (Addr × Obj)} {ps : List (Int × Int)}
theorem sorted_ps {l nn : Nat} {Q : Value → Shared → Prop} (F : Fr h₀ L s.heap m) (N : News h₀ L s.heap news) (ml : (l, listOf vs.toArray nn) ∈ news) (h1 : ListRel (PairIn tl) vs ps) (hs : ∀ p ∈ tl, p ∈ news) (hb : ∀ p ∈ ps, Small p) (hnd : ps.Nodup) (h64 : ps.length < 64)
    (h : ∀ D vs' ps' c h', Fr h₀ L h' m → News h₀ L h' ((D, listOf vs'.toArray c) :: news) → (∀ q ∈ news, q.1 < D) → ListRel (PairIn tl) vs' ps' → ps'.Perm ps → ps'.Pairwise (fun a b => code a < code b) → Q (.ref D) { s with heap := h' }) :
    wpAny (model prog w) A (call (.builtin "sorted") [.ref l]) Q E s := by
  have hlen := h1.length
  by_cases h2 : 2 ≤ ps.length
  · exact sorted_pairs F N ml h1 hs hb hnd h2 h64 h
  · refine sorted_short F N ml (by lia) fun D c h' F' N' l1 => h D vs ps c h' F' N' l1 h1 (.refl _) ?_
    match ps, h2 with
    | [], _ => exact .nil
    | [_], _ => exact List.pairwise_singleton _ _
    | _ :: _ :: _, h2 => exact absurd (by simp) h2
end
theorem sorted_uniq : ∀ {a b : List (Int × Int)}, a.Perm b → a.Pairwise (fun x y => code x < code y) → b.Pairwise (fun x y => code x < code y) → a = b
  | [], b, h, _, _ => (List.Perm.nil_eq h)
  | x :: a, [], h, _, _ => absurd h.length_eq (by simp)
  | x :: a, y :: b, h, ha, hb => by
    have e : x = y := by
      have hx : x ∈ y :: b := h.mem_iff.mp (.head _)
      have hy : y ∈ x :: a := h.mem_iff.mpr (.head _)
      rcases List.mem_cons.mp hx with e | hx
      · exact e
      · rcases List.mem_cons.mp hy with e | hy
        · exact e.symm
        · have q1 := (List.pairwise_cons.mp ha).1 y hy
          have q2 := (List.pairwise_cons.mp hb).1 x hx
          lia
    subst e
    rw [sorted_uniq (List.Perm.cons_inv h) (List.pairwise_cons.mp ha).2 (List.pairwise_cons.mp hb).2]
end
section
theorem rowsCp1 : True := by
  k_with_none
  k_with "eval ListComp" => focus ((k_here; first | (with_reducible refine' ListComp_W ?_ ?_ ?_ ?_ ?_ ?_ ?_ ?_; (rotate_right 8; (focus (k_asm)); (focus (with_unfolding_all rfl)); (focus (decide)); (focus (with_unfolding_all rfl)); (focus (decide)); (focus (with_unfolding_all rfl)); rotate_left 2); (rotate_right 1; (focus ((intro _; with_unfolding_all rfl))))) | (with_reducible refine' ListComp_WT ?_ ?_ ?_ ?_ ?_ ?_ ?_ ?_; (rotate_right 8; (focus (k_asm)); (focus (with_unfolding_all rfl)); (focus (decide)); (focus (with_unfolding_all rfl)); (focus (decide)); (focus (with_unfolding_all rfl)); rotate_left 2); (rotate_right 1; (focus ((intro _; with_unfolding_all rfl)))))))
  k_with "exec Assign cons ListComp" => focus ((k_here; k_dflt (first | refine Assign_ListComp_WT (_F₀ := by k_asm) (by rfl) (by with_unfolding_all rfl) (by with_unfolding_all rfl) (by decide) (by rfl) (by decide) (by rfl) (by rfl) (by rfl) ?_ | refine Assign_ListComp_W (_F₀ := by k_asm) (by rfl) (by with_unfolding_all rfl) (by with_unfolding_all rfl) (by decide) (by rfl) (by decide) (by rfl) (by rfl) (by rfl) ?_ | refine wpAny_Assign_Name ?_)))
  trivial
section
variable {prog : Program} {w : World} {A : Around} {h₀ : Heap} {L : Addr} {m : Str → Option Value} {env : Env} {ct elt : Expr} {x : Str} {scope : Scope} {cl : List (Str × Addr)} {Fin : Shared → List Value → List (Addr × Obj) → Prop} {news : List (Addr × Obj)} {S : List (Addr × Obj) → Prop} {n : Nat} {P : Nat → Value → Prop} {xv : Value} {s₁ : Shared}
noncomputable def PairEl (h₀ : Heap) (L : Addr) (m : Str → Option Value) (s₁ : Shared) (led : List (Addr × Obj)) (p : Int × Int) (v : Value) (s₂ : Shared) : Prop :=
  ∃ (h' : Heap) (tk' : Nat) (D : Nat) (t1 t2 : Tok), s₂ = { s₁ with heap := h', toks := tk' } ∧ Fr h₀ L h' m ∧ News h₀ L h' ((D, tupO [.int p.1 t1, .int p.2 t2]) :: led) ∧ v = .ref D ∧ AllLt D led
theorem comp_pairsT (I₀ : IterW prog w A xv s₁ S n P) (hn : n ≤ 100000) (F : Fr h₀ L s₁.heap m) (N : News h₀ L s₁.heap news) (hS : ∀ tl, S (tl ++ news)) (f : Nat → Bool) (g : Nat → Int × Int)
    (turn : ∀ (i : Nat) (v : Value) (ys : List Value) (tl : List (Addr × Obj)) (I : Nat) (oI : Obj) (C : Nat) (oC : Obj) (R : Nat) m₂ h tk (E' : Value → Shared → Prop), i < n → P i v → LCg.NsObj oC m₂ → m₂ x = some v → I ≠ C → I ≠ R → C ≠ R →
      Fr h₀ L h m → News h₀ L h ((I, oI) :: (C, oC) :: (R, LCg.lst ys) :: (tl ++ news)) → wpAny (model prog w) A (isTrue ct (compEnvC scope cl C env) (eval ct (compEnvC scope cl C env))) (fun ok s' => if ok = true then
        wpAny (model prog w) A (eval elt (compEnvC scope cl C env)) (fun y s₂ => Halt (f i = true ∧ PairEl h₀ L m s₁ ((I, oI) :: (C, oC) :: (R, LCg.lst ys) :: (tl ++ news)) (g i) y s₂)) E' s' else Halt (f i = false ∧ NoEl h₀ L m s₁ ((I, oI) :: (C, oC) :: (R, LCg.lst ys) :: (tl ++ news)) s')) E' { s₁ with heap := h, toks := tk })
    (done : ∀ (ys : List Value) (tl : List (Addr × Obj)) hg, ListRel (PairIn tl) ys (((List.range n).filter f).map g) → Fin { s₁ with heap := hg } ys (tl ++ news)) :
    SrcWT prog w A h₀ L m env ct elt x scope cl Fin xv s₁ := by
  refine ⟨news, S, n, P, I₀, by rw [sizeLine_eq]; lia, F, N, hS [], ?_⟩
  rintro s₂ ⟨hg, rfl⟩
  refine comp_invT (fun i ys nw => ∃ tl, nw = tl ++ news ∧ ListRel (PairIn tl) ys (((List.range i).filter f).map g)) ?_ ?_ n 0 [] _ (Nat.zero_add _) ⟨[], rfl, .nil⟩
  · rintro i ys nw v I oI C oC R m₂ h tk E' hi hP ⟨tl, rfl, hr⟩ hC hx F' N' off ne
    refine wpAny_mono (turn i v ys tl I oI C oC R m₂ h tk E' hi hP hC hx ne.1 ne.2.1 ne.2.2 F' N') (fun ok s' q => ?_) fun _ _ q => q
    cases ok with
    | true =>
      simp only [if_true] at q ⊢
      refine wpAny_mono q (fun y s₃ q => ?_) fun _ _ q => q
      obtain ⟨hf, h', tk', D, t1, t2, rfl, F3, N3, rfl, hlt⟩ := q
      have lt : ∀ q ∈ (I, oI) :: (C, oC) :: (R, LCg.lst ys) :: (tl ++ news), q.1 < D := ktn_ltOf hlt
      refine LCg.CompEnd.intro F3 N3 ((D, tupO [.int (g i).1 t1, .int (g i).2 t2]) :: (tl ++ news)) ?_ (LCg.Off3.of fun p hp => ?_) (hS ((D, tupO [.int (g i).1 t1, .int (g i).2 t2]) :: tl)) ⟨(D, tupO [.int (g i).1 t1, .int (g i).2 t2]) :: tl, rfl, ?_⟩
      · intro p hp
        simp only [List.mem_cons] at hp ⊢
        rcases hp with h | h | h | h | h
        · exact .inr (.inl h)
        · exact .inr (.inr (.inl h))
        · exact .inr (.inr (.inr (.inl h)))
        · exact .inl h
        · exact .inr (.inr (.inr (.inr h)))
      · rcases List.mem_cons.mp hp with rfl | hp
        · exact ⟨Nat.ne_of_gt (lt (I, oI) (.head _)), Nat.ne_of_gt (lt (C, oC) (.tail _ (.head _))), Nat.ne_of_gt (lt (R, LCg.lst ys) (.tail _ (.tail _ (.head _))))⟩
        · exact off.mem p hp
      · rw [List.range_succ, List.filter_append, List.map_append, List.filter_cons_of_pos hf]
        exact (hr.mono (PairIn.mono fun p hp => .tail _ hp)).snoc ⟨D, t1, t2, rfl, .head _⟩
    | false =>
      simp only [Bool.false_eq_true, if_false] at q ⊢
      obtain ⟨hf, h', tk', led', rfl, F3, N3, hsub⟩ := q
      refine LCg.CompEnd.intro F3 N3 (tl ++ news) hsub off (hS tl) ⟨tl, rfl, ?_⟩
      rw [List.range_succ, List.filter_append, List.map_append, List.filter_cons_of_neg (by rw [hf]; exact Bool.false_ne_true)]
      simpa using hr
  · rintro ys nw ⟨tl, rfl, hr⟩
    exact done ys tl hg hr
end
end
section
noncomputable def Ris (l : List Nat) : Prop := l.Pairwise (· < ·)
theorem Ris.lt {l : List Nat} (h : Ris l) {i k : Nat} {a b : Nat} (hik : i < k) (ha : l[i]? = some a) (hb : l[k]? = some b) : a < b := by
  obtain ⟨h1, rfl⟩ := List.getElem?_eq_some_iff.mp ha
  obtain ⟨h2, rfl⟩ := List.getElem?_eq_some_iff.mp hb
  exact List.pairwise_iff_getElem.mp h i k h1 h2 hik
theorem getD_of {xs : Array Nat} {i a d : Nat} (h : xs.toList[i]? = some a) : xs.getD i d = a := by
  have : xs[i]? = some a := by rw [← Array.getElem?_toList]; exact h
  simp [Array.getD_eq_getD_getElem?, this]
theorem below_go {xs : Array Nat} {j : Nat} (hr : Ris xs.toList) : ∀ (fuel lo hi : Nat), hi - lo ≤ fuel → lo ≤ hi → hi ≤ xs.size →
    (∀ i a, i < lo → xs.toList[i]? = some a → a < j) → (∀ i a, hi ≤ i → xs.toList[i]? = some a → j ≤ a) →
    SetTable.below.go xs j fuel lo hi ≤ xs.size ∧ (∀ i a, i < SetTable.below.go xs j fuel lo hi → xs.toList[i]? = some a → a < j) ∧ (∀ i a, SetTable.below.go xs j fuel lo hi ≤ i → xs.toList[i]? = some a → j ≤ a)
  | 0, lo, hi, hf, hl, hs, h1, h2 => by
    have e : lo = hi := by lia
    subst e
    exact ⟨hs, h1, h2⟩
  | fuel + 1, lo, hi, hf, hl, hs, h1, h2 => by
    unfold SetTable.below.go
    by_cases hlt : lo < hi
    · rw [if_pos hlt]
      dsimp only
      have hm : (lo + hi) / 2 < xs.toList.length := by simp only [Array.length_toList]; lia
      obtain ⟨b, hb⟩ : ∃ b, xs.toList[(lo + hi) / 2]? = some b := ⟨_, List.getElem?_eq_getElem hm⟩
      rw [getD_of hb]
      by_cases hbj : b < j
      · rw [if_pos hbj]
        refine below_go hr fuel _ _ (by lia) (by lia) hs (fun i a hi' ha => ?_) h2
        by_cases hi2 : i = (lo + hi) / 2
        · subst hi2; rw [hb] at ha; cases ha; exact hbj
        · exact Nat.lt_trans (hr.lt (by lia) ha hb) hbj
      · rw [if_neg hbj]
        refine below_go hr fuel _ _ (by lia) (by lia) (by lia) h1 (fun i a hi' ha => ?_)
        by_cases hi2 : i = (lo + hi) / 2
        · subst hi2; rw [hb] at ha; cases ha; exact Nat.le_of_not_lt hbj
        · exact Nat.le_trans (Nat.le_of_not_lt hbj) (Nat.le_of_lt (hr.lt (by lia) hb ha))
    · rw [if_neg hlt]
      have e : lo = hi := by lia
      subst e
      exact ⟨hs, h1, h2⟩
theorem below_spec {xs : Array Nat} {j : Nat} (hr : Ris xs.toList) :
    SetTable.below xs j ≤ xs.size ∧ (∀ i a, i < SetTable.below xs j → xs.toList[i]? = some a → a < j) ∧ (∀ i a, SetTable.below xs j ≤ i → xs.toList[i]? = some a → j ≤ a) := by
  refine below_go hr xs.size 0 xs.size (by lia) (Nat.zero_le _) (Nat.le_refl _) (fun i a h _ => absurd h (Nat.not_lt_zero _)) (fun i a h ha => ?_)
  rw [List.getElem?_eq_none (by simpa using h)] at ha
  cases ha
theorem below_not_mem {xs : Array Nat} {j : Nat} (hr : Ris xs.toList) (hn : (xs[SetTable.below xs j]? == some j) = false) : j ∉ xs.toList := by
  intro hm
  obtain ⟨i, hi⟩ := List.getElem?_of_mem hm
  obtain ⟨_, h1, h2⟩ := below_spec (j := j) hr
  have hb : SetTable.below xs j ≤ i := Nat.le_of_not_lt fun h => Nat.lt_irrefl _ (h1 i j h hi)
  by_cases e : SetTable.below xs j = i
  · rw [e, ← Array.getElem?_toList, hi] at hn
    simp at hn
  · have hlt : SetTable.below xs j < i := by lia
    have hsz : i < xs.toList.length := (List.getElem?_eq_some_iff.mp hi).1
    obtain ⟨b, hb'⟩ : ∃ b, xs.toList[SetTable.below xs j]? = some b := ⟨_, List.getElem?_eq_getElem (by lia)⟩
    have a1 := h2 _ _ (Nat.le_refl _) hb'
    have a2 := hr.lt hlt hb' hi
    lia
theorem insert_ris {xs : Array Nat} {j : Nat} (hr : Ris xs.toList) (hj : j ∉ xs.toList) : Ris (SetTable.insertAt xs (SetTable.below xs j) j).toList := by
  obtain ⟨h0, h1, h2⟩ := below_spec (j := j) hr
  rw [SetTable.toList_insertAt]
  have hr' : Ris (xs.toList.take (SetTable.below xs j) ++ xs.toList.drop (SetTable.below xs j)) := by rw [List.take_append_drop]; exact hr
  obtain ⟨p1, p2, p3⟩ := List.pairwise_append.mp hr'
  have hlow : ∀ a ∈ xs.toList.take (SetTable.below xs j), a < j := fun a ha => by
    obtain ⟨i, hi⟩ := List.getElem?_of_mem ha
    rw [List.getElem?_take] at hi
    split at hi
    · exact h1 i a (by assumption) hi
    · cases hi
  have hup : ∀ a ∈ xs.toList.drop (SetTable.below xs j), j < a := fun a ha => by
    have hne : a ≠ j := fun e => hj (e ▸ List.mem_of_mem_drop ha)
    obtain ⟨i, hi⟩ := List.getElem?_of_mem ha
    rw [List.getElem?_drop] at hi
    have := h2 _ a (Nat.le_add_right _ _) hi
    lia
  refine List.pairwise_append.mpr ⟨p1, List.pairwise_cons.mpr ⟨hup, p2⟩, fun a ha b hb => ?_⟩
  rcases List.mem_cons.mp hb with rfl | hb
  · exact hlow a ha
  · exact p3 a ha b hb
structure TabGood (led : Bool) (t : SetTable) : Prop where
  led : t.led = led
  dums : t.dummies = #[]
  ris : t.plain = true → Ris t.place.toList
theorem tg_fresh (led : Bool) : TabGood led (.fresh 0 0 led) := ⟨rfl, rfl, fun _ => List.Pairwise.nil⟩
theorem tg_standIn {led : Bool} {t : SetTable} (g : TabGood led t) (n : Nat) : TabGood led (t.standIn n) := ⟨g.led, rfl, fun h => Bool.noConfusion h⟩
theorem tg_plain_off {led : Bool} {t : SetTable} (g : TabGood led t) : TabGood led { t with plain := false } := ⟨g.led, g.dums, fun h => Bool.noConfusion h⟩
theorem has_nil (j : Nat) : SetTable.has #[] j = false := by
  simp [SetTable.has]
theorem slot_cases {t : SetTable} (hd : t.dummies = #[]) (j : Nat) : (∃ i, t.slot j = .live i) ∨ (t.slot j = .empty ∧ (t.place[SetTable.below t.place j]? == some j) = false) := by
  unfold SetTable.slot
  dsimp only
  cases h : (t.place[SetTable.below t.place j]? == some j) with
  | true => exact .inl ⟨_, by rw [if_pos rfl]⟩
  | false => refine .inr ⟨by rw [if_neg Bool.false_ne_true, hd, has_nil]; rfl, rfl⟩
theorem probe_go {t : SetTable} {hashAt : Nat → Int} {h : Int} (hd : t.dummies = #[]) : ∀ (fuel : Nat) (p : SetTable.Probe) {j : Nat} {d : Option Nat}, p.dummy = none → SetTable.probe.go t hashAt h fuel p = some (.empty j d) → d = none ∧ (t.place[SetTable.below t.place j]? == some j) = false
  | 0, p, j, d, _, e => by simp [SetTable.probe.go] at e
  | fuel + 1, p, j, d, hp, e => by
    unfold SetTable.probe.go at e
    have hadv : (t.advance p).dummy = none := by
      unfold SetTable.advance
      split
      · exact hp
      · exact hp
    rcases slot_cases hd p.j with ⟨i, hs⟩ | ⟨hs, hb⟩
    · rw [hs] at e
      dsimp only at e
      split at e
      · cases e
      · exact probe_go hd fuel _ hadv e
    · rw [hs] at e
      simp only [Option.some.injEq, SetTable.Met.empty.injEq] at e
      obtain ⟨rfl, rfl⟩ := e
      exact ⟨hp, hb⟩
theorem freeSlot_spec {t : SetTable} {h : Int} {j : Nat} {b : Bool} (hd : t.dummies = #[]) (e : t.freeSlot h = some (j, b)) : (t.place[SetTable.below t.place j]? == some j) = false := by
  unfold SetTable.freeSlot at e
  split at e
  · rename_i j' d' hp
    obtain ⟨rfl, hb⟩ := probe_go hd _ _ (by rfl) hp
    simp only [Option.getD_none, Option.some.injEq, Prod.mk.injEq] at e
    obtain ⟨rfl, _⟩ := e
    exact hb
  · cases e
theorem tg_orStandIn {led : Bool} {t : SetTable} (g : TabGood led t) (n : Nat) : TabGood led (t.orStandIn n) := by
  unfold SetTable.orStandIn
  split
  · exact g
  · exact tg_standIn g n
theorem tg_put {led : Bool} {t : SetTable} (g : TabGood led t) {j : Nat} (hj : (t.place[SetTable.below t.place j]? == some j) = false) : TabGood led (t.put j).1 := by
  refine ⟨g.led, ?_, fun hp => ?_⟩
  · show (if SetTable.has t.dummies j = true then _ else t.dummies) = #[]
    rw [g.dums, has_nil]; rfl
  · exact insert_ris (g.ris hp) (below_not_mem (g.ris hp) hj)
theorem tg_layNew {led : Bool} {t : SetTable} (g : TabGood led t) (es : Array (Int × Value)) (h : Int) (x : Value) : TabGood led (layNew t es h x).2.1 := by
  unfold layNew
  split
  · rename_i j b e
    exact tg_orStandIn (tg_put g (freeSlot_spec g.dums e)) _
  · exact tg_standIn g _
theorem filterMap_ris (f : Nat → Option Nat) : ∀ (n : Nat), Ris (((List.range n).filterMap fun j => (f j).map (j, ·)).map (·.1)) ∧ ∀ a ∈ (((List.range n).filterMap fun j => (f j).map (j, ·)).map (·.1)), a < n
  | 0 => ⟨List.Pairwise.nil, fun _ h => nomatch h⟩
  | n + 1 => by
    obtain ⟨h1, h2⟩ := filterMap_ris f n
    rw [List.range_succ, List.filterMap_append, List.map_append]
    have hl : ∀ a ∈ (([n].filterMap fun j => (f j).map (j, ·)).map (·.1)), a = n := by
      intro a ha
      cases hf : f n with
      | none => simp [hf] at ha
      | some b => simpa [hf] using ha
    have hp : Ris (([n].filterMap fun j => (f j).map (j, ·)).map (·.1)) := by
      unfold Ris
      cases hf : f n with
      | none => simp [hf]
      | some b => simp [hf]
    refine ⟨List.pairwise_append.mpr ⟨h1, hp, fun a ha b hb => ?_⟩, fun a ha => ?_⟩
    · rw [hl b hb]; exact h2 a ha
    · rcases List.mem_append.mp ha with ha | ha
      · exact Nat.lt_succ_of_lt (h2 a ha)
      · rw [hl a ha]; exact Nat.lt_succ_self _
theorem tg_relaid {led : Bool} {t t' : SetTable} (g : TabGood led t) {hs : Array Int} {n : Nat} {order : Array Nat} (e : t.relaid hs n = some (t', order)) : TabGood led t' := by
  unfold SetTable.relaid SetTable.laid at e
  simp only [Option.bind_eq_bind, Option.pure_def, Option.bind_eq_some_iff, Option.some.injEq, Prod.mk.injEq] at e
  obtain ⟨owner, _, rfl, _⟩ := e
  exact ⟨g.led, rfl, fun _ => by simpa using (filterMap_ris (fun j => owner.getD j none) _).1⟩
theorem tg_relayAll {led : Bool} {t : SetTable} (g : TabGood led t) (es : Array (Int × Value)) (n : Nat) : TabGood led (relayAll t es n).2.1 := by
  unfold relayAll
  split
  · rename_i t' order e
    dsimp only
    split
    · exact tg_relaid g e
    · exact tg_standIn g _
  · exact tg_standIn g _
theorem pickOrder_go {α : Type} (next : Nat → Nat) : ∀ (fuel k : Nat) (left : List α) (out : Array α), left.length ≤ fuel → (pickOrder.go next fuel k left out).toList.Perm (out.toList ++ left)
  | 0, k, left, out, h => by
    have : left = [] := List.eq_nil_of_length_eq_zero (by lia)
    subst this
    unfold pickOrder.go
    simp
  | fuel + 1, k, left, out, h => by
    unfold pickOrder.go
    cases left with
    | nil => simp
    | cons x r =>
      have hlt : next k % (x :: r).length < (x :: r).length := Nat.mod_lt _ (by simp)
      rw [List.getElem?_eq_getElem hlt]
      dsimp only
      refine (pickOrder_go next fuel (k + 1) _ _ (by rw [List.length_eraseIdx, if_pos hlt]; lia)).trans ?_
      rw [Array.toList_push, List.append_assoc]
      refine List.Perm.append_left _ ?_
      generalize next k % (x :: r).length = i at hlt
      have h1 := List.eraseIdx_eq_take_drop_succ (x :: r) i
      rw [h1]
      show ((x :: r)[i] :: (List.take i (x :: r) ++ List.drop (i + 1) (x :: r))).Perm (x :: r)
      refine (List.perm_middle.symm).trans ?_
      rw [List.getElem_cons_drop]
      rw [List.take_append_drop]
theorem pickOrder_perm {α : Type} (next : Nat → Nat) (xs : Array α) : (pickOrder next xs).toList.Perm xs.toList := by
  have := pickOrder_go next xs.size 0 xs.toList #[] (by simp)
  simpa [pickOrder] using this
end
section
noncomputable def keyE (e : Int × Value) : Int := match e.2 with
  | .int k _ => k
  | _ => 0
noncomputable def SetG (prog : Program) (w : World) (h : Heap) (a : Addr) (ks : List Int) : Prop :=
  ∃ o es ep t, h.get? a = some o ∧ o.ExactSet ∧ o.data = .set es ep t ∧ ElemsOf (intKind prog w) es.toList ∧ (es.toList.map keyE).Perm ks ∧ es.size < scanBound ∧ t.fits es.size = true ∧ TabGood (!w.params.followText "set-order") t
section
variable {prog : Program} {w : World} {A : Around} {E : Value → Shared → Prop} {s : Shared}
theorem sg_store {h : Heap} {a : Addr} {o : Obj} {es : Array (Int × Value)} {ep : Nat} {t : SetTable} {ks' : List Int} (ho : h.get? a = some o) (hex : o.ExactSet) (hd : o.data = .set es ep t)
    {es' : Array (Int × Value)} {t' : SetTable} (hel : ElemsOf (intKind prog w) es'.toList) (hp : (es'.toList.map keyE).Perm ks') (hb : es'.size < scanBound) (hf : t'.fits es'.size = true) (g : TabGood (!w.params.followText "set-order") t') :
    (h.update a (Obj.putSet es' t')).get? a = some { o with data := .set es' (ep + 1) t' } ∧ SetG prog w (h.update a (Obj.putSet es' t')) a ks' := by
  have hg : (h.update a (Obj.putSet es' t')).get? a = some { o with data := .set es' (ep + 1) t' } := by
    have := Heap.get?_update_self (Obj.putSet es' t') ho (by rw [putSet_of es' t' hd]; rfl)
    rw [putSet_of es' t' hd] at this; exact this
  exact ⟨hg, _, es', ep + 1, t', hg, hex, rfl, hel, hp, hb, hf, g⟩
theorem sg_tail {gw : Bool → Sem Unit} (hg : ∀ (b : Bool) (s₁ : Shared) (Q' : Unit → Shared → Prop), Q' () s₁ → wpAny (model prog w) A (gw b) Q' E s₁)
    {a : Addr} {o : Obj} {es : Array (Int × Value)} {ep : Nat} {t : SetTable} (ho : s.heap.get? a = some o) (hex : o.ExactSet) (hd : o.data = .set es ep t)
    {es1 : Array (Int × Value)} {t2 : SetTable} {ks' : List Int} (hel1 : ElemsOf (intKind prog w) es1.toList) (hp1 : (es1.toList.map keyE).Perm ks')
    (hb1 : es1.size < scanBound) (hf2 : t2.fits es1.size = true) (g2 : TabGood (!w.params.followText "set-order") t2) {wasDummy : Bool} {R : Option Bool → Shared → Prop}
    (h : ∀ h', Heap.SameBut a s.heap h' → SetG prog w h' a ks' → R (some true) { s with heap := h' }) :
    wpAny (model prog w) A (do
        storeSet a es1 t2
        if (!wasDummy && t2.tooFull) = true then do
            gw (relayAll t2 es1 (SetTable.grown es1.size)).2.2
            storeSet a (relayAll t2 es1 (SetTable.grown es1.size)).1 (relayAll t2 es1 (SetTable.grown es1.size)).2.1
            pure (some true)
          else pure (some true)) R E s := by
  refine wpAny_bind (wpAny_storeSet_of ho hd ?_ (fits_of_scanBound hb1))
  obtain ⟨ho1, hS1⟩ := sg_store (prog := prog) ho hex hd hel1 hp1 hb1 hf2 g2
  have hsb1 := Heap.SameBut.update s.heap a (Obj.putSet es1 t2)
  split
  · have hp := relayAll_perm t2 es1 (SetTable.grown es1.size)
    have hfr := relayAll_fits t2 es1 (SetTable.grown es1.size)
    have gr := tg_relayAll g2 es1 (SetTable.grown es1.size)
    generalize relayAll t2 es1 (SetTable.grown es1.size) = Rl at hp hfr gr ⊢
    obtain ⟨es2, t3, gave2⟩ := Rl
    dsimp only at hp hfr gr ⊢
    have hsz : es2.size = es1.size := by rw [← Array.length_toList, hp.length_eq, Array.length_toList]
    have hb2 : es2.size < scanBound := by rw [hsz]; exact hb1
    refine wpAny_bind (hg _ _ _ ?_)
    refine wpAny_bind (wpAny_storeSet_of ho1 rfl ?_ (fits_of_scanBound hb2))
    obtain ⟨_, hS2⟩ := sg_store (prog := prog) ho1 hex rfl (hel1.perm hp) ((hp.map keyE).trans hp1) hb2 hfr gr
    exact wpAny_pure (h _ (hsb1.trans (Heap.SameBut.update _ a _)) hS2)
  · exact wpAny_pure (h _ hsb1 hS1)
theorem keyE_of {e : Int × Value} {k : Int} (h : (intKind prog w).is k e.2 = true) : keyE e = k := by
  obtain ⟨h1, v⟩ := e
  obtain ⟨t, rfl⟩ := Value.isInt_shape h
  rfl
theorem sg_add {a : Addr} {ks : List Int} {k : Int} {t0 : Tok} {Q : Bool → Shared → Prop} (hS : SetG prog w s.heap a ks) (hroom : ks.length + 1 < scanBound)
    (h : ∀ (b : Bool) h', Heap.SameBut a s.heap h' → SetG prog w h' a (PyProof.Rows.step_dedup ks k) → Q b { s with heap := h' }) :
    wpAny (model prog w) A (setAddHashed a (.int k t0) ((intKind prog w).hash k)) Q E s := by
  obtain ⟨o, es, ep, t, ho, hex, hd, hel, hp, hb, hf, g⟩ := hS
  have hkey : (intKind prog w).is k (.int k t0) = true := intKind_is _ _ _ _
  have hsc : (Value.int k t0).scannable = true := rfl
  have hn : es.size = ks.length := by rw [← hp.length_eq, List.length_map, Array.length_toList]
  unfold setAddHashed setAddHashedIn
  refine wpAny_holding (wpAny_bind (wpAny_setState_of ho hd hf ?_))
  dsimp only
  rw [byScan_of hsc hb hel]
  simp only [↓reduceIte]
  unfold setAddByScan
  refine wpAny_bind ?_
  refine wpAny_bind (wpAny_rule ?_)
  refine wpAny_bind (wpAny_setScan_of hkey ho hd hf hel ?_)
  cases hr : List.findIdx? (fun e => (intKind prog w).is k e.2) es.toList with
  | some j =>
    dsimp only
    obtain ⟨hj, hpj, _⟩ := List.findIdx?_eq_some_iff_getElem.mp hr
    have hmem : k ∈ ks := hp.mem_iff.mp (List.mem_map.mpr ⟨_, List.getElem_mem hj, keyE_of hpj⟩)
    have hany : ks.any (· == k) = true := List.any_eq_true.mpr ⟨k, hmem, beq_self_eq_true k⟩
    refine wpAny_pure (wpAny_pure ?_)
    have := h false s.heap (Heap.SameBut.refl a s.heap) ⟨o, es, ep, t, ho, hex, hd, hel, by unfold PyProof.Rows.step_dedup; rw [if_pos hany]; exact hp, hb, hf, g⟩
    exact this
  | none =>
    dsimp only
    have hnm : k ∉ ks := fun hm => by
      obtain ⟨e, he, hk⟩ := List.mem_map.mp (hp.mem_iff.mpr hm)
      obtain ⟨⟨k', hk', _⟩, _⟩ := hel e he
      have e1 : k' = k := (keyE_of hk').symm.trans hk
      subst e1
      have := List.findIdx?_eq_none_iff.mp hr e he
      rw [hk'] at this; cases this
    have hany : ¬ ks.any (· == k) = true := fun q => by
      obtain ⟨x, hx, e⟩ := List.any_eq_true.mp q
      exact hnm (by rw [← beq_iff_eq.mp e]; exact hx)
    have hgw : ∀ (b : Bool) {s₁ : Shared} {Q' : Unit → Shared → Prop}, Q' () s₁ → wpAny (model prog w) A (match b with | true => rule "set.scan.the-table-gave-way" | false => pure ()) Q' E s₁ :=
      fun b s₁ Q' hq => by cases b <;> first | exact wpAny_pure hq | exact wpAny_rule hq
    have hperm := layNew_perm t es ((intKind prog w).hash k) (.int k t0)
    have hfits := layNew_fits t es ((intKind prog w).hash k) (.int k t0)
    have gl := tg_layNew g es ((intKind prog w).hash k) (.int k t0)
    generalize layNew t es ((intKind prog w).hash k) (.int k t0) = Lr at hperm hfits gl ⊢
    obtain ⟨es1, t1, wasDummy, gave⟩ := Lr
    dsimp only at hperm hfits gl ⊢
    rw [Array.toList_push] at hperm
    have hel1 : ElemsOf (intKind prog w) es1.toList := (hel.push hkey hsc).perm hperm
    have hp1 : (es1.toList.map keyE).Perm (PyProof.Rows.step_dedup ks k) := by
      unfold PyProof.Rows.step_dedup
      rw [if_neg hany]
      refine (hperm.map keyE).trans ?_
      rw [List.map_append]
      exact hp.append_right _
    have hsz : es1.size = es.size + 1 := by rw [← Array.length_toList, hperm.length_eq, List.length_append, Array.length_toList]; rfl
    have hb1 : es1.size < scanBound := by rw [hsz, hn]; exact hroom
    refine wpAny_bind (hgw _ ?_)
    split
    · refine wpAny_bind ?_
      rw [hashByValue_scannable 8 hsc]
      refine wpAny_pure ?_
      refine sg_tail ?_ ho hex hd hel1 hp1 hb1 ?_ ?_ ?_
      · intro b s₁ Q' hq; cases b <;> first | exact wpAny_pure hq | exact wpAny_rule hq
      · split
        · exact hfits
        · exact SetTable.fits_plain_off hfits
      · split
        · exact gl
        · exact tg_plain_off gl
      · intro h' hsb hS'; dsimp only; exact wpAny_pure (h _ _ hsb hS')
    · refine wpAny_bind (wpAny_pure ?_)
      simp only [↓reduceIte]
      refine sg_tail ?_ ho hex hd hel1 hp1 hb1 hfits gl ?_
      · intro b s₁ Q' hq; cases b <;> first | exact wpAny_pure hq | exact wpAny_rule hq
      · intro h' hsb hS'; dsimp only; exact wpAny_pure (h _ _ hsb hS')
end
end
section
open PyProof.Rows in
section
variable {prog : Program} {w : World} {A : Around} {R : Result → Shared → Prop} {I : Addr} {fp wr : List Addr} {G : Array GenState → Array GenState → Prop} {n : Nat} {P : Nat → Value → Prop} {St : Nat → Shared → Prop}
theorem sg_at {h h' : Heap} {a : Addr} {ks : List Int} (hS : SetG prog w h a ks) (hk : ∀ o, h.get? a = some o → h'.get? a = some o) : SetG prog w h' a ks := by
  obtain ⟨o, es, ep, t, ho, r⟩ := hS
  exact ⟨o, es, ep, t, hk o ho, r⟩
theorem sg_loop (W : WalksS prog w A.in1 I fp wr G n P St) (S : Addr) (hSf : S ∉ fp) (val : Nat → Int) (hval : ∀ i v, P i v → ∃ t, v = .int (val i) t) (hb : n + 1 < scanBound) :
    ∀ (k i : Nat) (s : Shared), n - i = k → i ≤ n → St i s → SetG prog w s.heap S (firstMet val i) →
      (∀ s', Moved (S :: wr) G s s' → SetG prog w s'.heap S (firstMet val n) → R (.ok (.ret .none)) s') →
      codeAny (model prog w) A (.builtin "set.update.loop" ⟨[.ref S, .ref I], []⟩) R s := by
  have hSw : S ∉ wr := fun h => hSf (W.sub _ h)
  have hsub : ∀ b ∈ wr, b ∈ S :: wr := fun b hb => List.mem_cons_of_mem _ hb
  intro k
  induction k with
  | zero =>
    intro i s hk hi hst hS hR
    have hin : i = n := by lia
    subst hin
    refine codeAny_builtin PyProof.Rows.F.entry_set_update_loop ?_
    rw [Around.under_plainId PyProof.Rows.F.plain_set_update_loop _]
    show wpAny _ A.in1 (pyNext (.ref I) >>= _) _ _ s
    refine wpAny_bind (W.done s _ _ hst fun s' hm => ?_)
    show wpAny _ A.in1 (ret Value.none) _ _ s'
    exact wpAny_pure (hR s' (hm.mono hsub) (sg_at hS fun o e => hm.heap S _ hSw e))
  | succ k ih =>
    intro i s hk hi hst hS hR
    have hlt : i < n := by lia
    refine codeAny_builtin PyProof.Rows.F.entry_set_update_loop ?_
    rw [Around.under_plainId PyProof.Rows.F.plain_set_update_loop _]
    show wpAny _ A.in1 (pyNext (.ref I) >>= _) _ _ s
    refine wpAny_bind (W.item i s _ _ hlt hst fun v s' hP hst' hm => ?_)
    obtain ⟨t, rfl⟩ := hval i v hP
    have hS' : SetG prog w s'.heap S (firstMet val i) := sg_at hS fun o e => hm.heap S _ hSw e
    show wpAny _ A.in1 (holding [Value.int (val i) t] (setAdd S (.int (val i) t)) >>= _) _ _ s'
    refine wpAny_bind (wpAny_holding ?_)
    unfold setAdd
    refine wpAny_holding ?_
    refine wpAny_bind ((intKind prog w).pyHash (k := val i) (intKind_is _ _ _ _) ?_)
    have hroom : (firstMet val i).length + 1 < scanBound := by have := firstMet_length_le val i; lia
    refine sg_add (s := { s' with toks := s'.toks + 1 }) hS' hroom fun b h' hsb hS2 => ?_
    have hSi : SetG prog w h' S (firstMet val (i + 1)) := by rw [firstMet_succ]; exact hS2
    refine wpAny_pure ⟨plainId_quiet PyProof.Rows.F.plain_set_update_loop _, ih (i + 1) _ (by lia) hlt (W.frame _ s' _ _ hst' (Nat.le_succ _) fun b hb o e => ?_) hSi fun s'' hm'' hS'' => ?_⟩
    · rw [hsb.2 b (fun h : b = S => hSf (by rw [← h]; exact hb))]; exact e
    · refine hR s'' (Moved.trans W.gtrans ((hm.mono hsub).then_heap (Nat.le_succ _) fun b o hb e => ?_) hm'') hS''
      rw [hsb.2 b (fun h : b = S => hb (by rw [h]; exact List.mem_cons_self))]; exact e
end
noncomputable abbrev emptySet (w : World) : Obj := { cls := .type "set", dict := none, data := .set #[] 0 (.fresh 0 0 (!w.params.followText "set-order")) }
section
variable {prog : Program} {w : World} {A : Around} {E : Value → Shared → Prop} {s : Shared}
theorem sg_new (a : Value) {Q₁ : Value → Shared → Prop} (h : Q₁ (.ref s.heap.objs.size) { s with heap := s.heap.push (emptySet w) }) :
    codeAny (model prog w) A (.call (.builtin "set.__new__") ⟨[.type "set", a], []⟩) (wants Q₁ E) s := by
  refine codeAny_call_builtin F.plain_set_new F.entry_set_new (wpAny_of_eq (F.newCall_set_1 a) ?_)
  unfold Builtin.«set.__new__» Builtin.Frozenset.newClass
  have hsub := sub_set_self
  obtain ⟨hp, g, d, tk, os⟩ := s
  dsimp only
  wp_walk
  refine wpAny_askSetting (wpAny_pure ?_)
  dsimp only
  simp only [newObj]
  refine wpAny_bind (wpAny_alloc (wpAny_pure ?_))
  exact wpAny_pure h
theorem sg_empty (h : Heap) : SetG prog w (h.push (emptySet w)) h.objs.size [] :=
  ⟨emptySet w, #[], 0, _, Heap.get?_push_size _ rfl, ⟨rfl, rfl, rfl⟩, rfl, (fun _ h => nomatch h), List.Perm.refl _, by decide, by rfl, tg_fresh _⟩
set_option maxRecDepth 100000 in
set_option maxHeartbeats 8000000 in
theorem sg_set {l : Addr} {items : Array Value} {ns : List Int} {Q : Value → Shared → Prop} (hh : A.handled = none) (hl : s.heap.IsList l items) (hi : PyProof.Rows.IntsAre items.toList ns) (hb : items.size + 1 < scanBound)
    (h : ∀ (h' : Heap) (tk : Nat), SetG prog w h' s.heap.objs.size (PyProof.Rows.firstMet (fun i => ns.getD i 0) items.size) → (∀ b o, b < s.heap.objs.size → s.heap.get? b = some o → h'.get? b = some o) → Q (.ref s.heap.objs.size) { s with heap := h', toks := tk }) :
    wpAny (model prog w) A (call (.type "set") [.ref l]) Q E s := by
  obtain ⟨c, tl, hmro⟩ := F.called_set.mro
  have hmade := F.called_set.made
  have hsub := F.called_set.sub
  refine wpAny_call (codeAny_of_tree ?_)
  show wpAny _ _ (callAny (.type "set") _) _ _ _
  refine wpAny_pure ⟨Code.quiet_builtin _ (by decide +kernel), codeAny_builtin F.entry_type_call ?_⟩
  rw [Around.under_plain (weight_type_call_type "set" [.ref l] []) rfl]
  have h1 := F.called_set.notType
  have h2 := F.called_set.canCreate
  have hct := F.typeCall_set_1 (.ref l)
  repeat (any_goals (first | assumption | wp_step))
  refine codeAny_mono (sg_new (.ref l) (E := E) (Q₁ := fun obj s₁ => obj = .ref s.heap.objs.size ∧ s₁ = { s with heap := s.heap.push (emptySet w) }) ⟨rfl, rfl⟩) fun r s₁ hr => ?_
  cases r with
  | error e => exact hr
  | ok fl =>
  cases fl with
  | next => exact hr.elim
  | brk => exact hr.elim
  | cont => exact hr.elim
  | ret obj =>
  obtain ⟨rfl, rfl⟩ := hr
  have hS : (s.heap.push (emptySet w)).get? s.heap.objs.size = some (emptySet w) := Heap.get?_push_size _ rfl
  have hT : Shared.TypeIs { s with heap := s.heap.push (emptySet w) } (.ref s.heap.objs.size) "set" := ⟨_, hS, rfl⟩
  have hli := F.called_set.init.lookup
  have hbi := F.called_set.init.bind (.ref s.heap.objs.size)
  repeat (any_goals (first | assumption | wp_step))
  refine codeAny_mono (codeAny_call_builtin (R := wants (fun r s₂ => r = .none ∧ ∃ h' tk, s₂ = { s with heap := h', toks := tk } ∧
          SetG prog w h' s.heap.objs.size (PyProof.Rows.firstMet (fun i => ns.getD i 0) items.size) ∧
          (∀ b o, b < s.heap.objs.size → s.heap.get? b = some o → h'.get? b = some o)) E) F.called_set.init.plain F.entry_set_init (check_set_init_1 hT ?_)) fun r₂ s₂ hr₂ => ?_
  · obtain ⟨ol, hol, hcl, nl, hdl⟩ := hl
    obtain ⟨ocls, odict, odata, oslots⟩ := ol
    simp only at hcl hdl
    subst hcl; subst hdl
    have hol' : (s.heap.push (emptySet w)).get? l = some { cls := .type "list", dict := odict, data := .seq items nl, slots := oslots } := Heap.get?_push_of_some _ hol
    have hsls := F.sub_list_set
    have hslf := F.sub_list_frozenset
    have hne : (Value.type "list" == Value.type "dict") = false := by decide
    have hl1 : (s.heap.push (emptySet w)).IsList l items := ⟨_, hol', rfl, nl, rfl⟩
    unfold Builtin.«set.__init__» noKeywords Builtin.Frozenset.updateFrom
    generalize hPI : pyIter = PI
    wp_walk
    subst hPI
    refine wpAny_pyIter_list hl1 ?_
    refine wpAny_bind (wpAny_runValue ?_)
    have hlS : l < s.heap.objs.size := Heap.lt_size hol
    have hh3 : A.in1.in1.in1.handled = none := by simp [hh]
    have hneI : l ≠ (s.heap.push (emptySet w)).objs.size := by
      rw [Heap.size_push]; exact Nat.ne_of_lt (Nat.lt_succ_of_lt hlS)
    have hSf : s.heap.objs.size ∉ [(s.heap.push (emptySet w)).objs.size, l] := by
      rw [Heap.size_push]; simp only [List.mem_cons, List.mem_singleton, List.not_mem_nil, or_false, not_or]
      exact ⟨Nat.ne_of_lt (Nat.lt_succ_self _), Nat.ne_of_gt hlS⟩
    have hval : ∀ (i : Nat) (v : Value), items[i]? = some v → ∃ t, v = .int ((fun i => ns.getD i 0) i) t := fun i v hv =>
      PyProof.Rows.IntsAre.int_at hi i v (by rw [Array.getElem?_toList]; exact hv)
    refine sg_loop ((Walks.list hh3 _ l hneI items).toS) s.heap.objs.size
      hSf (fun i => ns.getD i 0) hval hb (items.size - 0) 0 _ (by lia) (Nat.zero_le _)
      ⟨⟨_, Heap.get?_push_size _ rfl, rfl, rfl⟩, (hl1.push _)⟩ (sg_at (sg_empty s.heap) fun o e => Heap.get?_push_of_some _ e) ?_
    intro s' hm hS'
    obtain ⟨h', g', d', tk', os'⟩ := s'
    have eg : g' = s.gens := hm.gens
    have ed : d' = s.drawn := hm.drawn
    have eo : os' = s.os := hm.os
    subst eg; subst ed; subst eo
    refine wpAny_pure ?_
    show wpAny _ _ (ret Value.none) _ _ _
    refine wpAny_pure ⟨rfl, h', tk', rfl, hS', fun b o hb e => ?_⟩
    have hb1 : b ≠ s.heap.objs.size := Nat.ne_of_lt hb
    have hb2 : b ≠ (s.heap.push (emptySet w)).objs.size := by
      rw [Heap.size_push]; exact Nat.ne_of_lt (Nat.lt_succ_of_lt hb)
    exact hm.heap b o (by simp only [List.mem_cons, List.mem_singleton, List.not_mem_nil, or_false, not_or]; exact ⟨hb1, hb2⟩) (Heap.get?_push_of_some _ (Heap.get?_push_of_some _ e))
  · cases r₂ with
    | error e => exact hr₂
    | ok fl₂ =>
      cases fl₂ with
      | ret r =>
        obtain ⟨rfl, h', tk, rfl, hS', hk'⟩ := hr₂
        repeat (any_goals (first | assumption | wp_step))
        exact h _ _ hS' hk'
      | _ => exact hr₂.elim
end
end
section
theorem slot_setit_next : Slot "set_iterator" "__next__" "set_iterator.__next__" :=
  .of (owner := "set_iterator") (n := "__next__") (by rw [typeLookup_type, builtinLookup_eq_fast]; kernel_rfl) (by decide +kernel) (by decide +kernel) (by decide +kernel)
    (by first | exact .inl (by decide +kernel) | exact .inr (by decide +kernel)) (by rw [isSubtype_type]; kernel_rfl)
theorem slot_setit_iter : Slot "set_iterator" "__iter__" "set_iterator.__iter__" :=
  .of (owner := "set_iterator") (n := "__iter__") (by rw [typeLookup_type, builtinLookup_eq_fast]; kernel_rfl) (by decide +kernel) (by decide +kernel) (by decide +kernel)
    (by first | exact .inl (by decide +kernel) | exact .inr (by decide +kernel)) (by rw [isSubtype_type]; kernel_rfl)
theorem entry_setit_next : entryFor table "set_iterator.__next__" = some Builtin.«set_iterator.__next__» := entryFor_of_tree (by kernel_rfl)
theorem entry_set_iter : entryFor table "set.__iter__" = some Builtin.«frozenset.__iter__» := entryFor_alias (id' := "frozenset.__iter__") (by kernel_rfl) rfl (by decide +kernel) (by kernel_rfl)
theorem entry_setit_iter : entryFor table "set_iterator.__iter__" = some Builtin.«dict_keyiterator.__iter__» := entryFor_alias (id' := "dict_keyiterator.__iter__") (by kernel_rfl) rfl (by decide +kernel) (by kernel_rfl)
theorem owner_setit : Manifest.owners.lookup (String.ofList ['r', 'o', 't', 'a', 'r', 'e', 't', 'i', '_', 't', 'e', 's'].reverse) = some Manifest.sig_set_iterator := by kernel_rfl
set_option maxRecDepth 100000 in
theorem args_setit_next (a : Value) : argsOk "set_iterator.__next__" ⟨[a], []⟩ := by
  unfold argsOk
  rw [signature?_of (id := "set_iterator.__next__") (n := ['_', '_', 't', 'x', 'e', 'n', '_', '_']) (o := ['r', 'o', 't', 'a', 'r', 'e', 't', 'i', '_', 't', 'e', 's']) (by kernel_rfl) owner_setit]
  kernel_rfl
set_option maxRecDepth 100000 in
theorem args_setit_iter (a : Value) : argsOk "set_iterator.__iter__" ⟨[a], []⟩ := by
  unfold argsOk
  rw [signature?_of (id := "set_iterator.__iter__") (n := ['_', '_', 'r', 'e', 't', 'i', '_', '_']) (o := ['r', 'o', 't', 'a', 'r', 'e', 't', 'i', '_', 't', 'e', 's']) (by kernel_rfl) owner_setit]
  kernel_rfl
end
section
noncomputable def IsSetIt (h : Heap) (I a i n ep : Nat) (first : Value) : Prop := ∃ o, h.get? I = some o ∧ o.cls = .type "set_iterator" ∧ o.data = .fields #[first, .int i 0, .ref a, .int n 0, .int ep 0]
theorem IsSetIt.at {h h' : Heap} {I a i n ep : Nat} {first : Value} (x : IsSetIt h I a i n ep first) (k : ∀ o, h.get? I = some o → h'.get? I = some o) : IsSetIt h' I a i n ep first := let ⟨o, e, r⟩ := x; ⟨o, k o e, r⟩
section
variable {prog : Program} {w : World} {A : Around} {E : Value → Shared → Prop} {s : Shared} {I a i n ep : Nat} {first : Value} {o : Obj} {es : Array (Int × Value)} {t : SetTable}
theorem IsSetIt.typeIs (x : IsSetIt s.heap I a i n ep first) : s.TypeIs (.ref I) "set_iterator" := let ⟨o, e, c, _⟩ := x; ⟨o, e, c⟩
theorem setit_self {Q : Value → Shared → Prop} (hit : IsSetIt s.heap I a i n ep first) (h : Q (.ref I) s) : wpAny (model prog w) A (pyIter (.ref I)) Q E s := by
  refine wpAny_pyIter_slot hit.typeIs slot_setit_iter (wpAny_call_entry slot_setit_iter hit.typeIs entry_setit_iter ?_ (args_setit_iter _))
  show wpAny _ _ (ret (.ref I)) _ _ s
  exact wpAny_pure ⟨_, rfl, "set_iterator", _, hit.typeIs, slot_setit_next.lookup, h⟩
theorem IsSetIt.next {oi : Obj} (hoi : s.heap.get? I = some oi) (hc : oi.cls = .type "set_iterator") (hdi : oi.data = .fields #[first, .int i 0, .ref a, .int n 0, .int ep 0]) (k : Nat) :
    IsSetIt ((s.heap.update I (Obj.mapFields (·.setIfInBounds 0 (rawInt (k : Int))))).update I (Obj.mapFields (·.setIfInBounds 1 (rawInt ((i : Int) + 1))))) I a (i + 1) n ep (.int k 0) := by
  have h1 : (s.heap.update I (Obj.mapFields (·.setIfInBounds 0 (rawInt (k : Int))))).get? I = some _ := Heap.get?_update_self _ hoi (Obj.isFreed_of_fields (Obj.data_mapFields hdi _))
  have d1 := Obj.data_mapFields hdi (·.setIfInBounds 0 (rawInt (k : Int)))
  refine ⟨_, Heap.get?_update_self _ h1 (Obj.isFreed_of_fields (Obj.data_mapFields d1 _)), (Obj.cls_mapFields ..).trans ((Obj.cls_mapFields ..).trans hc), ?_⟩
  rw [Obj.data_mapFields d1]
  simp [rawInt]
theorem setit_int_item {slot nxt : Nat} {x : Value} {Q : Option Value → Shared → Prop} (hit : IsSetIt s.heap I a i n ep (.int slot 0)) (ho : s.heap.get? a = some o) (hd : o.data = .set es ep t) (hf : t.fits es.size = true) (hn : es.size = n)
    (hN : ∀ (A' : Around) (Q' : Option (Value × Nat) → Shared → Prop) (E' : Value → Shared → Prop), Q' (some (x, nxt)) s → wpAny (model prog w) A' (setNext a slot i ep) Q' E' s)
    (hQ : ∀ h', IsSetIt h' I a (i + 1) n ep (.int nxt 0) → Heap.SameBut I s.heap h' → Q (some x) { s with heap := h' }) :
    wpAny (model prog w) A (pyNext (.ref I)) Q E s := by
  obtain ⟨oi, hoi, hc, hdi⟩ := id hit
  unfold pyNext
  refine wpAny_bind (wpAny_attempt (wpAny_callSpecial?_slot (name := Str.ofString "__next__") hit.typeIs slot_setit_next
    (wpAny_call_entry slot_setit_next hit.typeIs entry_setit_next ?_ (args_setit_next _))))
  unfold Builtin.«set_iterator.__next__»
  refine wpAny_bind (wpAny_pure ?_)
  refine wpAny_bind (wpAny_fieldsOf hoi hdi ?_)
  dsimp only
  refine wpAny_bind (wpAny_setEntries_of ho hd hf ?_)
  rw [if_neg (by rw [hn]; simp)]
  simp only [Int.toNat_natCast]
  refine wpAny_bind (hN _ _ _ ?_)
  dsimp only
  refine wpAny_bind (wpAny_setField hoi hdi (by simp) ?_)
  have h1 := Heap.get?_update_self (Obj.mapFields (·.setIfInBounds 0 (rawInt (nxt : Int)))) hoi (Obj.isFreed_of_fields (Obj.data_mapFields hdi _))
  refine wpAny_bind (wpAny_setField h1 (Obj.data_mapFields hdi _) (by simp) ?_)
  exact wpAny_pure ⟨x, rfl, wpAny_pure (hQ _ (IsSetIt.next hoi hc hdi nxt) ((Heap.SameBut.update ..).trans (Heap.SameBut.update ..)))⟩
theorem setit_stop {A : Around} {Q : Option Value → Shared → Prop} (hh : A.handled = none) (hx : IsSetIt s.heap I a i n ep first)
    (hQ : ∀ h', Heap.ExtBut I s.heap h' → Q none { s with heap := h' }) :
    wpAny (model prog w) A.in1 (do setField (.ref I) 2 .none; raiseNew (← newExc (.type "StopIteration") []) : Sem Fin) (fun fin s' => ∃ v, fin = Fin.done (Flow.ret v) ∧ wpAny (model prog w) A (pure (some v)) Q E s')
      (fun e s' => wpAny (model prog w) A (do let b ← isInstance e (Value.type "StopIteration"); if b = true then pure none else throw e) Q E s') s := by
  obtain ⟨oi, hoi, hc, hdi⟩ := id hx
  refine wpAny_bind (wpAny_setField hoi hdi (by simp) ?_)
  show wpAny _ _ (newExc (.type "StopIteration") [] >>= _) _ _ _
  refine wpAny_bind ?_
  simp only [newExc, newTuple]
  refine wpAny_bind (wpAny_newObj_type ?_ (by size_fits))
  refine wpAny_bind (m := firstArgMember _ _) (wpAny_of_eq (a := Value.none) (by first | rfl | (simp only [firstArgMember]; rfl)) ?_)
  refine wpAny_newObj_type ?_ (by size_fits)
  simp only [raiseNew]
  refine wpAny_bind (wpAny_handled ?_)
  rw [show A.in1.handled = none from hh]
  refine wpAny_bind (wpAny_pure (wpAny_throw ?_))
  refine wpAny_bind (wpAny_isInstance (T := "StopIteration") (b := true) ⟨_, Heap.get?_push_size _ rfl, rfl⟩ isSubtype_stop ?_)
  exact wpAny_pure (hQ _ (((Heap.SameBut.update ..).extBut.push _).push _))
theorem setit_int_end {slot : Nat} {Q : Option Value → Shared → Prop} (hh : A.handled = none) (hit : IsSetIt s.heap I a i n ep (.int slot 0)) (ho : s.heap.get? a = some o) (hd : o.data = .set es ep t) (hf : t.fits es.size = true) (hn : es.size = n)
    (hN : ∀ (A' : Around) (Q' : Option (Value × Nat) → Shared → Prop) (E' : Value → Shared → Prop), Q' none s → wpAny (model prog w) A' (setNext a slot i ep) Q' E' s)
    (hQ : ∀ h', Heap.ExtBut I s.heap h' → Q none { s with heap := h' }) :
    wpAny (model prog w) A (pyNext (.ref I)) Q E s := by
  obtain ⟨oi, hoi, hc, hdi⟩ := id hit
  unfold pyNext
  refine wpAny_bind (wpAny_attempt (wpAny_callSpecial?_slot (name := Str.ofString "__next__") hit.typeIs slot_setit_next
    (wpAny_call_entry slot_setit_next hit.typeIs entry_setit_next ?_ (args_setit_next _))))
  unfold Builtin.«set_iterator.__next__»
  refine wpAny_bind (wpAny_pure ?_)
  refine wpAny_bind (wpAny_fieldsOf hoi hdi ?_)
  dsimp only
  refine wpAny_bind (wpAny_setEntries_of ho hd hf ?_)
  rw [if_neg (by rw [hn]; simp)]
  simp only [Int.toNat_natCast]
  refine wpAny_bind (hN _ _ _ ?_)
  dsimp only
  exact setit_stop hh hit hQ
theorem setit_ref_item {tp : Nat} {ot : Obj} {ps : Array Value} {c : Nat} {place : Nat} {tk : Tok} {x : Value} {hv : Int} {Q : Option Value → Shared → Prop} (hit : IsSetIt s.heap I a i n ep (.ref tp)) (ho : s.heap.get? a = some o) (hd : o.data = .set es ep t) (hf : t.fits es.size = true) (hn : es.size = n)
    (hot : s.heap.get? tp = some ot) (hdt : ot.data = .seq ps c) (hp : ps[i]? = some (.int (place : Int) tk)) (hx : es[place]? = some (hv, x))
    (hQ : ∀ h', IsSetIt h' I a (i + 1) n ep (.ref tp) → Heap.SameBut I s.heap h' → Q (some x) { s with heap := h' }) :
    wpAny (model prog w) A (pyNext (.ref I)) Q E s := by
  obtain ⟨oi, hoi, hc, hdi⟩ := id hit
  unfold pyNext
  refine wpAny_bind (wpAny_attempt (wpAny_callSpecial?_slot (name := Str.ofString "__next__") hit.typeIs slot_setit_next
    (wpAny_call_entry slot_setit_next hit.typeIs entry_setit_next ?_ (args_setit_next _))))
  unfold Builtin.«set_iterator.__next__»
  refine wpAny_bind (wpAny_pure ?_)
  refine wpAny_bind (wpAny_fieldsOf hoi hdi ?_)
  dsimp only
  refine wpAny_bind (wpAny_setEntries_of ho hd hf ?_)
  rw [if_neg (by rw [hn]; simp)]
  refine wpAny_bind (wpAny_seqItems hot hdt ?_)
  simp only [Int.toNat_natCast, hp]
  unfold setNextDrawn
  refine wpAny_bind (wpAny_bind (wpAny_setState_of ho hd hf ?_))
  dsimp only
  rw [if_neg (by simp)]
  rw [hx]
  refine wpAny_pure ?_
  refine wpAny_bind (wpAny_setField hoi hdi (by simp) ?_)
  refine wpAny_pure ⟨x, rfl, wpAny_pure (hQ _ ⟨_, Heap.get?_update_self _ hoi (Obj.isFreed_of_fields (Obj.data_mapFields hdi _)), (Obj.cls_mapFields ..).trans hc, ?_⟩ (Heap.SameBut.update ..))⟩
  rw [Obj.data_mapFields hdi]
  simp [rawInt]
theorem setit_ref_end {tp : Nat} {ot : Obj} {ps : Array Value} {c : Nat} {Q : Option Value → Shared → Prop} (hh : A.handled = none) (hit : IsSetIt s.heap I a i n ep (.ref tp)) (ho : s.heap.get? a = some o) (hd : o.data = .set es ep t) (hf : t.fits es.size = true) (hn : es.size = n)
    (hot : s.heap.get? tp = some ot) (hdt : ot.data = .seq ps c) (hp : ps[i]? = none)
    (hQ : ∀ h', Heap.ExtBut I s.heap h' → Q none { s with heap := h' }) :
    wpAny (model prog w) A (pyNext (.ref I)) Q E s := by
  obtain ⟨oi, hoi, hc, hdi⟩ := id hit
  unfold pyNext
  refine wpAny_bind (wpAny_attempt (wpAny_callSpecial?_slot (name := Str.ofString "__next__") hit.typeIs slot_setit_next
    (wpAny_call_entry slot_setit_next hit.typeIs entry_setit_next ?_ (args_setit_next _))))
  unfold Builtin.«set_iterator.__next__»
  refine wpAny_bind (wpAny_pure ?_)
  refine wpAny_bind (wpAny_fieldsOf hoi hdi ?_)
  dsimp only
  refine wpAny_bind (wpAny_setEntries_of ho hd hf ?_)
  rw [if_neg (by rw [hn]; simp)]
  refine wpAny_bind (wpAny_seqItems hot hdt ?_)
  simp only [Int.toNat_natCast, hp]
  refine wpAny_bind (wpAny_setField hoi hdi (by simp) ?_)
  have h1 := Heap.get?_update_self (Obj.mapFields (·.setIfInBounds 0 (rawInt 0))) hoi (Obj.isFreed_of_fields (Obj.data_mapFields hdi _))
  have d1 := Obj.data_mapFields hdi (·.setIfInBounds 0 (rawInt 0))
  refine wpAny_mono (setit_stop (s := { s with heap := s.heap.update I (Obj.mapFields (·.setIfInBounds 0 (rawInt 0))) }) (Q := Q) (E := E) (I := I) (a := a) (i := i) (n := n) (ep := ep) (first := .int 0 0) hh ⟨_, h1, (Obj.cls_mapFields ..).trans hc, by rw [d1]; simp [rawInt]⟩ fun h' he => hQ h' fun b o' hb e => he b o' hb ((Heap.SameBut.update s.heap I _).extBut b o' hb e)) (fun _ _ q => q) fun _ _ q => q
end
end
section
noncomputable def keyV (v : Value) : Int := match v with
  | .int k _ => k
  | _ => 0
noncomputable def Still (s s' : Shared) : Prop := s'.os = s.os ∧ s'.gens = s.gens
theorem Still.trans {a b c : Shared} (h : Still a b) (g : Still b c) : Still a c := ⟨g.1.trans h.1, g.2.trans h.2⟩
section
variable {prog : Program} {w : World} {A : Around} {E : Value → Shared → Prop} {s : Shared} {I a ep : Nat} {o : Obj} {es : Array (Int × Value)} {t : SetTable}
theorem wpAny_choose {M : Model} {src : Source} {n : Nat} {Q : Nat → Shared → Prop} (hn : n ≠ 0) (h : ∀ i s', i < n → s'.heap = s.heap → Still s s' → Q i s') : wpAny M A (choose src n) Q E s := fun Γ p _ => by
  unfold choose
  rw [Sem.wp_choose]
  exact ⟨hn, by
    show Sem.wp M Γ (pure _) _ _ _ _
    exact h _ _ (Nat.mod_lt _ (Nat.pos_of_ne_zero hn)) rfl ⟨rfl, rfl⟩⟩
theorem wpAny_drawOrder {α : Type} {M : Model} : ∀ (n : Nat) (xs : List α) (s : Shared) {Q : List α → Shared → Prop}, xs.length = n → (∀ ys s', ys.Perm xs → s'.heap = s.heap → Still s s' → Q ys s') → wpAny M A (drawOrder n xs) Q E s
  | 0, xs, s, Q, hl, h => by
    have : xs = [] := List.eq_nil_of_length_eq_zero hl
    subst this
    unfold drawOrder
    exact wpAny_pure (h [] s (List.Perm.refl _) rfl ⟨rfl, rfl⟩)
  | n + 1, [], s, Q, hl, h => by simp at hl
  | n + 1, x :: r, s, Q, hl, h => by
    unfold drawOrder
    refine wpAny_bind (wpAny_choose (by simp) fun i s' hi hs sl => ?_)
    rw [List.getElem?_eq_getElem hi]
    dsimp only
    refine wpAny_bind (wpAny_drawOrder n _ s' (by rw [List.length_eraseIdx, if_pos hi]; lia) fun ys s'' hp hs' sl' => ?_)
    refine wpAny_pure (h _ s'' ?_ (hs'.trans hs) (sl.trans sl'))
    refine (List.Perm.cons _ hp).trans ?_
    have h1 := List.eraseIdx_eq_take_drop_succ (x :: r) i
    rw [h1]
    refine (List.perm_middle.symm).trans ?_
    rw [List.getElem_cons_drop, List.take_append_drop]
theorem wpAny_byText {M : Model} {Q : Bool → Shared → Prop} (h : Q (M.w.params.followText "set-order") s) : wpAny M A setsByText Q E s := by
  unfold setsByText
  exact wpAny_bind (wpAny_askSetting (wpAny_pure h))
theorem setNext_T {slot i : Nat} {Q : Option (Value × Nat) → Shared → Prop} (hT : w.params.followText "set-order" = true) (ho : s.heap.get? a = some o) (hd : o.data = .set es ep t) (hf : t.fits es.size = true)
    (h : Q (((pickOrder (w.params.setOrder a ep) es)[i]?).map fun e => (e.2, slot)) s) : wpAny (model prog w) A (setNext a slot i ep) Q E s := by
  unfold setNext
  refine wpAny_bind (wpAny_setState_of ho hd hf ?_)
  dsimp only
  refine wpAny_bind (wpAny_byText ?_)
  rw [show (model prog w).w.params.followText "set-order" = true from hT, if_pos rfl]
  rw [if_neg (by simp)]
  unfold setWalk
  refine wpAny_bind (wpAny_bind (wpAny_setState_of ho hd hf ?_))
  dsimp only
  refine wpAny_bind (wpAny_byText ?_)
  rw [show (model prog w).w.params.followText "set-order" = true from hT, if_pos rfl]
  refine wpAny_bind (wpAny_askSetting (wpAny_pure ?_))
  exact wpAny_pure h
theorem setNext_P {slot i : Nat} {Q : Option (Value × Nat) → Shared → Prop} (hT : w.params.followText "set-order" = false) (ho : s.heap.get? a = some o) (hd : o.data = .set es ep t) (hf : t.fits es.size = true) (hled : t.led = true) (hdr : (!t.plain && decide (es.size > 1)) = false)
    (h : Q (match es[SetTable.below t.place slot]?, t.place[SetTable.below t.place slot]? with | some (_, x), some j => some (x, j + 1) | _, _ => none) s) : wpAny (model prog w) A (setNext a slot i ep) Q E s := by
  unfold setNext
  refine wpAny_bind (wpAny_setState_of ho hd hf ?_)
  dsimp only
  refine wpAny_bind (wpAny_byText ?_)
  rw [show (model prog w).w.params.followText "set-order" = false from hT, if_neg (by decide)]
  refine wpAny_ite_split (fun q => absurd (show (!t.plain && decide (es.size > 1)) = true from q) (by rw [hdr]; decide)) (fun _ => ?_)
  refine wpAny_bind ?_
  show wpAny _ _ (if (!t.led && !es.isEmpty) = true then unsupported _ else pure ()) _ _ _
  rw [if_neg (by rw [hled]; simp)]
  refine wpAny_pure ?_
  exact wpAny_pure h
theorem walks_T {n : Nat} (hh : A.handled = none) (hT : w.params.followText "set-order" = true) (hIa : a ≠ I) (hd : o.data = .set es ep t) (hf : t.fits es.size = true) (hn : es.size = n) :
    Walks prog w A I [I, a] [I] n (fun i v => (((pickOrder (w.params.setOrder a ep) es).toList.map (·.2))[i]? = some v)) (fun i h => IsSetIt h I a i n ep (.int 0 0) ∧ h.get? a = some o) where
  sub := fun b hb => by simp at hb; simp [hb]
  frame := fun _ _ _ st hk => ⟨st.1.at fun o e => hk I (by simp) o e, hk a (by simp) _ st.2⟩
  item := fun i s Q E hi st hQ => by
    have hl : (pickOrder (w.params.setOrder a ep) es).toList.length = n := by rw [(pickOrder_perm _ _).length_eq, Array.length_toList, hn]
    obtain ⟨p, hp⟩ : ∃ p, (pickOrder (w.params.setOrder a ep) es).toList[i]? = some p := ⟨_, List.getElem?_eq_getElem (by lia)⟩
    have hp' : (pickOrder (w.params.setOrder a ep) es)[i]? = some p := by rw [← Array.getElem?_toList]; exact hp
    refine setit_int_item (slot := 0) (nxt := 0) (x := p.2) st.1 st.2 hd hf hn (fun A' Q' E' hq => setNext_T hT st.2 hd hf (by rw [hp']; exact hq)) fun h' hit' hs' => ?_
    exact hQ _ h' s.toks (by simp [hp]) ⟨hit', hs'.extBut a _ hIa st.2⟩ fun b o hb e => hs'.extBut b o (fun h => hb (by simp [h])) e
  done := fun s Q E st hQ => by
    have hl : (pickOrder (w.params.setOrder a ep) es).toList.length = n := by rw [(pickOrder_perm _ _).length_eq, Array.length_toList, hn]
    have hp' : (pickOrder (w.params.setOrder a ep) es)[n]? = none := by rw [← Array.getElem?_toList]; exact List.getElem?_eq_none (by lia)
    refine setit_int_end (slot := 0) hh st.1 st.2 hd hf hn (fun A' Q' E' hq => setNext_T hT st.2 hd hf (by rw [hp']; exact hq)) fun h' he => hQ h' s.toks fun b o hb e => he b o (fun h => hb (by simp [h])) e
  self := fun _ _ _ _ st hQ => setit_self st.1 hQ
theorem below_zero {xs : Array Nat} (hr : Ris xs.toList) : SetTable.below xs 0 = 0 := by
  obtain ⟨h0, h1, _⟩ := below_spec (j := 0) hr
  cases hb : SetTable.below xs 0 with
  | zero => rfl
  | succ m =>
    have hlt : 0 < xs.toList.length := by simp only [Array.length_toList]; lia
    exact absurd (h1 0 _ (by lia) (List.getElem?_eq_getElem hlt)) (Nat.not_lt_zero _)
theorem below_next {xs : Array Nat} (hr : Ris xs.toList) {i j : Nat} (hi : xs.toList[i]? = some j) : SetTable.below xs (j + 1) = i + 1 := by
  obtain ⟨h0, h1, h2⟩ := below_spec (j := j + 1) hr
  have a1 : i < SetTable.below xs (j + 1) := by
    rcases Nat.lt_or_ge i (SetTable.below xs (j + 1)) with q | q
    · exact q
    · have := h2 i j q hi; lia
  have a2 : ¬ i + 1 < SetTable.below xs (j + 1) := fun q => by
    have hlt : i + 1 < xs.toList.length := by simp only [Array.length_toList]; lia
    have b1 := h1 (i + 1) _ q (List.getElem?_eq_getElem hlt)
    have b2 := hr.lt (Nat.lt_succ_self i) hi (List.getElem?_eq_getElem hlt)
    lia
  lia
theorem walks_P {n : Nat} (hh : A.handled = none) (hT : w.params.followText "set-order" = false) (hIa : a ≠ I) (hd : o.data = .set es ep t) (hf : t.fits es.size = true) (hn : es.size = n) (hled : t.led = true) (hdr : (!t.plain && decide (es.size > 1)) = false) (hr : Ris t.place.toList) :
    Walks prog w A I [I, a] [I] n (fun i v => (es.toList.map (·.2))[i]? = some v) (fun i h => (∃ slot : Nat, IsSetIt h I a i n ep (.int slot 0) ∧ SetTable.below t.place slot = i) ∧ h.get? a = some o) where
  sub := fun b hb => by simp at hb; simp [hb]
  frame := fun _ _ _ st hk => ⟨let ⟨slot, x, y⟩ := st.1; ⟨slot, x.at fun o e => hk I (by simp) o e, y⟩, hk a (by simp) _ st.2⟩
  item := fun i s Q E hi st hQ => by
    obtain ⟨⟨slot, hit, hb⟩, ho⟩ := st
    have hpl : t.place.size = n := by
      simp only [SetTable.fits, Bool.and_eq_true, beq_iff_eq] at hf
      lia
    obtain ⟨p, hp⟩ : ∃ p, es.toList[i]? = some p := ⟨_, List.getElem?_eq_getElem (by simp only [Array.length_toList]; lia)⟩
    obtain ⟨j, hj⟩ : ∃ j, t.place.toList[i]? = some j := ⟨_, List.getElem?_eq_getElem (by simp only [Array.length_toList]; lia)⟩
    have hp' : es[i]? = some (p.1, p.2) := by rw [← Array.getElem?_toList]; exact hp
    have hj' : t.place[i]? = some j := by rw [← Array.getElem?_toList]; exact hj
    refine setit_int_item (slot := slot) (nxt := j + 1) (x := p.2) hit ho hd hf hn (fun A' Q' E' hq => setNext_P hT ho hd hf hled hdr (by rw [hb, hp', hj']; exact hq)) fun h' hit' hs' => ?_
    exact hQ _ h' s.toks (by simp [hp]) ⟨⟨j + 1, hit', below_next hr hj⟩, hs'.extBut a _ hIa ho⟩ fun b o hb e => hs'.extBut b o (fun h => hb (by simp [h])) e
  done := fun s Q E st hQ => by
    obtain ⟨⟨slot, hit, hb⟩, ho⟩ := st
    have hp' : es[n]? = none := by rw [← Array.getElem?_toList]; exact List.getElem?_eq_none (by simp only [Array.length_toList]; lia)
    refine setit_int_end (slot := slot) hh hit ho hd hf hn (fun A' Q' E' hq => setNext_P hT ho hd hf hled hdr (by rw [hb, hp']; exact hq)) fun h' he => hQ h' s.toks fun b o hb e => he b o (fun h => hb (by simp [h])) e
  self := fun _ _ _ _ st hQ => let ⟨_, x, _⟩ := st.1; setit_self x hQ
theorem walks_D {n tp : Nat} {ot : Obj} {order : List Nat} {c : Nat} (hh : A.handled = none) (hIa : a ≠ I) (hIt : tp ≠ I) (hd : o.data = .set es ep t) (hf : t.fits es.size = true) (hn : es.size = n)
    (hdt : ot.data = .seq (order.map fun (k : Nat) => rawInt k).toArray c) (hp : order.Perm (List.range n)) :
    Walks prog w A I [I, a, tp] [I] n (fun i v => (order.map fun k => (es.getD k (0, .none)).2)[i]? = some v) (fun i h => IsSetIt h I a i n ep (.ref tp) ∧ h.get? a = some o ∧ h.get? tp = some ot) where
  sub := fun b hb => by simp at hb; simp [hb]
  frame := fun _ _ _ st hk => ⟨st.1.at fun o e => hk I (by simp) o e, hk a (by simp) _ st.2.1, hk tp (by simp) _ st.2.2⟩
  item := fun i s Q E hi st hQ => by
    obtain ⟨hit, ho, hot⟩ := st
    have hl : order.length = n := by rw [hp.length_eq, List.length_range]
    obtain ⟨k, hk⟩ : ∃ k, order[i]? = some k := ⟨_, List.getElem?_eq_getElem (by lia)⟩
    have hkn : k < es.size := by rw [hn]; exact List.mem_range.mp (hp.mem_iff.mp (List.mem_of_getElem? hk))
    refine setit_ref_item (place := k) (tk := 0) (x := (es.getD k (0, .none)).2) (hv := (es.getD k (0, .none)).1) hit ho hd hf hn hot hdt (by simp [hk, rawInt]) (by simp [Array.getD, hkn]) fun h' hit' hs' => ?_
    exact hQ _ h' s.toks (by simp [hk]) ⟨hit', hs'.extBut a _ hIa ho, hs'.extBut tp _ hIt hot⟩ fun b o hb e => hs'.extBut b o (fun h => hb (by simp [h])) e
  done := fun s Q E st hQ => by
    obtain ⟨hit, ho, hot⟩ := st
    have hl : order.length = n := by rw [hp.length_eq, List.length_range]
    refine setit_ref_end hh hit ho hd hf hn hot hdt (by simp [hl]) fun h' he => hQ h' s.toks fun b o hb e => he b o (fun h => hb (by simp [h])) e
  self := fun _ _ _ _ st hQ => setit_self st.1 hQ
end
end
section
theorem ints_of_all : ∀ {vs : List Value}, (∀ v ∈ vs, ∃ k tk, v = .int k tk) → IntsAre vs (vs.map keyV)
  | [], _ => .nil
  | v :: vs, h => by
    obtain ⟨k, tk, rfl⟩ := h v (.head _)
    exact .cons _ _ (ints_of_all fun u hu => h u (.tail _ hu))
section
variable {prog : Program} {w : World} {A : Around} {E : Value → Shared → Prop} {s : Shared}
theorem sg_iter {a : Nat} {ks : List Int} {Q : Value → Shared → Prop} (hh : A.handled = none) (hS : SetG prog w s.heap a ks)
    (h : ∀ (I : Nat) (ord : List Value) (fp : List Addr) (St : Nat → Heap → Prop) (n : Nat) (s₁ : Shared), (∀ b o, s.heap.get? b = some o → s₁.heap.get? b = some o) → (∀ b ∈ fp, b < s₁.heap.objs.size ∧ (b = a ∨ s.heap.objs.size ≤ b)) → s.heap.objs.size ≤ I → I < s₁.heap.objs.size →
      ord.length = n → Walks prog w A I fp [I] n (fun i v => ord[i]? = some v) St → St 0 s₁.heap → IntsAre ord (ord.map keyV) → (ord.map keyV).Perm ks → Still s s₁ → Q (.ref I) s₁) :
    wpAny (model prog w) A (pyIter (.ref a)) Q E s := by
  obtain ⟨o, es, ep, t, ho, hex, hd, hel, hp, hb, hf, g⟩ := hS
  have hT : s.TypeIs (.ref a) "set" := ⟨o, ho, hex.1⟩
  have hlt : a < s.heap.objs.size := Heap.lt_size ho
  refine wpAny_pyIter_slot hT F.slot_set_iter (wpAny_call_entry F.slot_set_iter hT entry_set_iter ?_ (F.args_set_iter_1 _))
  unfold Builtin.«frozenset.__iter__» Builtin.Frozenset.slot0 slotArgs
  simp only [List.isEmpty_nil, Bool.not_true, Bool.false_eq_true, ↓reduceIte, bind_assoc, List.length_nil, bne_self_eq_false]
  unfold Builtin.Frozenset.addrOf Builtin.Frozenset.sizeOf
  refine wpAny_bind (wpAny_pure ?_)
  try dsimp only
  refine wpAny_bind (wpAny_pure ?_)
  refine wpAny_bind (wpAny_bind (wpAny_setEntries_of ho hd hf (wpAny_pure ?_)))
  unfold setDrawn
  refine wpAny_bind (wpAny_bind (wpAny_setState_of ho hd hf ?_))
  dsimp only
  refine wpAny_bind (wpAny_byText ?_)
  refine wpAny_pure ?_
  have hints : ∀ v ∈ es.toList.map (·.2), ∃ k tk, v = .int k tk := fun v hv => by
    obtain ⟨e, he, rfl⟩ := List.mem_map.mp hv
    obtain ⟨⟨k, hk, _⟩, _⟩ := hel e he
    obtain ⟨tk, e2⟩ := Value.isInt_shape hk
    exact ⟨k, tk, e2⟩
  have hkeys : (es.toList.map (·.2)).map keyV = es.toList.map keyE := by
    rw [List.map_map]
    exact List.map_congr_left fun e _ => rfl
  have fin : ∀ {ord : List Value}, ord.Perm (es.toList.map (·.2)) → IntsAre ord (ord.map keyV) ∧ (ord.map keyV).Perm ks ∧ ord.length = es.size := fun {ord} hperm =>
    ⟨ints_of_all fun v hv => hints v (hperm.mem_iff.mp hv), ((hperm.map keyV).trans (by rw [hkeys])).trans hp, by rw [hperm.length_eq, List.length_map, Array.length_toList]⟩
  refine wpAny_ite_split (fun hq => ?_) (fun hq => ?_)
  · refine wpAny_drawOrder _ _ _ (by simp) ?_ |> wpAny_bind
    intro order s₁ hord hs₁ sl₁
    refine wpAny_bind (wpAny_newTuple ?_ ?_)
    · have ho1 : (s₁.heap.push { cls := .type "tuple", data := .seq (order.map fun (i : Nat) => rawInt i).toArray }).get? a = some o := Heap.get?_push_of_some _ (hs₁ ▸ ho)
      unfold setEpoch
      refine wpAny_bind (wpAny_bind (wpAny_setState_of ho1 hd hf (wpAny_pure ?_)))
      refine wpAny_bind (wpAny_newObj_type ?_)
      have hz : (s₁.heap.push { cls := .type "tuple", data := .seq (order.map fun (i : Nat) => rawInt i).toArray }).objs.size = s.heap.objs.size + 1 := by rw [Heap.size_push, hs₁]
      have hk₁ : ∀ b o', s.heap.get? b = some o' → s₁.heap.get? b = some o' := fun b o' e => by rw [hs₁]; exact e
      have hz2 : s₁.heap.objs.size = s.heap.objs.size := by rw [hs₁]
      have ht : (s₁.heap.push { cls := .type "tuple", data := .seq (order.map fun (i : Nat) => rawInt i).toArray }).get? s₁.heap.objs.size = some { cls := .type "tuple", data := .seq (order.map fun (i : Nat) => rawInt i).toArray } := Heap.get?_push_size _ rfl
      have hperm : (order.map fun k => (es.getD k (0, .none)).2).Perm (es.toList.map (·.2)) := by
        have e1 : es.toList.map (·.2) = (List.range es.size).map fun k => (es.getD k (0, .none)).2 := by
          refine List.ext_getElem (by simp) fun i h1 h2 => ?_
          simp only [List.length_map, Array.length_toList] at h1
          simp [Array.getD, h1]
        rw [e1]
        exact hord.map _
      obtain ⟨f1, f2, f3⟩ := fin hperm
      refine wpAny_pure ⟨_, rfl, "set_iterator", _, ⟨_, Heap.get?_push_size _ rfl, rfl⟩, slot_setit_next.lookup, ?_⟩
      refine h _ _ [_, a, s₁.heap.objs.size] _ _ _ (fun b o' e => Heap.get?_push_of_some _ (Heap.get?_push_of_some _ (hk₁ _ _ e))) ?_ ?_ ?_ f3 (walks_D hh (tp := s₁.heap.objs.size) (c := 0) ?_ ?_ hd hf rfl rfl hord) ⟨⟨_, Heap.get?_push_size _ rfl, rfl, rfl⟩, Heap.get?_push_of_some _ ho1, Heap.get?_push_of_some _ ht⟩ f1 f2 ⟨sl₁.1, sl₁.2⟩
      · intro b hb'
        simp only [List.mem_cons, List.not_mem_nil, or_false] at hb'
        refine ⟨?_, ?_⟩
        · show b < ((s₁.heap.push _).push _).objs.size
          rw [Heap.size_push, hz]
          rcases hb' with rfl | rfl | rfl
          · show (s₁.heap.push _).objs.size < _
            rw [hz]; exact Nat.lt_succ_self _
          · exact Nat.lt_succ_of_lt (Nat.lt_succ_of_lt hlt)
          · rw [hz2]; exact Nat.lt_succ_of_lt (Nat.lt_succ_self _)
        · rcases hb' with rfl | rfl | rfl
          · refine .inr ?_
            show _ ≤ (s₁.heap.push _).objs.size
            rw [hz]; exact Nat.le_succ _
          · exact .inl rfl
          · exact .inr (Nat.le_of_eq hz2.symm)
      · show _ ≤ (s₁.heap.push _).objs.size
        rw [hz]; exact Nat.le_succ _
      · show (s₁.heap.push _).objs.size < ((s₁.heap.push _).push _).objs.size
        rw [Heap.size_push (s₁.heap.push _)]; exact Nat.lt_succ_self _
      · show a ≠ (s₁.heap.push _).objs.size
        rw [hz]; exact Nat.ne_of_lt (Nat.lt_succ_of_lt hlt)
      · show s₁.heap.objs.size ≠ (s₁.heap.push _).objs.size
        rw [hz, hz2]; exact Nat.ne_of_lt (Nat.lt_succ_self _)
    · rw [List.length_map, hord.length_eq, List.length_range]
      exact fits_of_scanBound hb
  · refine wpAny_bind (wpAny_pure ?_)
    unfold setEpoch
    refine wpAny_bind (wpAny_bind (wpAny_setState_of ho hd hf (wpAny_pure ?_)))
    refine wpAny_bind (wpAny_newObj_type ?_)
    refine wpAny_pure ⟨_, rfl, "set_iterator", _, ⟨_, Heap.get?_push_size _ rfl, rfl⟩, slot_setit_next.lookup, ?_⟩
    have hfp : ∀ b ∈ [s.heap.objs.size, a], b < (s.heap.push { cls := .type "set_iterator", data := .fields [rawInt 0, rawInt 0, Value.ref a, rawInt es.size, rawInt ep].toArray }).objs.size ∧ (b = a ∨ s.heap.objs.size ≤ b) := fun b hb' => by
      simp only [List.mem_cons, List.not_mem_nil, or_false] at hb'
      rw [Heap.size_push]
      rcases hb' with rfl | rfl
      · exact ⟨Nat.lt_succ_self _, .inr (Nat.le_refl _)⟩
      · exact ⟨Nat.lt_succ_of_lt hlt, .inl rfl⟩
    cases hT' : w.params.followText "set-order" with
    | true =>
      obtain ⟨f1, f2, f3⟩ := fin ((pickOrder_perm (w.params.setOrder a ep) es).map (·.2))
      exact h _ _ _ _ _ _ (fun b o' e => Heap.get?_push_of_some _ e) hfp (Nat.le_refl _) (by rw [Heap.size_push]; exact Nat.lt_succ_self _) f3 (walks_T hh hT' (Nat.ne_of_lt hlt) hd hf rfl) ⟨⟨_, Heap.get?_push_size _ rfl, rfl, rfl⟩, Heap.get?_push_of_some _ ho⟩ f1 f2 ⟨rfl, rfl⟩
    | false =>
      obtain ⟨f1, f2, f3⟩ := fin (List.Perm.refl _)
      have hdr : (!t.plain && decide (es.size > 1)) = false := by
        refine Bool.eq_false_iff.mpr fun q => hq ?_
        rw [show (model prog w).w.params.followText "set-order" = false from hT']
        exact q
      have hr : Ris t.place.toList := by
        cases hpl : t.plain with
        | true => exact g.ris hpl
        | false =>
          rw [hpl] at hdr
          simp only [SetTable.fits, Bool.and_eq_true, beq_iff_eq] at hf
          have h1 : t.place.toList.length ≤ 1 := by
            simp only [Bool.not_false, Bool.true_and, decide_eq_false_iff_not] at hdr
            rw [Array.length_toList]; lia
          match hl : t.place.toList with
          | [] => exact List.Pairwise.nil
          | [x] => exact List.pairwise_singleton _ _
          | x :: y :: r => rw [hl] at h1; simp at h1
      have hled : t.led = true := by rw [g.led, hT']; rfl
      exact h _ _ _ _ _ _ (fun b o' e => Heap.get?_push_of_some _ e) hfp (Nat.le_refl _) (by rw [Heap.size_push]; exact Nat.lt_succ_self _) f3 (walks_P hh hT' (Nat.ne_of_lt hlt) hd hf rfl hled hdr hr) ⟨⟨0, ⟨_, Heap.get?_push_size _ rfl, rfl, rfl⟩, below_zero hr⟩, Heap.get?_push_of_some _ ho⟩ f1 f2 ⟨rfl, rfl⟩
end
end
section
open PyProof.Rows in
section
variable {prog : Program} {w : World} {A : Around} {E : Value → Shared → Prop} {s : Shared}
theorem hint_set {r : Addr} {Q : Bool → Shared → Prop} (hT : s.TypeIs (.ref r) "set") (h : Q false s) : wpAny (model prog w) A (Builtin.List.listLengthHint (.ref r)) Q E s := by
  unfold Builtin.List.listLengthHint
  refine wpAny_bind (wpAny_specialOf hT F.slot_set_len.lookup ?_)
  generalize hid : ("set.__len__" : String) = id0
  wp_delta
  rw [show splitId id0 = some ("set", "__len__") from by subst hid; decide +kernel]
  subst hid
  refine wpAny_bind (wpAny_isInstance (T := "set") (b := true) hT (by rw [isSubtype_type]; kernel_rfl) ?_)
  refine wpAny_ite_split (fun hab => absurd hab (by decide)) (fun _ => ?_)
  refine wpAny_ite_split (fun _ => ?_) (fun hab => absurd (by decide +kernel) hab)
  refine wpAny_bind (wpAny_typeOf hT ?_)
  exact wpAny_pure h
theorem items_ord {ord : List Value} {acc : Array Value} (h : ItemsOf (fun i v => ord[i]? = some v) acc ord.length) : acc.toList = ord := by
  refine List.ext_getElem? fun i => ?_
  rcases Nat.lt_or_ge i ord.length with hi | hi
  · have h1 : i < acc.size := by rw [h.1]; exact hi
    have := h.2 i acc[i] (by simp [h1])
    rw [this, Array.getElem?_toList, Array.getElem?_eq_getElem h1]
  · rw [List.getElem?_eq_none hi, List.getElem?_eq_none (by rw [Array.length_toList, h.1]; exact hi)]
theorem sg_extend {R : Result → Shared → Prop} {a : Nat} {ks : List Int} (hh : A.handled = none) (hS : SetG prog w s.heap a ks) (hlen : ks.length ≤ 63) (S : Addr) (hSa : S ≠ a) (res : Value) (c₀ : Nat) (hSl : s.heap.get? S = some { cls := .type "list", data := .seq #[] c₀ })
    (hR : ∀ s' ord c', (∀ b o, b ≠ S → s.heap.get? b = some o → s'.heap.get? b = some o) → s'.heap.get? S = some { cls := .type "list", dict := none, data := .seq (List.toArray ord) c', slots := #[] } → IntsAre ord (ord.map keyV) → (ord.map keyV).Perm ks → Still s s' → R (.ok (.ret res)) s') :
    wpAny (model prog w) A.in1 (Builtin.List.listExtendWith (.ref S) (.ref a) res)
      (fun fin s' => match fin with | .done f => R (.ok f) s' | .again c' => c'.quiet = true ∧ codeAny (model prog w) A c' R s') (fun e s' => R (.error e) s') s := by
  have hT : s.TypeIs (.ref a) "set" := by
    obtain ⟨o, es, ep, t, ho, hex, _⟩ := hS
    exact ⟨o, ho, hex.1⟩
  unfold Builtin.List.listExtendWith
  refine wpAny_bind (wpAny_typeOf (T := "set") hT ?_)
  have h1 : Builtin.List.listSameRef (.ref S) (.ref a) = false := by simp [Builtin.List.listSameRef, hSa]
  have h2 : (Value.type "set" == Value.type "list") = false := by decide
  have h3 : (Value.type "set" == Value.type "tuple") = false := by decide
  simp only [h1, h2, h3, Bool.or_false, Bool.false_eq_true, if_false]
  refine wpAny_bind (sg_iter (A := A.in1) hh hS fun I ord fp St n s₁ hk hfp hI hI2 hn W st i1 i2 sl => ?_)
  have hSlt : S < s.heap.objs.size := Heap.lt_size hSl
  have hS₁ := hk _ _ hSl
  have hSf : S ∉ fp := fun hm => by
    rcases (hfp S hm).2 with e | e
    · exact hSa e
    · exact absurd hSlt (Nat.not_lt.mpr e)
  have hSI : S ≠ I := Nat.ne_of_lt (Nat.lt_of_lt_of_le hSlt hI)
  have hT₁ : s₁.TypeIs (.ref a) "set" := let ⟨o, e, c⟩ := hT; ⟨o, hk _ _ e, c⟩
  have hn63 : n ≤ sizeLine := by
    have := i2.length_eq
    rw [List.length_map] at this
    rw [sizeLine_eq]
    lia
  have key : ∀ (h : Heap) (c₁ : Nat), St 0 h → (∀ b o, b ≠ S → s.heap.get? b = some o → h.get? b = some o) →
      h.get? S = some { cls := .type "list", data := .seq #[] c₁ } → codeAny (model prog w) A (.builtin "list.extend.loop" ⟨[.ref S, .ref I, res], []⟩) R { s₁ with heap := h } := by
    intro h c₁ hst hk' hS₁
    refine codeAny_extend_loopS W.toS hn63 S hSf res n 0 _ #[] c₁ rfl (Nat.zero_le _) hst hS₁ (ItemsOf.nil _) fun s' acc' c' hm hS' hacc => ?_
    have he : acc'.toList = ord := items_ord (by rw [hn]; exact hacc)
    refine hR s' ord c' (fun b o hb e => hm.heap b o (fun hmem => ?_) (hk' b o hb e)) (by rw [← he, Array.toArray_toList]; exact hS') i1 i2 ⟨hm.os.trans sl.1, hm.gens.trans sl.2⟩
    rcases List.mem_cons.mp hmem with e' | hmem
    · exact hb e'
    · exact absurd (Heap.lt_size e) (by rw [List.mem_singleton.mp hmem]; exact Nat.not_lt.mpr hI)
  refine wpAny_bind (wpAny_holding (hint_set hT₁ ?_))
  refine wpAny_ite_split (fun _ => ?_) (fun _ => wpAny_pure ⟨plainId_quiet PySem.F.plain_extend_loop _, key s₁.heap c₀ st (fun b o _ e => hk b o e) hS₁⟩)
  refine wpAny_bind (wpAny_rule ?_)
  refine wpAny_bind ?_
  show wpAny _ _ (updateSeq S (·.push .none) >>= fun _ => updateSeq S (·.pop)) _ _ _
  refine wpAny_bind (wpAny_updateSeq hS₁ rfl ?_)
  have hS₂ := Heap.get?_update_self (Obj.mapSeq (·.push Value.none)) hS₁ rfl
  refine wpAny_updateSeq (hz := by seq_fits) hS₂ rfl ?_
  have hS₃ := Heap.get?_update_self (Obj.mapSeq (·.pop)) hS₂ rfl
  refine wpAny_pure ⟨plainId_quiet PySem.F.plain_extend_loop _, key _ _ ?_ (fun b o hb e => ?_) hS₃⟩
  · refine W.frame 0 _ _ st fun b hb o e => ?_
    have hbS : b ≠ S := fun h => hSf (h ▸ hb)
    exact (Heap.get?_update_other _ _ (Ne.symm hbS)).trans ((Heap.get?_update_other _ _ (Ne.symm hbS)).trans e)
  · exact (Heap.get?_update_other _ _ (Ne.symm hb)).trans ((Heap.get?_update_other _ _ (Ne.symm hb)).trans (hk _ _ e))
theorem sg_collect {a : Nat} {ks : List Int} {R : List Value → Shared → Prop} (hh : A.handled = none) (hS : SetG prog w s.heap a ks) (hlen : ks.length ≤ 63)
    (h : ∀ s' ord, (∀ b o, s.heap.get? b = some o → s'.heap.get? b = some o) → IntsAre ord (ord.map keyV) → (ord.map keyV).Perm ks → Still s s' → R ord s') :
    wpAny (model prog w) A (collect (.ref a)) R E s := by
  have hlt : a < s.heap.objs.size := let ⟨o, es, ep, t, ho, _⟩ := hS; Heap.lt_size ho
  unfold collect
  refine wpAny_bind (wpAny_runValue (codeAny_builtin entry_proto_collect' ?_))
  rw [Around.under_plainId PySem.F.plain_proto_collect _]
  show wpAny _ A.in1 (newList [] >>= fun l => again (.builtin "list.__iadd__" ⟨[l, .ref a], []⟩)) _ _ s
  refine wpAny_bind (wpAny_newObj_type ?_)
  refine wpAny_pure ⟨plainId_quiet PySem.F.plain_list_iadd _, codeAny_builtin entry_list_iadd' ?_⟩
  rw [Around.under_plainId PySem.F.plain_list_iadd _]
  have hS₁ : (s.heap.push { cls := .type "list", data := .seq ([] : List Value).toArray }).get? s.heap.objs.size = some { cls := .type "list", data := .seq #[] } := Heap.get?_push_size _ rfl
  show wpAny _ A.in1 (Builtin.List.listExtendWith (.ref s.heap.objs.size) (.ref a) (.ref s.heap.objs.size)) _ _ _
  have key := sg_extend (A := A) (s := { s with heap := s.heap.push { cls := .type "list", data := .seq ([] : List Value).toArray } })
    (R := fun (q : Result) (s' : Shared) => ∃ ord c', q = .ok (.ret (.ref s.heap.objs.size)) ∧ (∀ b o, s.heap.get? b = some o → s'.heap.get? b = some o) ∧
      s'.heap.get? s.heap.objs.size = some { cls := .type "list", dict := none, data := .seq (List.toArray ord) c', slots := #[] } ∧ IntsAre ord (ord.map keyV) ∧ (ord.map keyV).Perm ks ∧ Still s s')
    hh (sg_at hS fun o e => Heap.get?_push_of_some _ e) hlen s.heap.objs.size (Nat.ne_of_gt hlt) (.ref s.heap.objs.size) 0 hS₁
    (fun s' ord c' hk hS' i1 i2 sl => ⟨ord, c', rfl, fun b o e => hk b o (Nat.ne_of_lt (Heap.lt_size e)) (Heap.get?_push_of_some _ e), hS', i1, i2, ⟨sl.1, sl.2⟩⟩)
  refine wpAny_mono key (fun fin s' x => ?_) fun e s' x => ?_
  · cases fin with
    | done f =>
      obtain ⟨ord, c', e, hk, hS', i1, i2, sl⟩ := x
      cases e
      show wpAny _ A (load s.heap.objs.size >>= _) _ _ _
      refine wpAny_bind (wpAny_load hS' ?_)
      exact wpAny_pure (h s' ord hk i1 i2 sl)
    | again c₁ =>
      refine ⟨x.1, codeAny_mono x.2 fun q s₂ y => ?_⟩
      obtain ⟨ord, c', rfl, hk, hS', i1, i2, sl⟩ := y
      show wpAny _ A (load s.heap.objs.size >>= _) _ _ _
      refine wpAny_bind (wpAny_load hS' ?_)
      exact wpAny_pure (h s₂ ord hk i1 i2 sl)
  · obtain ⟨_, _, e', _⟩ := x
    cases e'
theorem sg_sorted {a : Nat} {ks : List Int} {Q : Value → Shared → Prop} {h₀ : Heap} {L : Addr} {m : Str → Option Value} {news : List (Addr × Obj)} (hh : A.handled = none) (F : Fr h₀ L s.heap m) (N : News h₀ L s.heap news) (hS : SetG prog w s.heap a ks) (hlen : ks.length ≤ 63)
    (h : ∀ (D : Nat) (s' : Shared) (vs : List Value) (ns' : List Int) (c : Nat), IntsAre vs ns' → ns'.Perm ks → ns'.Pairwise (· ≤ ·) → Fr h₀ L s'.heap m → News h₀ L s'.heap ((D, listOf vs.toArray c) :: news) → (∀ q ∈ news, q.1 < D) → Still s s' → Q (.ref D) s') :
    wpAny (model prog w) A (call (.builtin "sorted") [.ref a]) Q E s := by
  refine call_function_entry kind_sorted plain_sorted entry_sorted (args_sorted1 _) ?_
  unfold Builtin.«sorted»
  refine wpAny_bind (m := checkCount "sorted" 1 1 _) (wpAny_pure ?_)
  refine wpAny_bind (sg_collect (A := A.in1) hh hS hlen fun s' ord hk i1 i2 sl => ?_)
  have hl : ord.length < 64 := by
    have := i2.length_eq
    rw [List.length_map] at this
    lia
  refine wpAny_bind (wpAny_newList ?_ (by rw [sizeLine_eq]; lia))
  have hD : (s'.heap.push (seqObj "list" ord.toArray 0)).get? s'.heap.objs.size = some (seqObj "list" ord.toArray 0) := Heap.get?_push_size _ rfl
  refine wpAny_bind (wpAny_holding (wpAny_call_entry slot_list_sort ⟨_, hD, rfl⟩ entry_list_sort (list_sort_tree hD i1 hl fun out ns' a1 a2 a3 => ⟨_, rfl, ?_⟩) (args_list_sort _)))
  refine wpAny_pure ⟨_, rfl, ?_⟩
  obtain ⟨e, he⟩ := sortedHeap_at (out := out) hD
  have hz : s'.heap.objs.size < (s'.heap.push (seqObj "list" ord.toArray 0)).objs.size := by rw [Heap.size_push]; exact Nat.lt_succ_self _
  have k : ∀ b o, s'.heap.get? b = some o → (sortedHeap (s'.heap.push (seqObj "list" ord.toArray 0)) s'.heap.objs.size ord out).get? b = some o := fun b o q => by
    have hb : b < s'.heap.objs.size := Heap.lt_size q
    rw [sortedHeap_old (Nat.ne_of_lt hb) (Nat.lt_trans hb hz)]
    exact Heap.get?_push_of_some _ q
  have F' := F.kept hk
  have N' : News h₀ L s'.heap news := fun p hp => ⟨hk _ _ (N p hp).1, (N p hp).2.1, (N p hp).2.2⟩
  exact h _ _ out.toList ns' e a1 (a2.trans i2) a3 (F'.kept k) (N'.kept_cons F' k (Nat.le_refl _) (by simpa using he)) (fun q hq => Heap.lt_size (N' q hq).1) ⟨sl.1, sl.2⟩
theorem sg_sorted_set {l : Addr} {vs : List Value} {ns : List Int} {n : Nat} {Q : Value → Shared → Prop} {h₀ : Heap} {L : Addr} {m : Str → Option Value} {news : List (Addr × Obj)} (hh : A.handled = none) (F : Fr h₀ L s.heap m) (N : News h₀ L s.heap news)
    (hl : (l, listOf vs.toArray n) ∈ news) (hi : IntsAre vs ns) (hlen : ns.length ≤ 63)
    (h : ∀ (S : Nat) (h' : Heap) (tk : Nat) (o : Obj), SetG prog w h' S (firstMet (fun i => ns.getD i 0) ns.length) → Fr h₀ L h' m → News h₀ L h' ((S, o) :: news) → (∀ q ∈ news, q.1 < S) → Q (.ref S) { s with heap := h', toks := tk }) :
    wpAny (model prog w) A (call (.type "set") [.ref l]) Q E s := by
  have hvn : vs.length = ns.length := IntsAre.length hi
  refine sg_set (items := vs.toArray) (ns := ns) hh (News.isList N hl) (by simpa using hi) (by rw [List.size_toArray, hvn]; show ns.length + 1 < 4096; lia) fun h' tk hS hk => ?_
  have hsz : vs.toArray.size = ns.length := by rw [List.size_toArray, hvn]
  rw [hsz] at hS
  obtain ⟨o, es, ep, t, ho, r⟩ := id hS
  have k : ∀ b o, s.heap.get? b = some o → h'.get? b = some o := fun b o e => hk b o (Heap.lt_size e) e
  exact h _ h' tk o hS (F.kept k) (N.kept_cons F k (Nat.le_refl _) ho) (fun q hq => Heap.lt_size (N q hq).1)
end
end
section
theorem keys_miss_lookup : typeLookup (.type "list") "keys" = pure none := am_miss_of_fast (by kernel_rfl)
set_option maxRecDepth 100000 in
set_option maxHeartbeats 8000000 in
theorem keys_miss {prog : Program} {w : World} {A : Around} {E : Value → Shared → Prop} {s : Shared} {a : Addr} {xs : Array Value} {k : Nat} {Q : Option Value → Shared → Prop}
    (hx : s.heap.get? a = some { cls := .type "list", dict := none, data := .seq xs k, slots := #[] }) (hA : A.handled = none)
    (h : ∀ h' tk, (∀ b ob, s.heap.get? b = some ob → h'.get? b = some ob) → Q none { s with heap := h', toks := tk }) :
    wpAny (model prog w) A (getAttr? (.ref a) "keys") Q E s := by
  obtain ⟨hp, g, d, tk, os⟩ := s
  have hT : ∀ tk', (⟨hp, g, d, tk', os⟩ : Shared).TypeIs (.ref a) "list" := fun _ => ⟨_, hx, rfl⟩
  have f1 := sub_AttributeError
  have f3 := F.slot_list_getattribute.lookup
  have f4 := F.slot_list_getattribute.bind (.ref a)
  have f5 := am_list_getattr_none
  have hmiss := keys_miss_lookup
  unfold getAttr? getAttrBy? getAttrBy
  repeat (any_goals (first | assumption | exact hT _ | ((with_reducible show wpAny _ _ (call (Value.builtin "list.__getattribute__") _ _) _ _ _); refine call_meets F.slot_list_getattribute (hT _) am_entry_list_getattribute (F.args_list_getattribute_2 _ _) (meets_getattribute_miss_list a xs k #[] "keys" _ hmiss (by decide +kernel) (by size_fits)) ⟨hx, hA, fun h' tk' e hx' => ?_⟩) | wp_step))
  obtain ⟨t', u', he⟩ := hx'.there
  show wpAny _ _ (getattributeRaised _ _ _ _ _ _ _) _ _ _
  unfold getattributeRaised
  repeat (any_goals (first | assumption | wp_step))
  exact h _ _ hx'.keeps
end
section
theorem entry_dict_update_loop : entryFor table "dict.update.loop" = some Builtin.«dict.update.loop» := entryFor_of_tree (by kernel_rfl)
theorem plain_dict_update_loop : plainId "dict.update.loop" = true := by decide +kernel
noncomputable def Tups (h : Heap) (items : Array Value) (ps : List (Int × Value)) (d I : Nat) : Prop :=
  items.size = ps.length ∧ ∀ (j : Nat) (v : Value), items[j]? = some v → ∃ (ta : Nat) (t : Tok) (x : Value) (k : Int), v = .ref ta ∧ ta ≠ d ∧ ta ≠ I ∧ h.get? ta = some (tupO [.int k t, x]) ∧ ps[j]? = some (k, x)
theorem Tups.at {h h' : Heap} {items : Array Value} {ps : List (Int × Value)} {d I : Nat} (T : Tups h items ps d I) (k : ∀ b o, b ≠ d → b ≠ I → h.get? b = some o → h'.get? b = some o) : Tups h' items ps d I :=
  ⟨T.1, fun j v e => let ⟨ta, t, x, kk, a, b, c, g, q⟩ := T.2 j v e; ⟨ta, t, x, kk, a, b, c, k _ _ b c g, q⟩⟩
theorem stored_new {kvs : List (Int × Value)} {k : Int} {v : Value} (h : k ∉ kvs.map (·.1)) : stored kvs k v = kvs ++ [(k, v)] := by
  unfold stored
  rw [if_neg]
  intro q
  obtain ⟨p, hp, e⟩ := List.any_eq_true.mp q
  exact h (List.mem_map.mpr ⟨p, hp, of_decide_eq_true e⟩)
theorem take_key_new {ps : List (Int × Value)} (nd : (ps.map (·.1)).Nodup) {i : Nat} {k : Int} {x : Value} (h : ps[i]? = some (k, x)) : k ∉ (ps.take i).map (·.1) := by
  intro hm
  obtain ⟨p, hp, e⟩ := List.mem_map.mp hm
  obtain ⟨j, hj⟩ := List.getElem?_of_mem hp
  rw [List.getElem?_take] at hj
  split at hj
  · rename_i hji
    obtain ⟨h1, e1⟩ := List.getElem?_eq_some_iff.mp h
    obtain ⟨h2, e2⟩ := List.getElem?_eq_some_iff.mp hj
    have := List.pairwise_iff_getElem.mp nd j i (by simpa using h2) (by simpa using h1) hji
    apply this
    simp [e1, e2, e]
  · cases hj
section
variable {prog : Program} {w : World} {A : Around} {E : Value → Shared → Prop} {s : Shared}
theorem dl_loop {R : Result → Shared → Prop} {d I l : Nat} {items : Array Value} {ps : List (Int × Value)} (hh : A.handled = none) (nd : (ps.map (·.1)).Nodup) (hlI : l ≠ I) (hdI : d ≠ I) (hld : l ≠ d) (hsz : ps.length ≤ 100000) :
    ∀ (k i : Nat) (s : Shared), items.size - i = k → i ≤ items.size → (s.heap.IsListIter I l i ∧ s.heap.IsList l items) → s.heap.DictOf (intKind prog w) d (ps.take i) → Tups s.heap items ps d I →
      (∀ h' tk, (∀ b o, b ≠ d → b ≠ I → s.heap.get? b = some o → h'.get? b = some o) → h'.DictOf (intKind prog w) d ps → R (.ok (.ret .none)) { s with heap := h', toks := tk }) →
      codeAny (model prog w) A (.builtin "dict.update.loop" ⟨[.ref d, .ref I, .int i 0, .none], []⟩) R s := by
  have W : Walks prog w A.in1 I [I, l] [I] items.size _ _ := Walks.list (prog := prog) (w := w) (A := A.in1) hh I l hlI items
  intro k
  induction k with
  | zero =>
    intro i s hk hi hst hD hT hR
    have hin : i = items.size := by lia
    subst hin
    refine codeAny_builtin entry_dict_update_loop ?_
    rw [Around.under_plainId plain_dict_update_loop _]
    show wpAny _ A.in1 (pyNext (.ref I) >>= _) _ _ s
    refine wpAny_bind (W.done s _ _ hst fun h' tk hk' => ?_)
    show wpAny _ A.in1 (ret Value.none) _ _ _
    refine wpAny_pure (hR h' tk (fun b o _ hI e => hk' b o (by simpa using hI) e) ?_)
    have e : ps.take items.size = ps := by rw [hT.1]; exact List.take_length
    rw [e] at hD
    obtain ⟨o, es, ep, ho, r⟩ := hD
    exact ⟨o, es, ep, hk' _ _ (by simpa using hdI) ho, r⟩
  | succ k ih =>
    intro i s hk hi hst hD hT hR
    have hlt : i < items.size := by lia
    refine codeAny_builtin entry_dict_update_loop ?_
    rw [Around.under_plainId plain_dict_update_loop _]
    show wpAny _ A.in1 (pyNext (.ref I) >>= _) _ _ s
    refine wpAny_bind (W.item i s _ _ hlt hst fun v h' tk hP hst' hk' => ?_)
    obtain ⟨ta, t, x, kk, rfl, t1, t2, hta, hps⟩ := hT.2 i v hP
    have hta' : h'.get? ta = some (tupO [.int kk t, x]) := hk' _ _ (by simpa using t2) hta
    have hD' : h'.DictOf (intKind prog w) d (ps.take i) := by
      obtain ⟨o, es, ep, ho, r⟩ := hD
      exact ⟨o, es, ep, hk' _ _ (by simpa using hdI) ho, r⟩
    dsimp only
    refine wpAny_bind (wpAny_holding ?_)
    unfold Builtin.Dict.pairItems
    refine wpAny_bind (wpAny_tryCatch ?_)
    refine wpAny_bind (wpAny_typeOf (T := "tuple") ⟨_, hta', rfl⟩ ?_)
    rw [if_pos (by decide)]
    refine wpAny_bind (wpAny_seqItems hta' rfl ?_)
    refine wpAny_pure ?_
    show wpAny _ A.in1 (holding [Value.int kk t, x] (dictSet d (.int kk t) x)) _ _ _
    have hlen : (ps.take i).length ≤ sizeLine := by rw [List.length_take, sizeLine_eq]; lia
    refine wpAny_holding (wpAny_dictSet_pairs (hsz := hlen) (k := kk) (intKind_is _ _ _ _) hD' fun h2 hD2 hs2 => ?_)
    rw [stored_new (take_key_new nd hps), ← take_snoc hps] at hD2
    have e1 : (rawInt ((i : Int) + 1)) = Value.int ((i + 1 : Nat) : Int) 0 := by simp [rawInt]
    rw [e1]
    have hk2 : ∀ b o, b ≠ d → b ≠ I → s.heap.get? b = some o → h2.get? b = some o := fun b o hb hI e => hs2.extBut b o hb (hk' b o (by simpa using hI) e)
    refine wpAny_pure ⟨plainId_quiet plain_dict_update_loop _, ih (i + 1) _ (by lia) hlt ⟨hst'.1.at fun o e => hs2.extBut _ _ (Ne.symm hdI) e, hst'.2.at fun o e => hs2.extBut _ _ hld e⟩ hD2 (hT.at hk2) fun h3 tk3 hk3 hD3 => ?_⟩
    exact hR h3 tk3 (fun b o hb hI e => hk3 b o hb hI (hk2 b o hb hI e)) hD3
theorem dict_pairs {l : Nat} {items : Array Value} {n : Nat} {ps : List (Int × Value)} {Q : Value → Shared → Prop} (hh : A.handled = none) (nd : (ps.map (·.1)).Nodup) (hl : s.heap.get? l = some (listOf items n)) (hsz : ps.length ≤ 100000)
    (hT : items.size = ps.length ∧ ∀ (j : Nat) (v : Value), items[j]? = some v → ∃ (ta : Nat) (t : Tok) (x : Value) (k : Int), v = .ref ta ∧ s.heap.get? ta = some (tupO [.int k t, x]) ∧ ps[j]? = some (k, x))
    (h : ∀ h' tk, (∀ b o, s.heap.get? b = some o → h'.get? b = some o) → h'.DictOf (intKind prog w) s.heap.objs.size ps → Q (.ref s.heap.objs.size) { s with heap := h', toks := tk }) :
    wpAny (model prog w) A (call (.type "dict") [.ref l]) Q E s := by
  refine callType_codes (Q₁ := fun obj s₁ => obj = .ref s.heap.objs.size ∧ s₁ = { s with heap := s.heap.push { cls := .type "dict", data := .dict #[] } }) F.kt_called_dict (F.kt_typeCall_dict_1 _) F.entry_dict_init (kt_code_dict_new _ ⟨rfl, rfl⟩) ?_
  rintro obj s₁ ⟨rfl, rfl⟩
  have hlt : l < s.heap.objs.size := Heap.lt_size hl
  have hnew : (s.heap.push { cls := .type "dict", data := .dict #[] }).DictOf (intKind prog w) s.heap.objs.size [] := Heap.DictOf.new s.heap
  have hl1 : (s.heap.push { cls := .type "dict", data := .dict #[] }).get? l = some (listOf items n) := Heap.get?_push_of_some _ hl
  refine ⟨hnew.typeIs, F.args_dict_init_2 _ _, ?_⟩
  unfold Builtin.«dict.__init__»
  refine wpAny_bind ?_
  unfold Builtin.Dict.selfAndRest
  refine wpAny_bind (wpAny_notOrdered_dict hnew.typeIs ?_)
  show wpAny _ _ (pure (s.heap.objs.size, [Value.ref l])) _ _ _
  refine wpAny_pure ?_
  show wpAny _ _ (Builtin.Dict.updateFrom "dict.__init__" s.heap.objs.size (.ref l) [] .none) _ _ _
  unfold Builtin.Dict.updateFrom
  refine wpAny_bind (wpAny_typeOf (T := "list") ⟨_, hl1, rfl⟩ ?_)
  rw [if_pos (by decide)]
  refine wpAny_bind (keys_miss (k := n) hl1 hh fun h1 tk1 hk1 => ?_)
  rw [if_pos (by rfl)]
  refine wpAny_bind (wpAny_rule ?_)
  have hl2 : h1.IsList l items := ⟨_, hk1 _ _ hl1, rfl, n, rfl⟩
  refine wpAny_bind (wpAny_pyIter_list hl2 ?_)
  have hsize : s.heap.objs.size < h1.objs.size := by
    obtain ⟨o, es, ep, ho, _⟩ := hnew
    exact Heap.lt_size (hk1 _ _ ho)
  have hk2 : ∀ b o, s.heap.get? b = some o → (h1.push { cls := .type "list_iterator", data := .fields #[.ref l, .int 0 0] }).get? b = some o := fun b o e => Heap.get?_push_of_some _ (hk1 _ _ (Heap.get?_push_of_some _ e))
  refine wpAny_pure ⟨plainId_quiet plain_dict_update_loop _, dl_loop (A := A.in1) (l := l) (items := items) (ps := ps) (show A.in1.handled = none from hh) nd (Nat.ne_of_lt (Nat.lt_trans hlt hsize)) (Nat.ne_of_lt hsize) (Nat.ne_of_lt hlt) hsz items.size 0 _ (by lia) (Nat.zero_le _) ⟨⟨_, Heap.get?_push_size _ rfl, rfl, rfl⟩, hl2.push _⟩ ?_ ⟨hT.1, fun j v e => ?_⟩ fun h' tk hk hD => ?_⟩
  · obtain ⟨o, es, ep, ho, r⟩ := hnew
    exact ⟨o, es, ep, Heap.get?_push_of_some _ (hk1 _ _ ho), r⟩
  · obtain ⟨ta, t, x, k, rfl, g, q⟩ := hT.2 j v e
    have hta : ta < s.heap.objs.size := Heap.lt_size g
    exact ⟨ta, t, x, k, rfl, Nat.ne_of_lt hta, Nat.ne_of_lt (Nat.lt_trans hta hsize), hk2 _ _ g, q⟩
  · exact ⟨rfl, h h' tk (fun b o e => hk b o (Nat.ne_of_lt (Heap.lt_size e)) (Nat.ne_of_lt (Nat.lt_trans (Heap.lt_size e) hsize)) (hk2 _ _ e)) hD⟩
end
end
local macro_rules | `(tactic| k_room) => `(tactic| first | decide | ((try simp only [depth_under_make, depth_under_kw, depth_in1, depth_deeper, depth_caller]); (try dsimp only [ktrTop]); simp only [recursionLimit]; lia))
local macro_rules | `(tactic| k_units) => `(tactic| first | exact Nat.le_of_ble_eq_true rfl | ((try simp only [units_in1, units_deeper, Around.mark_units, units_caller]); (try dsimp only [ktrTop]); (have hcL9 := cLine_is); lia))
local macro_rules | `(tactic| k_all) => `(tactic| first | with_reducible assumption | exact off_of_lt (by with_reducible assumption) | exact off_of_lt (And.right (by with_reducible assumption)) | exact off_of_lt (And.right (And.right (by with_reducible assumption))) | exact off_of_lt (And.right (And.right (And.right (by with_reducible assumption)))) | exact off_of_lt (And.right (And.right (And.right (And.right (by with_reducible assumption))))) | exact off_of_lt (And.right (And.right (And.right (And.right (And.right (by with_reducible assumption)))))) | exact off_of_lt (And.right (And.right (And.right (And.right (And.right (And.right (by with_reducible assumption))))))) | exact off_of_lt (And.right (And.right (And.right (And.right (And.right (And.right (And.right (by with_reducible assumption)))))))) | exact off_of_lt (And.right (And.right (And.right (And.right (And.right (And.right (And.right (And.right (by with_reducible assumption))))))))) | exact off_of_lt (And.right (And.right (And.right (And.right (And.right (And.right (And.right (And.right (And.right (by with_reducible assumption)))))))))) | exact off_of_lt (And.right (And.right (And.right (And.right (And.right (And.right (And.right (And.right (And.right (And.right (by with_reducible assumption))))))))))) | exact off_of_lt (And.right (And.right (And.right (And.right (And.right (And.right (And.right (And.right (And.right (And.right (And.right (by with_reducible assumption)))))))))))) | exact off_of_lt (And.right (And.right (And.right (And.right (And.right (And.right (And.right (And.right (And.right (And.right (And.right (And.right (by with_reducible assumption))))))))))))) | exact off_of_lt (And.right (And.right (And.right (And.right (And.right (And.right (And.right (And.right (And.right (And.right (And.right (And.right (And.right (by with_reducible assumption)))))))))))))))
local macro_rules | `(tactic| k_mem) => `(tactic| first | with_reducible assumption | with_reducible_and_instances assumption | (refine List.mem_append_right _ ?_; k_mem) | (refine List.mem_append_left _ ?_; k_mem))

local macro_rules | `(tactic| walk_at $s:str) => `(tactic| k_extra $s)
local macro_rules | `(tactic| walk_at "pyIter ref") => `(tactic| k_extra "my pyIter ref")
local macro_rules | `(tactic| walk_at "pyIter bytes") => `(tactic| k_extra "my pyIter bytes")
local macro_rules | `(tactic| walk_at "pyIter str") => `(tactic| k_extra "my pyIter str")
local macro_rules | `(tactic| walk_at "table") => `(tactic| k_extra "my table")
section
theorem rowsDraw1 : True := by
  k_with_none
  k_with "pen_at" => focus (first | with_reducible assumption | (refine' PenAt.head ?_ ?_ ?_; (rotate_right 3; (focus (first | with_reducible assumption | k_ne)); (focus (k_all)); (focus (k_all)))) | (refine' PenAt.tail ?_ ?_ ?_; (rotate_right 1; (focus (walk_at "pen_at"))); (rotate_right 2; (focus (k_ne)); (focus (k_ne)))))
  k_with "room" => focus (first | lia | (dsimp only [ktrTop, Around.deeper]; lia))
  k_with "enterC" => focus ((refine' code_defC ?_ ?_ ?_ ?_ ?_ ?_ ?_ ?_ ?_ ?_ ?_ ?_ ?_ ?_ ?_ ?_ ?_ ?_; (rotate_right 13; (focus (exact rfl)); (focus (exact rfl)); (focus (first | exact rfl | assumption)); rotate_left 10); (rotate_right 15; (focus (k_asm)); (focus (k_asm)); (focus (k_asm)); (focus (k_asm)); (focus (k_asm)); (focus (k_is)); (focus (k_is)); (focus (k_room)); (focus (exact BindsTo.of_eq rfl)); (focus (exact rfl)); (focus (decide +kernel)); rotate_left 4); (rotate_right 3; (focus (exact rfl)); (focus (exact rfl)); (focus (exact rfl))); k_whole; intro g' L' h' tk' cells' FG' F' N' Y' B' X' T' l1; (try k_lt l1); k_cells Y'; (try simp only [List.cons_append, List.nil_append] at N'); (try dsimp only); (try k_lift B'); (try k_fold)))
  k_with "eval Name" => focus ((k_here; (with_reducible show wpAny _ _ (eval (Expr.Name _ _) (compEnvC _ _ _ _)) _ _ _); k_dflt (first | (refine' lcf_cell ?_ ?_ ?_ ?_ ?_ ?_ ?_; (rotate_right 1; (focus (rfl))); (rotate_right 1; (focus (rfl))); (rotate_right 5; (focus (k_asm)); (focus (rfl)); (focus (k_mem)); (focus (k_asm)); rotate_left 1); k_whole) | (refine' lcf_free ?_ ?_ ?_ ?_ ?_ ?_ ?_; (rotate_right 1; (focus (rfl))); (rotate_right 1; (focus (rfl))); (rotate_right 5; (focus (k_asm)); (focus (rfl)); (focus (k_mem)); (focus (k_asm)); rotate_left 1); k_whole) | refine LCgL.ld_global (by k_asm) (by k_asm) (by k_asm) (by k_is) ?_)))
  k_with "exec For Name Name cons nil" => focus ((k_here; (rename Fr _ _ _ _ => lF'); (with_unfolding_all refine' For_invVF lF' ?_ ?_ ?_; (rotate_right 3; (focus (exact rfl)); (focus (exact rfl)); rotate_left 1); k_whole)))
  k_with "exec For Name Call cons nil" => focus ((k_here; (rename Fr _ _ _ _ => lF'); (with_unfolding_all refine' For_invVF lF' ?_ ?_ ?_; (rotate_right 3; (focus (exact rfl)); (focus (exact rfl)); rotate_left 1); k_whole)))
  k_with "binaryOp FloorDiv int int" => focus ((k_here; (refine floordiv_int (by lia) ?_ (Or.inr (PySem.PylongRoom.of (by exact PySem.Heap.NoLimit.keeps (Top.nolimit (by assumption)) (Fr.keep (by assumption))) (by simp only [depth_deeper, recursionLimit, Builtin.pylongFrames]; lia))))))
  k_with "call builtin:list.pop" => focus ((k_here; k_dflt (refine' pop_ints ?_ ?_ ?_ ?_ ?_ ?_ ?_; (rotate_right 7; (focus (k_asm)); (focus (k_asm)); (focus (k_updF)); (focus (k_asm)); (focus (k_asm)); (focus (k_asm)); rotate_left 1)); intro i9 t9 vs9 ns9 h' I9 l9 F' N'; (try dsimp only at N'); (try k_sweep)))
  trivial
local macro_rules | `(tactic| k_all) => `(tactic| with_reducible assumption)
theorem draw_end {h₀ h' : Heap} {L : Addr} {m : Str → Option Value} {pa la : Nat} {news' rest : List (Addr × Obj)} {s : Shared} {Q : Value → Shared → Prop} {many r k d : Int} {tr t1 t2 : Tok} {c1 c2 : Nat} {vs : List Value} {ns : List Int} {tk' : Nat}
    (hret : ∀ (r : Int) (tr : Tok) (y : PenSt) h' tk', 0 ≤ r → r < many → Fr h₀ L h' m → News h₀ L h' ((pa, penA la y) :: (la, penB y) :: rest) → Q (.int r tr) { s with heap := h', toks := tk' })
    (hr : 0 ≤ r) (hr' : r < many) (F : Fr h₀ L h' m) (N : News h₀ L h' news') (h1 : (pa, listOf [.ref la, .int k t1, .int d t2].toArray c1) ∈ news') (h2 : (la, listOf vs.toArray c2) ∈ news') (hi : IntsAre vs ns) (hl : ns.length ≤ 63) (h3 : ∀ p ∈ rest, p ∈ news') : Q (.int r tr) { s with heap := h', toks := tk' } :=
  hret r tr ⟨k, d, t1, t2, c1, c2, vs, ns, hi, hl⟩ h' tk' hr hr' F fun p hp => by
    rcases List.mem_cons.mp hp with rfl | hp
    · exact N _ h1
    · rcases List.mem_cons.mp hp with rfl | hp
      · exact N _ h2
      · exact N _ (h3 p hp)
set_option maxRecDepth 100000 in
set_option maxHeartbeats 8000000 in
theorem draw_core (w : World) (mean : ExcName → Option Value) (mg mb : Str → Option Value) (dp un : Nat) (gd : Option (List Code)) (cn : Str) (cs : Scope) (a : Addr) (ccd : Value) (cl : List (Str × Addr)) (outer : List Env) (A₀ : Around) (base h₀ : Heap) (L : Addr) (m : Str → Option Value) (s : Shared) 
    (Q E : Value → Shared → Prop) (pa la : Nat) (k d many : Int) (t1 t2 t3 : Tok) (c1 c2 : Nat) (vs : List Value) (ns : List Int) (rest : List (Addr × Obj))
    (B : Below A₀ base outer h₀) (F : Fr h₀ L s.heap m) (X : (Mine.hd.heap_1 w.params).In h₀)
    (N : News h₀ L s.heap ((pa, listOf [.ref la, .int k t1, .int d t2].toArray c1) :: (la, listOf vs.toArray c2) :: rest))
    (T : Top Mine.hd.view_1 (looseW Mine.hd.view_1 [Str.ofString "PaperError"]) mean mg mb h₀) (hk : cs.kind = .function)
    (hI : IntsAre vs ns) (hlen : ns.length ≤ 63) (hm : 0 < many) (hpl : pa ≠ la) (hoffp : ∀ p ∈ rest, p.1 ≠ pa) (hoffl : ∀ p ∈ rest, p.1 ≠ la)
    (hd : dp < 400) (hu : un < 400)
    (hret : ∀ (r : Int) (tr : Tok) (y : PenSt) h' tk', 0 ≤ r → r < many → Fr h₀ L h' m → News h₀ L h' ((pa, penA la y) :: (la, penB y) :: rest) → Q (.int r tr) { s with heap := h', toks := tk' }) :
    wpAny (model PySem.Challenge.rw_nn0202_01.row.prog w) (ktrTop dp un gd cn cs L a ccd cl outer) (call (.ref 256) [.ref pa, .int many t3]) Q E s := by
  revert X
  k_fill
  intro X
  refine wpAny_call ?_
  k_dflt cell_enter
  k_steps
  all_goals (refine' draw_end hret (fmod_lo _ hm) (fmod_hi _ hm) ?F ?N ?h1 ?h2 ?i ?l ?h3; (case F => k_asm); (case N => k_asm); (case h1 => k_mem); (case h2 => k_mem); (case i => assumption); (case l => assumption); (case h3 => kcj_all))

theorem draw_ok {w : World} {mean : ExcName → Option Value} {mg mb : Str → Option Value} {dp un : Nat} {gd : Option (List Code)} {cn : Str} {cs : Scope} {a : Addr} {ccd : Value} {cl : List (Str × Addr)} {outer : List Env} {A₀ : Around} {base h₀ : Heap} {L : Addr} {m : Str → Option Value} {s : Shared}
    {Q E : Value → Shared → Prop} {pa la : Nat} {many : Int} {t3 : Tok} {x : PenSt} {news : List (Addr × Obj)} {g : PenSt → List (Addr × Obj)}
    (B : Below A₀ base outer h₀) (F : Fr h₀ L s.heap m) (X : (Mine.hd.heap_1 w.params).In h₀) (N : News h₀ L s.heap news)
    (T : Top Mine.hd.view_1 (looseW Mine.hd.view_1 [Str.ofString "PaperError"]) mean mg mb h₀) (hk : cs.kind = .function)
    (P : PenAt pa la x news g) (hm : 0 < many) (hd : dp < 400) (hu : un < 400)
    (hret : ∀ (r : Int) (tr : Tok) (y : PenSt) h' tk', 0 ≤ r → r < many → Fr h₀ L h' m → News h₀ L h' (g y) → Q (.int r tr) { s with heap := h', toks := tk' }) :
    wpAny (model PySem.Challenge.rw_nn0202_01.row.prog w) (ktrTop dp un gd cn cs L a ccd cl outer) (call (.ref 256) [.ref pa, .int many t3]) Q E s := by
  obtain ⟨pre, post, hpl, rfl, hg, ho⟩ := P.split
  refine draw_core w mean mg mb dp un gd cn cs a ccd cl outer A₀ base h₀ L m s Q E pa la x.k x.d many x.t1 x.t2 t3 x.c1 x.c2 x.vs x.ns (pre ++ post) B F X (cb_drop N ?_) T hk x.ok x.len hm hpl (fun p hp => (ho p hp).1) (fun p hp => (ho p hp).2) hd hu fun r tr y h' tk' h0 h1 F' N' => hret r tr y h' tk' h0 h1 F' (cb_drop N' ?_)
  · intro p hp
    simp only [List.mem_cons, List.mem_append] at hp ⊢
    rcases hp with rfl | rfl | hp | hp
    · exact .inr (.inl rfl)
    · exact .inr (.inr (.inl rfl))
    · exact .inl hp
    · exact .inr (.inr (.inr hp))
  · rw [hg]
    intro p hp
    simp only [List.mem_cons, List.mem_append] at hp ⊢
    rcases hp with hp | rfl | rfl | hp
    · exact .inr (.inr (.inl hp))
    · exact .inl rfl
    · exact .inr (.inl rfl)
    · exact .inr (.inr (.inr hp))
end
section
theorem rowsPick1 : True := by
  k_with_none
  k_with "pen_at" => focus (first | with_reducible assumption | (refine' PenAt.head ?_ ?_ ?_; (rotate_right 3; (focus (first | with_reducible assumption | k_ne)); (focus (k_all)); (focus (k_all)))) | (refine' PenAt.tail ?_ ?_ ?_; (rotate_right 1; (focus (walk_at "pen_at"))); (rotate_right 2; (focus (k_ne)); (focus (k_ne)))))
  k_with "room" => focus (first | lia | (dsimp only [ktrTop, Around.deeper]; lia))
  k_with "enterC" => focus ((refine' code_defC ?_ ?_ ?_ ?_ ?_ ?_ ?_ ?_ ?_ ?_ ?_ ?_ ?_ ?_ ?_ ?_ ?_ ?_; (rotate_right 13; (focus (exact rfl)); (focus (exact rfl)); (focus (first | exact rfl | assumption)); rotate_left 10); (rotate_right 15; (focus (k_asm)); (focus (k_asm)); (focus (k_asm)); (focus (k_asm)); (focus (k_asm)); (focus (k_is)); (focus (k_is)); (focus (k_room)); (focus (exact BindsTo.of_eq rfl)); (focus (exact rfl)); (focus (decide +kernel)); rotate_left 4); (rotate_right 3; (focus (exact rfl)); (focus (exact rfl)); (focus (exact rfl))); k_whole; intro g' L' h' tk' cells' FG' F' N' Y' B' X' T' l1; (try k_lt l1); k_cells Y'; (try simp only [List.cons_append, List.nil_append] at N'); (try dsimp only); (try k_lift B'); (try k_fold)))
  k_with "eval Name" => focus ((k_here; (with_reducible show wpAny _ _ (eval (Expr.Name _ _) (compEnvC _ _ _ _)) _ _ _); k_dflt (first | (refine' lcf_cell ?_ ?_ ?_ ?_ ?_ ?_ ?_; (rotate_right 1; (focus (rfl))); (rotate_right 1; (focus (rfl))); (rotate_right 5; (focus (k_asm)); (focus (rfl)); (focus (k_mem)); (focus (k_asm)); rotate_left 1); k_whole) | (refine' lcf_free ?_ ?_ ?_ ?_ ?_ ?_ ?_; (rotate_right 1; (focus (rfl))); (rotate_right 1; (focus (rfl))); (rotate_right 5; (focus (k_asm)); (focus (rfl)); (focus (k_mem)); (focus (k_asm)); rotate_left 1); k_whole) | refine LCgL.ld_global (by k_asm) (by k_asm) (by k_asm) (by k_is) ?_)))
  k_with "exec For Name Name cons nil" => focus ((k_here; (rename Fr _ _ _ _ => lF'); (with_unfolding_all refine' For_invVF lF' ?_ ?_ ?_; (rotate_right 3; (focus (exact rfl)); (focus (exact rfl)); rotate_left 1); k_whole)))
  k_with "exec For Name Call cons nil" => focus ((k_here; (rename Fr _ _ _ _ => lF'); (with_unfolding_all refine' For_invVF lF' ?_ ?_ ?_; (rotate_right 3; (focus (exact rfl)); (focus (exact rfl)); rotate_left 1); k_whole)))
  k_with "call ref" => focus (((with_reducible show wpAny _ _ (call (Value.ref 256) _) _ _ _); k_dflt (refine' draw_ok ?_ ?_ ?_ ?_ ?_ ?_ ?_ ?_ ?_ ?_ ?_; (rotate_right 11; (focus (k_asm)); (focus (k_asm)); (focus (k_asm)); (focus (k_asm)); (focus (k_asm)); (focus (first | exact rfl | assumption)); (focus (walk_at "pen_at")); (focus (first | decide | lia)); (focus (walk_at "room")); (focus (walk_at "room")); rotate_left 1)); intro r9 t9 y9 h' tk9 lo9 hi9 F' N'; (try dsimp only at N'); (try k_sweep)))
  k_with "call builtin:len" => focus ((k_here; (with_reducible show wpAny _ _ (call (Value.builtin "len") [Value.ref _]) _ _ _); k_dflt (refine' len_led ?_ ?_ ?_ ?_; (rotate_right 4; (focus (k_asm)); (focus (first | assumption | k_mem)); (focus (first | assumption | lia)); rotate_left 1))))
  k_with "subscriptTail Name Call ref int" => focus ((k_here; k_dflt (refine' item_led ?_ ?_ ?_ ?_ ?_ ?_ ?_; (rotate_right 7; (focus (k_asm)); (focus (first | assumption | exact PenAt.mem (by assumption) (by assumption) (by assumption) (by assumption))); (focus (assumption)); (focus (assumption)); (focus (assumption)); rotate_left 2); (rotate_right 1; (focus (with_unfolding_all rfl)))); intro v9 e9 m9))
  trivial
set_option maxRecDepth 100000 in
set_option maxHeartbeats 8000000 in
theorem pick_ok {w : World} {mean : ExcName → Option Value} {mg mb : Str → Option Value} {dp un : Nat} {gd : Option (List Code)} {cn : Str} {cs : Scope} {a : Addr} {ccd : Value} {cl : List (Str × Addr)} {outer : List Env} {A₀ : Around} {base h₀ : Heap} {L : Addr} {m : Str → Option Value} {s : Shared}
    {Q E : Value → Shared → Prop} {pa la sa : Nat} {items : List Value} {n : Nat} {x : PenSt} {news : List (Addr × Obj)} {g : PenSt → List (Addr × Obj)}
    (B : Below A₀ base outer h₀) (F : Fr h₀ L s.heap m) (X : (Mine.hd.heap_1 w.params).In h₀) (N : News h₀ L s.heap news)
    (T : Top Mine.hd.view_1 (looseW Mine.hd.view_1 [Str.ofString "PaperError"]) mean mg mb h₀) (hk : cs.kind = .function)
    (P : PenAt pa la x news g) (hs : (sa, listOf items.toArray n) ∈ news) (hsp : sa ≠ pa) (hsl : sa ≠ la) (hlo : 0 < (items.length : Int)) (hhi : items.length ≤ 1000) (hd : dp < 390) (hu : un < 390)
    (hret : ∀ (v : Value) (y : PenSt) h' tk', v ∈ items → Fr h₀ L h' m → News h₀ L h' (g y) → Q v { s with heap := h', toks := tk' }) :
    wpAny (model PySem.Challenge.rw_nn0202_01.row.prog w) (ktrTop dp un gd cn cs L a ccd cl outer) (call (.ref 263) [.ref pa, .ref sa]) Q E s := by
  revert X
  k_fill
  intro X
  refine wpAny_call ?_
  k_dflt cell_enter
  k_steps
  all_goals (refine' hret _ _ _ _ ?m ?F ?N; (case F => k_asm); (case N => k_asm); (case m => assumption))
theorem pick_str4 {a b c d : Str} {t1 t2 t3 t4 : Tok} {v : Value} (h : v ∈ [Value.str a t1, Value.str b t2, Value.str c t3, Value.str d t4]) : ∃ x t, v = .str x t ∧ (x = a ∨ x = b ∨ x = c ∨ x = d) := by
  simp only [List.mem_cons, List.not_mem_nil, or_false] at h
  rcases h with rfl | rfl | rfl | rfl
  · exact ⟨_, _, rfl, .inl rfl⟩
  · exact ⟨_, _, rfl, .inr (.inl rfl)⟩
  · exact ⟨_, _, rfl, .inr (.inr (.inl rfl))⟩
  · exact ⟨_, _, rfl, .inr (.inr (.inr rfl))⟩
end
section
theorem rowsTable1 : True := by
  k_with_none
  k_with "pen_at" => focus (first | with_reducible assumption | (refine' PenAt.head ?_ ?_ ?_; (rotate_right 3; (focus (first | with_reducible assumption | k_ne)); (focus (k_all)); (focus (k_all)))) | (refine' PenAt.tail ?_ ?_ ?_; (rotate_right 1; (focus (walk_at "pen_at"))); (rotate_right 2; (focus (k_ne)); (focus (k_ne)))))
  k_with "room" => focus (first | lia | (dsimp only [ktrTop, Around.deeper]; lia))
  k_with "enterC" => focus ((refine' code_defC ?_ ?_ ?_ ?_ ?_ ?_ ?_ ?_ ?_ ?_ ?_ ?_ ?_ ?_ ?_ ?_ ?_ ?_; (rotate_right 13; (focus (exact rfl)); (focus (exact rfl)); (focus (first | exact rfl | assumption)); rotate_left 10); (rotate_right 15; (focus (k_asm)); (focus (k_asm)); (focus (k_asm)); (focus (k_asm)); (focus (k_asm)); (focus (k_is)); (focus (k_is)); (focus (k_room)); (focus (exact BindsTo.of_eq rfl)); (focus (exact rfl)); (focus (decide +kernel)); rotate_left 4); (rotate_right 3; (focus (exact rfl)); (focus (exact rfl)); (focus (exact rfl))); k_whole; intro g' L' h' tk' cells' FG' F' N' Y' B' X' T' l1; (try k_lt l1); k_cells Y'; (try simp only [List.cons_append, List.nil_append] at N'); (try dsimp only); (try k_lift B'); (try k_fold)))
  k_with "eval Name" => focus ((k_here; (with_reducible show wpAny _ _ (eval (Expr.Name _ _) (compEnvC _ _ _ _)) _ _ _); k_dflt (first | (refine' lcf_cell ?_ ?_ ?_ ?_ ?_ ?_ ?_; (rotate_right 1; (focus (rfl))); (rotate_right 1; (focus (rfl))); (rotate_right 5; (focus (k_asm)); (focus (rfl)); (focus (k_mem)); (focus (k_asm)); rotate_left 1); k_whole) | (refine' lcf_free ?_ ?_ ?_ ?_ ?_ ?_ ?_; (rotate_right 1; (focus (rfl))); (rotate_right 1; (focus (rfl))); (rotate_right 5; (focus (k_asm)); (focus (rfl)); (focus (k_mem)); (focus (k_asm)); rotate_left 1); k_whole) | refine LCgL.ld_global (by k_asm) (by k_asm) (by k_asm) (by k_is) ?_)))
  k_with "exec For Name Name cons nil" => focus ((k_here; (rename Fr _ _ _ _ => lF'); (with_unfolding_all refine' For_invVF lF' ?_ ?_ ?_; (rotate_right 3; (focus (exact rfl)); (focus (exact rfl)); rotate_left 1); k_whole)))
  k_with "exec For Name Call cons nil" => focus ((k_here; (rename Fr _ _ _ _ => lF'); (with_unfolding_all refine' For_invVF lF' ?_ ?_ ?_; (rotate_right 3; (focus (exact rfl)); (focus (exact rfl)); rotate_left 1); k_whole)))
  k_with "call ref" => focus (((with_reducible show wpAny _ _ (call (Value.ref 256) _) _ _ _); k_dflt (refine' draw_ok ?_ ?_ ?_ ?_ ?_ ?_ ?_ ?_ ?_ ?_ ?_; (rotate_right 11; (focus (k_asm)); (focus (k_asm)); (focus (k_asm)); (focus (k_asm)); (focus (k_asm)); (focus (first | exact rfl | assumption)); (focus (walk_at "pen_at")); (focus (first | decide | lia)); (focus (walk_at "room")); (focus (walk_at "room")); rotate_left 1)); intro r9 t9 y9 h' tk9 lo9 hi9 F' N'; (try dsimp only at N'); (try k_sweep)))
  k_with "call ref" => focus (((with_reducible show wpAny _ _ (call (Value.ref 263) _) _ _ _); k_dflt (refine' pick_ok ?_ ?_ ?_ ?_ ?_ ?_ ?_ ?_ ?_ ?_ ?_ ?_ ?_ ?_ ?_; (rotate_right 15; (focus (k_asm)); (focus (k_asm)); (focus (k_asm)); (focus (k_asm)); (focus (k_asm)); (focus (first | exact rfl | assumption)); (focus (walk_at "pen_at")); (focus (k_mem)); (focus (k_ne)); (focus (k_ne)); (focus ((simp only [List.length_cons, List.length_nil]; lia))); (focus ((simp only [List.length_cons, List.length_nil]; lia))); (focus (walk_at "room")); (focus (walk_at "room")); rotate_left 1)); intro v9 y9 h' tk9 m9 F' N'; (try k_dflt (have q9 := pick_str4 m9; obtain ⟨w9, tw9, e9, ow9⟩ := q9; subst e9; clear m9)); (try dsimp only at N'); (try k_sweep)))
  trivial
structure TabSt where
  o : Obj
  kvs : List (Int × Value)
  y : PenSt
  tl : List (Addr × Obj)
noncomputable def EntOk (most : Int) (p : Int × Ent) : Prop := (0 ≤ p.1 ∧ p.1 < most) ∧ (0 ≤ p.2.one ∧ p.2.one < 40) ∧ (p.2.way = Str.ofString "used" ∨ p.2.way = Str.ofString "used" ∨ p.2.way = Str.ofString "free" ∨ p.2.way = Str.ofString "packed")
theorem putK_mem {β : Type} {es : List (Int × β)} {k : Int} {b : β} {p : Int × β} (h : p ∈ putK es k b) : p ∈ es ∨ p = (k, b) := by
  unfold putK at h
  split at h
  · obtain ⟨q, hq, e⟩ := List.mem_map.mp h
    split at e
    · rename_i hk
      exact .inr (by rw [← e, ← hk])
    · exact .inl (e ▸ hq)
  · rcases List.mem_append.mp h with h | h
    · exact .inl h
    · exact .inr (List.mem_singleton.mp h)
noncomputable def TabInv (prog : Program) (w : World) (D : Nat) (most : Int) (n : Nat) (c : TabSt) : Prop :=
  c.o.IsDictOf (intKind prog w) c.kvs ∧ c.kvs.length ≤ n ∧ (∀ p ∈ c.tl, D < p.1) ∧ ∃ es, TabRel (EntIn w c.tl) c.kvs es ∧ ∀ p ∈ es, EntOk most p
noncomputable abbrev tabLed (D pa la : Nat) (rest : List (Addr × Obj)) (c : TabSt) : List (Addr × Obj) := (D, c.o) :: (pa, penA la c.y) :: (la, penB c.y) :: (c.tl ++ rest)
theorem table_loop {w : World} {A : Around} {E : Value → Shared → Prop} {s : Shared} {env : Env} {h₀ : Heap} {x : Str} {body : List Stmt} {Q : Flow → Shared → Prop} {prog : Program}
    {r : Addr} {b most : Int} {t u v : Tok} {m₀ : Str → Option Value} {rest : List (Addr × Obj)} {D pa la : Nat} {o : Obj} {y : PenSt}
    (hh : A.handled = none) (hr : IsRange s.heap r 0 b 1 t u v) (F : Fr h₀ env.locals s.heap m₀) (N : News h₀ env.locals s.heap ((D, o) :: (pa, penA la y) :: (la, penB y) :: rest))
    (hd : o.IsDictOf (intKind prog w) []) (_hm : 0 < most) (h0 : 0 ≤ b) (hb : b < 100) (l1 : pa < D ∧ la < D ∧ AllLt D rest) (o1 : ∀ p ∈ rest, p.1 ≠ pa) (o2 : ∀ p ∈ rest, p.1 ≠ la)
    (turn : ∀ (i : Nat) t (c : TabSt) I h tk oI, i < 100 → TabInv prog w D most i c → c.o.IsDictOf (intKind prog w) c.kvs → c.kvs.length ≤ 100 → D ≠ I → pa ≠ I → la ≠ I → (∀ p ∈ c.tl ++ rest, p.1 ≠ I) → (∀ p ∈ c.tl ++ rest, p.1 ≠ pa) → (∀ p ∈ c.tl ++ rest, p.1 ≠ la) → (∀ p ∈ c.tl ++ rest, p.1 ≠ D) → 
      Fr h₀ env.locals h (fun z => if z = x then some (.int (0 + (i : Int)) t) else m₀ z) → News h₀ env.locals h ((I, oI) :: (D, c.o) :: (pa, penA la c.y) :: (la, penB c.y) :: (c.tl ++ rest)) →
      wpAny (model prog w) A (execs body env) (LPost h₀ env.locals x (fun _ => m₀) (tabLed D pa la rest) (TabInv prog w D most (i + 1)) I oI { s with heap := h, toks := tk } Q) E { s with heap := h, toks := tk })
    (done : ∀ (c : TabSt) (u : Option Value) h tk, TabInv prog w D most 100 c → Fr h₀ env.locals h (fun z => if z = x then u else m₀ z) → News h₀ env.locals h ((D, c.o) :: (pa, penA la c.y) :: (la, penB c.y) :: (c.tl ++ rest)) → Q .next { s with heap := h, toks := tk }) :
    wpAny (model prog w) A (pyIter (.ref r)) (fun it s₂ => LoopAtV prog w A h₀ env x body Q E it s₂) E s := by
  have off : ∀ (c : TabSt) (n : Nat), TabInv prog w D most n c → ∀ p ∈ c.tl ++ rest, p.1 ≠ pa ∧ p.1 ≠ la ∧ p.1 ≠ D := by
    rintro c n ⟨_, _, hc, _⟩ p hp
    rcases List.mem_append.mp hp with hp | hp
    · have := hc p hp
      exact ⟨neN (by lia), neN (by lia), neN (by lia)⟩
    · exact ⟨o1 p hp, o2 p hp, Nat.ne_of_lt (ktn_ltOf l1.2.2 p hp)⟩
  refine lp_range (n := b.toNat) (fun _ => m₀) (tabLed D pa la rest) (fun i c => TabInv prog w D most i c) ⟨o, [], y, []⟩ hh hr ?_ ?_ F N (fun _ _ => rfl) (by intro p hp; simpa using hp)
    ⟨hd, Nat.le_refl _, (fun p hp => nomatch hp), [], TabRel.nil, fun _ h => nomatch h⟩ ?_ ?_
  · exact small_one (by lia) (by lia) (by lia) (by lia)
  · have e := rangeSize_nat 0 b
    simpa using e
  · intro i t c I h tk oI hi hv ho F' N'
    refine turn i t c I h tk oI (by lia) hv hv.1 (Nat.le_trans hv.2.1 (by lia)) (ho (D, c.o) (.head _)) (ho (pa, _) (.tail _ (.head _))) (ho (la, _) (.tail _ (.tail _ (.head _)))) (fun p hp => ho p (.tail _ (.tail _ (.tail _ hp)))) (fun p hp => (off c i hv p hp).1) (fun p hp => (off c i hv p hp).2.1) (fun p hp => (off c i hv p hp).2.2) F' N'
  · intro c u h tk hv F' N'
    exact done c u h tk ⟨hv.1, Nat.le_trans hv.2.1 (by lia), hv.2.2⟩ F' N'
theorem table_end {w : World} {h₀ : Heap} {L : Addr} {x : Str} {Q : Flow → Shared → Prop} {prog : Program} {m₀ m' : Str → Option Value} {news' rest : List (Addr × Obj)} {D pa la I : Nat} {oI o' : Obj} {y' : PenSt} {c : TabSt} {s₁ : Shared} {h' : Heap} {tk n : Nat} {k most : Int} {xa dx : Nat} {way : Str} {one two : Int} {t1 t2 t3 t4 t5 t6 : Tok}
    (hv : TabInv prog w D most n c) (F : Fr h₀ L h' m') (N : News h₀ L h' news') (hI : (I, oI) ∈ news') (hD : (D, o') ∈ news') (h1 : (pa, penA la y') ∈ news') (h2 : (la, penB y') ∈ news') (h3 : ∀ p ∈ c.tl ++ rest, p ∈ news') (h4 : (xa, instObj 200 dx) ∈ news') (h5 : (dx, entD w ⟨way, one, two⟩ t1 t2 t3 t4 t5 t6) ∈ news')
    (hd : o'.IsDictOf (intKind prog w) (stored c.kvs k (.ref xa))) (l1 : D < dx) (l2 : dx < xa) (n1 : D ≠ I) (n2 : pa ≠ I) (n3 : la ≠ I) (n4 : ∀ p ∈ c.tl ++ rest, p.1 ≠ I) (n5 : dx ≠ I) (n6 : xa ≠ I) (hm : ∀ z, z ≠ x → m' z = m₀ z) (ok : EntOk most (k, ⟨way, one, two⟩)) :
    LPost h₀ L x (fun _ => m₀) (tabLed D pa la rest) (TabInv prog w D most (n + 1)) I oI s₁ Q .next { s₁ with heap := h', toks := tk } := by
  obtain ⟨_, v2, v3, es, v4, v5⟩ := hv
  refine LEnd.intro ⟨o', stored c.kvs k (.ref xa), y', (xa, instObj 200 dx) :: (dx, entD w ⟨way, one, two⟩ t1 t2 t3 t4 t5 t6) :: c.tl⟩ F N hI ?_ ?_ hm ⟨hd, Nat.le_trans (stored_len _ _ _) (Nat.succ_le_succ v2), ?_, _, TabRel.store (v4.mono (EntIn.mono fun p hp => .tail _ (.tail _ hp))) k ⟨xa, dx, t1, t2, t3, t4, t5, t6, rfl, .head _, .tail _ (.head _)⟩, fun p hp => (putK_mem hp).elim (v5 p) fun e => e ▸ ok⟩
  · intro p hp
    simp only [tabLed, List.mem_cons, List.cons_append] at hp
    rcases hp with rfl | rfl | rfl | rfl | rfl | hp
    · exact hD
    · exact h1
    · exact h2
    · exact h4
    · exact h5
    · exact h3 p hp
  · intro p hp
    simp only [tabLed, List.mem_cons, List.cons_append] at hp
    rcases hp with rfl | rfl | rfl | rfl | rfl | hp
    · exact n1
    · exact n2
    · exact n3
    · exact n6
    · exact n5
    · exact n4 p hp
  · intro p hp
    simp only [List.mem_cons] at hp
    rcases hp with rfl | rfl | hp
    · exact Nat.lt_trans l1 l2
    · exact l1
    · exact v3 p hp
theorem rowsTable2 : True := by
  k_with "my pyIter ref" => focus ((k_here; (rename IsRange _ _ _ _ _ _ _ _ => R'); k_dflt (refine' table_loop ?_ R' ?_ ?_ ?_ ?_ ?_ ?_ ?_ ?_ ?_ ?_ ?_; (rotate_right 12; (focus (exact rfl)); (focus (k_asm)); (focus (first | k_asm | exact News.grown (by assumption) (by assumption))); (focus (assumption)); (focus (assumption)); (focus (lia)); (focus (lia)); (focus (assumption)); (focus (assumption)); (focus (assumption)); rotate_left 2)); (all_goals intros)))
  k_with "setItem ref int" => focus ((k_here; k_dflt (refine' kda_set (knd := intKind _ _) ?_ ?_ ?_ ?_ (intKind_is _ _ _ _) ?_ ?_; (rotate_right 6; (focus (k_asm)); (focus (k_asm)); (focus (k_updF)); (focus (k_asm)); (focus ((rw [sizeLine_eq]; lia))); rotate_left 1)); intro h' o' F' N' hd'; (try dsimp only at N'); (try k_sweep)))
  trivial
set_option maxRecDepth 100000 in
set_option maxHeartbeats 8000000 in
theorem table_ok {w : World} {mean : ExcName → Option Value} {mg mb : Str → Option Value} {dp un : Nat} {gd : Option (List Code)} {cn : Str} {cs : Scope} {a : Addr} {ccd : Value} {cl : List (Str × Addr)} {outer : List Env} {A₀ : Around} {base h₀ : Heap} {L : Addr} {m : Str → Option Value} {s : Shared}
    {Q E : Value → Shared → Prop} {pa la : Nat} {most : Int} {t3 : Tok} {x : PenSt} {rest : List (Addr × Obj)}
    (B : Below A₀ base outer h₀) (F : Fr h₀ L s.heap m) (X : (Mine.hd.heap_1 w.params).In h₀) (N : News h₀ L s.heap ((pa, penA la x) :: (la, penB x) :: rest))
    (T : Top Mine.hd.view_1 (looseW Mine.hd.view_1 [Str.ofString "PaperError"]) mean mg mb h₀) (hk : cs.kind = .function)
    (hpl : pa ≠ la) (hop : ∀ p ∈ rest, p.1 ≠ pa) (hol : ∀ p ∈ rest, p.1 ≠ la) (hm : 0 < most) (hd : dp < 380) (hu : un < 380)
    (hret : ∀ (D : Nat) (o : Obj) (kvs : List (Int × Value)) (es : List (Int × Ent)) (tl : List (Addr × Obj)) (y : PenSt) h' tk', o.IsDictOf (intKind PySem.Challenge.rw_nn0202_01.row.prog w) kvs → kvs.length ≤ 100 → TabRel (EntIn w tl) kvs es → (∀ p ∈ es, EntOk most p) → (D == sysModules) = false → pa < D ∧ la < D ∧ AllLt D rest → (∀ p ∈ tl, D < p.1) →
      Fr h₀ L h' m → News h₀ L h' ((D, o) :: (pa, penA la y) :: (la, penB y) :: (tl ++ rest)) → Q (.ref D) { s with heap := h', toks := tk' }) :
    wpAny (model PySem.Challenge.rw_nn0202_01.row.prog w) (ktrTop dp un gd cn cs L a ccd cl outer) (call (.ref 270) [.ref pa, .int most t3]) Q E s := by
  revert X
  k_fill
  intro X
  refine wpAny_call ?_
  k_dflt cell_enter
  k_steps
  all_goals first
    | (refine' table_end (x := Str.ofString "turn") ?hv ?F ?N ?hI ?hD ?h1 ?h2 ?h3 ?h4 ?h5 ?hd ?l1 ?l2 ?n1 ?n2 ?n3 ?n4 ?n5 ?n6 ?hm ?ok; (case hv => assumption); (case F => k_asm); (case N => k_asm); (case hI => k_mem); (case hD => k_mem); (case hd => assumption); (case h1 => k_mem); (case h2 => k_mem); (case h3 => kcj_all); (case h4 => k_mem); (case h5 => k_mem); (case l1 => lia); (case l2 => lia); (case n1 => assumption); (case n2 => assumption); (case n3 => assumption); (case n4 => assumption); (case n5 => k_ne); (case n6 => k_ne); (case hm => (intro z hz; exact if_neg hz)); (case ok => (refine ⟨⟨?_, ?_⟩, ⟨?_, ?_⟩, ?_⟩; all_goals (try dsimp only); all_goals first | assumption | lia)))
    | ((rename TabInv _ _ _ _ _ _ => hv'); obtain ⟨v1, v2, _, es, v4, v5⟩ := hv'; refine' hret _ _ _ es _ _ _ _ v1 v2 v4 v5 ?lo ?l1 ?hc ?F ?N; (case lo => assumption); (case l1 => assumption); (case hc => assumption); (case F => k_asm); (case N => k_asm))
end
section
theorem rowsToldA1 : True := by
  k_with_none
  k_with "pen_at" => focus (first | with_reducible assumption | (refine' PenAt.head ?_ ?_ ?_; (rotate_right 3; (focus (first | with_reducible assumption | k_ne)); (focus (k_all)); (focus (k_all)))) | (refine' PenAt.tail ?_ ?_ ?_; (rotate_right 1; (focus (walk_at "pen_at"))); (rotate_right 2; (focus (k_ne)); (focus (k_ne)))))
  k_with "room" => focus (first | lia | (dsimp only [ktrTop, Around.deeper]; lia))
  k_with "enterC" => focus ((refine' code_defC ?_ ?_ ?_ ?_ ?_ ?_ ?_ ?_ ?_ ?_ ?_ ?_ ?_ ?_ ?_ ?_ ?_ ?_; (rotate_right 13; (focus (exact rfl)); (focus (exact rfl)); (focus (first | exact rfl | assumption)); rotate_left 10); (rotate_right 15; (focus (k_asm)); (focus (k_asm)); (focus (k_asm)); (focus (k_asm)); (focus (k_asm)); (focus (k_is)); (focus (k_is)); (focus (k_room)); (focus (exact BindsTo.of_eq rfl)); (focus (exact rfl)); (focus (decide +kernel)); rotate_left 4); (rotate_right 3; (focus (exact rfl)); (focus (exact rfl)); (focus (exact rfl))); k_whole; intro g' L' h' tk' cells' FG' F' N' Y' B' X' T' l1; (try k_lt l1); k_cells Y'; (try simp only [List.cons_append, List.nil_append] at N'); (try dsimp only); (try k_lift B'); (try k_fold)))
  k_with "eval Name" => focus ((k_here; (with_reducible show wpAny _ _ (eval (Expr.Name _ _) (compEnvC _ _ _ _)) _ _ _); k_dflt (first | (refine' lcf_cell ?_ ?_ ?_ ?_ ?_ ?_ ?_; (rotate_right 1; (focus (rfl))); (rotate_right 1; (focus (rfl))); (rotate_right 5; (focus (k_asm)); (focus (rfl)); (focus (k_mem)); (focus (k_asm)); rotate_left 1); k_whole) | (refine' lcf_free ?_ ?_ ?_ ?_ ?_ ?_ ?_; (rotate_right 1; (focus (rfl))); (rotate_right 1; (focus (rfl))); (rotate_right 5; (focus (k_asm)); (focus (rfl)); (focus (k_mem)); (focus (k_asm)); rotate_left 1); k_whole) | refine LCgL.ld_global (by k_asm) (by k_asm) (by k_asm) (by k_is) ?_)))
  k_with "exec For Name Name cons nil" => focus ((k_here; (rename Fr _ _ _ _ => lF'); (with_unfolding_all refine' For_invVF lF' ?_ ?_ ?_; (rotate_right 3; (focus (exact rfl)); (focus (exact rfl)); rotate_left 1); k_whole)))
  k_with "exec For Name Call cons nil" => focus ((k_here; (rename Fr _ _ _ _ => lF'); (with_unfolding_all refine' For_invVF lF' ?_ ?_ ?_; (rotate_right 3; (focus (exact rfl)); (focus (exact rfl)); rotate_left 1); k_whole)))
  k_with "call ref" => focus (((with_reducible show wpAny _ _ (call (Value.ref 256) _) _ _ _); k_dflt (refine' draw_ok ?_ ?_ ?_ ?_ ?_ ?_ ?_ ?_ ?_ ?_ ?_; (rotate_right 11; (focus (k_asm)); (focus (k_asm)); (focus (k_asm)); (focus (k_asm)); (focus (k_asm)); (focus (first | exact rfl | assumption)); (focus (walk_at "pen_at")); (focus (first | decide | lia)); (focus (walk_at "room")); (focus (walk_at "room")); rotate_left 1)); intro r9 t9 y9 h' tk9 lo9 hi9 F' N'; (try dsimp only at N'); (try k_sweep)))
  k_with "call ref" => focus (((with_reducible show wpAny _ _ (call (Value.ref 263) _) _ _ _); k_dflt (refine' pick_ok ?_ ?_ ?_ ?_ ?_ ?_ ?_ ?_ ?_ ?_ ?_ ?_ ?_ ?_ ?_; (rotate_right 15; (focus (k_asm)); (focus (k_asm)); (focus (k_asm)); (focus (k_asm)); (focus (k_asm)); (focus (first | exact rfl | assumption)); (focus (walk_at "pen_at")); (focus (k_mem)); (focus (k_ne)); (focus (k_ne)); (focus ((simp only [List.length_cons, List.length_nil]; lia))); (focus ((simp only [List.length_cons, List.length_nil]; lia))); (focus (walk_at "room")); (focus (walk_at "room")); rotate_left 1)); intro v9 y9 h' tk9 m9 F' N'; (try k_dflt (have q9 := pick_str4 m9; obtain ⟨w9, tw9, e9, ow9⟩ := q9; subst e9; clear m9)); (try dsimp only at N'); (try k_sweep)))
  trivial
theorem told_src {prog : Program} {w : World} {A : Around} {h₀ : Heap} {L : Addr} {m : Str → Option Value} {env : Env} {elt : Expr} {x : Str} {scope : Scope} {cl : List (Str × Addr)} {Q : Value → Shared → Prop} {D : Nat} {o : Obj} {kvs : List (Int × Value)} {es : List (Int × Ent)} {c0 : Addr × Obj} {news : List (Addr × Obj)} {s₁ : Shared}
    (hh : A.handled = none) (lo : (D == sysModules) = false) (F : Fr h₀ L s₁.heap m) (N : News h₀ L s₁.heap (c0 :: news)) (hD : (D, o) ∈ news) (hdo : o.IsDictOf (intKind prog w) kvs) (hlen : kvs.length ≤ 1000) (rel : TabRel (EntIn w news) kvs es)
    (turn : ∀ (k : Int) (y : Value) (e : Ent) (t : Tok) (ys : List Value) (tl : List (Addr × Obj)) (I : Nat) (oI : Obj) (C : Nat) (oC : Obj) (R : Nat) m₂ h tk (E' : Value → Shared → Prop), valueAt kvs k = some y → EntIn w news y e → LCg.NsObj oC m₂ → m₂ x = some (.int k t) → (D, o) ∈ tl ++ c0 :: news →
      Fr h₀ L h m → News h₀ L h ((I, oI) :: (C, oC) :: (R, LCg.lst ys) :: (tl ++ c0 :: news)) → wpAny (model prog w) A (eval elt (compEnvC scope cl C env)) (fun v s₂ => Halt (∃ h' tk' own, s₂ = { s₁ with heap := h', toks := tk' } ∧ Fr h₀ L h' m ∧ News h₀ L h' (own ++ (I, oI) :: (C, oC) :: (R, LCg.lst ys) :: (tl ++ c0 :: news)) ∧ (∀ p ∈ own, ∀ q ∈ (I, oI) :: (C, oC) :: (R, LCg.lst ys) :: (tl ++ c0 :: news), q.1 < p.1) ∧ RowIn own v (k, e))) E' { s₁ with heap := h, toks := tk })
    (done : ∀ (ys : List Value) (tl : List (Addr × Obj)) (R : Nat) h tk, ListRel (RowIn tl) ys es → Apart (c0 :: news) ((R, LCg.lst ys) :: tl) → Fr h₀ L h m → News h₀ L h ((R, LCg.lst ys) :: (tl ++ c0 :: news)) → Q (.ref R) { s₁ with heap := h, toks := tk }) :
    CompSrcD prog w A h₀ L m env elt x scope cl (fun s₂ => LCg.FinE h₀ L m s₂ Q) (.ref D) s₁ := by
  have nd : (kvs.map (·.1)).Nodup := by
    obtain ⟨_, _, _, _, _, _, hn⟩ := hdo
    exact hn
  refine ⟨D, o, kvs, c0 :: news, rfl, hh, lo, F, N, .tail _ hD, hdo, by rw [sizeLine_eq]; lia, ?_⟩
  rintro s₂ ⟨hg, rfl⟩
  refine comp_inv (fun i ys nw => ∃ tl, nw = tl ++ c0 :: news ∧ ListRel (RowIn tl) ys (es.take i) ∧ Apart (c0 :: news) tl) ?_ ?_ kvs.length 0 [] _ (Nat.zero_add _) ⟨[], rfl, .nil, fun _ _ _ hp => nomatch hp⟩
  · rintro i ys nw v I oI C oC R m₂ h tk E' hi ⟨k, y, t, hy, rfl⟩ ⟨tl, rfl, hr, hap⟩ hC hx F' N' off ne
    obtain ⟨e, he, hye⟩ := rel.get hy
    refine wpAny_mono (turn k y e t ys tl I oI C oC R m₂ h tk E' (valueAt_of_mem nd (List.mem_of_getElem? hy)) hye hC hx (List.mem_append_right _ (.tail _ hD)) F' N') (fun v s₃ q => ?_) fun _ _ q => q
    obtain ⟨h', tk', own, rfl, F3, N3, lt, hrow⟩ := q
    have l3 : ∀ p ∈ own, p.1 ≠ I ∧ p.1 ≠ C ∧ p.1 ≠ R := fun p hp =>
      ⟨Nat.ne_of_gt (lt p hp (I, oI) (.head _)), Nat.ne_of_gt (lt p hp (C, oC) (.tail _ (.head _))), Nat.ne_of_gt (lt p hp (R, LCg.lst ys) (.tail _ (.tail _ (.head _))))⟩
    refine LCg.CompEnd.intro F3 N3 (own ++ (tl ++ c0 :: news)) ?_ (LCg.Off3.of fun p hp => ?_) ?_ ⟨own ++ tl, by rw [List.append_assoc], ?_, ?_⟩
    · intro p hp
      simp only [List.mem_cons, List.mem_append] at hp ⊢
      rcases hp with h | h | h | h | h | h | h
      · exact .inr (.inl h)
      · exact .inr (.inr (.inl h))
      · exact .inr (.inr (.inr (.inl h)))
      · exact .inl h
      · exact .inr (.inr (.inr (.inr (.inl h))))
      · exact .inr (.inr (.inr (.inr (.inr (.inl h)))))
      · exact .inr (.inr (.inr (.inr (.inr (.inr h)))))
    · rcases List.mem_append.mp hp with hp | hp
      · exact l3 p hp
      · exact off.mem p hp
    · exact List.mem_append_right _ (List.mem_append_right _ (.tail _ hD))
    · rw [take_snoc he]
      exact (hr.mono (RowIn.mono fun p hp => List.mem_append_right _ hp)).snoc (RowIn.mono (fun p hp => List.mem_append_left _ hp) _ _ hrow)
    · intro q hq p hp
      rcases List.mem_append.mp hp with hp | hp
      · exact Nat.ne_of_lt (lt p hp q (.tail _ (.tail _ (.tail _ (List.mem_append_right _ hq)))))
      · exact hap q hq p hp
  · rintro ys nw ⟨tl, rfl, hr, hap⟩ R h tk F' N' o1
    have ht : es.take kvs.length = es := by rw [rel.length]; exact List.take_length
    rw [ht] at hr
    refine done ys tl R h tk hr (fun q hq p hp => ?_) F' N'
    rcases List.mem_cons.mp hp with rfl | hp
    · exact off1_mem o1 q (List.mem_append_right _ hq)
    · exact hap q hq p hp
theorem told_end {h₀ : Heap} {L : Addr} {m : Str → Option Value} {s₁ : Shared} {X : List (Addr × Obj)} {D1 D2 : Nat} {k : Int} {e : Ent} {t t1 t2 t3 : Tok} {h' : Heap} {tk' : Nat} (F : Fr h₀ L h' m) (N : News h₀ L h' ((D2, tupO [.int k t, .ref D1]) :: (D1, tupO [.str e.way t1, .int e.one t2, .int e.two t3]) :: X)) (l1 : AllLt D1 X) (l2 : D1 < D2 ∧ AllLt D2 X) :
    Halt (∃ h'' tk'' own, ({ s₁ with heap := h', toks := tk' } : Shared) = { s₁ with heap := h'', toks := tk'' } ∧ Fr h₀ L h'' m ∧ News h₀ L h'' (own ++ X) ∧ (∀ p ∈ own, ∀ q ∈ X, q.1 < p.1) ∧ RowIn own (.ref D2) (k, e)) := by
  refine ⟨h', tk', [(D2, tupO [.int k t, .ref D1]), (D1, tupO [.str e.way t1, .int e.one t2, .int e.two t3])], rfl, F, N, fun p hp q hq => ?_, ⟨D2, t, .ref D1, rfl, .head _, D1, t1, t2, t3, rfl, .tail _ (.head _)⟩⟩
  simp only [List.mem_cons, List.not_mem_nil, or_false] at hp
  rcases hp with rfl | rfl
  · exact ktn_ltOf l2.2 q hq
  · exact ktn_ltOf l1 q hq
end
section
theorem rowsTold1 : True := by
  k_with_none
  k_with "pen_at" => focus (first | with_reducible assumption | (refine' PenAt.head ?_ ?_ ?_; (rotate_right 3; (focus (first | with_reducible assumption | k_ne)); (focus (k_all)); (focus (k_all)))) | (refine' PenAt.tail ?_ ?_ ?_; (rotate_right 1; (focus (walk_at "pen_at"))); (rotate_right 2; (focus (k_ne)); (focus (k_ne)))))
  k_with "room" => focus (first | lia | (dsimp only [ktrTop, Around.deeper]; lia))
  k_with "enterC" => focus ((refine' code_defC ?_ ?_ ?_ ?_ ?_ ?_ ?_ ?_ ?_ ?_ ?_ ?_ ?_ ?_ ?_ ?_ ?_ ?_; (rotate_right 13; (focus (exact rfl)); (focus (exact rfl)); (focus (first | exact rfl | assumption)); rotate_left 10); (rotate_right 15; (focus (k_asm)); (focus (k_asm)); (focus (k_asm)); (focus (k_asm)); (focus (k_asm)); (focus (k_is)); (focus (k_is)); (focus (k_room)); (focus (exact BindsTo.of_eq rfl)); (focus (exact rfl)); (focus (decide +kernel)); rotate_left 4); (rotate_right 3; (focus (exact rfl)); (focus (exact rfl)); (focus (exact rfl))); k_whole; intro g' L' h' tk' cells' FG' F' N' Y' B' X' T' l1; (try k_lt l1); k_cells Y'; (try simp only [List.cons_append, List.nil_append] at N'); (try dsimp only); (try k_lift B'); (try k_fold)))
  k_with "eval Name" => focus ((k_here; (with_reducible show wpAny _ _ (eval (Expr.Name _ _) (compEnvC _ _ _ _)) _ _ _); k_dflt (first | (refine' lcf_cell ?_ ?_ ?_ ?_ ?_ ?_ ?_; (rotate_right 1; (focus (rfl))); (rotate_right 1; (focus (rfl))); (rotate_right 5; (focus (k_asm)); (focus (rfl)); (focus (k_mem)); (focus (k_asm)); rotate_left 1); k_whole) | (refine' lcf_free ?_ ?_ ?_ ?_ ?_ ?_ ?_; (rotate_right 1; (focus (rfl))); (rotate_right 1; (focus (rfl))); (rotate_right 5; (focus (k_asm)); (focus (rfl)); (focus (k_mem)); (focus (k_asm)); rotate_left 1); k_whole) | refine LCgL.ld_global (by k_asm) (by k_asm) (by k_asm) (by k_is) ?_)))
  k_with "exec For Name Name cons nil" => focus ((k_here; (rename Fr _ _ _ _ => lF'); (with_unfolding_all refine' For_invVF lF' ?_ ?_ ?_; (rotate_right 3; (focus (exact rfl)); (focus (exact rfl)); rotate_left 1); k_whole)))
  k_with "exec For Name Call cons nil" => focus ((k_here; (rename Fr _ _ _ _ => lF'); (with_unfolding_all refine' For_invVF lF' ?_ ?_ ?_; (rotate_right 3; (focus (exact rfl)); (focus (exact rfl)); rotate_left 1); k_whole)))
  k_with "call ref" => focus (((with_reducible show wpAny _ _ (call (Value.ref 256) _) _ _ _); k_dflt (refine' draw_ok ?_ ?_ ?_ ?_ ?_ ?_ ?_ ?_ ?_ ?_ ?_; (rotate_right 11; (focus (k_asm)); (focus (k_asm)); (focus (k_asm)); (focus (k_asm)); (focus (k_asm)); (focus (first | exact rfl | assumption)); (focus (walk_at "pen_at")); (focus (first | decide | lia)); (focus (walk_at "room")); (focus (walk_at "room")); rotate_left 1)); intro r9 t9 y9 h' tk9 lo9 hi9 F' N'; (try dsimp only at N'); (try k_sweep)))
  k_with "call ref" => focus (((with_reducible show wpAny _ _ (call (Value.ref 263) _) _ _ _); k_dflt (refine' pick_ok ?_ ?_ ?_ ?_ ?_ ?_ ?_ ?_ ?_ ?_ ?_ ?_ ?_ ?_ ?_; (rotate_right 15; (focus (k_asm)); (focus (k_asm)); (focus (k_asm)); (focus (k_asm)); (focus (k_asm)); (focus (first | exact rfl | assumption)); (focus (walk_at "pen_at")); (focus (k_mem)); (focus (k_ne)); (focus (k_ne)); (focus ((simp only [List.length_cons, List.length_nil]; lia))); (focus ((simp only [List.length_cons, List.length_nil]; lia))); (focus (walk_at "room")); (focus (walk_at "room")); rotate_left 1)); intro v9 y9 h' tk9 m9 F' N'; (try k_dflt (have q9 := pick_str4 m9; obtain ⟨w9, tw9, e9, ow9⟩ := q9; subst e9; clear m9)); (try dsimp only at N'); (try k_sweep)))
  k_with "eval ListComp" => focus ((k_here; k_dflt (refine ListComp_D (_F₀ := by k_asm) (by with_unfolding_all rfl) (by decide) (by rfl) (by decide) (by rfl) ?_)))
  k_with "subscriptTail Name Name ref int" => focus ((k_here; k_dflt (refine' kda_item (knd := intKind _ _) ?_ ?_ ?_ (intKind_is _ _ _ _) ?_ ?_; (rotate_right 5; (focus (k_asm)); (focus (k_mem)); (focus (k_asm)); (focus (k_asm)); rotate_left 1))))
  trivial
set_option maxRecDepth 100000 in
set_option maxHeartbeats 8000000 in
theorem told_ok {w : World} {mean : ExcName → Option Value} {mg mb : Str → Option Value} {dp un : Nat} {gd : Option (List Code)} {cn : Str} {cs : Scope} {a : Addr} {ccd : Value} {cl : List (Str × Addr)} {outer : List Env} {A₀ : Around} {base h₀ : Heap} {L : Addr} {m : Str → Option Value} {s : Shared}
    {Q E : Value → Shared → Prop} {D : Nat} {o : Obj} {kvs : List (Int × Value)} {es : List (Int × Ent)} {news : List (Addr × Obj)}
    (B : Below A₀ base outer h₀) (F : Fr h₀ L s.heap m) (X : (Mine.hd.heap_1 w.params).In h₀) (N : News h₀ L s.heap news)
    (T : Top Mine.hd.view_1 (looseW Mine.hd.view_1 [Str.ofString "PaperError"]) mean mg mb h₀) (hk : cs.kind = .function)
    (hD : (D, o) ∈ news) (hdo : o.IsDictOf (intKind PySem.Challenge.rw_nn0202_01.row.prog w) kvs) (lo : (D == sysModules) = false) (hlen : kvs.length ≤ 1000) (rel : TabRel (EntIn w news) kvs es) (hd : dp < 380) (hu : un < 380)
    (hret : ∀ (R : Nat) (ys : List Value) (tl : List (Addr × Obj)) h' tk', ListRel (RowIn tl) ys es → Apart news ((R, LCg.lst ys) :: tl) →
      Fr h₀ L h' m → News h₀ L h' ((R, LCg.lst ys) :: (tl ++ news)) → Q (.ref R) { s with heap := h', toks := tk' }) :
    wpAny (model PySem.Challenge.rw_nn0202_01.row.prog w) (ktrTop dp un gd cn cs L a ccd cl outer) (call (.ref 275) [.ref D]) Q E s := by
  revert X
  k_fill
  intro X
  refine wpAny_call ?_
  k_dflt (walk_at "enterC")
  k_steps
  refine' told_src ?hh lo ?F ?N hD hdo hlen rel ?turn ?done
  (case hh => exact rfl); (case F => k_asm); (case N => k_asm)
  case turn =>
    intro k y e t ys tl I oI C oC R m₂ h tk E' hv he hC hx hDn F' N'
    obtain ⟨xa, dx, t1, t2, t3, t4, t5, t6, rfl, he1, he2⟩ := he
    k_steps
    refine' told_end ?F ?N ?l1 ?l2; (case F => k_asm); (case N => k_asm); (case l1 => assumption); (case l2 => assumption)
  case done => 
    intro ys tl R h tk hr hap F' N'
    k_steps
    refine' hret _ _ _ _ _ hr ?ap ?F ?N; (case ap => exact fun q hq => hap q (.tail _ hq)); (case F => k_asm); (case N => (refine cb_drop (by assumption) ?_; intro p hp; simp only [List.mem_cons, List.mem_append] at hp ⊢; rcases hp with h | h | h <;> simp [h]))
end
section
theorem rowsOver1 : True := by
  k_with_none
  k_with "pen_at" => focus (first | with_reducible assumption | (refine' PenAt.head ?_ ?_ ?_; (rotate_right 3; (focus (first | with_reducible assumption | k_ne)); (focus (k_all)); (focus (k_all)))) | (refine' PenAt.tail ?_ ?_ ?_; (rotate_right 1; (focus (walk_at "pen_at"))); (rotate_right 2; (focus (k_ne)); (focus (k_ne)))))
  k_with "room" => focus (first | lia | (dsimp only [ktrTop, Around.deeper]; lia))
  k_with "enterC" => focus ((refine' code_defC ?_ ?_ ?_ ?_ ?_ ?_ ?_ ?_ ?_ ?_ ?_ ?_ ?_ ?_ ?_ ?_ ?_ ?_; (rotate_right 13; (focus (exact rfl)); (focus (exact rfl)); (focus (first | exact rfl | assumption)); rotate_left 10); (rotate_right 15; (focus (k_asm)); (focus (k_asm)); (focus (k_asm)); (focus (k_asm)); (focus (k_asm)); (focus (k_is)); (focus (k_is)); (focus (k_room)); (focus (exact BindsTo.of_eq rfl)); (focus (exact rfl)); (focus (decide +kernel)); rotate_left 4); (rotate_right 3; (focus (exact rfl)); (focus (exact rfl)); (focus (exact rfl))); k_whole; intro g' L' h' tk' cells' FG' F' N' Y' B' X' T' l1; (try k_lt l1); k_cells Y'; (try simp only [List.cons_append, List.nil_append] at N'); (try dsimp only); (try k_lift B'); (try k_fold)))
  k_with "eval Name" => focus ((k_here; (with_reducible show wpAny _ _ (eval (Expr.Name _ _) (compEnvC _ _ _ _)) _ _ _); k_dflt (first | (refine' lcf_cell ?_ ?_ ?_ ?_ ?_ ?_ ?_; (rotate_right 1; (focus (rfl))); (rotate_right 1; (focus (rfl))); (rotate_right 5; (focus (k_asm)); (focus (rfl)); (focus (k_mem)); (focus (k_asm)); rotate_left 1); k_whole) | (refine' lcf_free ?_ ?_ ?_ ?_ ?_ ?_ ?_; (rotate_right 1; (focus (rfl))); (rotate_right 1; (focus (rfl))); (rotate_right 5; (focus (k_asm)); (focus (rfl)); (focus (k_mem)); (focus (k_asm)); rotate_left 1); k_whole) | refine LCgL.ld_global (by k_asm) (by k_asm) (by k_asm) (by k_is) ?_)))
  k_with "exec For Name Name cons nil" => focus ((k_here; (rename Fr _ _ _ _ => lF'); (with_unfolding_all refine' For_invVF lF' ?_ ?_ ?_; (rotate_right 3; (focus (exact rfl)); (focus (exact rfl)); rotate_left 1); k_whole)))
  k_with "exec For Name Call cons nil" => focus ((k_here; (rename Fr _ _ _ _ => lF'); (with_unfolding_all refine' For_invVF lF' ?_ ?_ ?_; (rotate_right 3; (focus (exact rfl)); (focus (exact rfl)); rotate_left 1); k_whole)))
  k_with "call ref" => focus (((with_reducible show wpAny _ _ (call (Value.ref 256) _) _ _ _); k_dflt (refine' draw_ok ?_ ?_ ?_ ?_ ?_ ?_ ?_ ?_ ?_ ?_ ?_; (rotate_right 11; (focus (k_asm)); (focus (k_asm)); (focus (k_asm)); (focus (k_asm)); (focus (k_asm)); (focus (first | exact rfl | assumption)); (focus (walk_at "pen_at")); (focus (first | decide | lia)); (focus (walk_at "room")); (focus (walk_at "room")); rotate_left 1)); intro r9 t9 y9 h' tk9 lo9 hi9 F' N'; (try dsimp only at N'); (try k_sweep)))
  k_with "call ref" => focus (((with_reducible show wpAny _ _ (call (Value.ref 263) _) _ _ _); k_dflt (refine' pick_ok ?_ ?_ ?_ ?_ ?_ ?_ ?_ ?_ ?_ ?_ ?_ ?_ ?_ ?_ ?_; (rotate_right 15; (focus (k_asm)); (focus (k_asm)); (focus (k_asm)); (focus (k_asm)); (focus (k_asm)); (focus (first | exact rfl | assumption)); (focus (walk_at "pen_at")); (focus (k_mem)); (focus (k_ne)); (focus (k_ne)); (focus ((simp only [List.length_cons, List.length_nil]; lia))); (focus ((simp only [List.length_cons, List.length_nil]; lia))); (focus (walk_at "room")); (focus (walk_at "room")); rotate_left 1)); intro v9 y9 h' tk9 m9 F' N'; (try k_dflt (have q9 := pick_str4 m9; obtain ⟨w9, tw9, e9, ow9⟩ := q9; subst e9; clear m9)); (try dsimp only at N'); (try k_sweep)))
  k_with "my pyIter ref" => focus ((k_here; k_dflt (refine' over_inner ?_ ?_ ?_ ?_ ?_ ?_ ?_ ?_ ?_ ?_ ?_ ?_ ?_; (rotate_right 13; (focus (exact rfl)); rotate_left 12); (rotate_right 4; (focus (k_asm)); (focus (k_asm)); rotate_left 2); (rotate_right 9; (focus (assumption)); rotate_left 8); (rotate_right 9; (focus (assumption)); (focus (assumption)); (focus (assumption)); (focus (assumption)); (focus (assumption)); (focus (assumption)); (focus (assumption)); rotate_left 2)); (all_goals intros)))
  k_with "my pyIter ref" => focus ((k_here; k_dflt (refine' over_outer (z₁ := Str.ofString "number") ?_ ?_ ?_ ?_ ?_ ?_ ?_ ?_ ?_ ?_ ?_; (rotate_right 11; (focus (decide)); (focus (exact rfl)); rotate_left 9); (rotate_right 4; (focus (k_asm)); (focus (k_asm)); rotate_left 2); (rotate_right 7; (focus (assumption)); (focus (assumption)); (focus (assumption)); (focus (assumption)); (focus (assumption)); rotate_left 2)); (all_goals intros)))
  k_with "compareOp NotIn int ref" => focus ((k_here; k_dflt (refine' notin_split ?_ ?_ ?_ ?_ ?_ ?_; (rotate_right 6; (focus (k_asm)); (focus (k_mem)); (focus (assumption)); (focus (assumption)); rotate_left 2)); (all_goals intros)))
  k_with "subscriptTail Name Name ref int" => focus ((k_here; k_dflt (refine' kda_item (knd := intKind _ _) ?_ ?_ ?_ (intKind_is _ _ _ _) ?_ ?_; (rotate_right 5; (focus (k_asm)); rotate_left 4); (rotate_right 2; (focus (k_asm)); rotate_left 1); (rotate_right 3; (focus (k_mem)); (focus (k_asm)); rotate_left 1))))
  k_with "setItem ref int" => focus ((k_here; k_dflt (refine' kda_set (knd := intKind _ _) ?_ ?_ ?_ ?_ (intKind_is _ _ _ _) ?_ ?_; (rotate_right 6; (focus (k_asm)); (focus (k_asm)); (focus (k_updF)); (focus (k_asm)); (focus ((rw [sizeLine_eq]; lia))); rotate_left 1)); intro h' o' F' N' hd'; (try dsimp only at N'); (try k_sweep)))
  trivial
set_option maxRecDepth 100000 in
set_option maxHeartbeats 8000000 in
theorem over_ok {w : World} {mean : ExcName → Option Value} {mg mb : Str → Option Value} {dp un : Nat} {gd : Option (List Code)} {cn : Str} {cs : Scope} {a : Addr} {ccd : Value} {cl : List (Str × Addr)} {outer : List Env} {A₀ : Around} {base h₀ : Heap} {L : Addr} {m : Str → Option Value} {s : Shared}
    {Q E : Value → Shared → Prop} {TA : Nat} {refs : List Value} {nn : Nat} {tabs : List (List (Int × Ent))} {news : List (Addr × Obj)}
    (B : Below A₀ base outer h₀) (F : Fr h₀ L s.heap m) (X : (Mine.hd.heap_1 w.params).In h₀) (N : News h₀ L s.heap news)
    (T : Top Mine.hd.view_1 (looseW Mine.hd.view_1 [Str.ofString "PaperError"]) mean mg mb h₀) (hk : cs.kind = .function)
    (hT : (TA, listOf refs.toArray nn) ∈ news) (relT : ListRel (TableIn PySem.Challenge.rw_nn0202_01.row.prog w news) refs tabs) (hlT : refs.length ≤ 100) (hd : dp < 380) (hu : un < 380)
    (hret : ∀ (Fd : Nat) (o : Obj) (kvs : List (Int × Value)) h' tk', o.IsDictOf (intKind PySem.Challenge.rw_nn0202_01.row.prog w) kvs → kvs.length ≤ 10100 → TabRel (EntIn w news) kvs (overlay tabs) → (Fd == sysModules) = false → (∀ p ∈ news, p.1 < Fd) →
      Fr h₀ L h' m → News h₀ L h' ((Fd, o) :: news) → Q (.ref Fd) { s with heap := h', toks := tk' }) :
    wpAny (model PySem.Challenge.rw_nn0202_01.row.prog w) (ktrTop dp un gd cn cs L a ccd cl outer) (call (.ref 218) [.ref TA]) Q E s := by
  revert X
  k_fill
  intro X
  refine wpAny_call ?_
  k_dflt cell_enter
  k_steps
  all_goals first
    | (refine' over_e1 ?h1 ?h2 ?hv ?F ?N ?n1 ?n2 ?n3 ?hm; (case F => k_asm); (case N => k_asm); (case h1 => assumption); (case h2 => assumption); (case hv => assumption); (case n1 => assumption); (case n2 => assumption); (case n3 => assumption); (case hm => (intro z hz; exact if_neg hz)))
    | (refine' over_e2 ?h1 ?h2 ?hv ?he ?F ?N ?n1 ?n2 ?n3 ?hm; (case F => k_asm); (case N => k_asm); (case h1 => assumption); (case h2 => assumption); (case hv => assumption); (case he => assumption); (case n1 => assumption); (case n2 => assumption); (case n3 => assumption); (case hm => (intro z hz; exact if_neg hz)))
    | (refine' over_e3 ?hv ?F ?N ?n1 ?n3; (case F => k_asm); (case N => k_asm); (case hv => assumption); (case n1 => assumption); (case n3 => assumption))
    | ((rename OvInv _ _ _ _ _ _ => hv'); obtain ⟨v1, v2, v3, v4⟩ := hv'; refine' hret _ _ _ _ _ v1 v4 (v3 ▸ v2) ?lo ?l1 ?F ?N; (case F => k_asm); (case N => k_asm); (case lo => assumption); (case l1 => assumption))
end
section
theorem rowsText1 : True := by
  k_with_none
  k_with "pen_at" => focus (first | with_reducible assumption | (refine' PenAt.head ?_ ?_ ?_; (rotate_right 3; (focus (first | with_reducible assumption | k_ne)); (focus (k_all)); (focus (k_all)))) | (refine' PenAt.tail ?_ ?_ ?_; (rotate_right 1; (focus (walk_at "pen_at"))); (rotate_right 2; (focus (k_ne)); (focus (k_ne)))))
  k_with "room" => focus (first | lia | (dsimp only [ktrTop, Around.deeper]; lia))
  k_with "enterC" => focus ((refine' code_defC ?_ ?_ ?_ ?_ ?_ ?_ ?_ ?_ ?_ ?_ ?_ ?_ ?_ ?_ ?_ ?_ ?_ ?_; (rotate_right 13; (focus (exact rfl)); (focus (exact rfl)); (focus (first | exact rfl | assumption)); rotate_left 10); (rotate_right 15; (focus (k_asm)); (focus (k_asm)); (focus (k_asm)); (focus (k_asm)); (focus (k_asm)); (focus (k_is)); (focus (k_is)); (focus (k_room)); (focus (exact BindsTo.of_eq rfl)); (focus (exact rfl)); (focus (decide +kernel)); rotate_left 4); (rotate_right 3; (focus (exact rfl)); (focus (exact rfl)); (focus (exact rfl))); k_whole; intro g' L' h' tk' cells' FG' F' N' Y' B' X' T' l1; (try k_lt l1); k_cells Y'; (try simp only [List.cons_append, List.nil_append] at N'); (try dsimp only); (try k_lift B'); (try k_fold)))
  k_with "eval Name" => focus ((k_here; (with_reducible show wpAny _ _ (eval (Expr.Name _ _) (compEnvC _ _ _ _)) _ _ _); k_dflt (first | (refine' lcf_cell ?_ ?_ ?_ ?_ ?_ ?_ ?_; (rotate_right 1; (focus (rfl))); (rotate_right 1; (focus (rfl))); (rotate_right 5; (focus (k_asm)); (focus (rfl)); (focus (k_mem)); (focus (k_asm)); rotate_left 1); k_whole) | (refine' lcf_free ?_ ?_ ?_ ?_ ?_ ?_ ?_; (rotate_right 1; (focus (rfl))); (rotate_right 1; (focus (rfl))); (rotate_right 5; (focus (k_asm)); (focus (rfl)); (focus (k_mem)); (focus (k_asm)); rotate_left 1); k_whole) | refine LCgL.ld_global (by k_asm) (by k_asm) (by k_asm) (by k_is) ?_)))
  k_with "exec For Name Name cons nil" => focus ((k_here; (rename Fr _ _ _ _ => lF'); (with_unfolding_all refine' For_invVF lF' ?_ ?_ ?_; (rotate_right 3; (focus (exact rfl)); (focus (exact rfl)); rotate_left 1); k_whole)))
  k_with "exec For Name Call cons nil" => focus ((k_here; (rename Fr _ _ _ _ => lF'); (with_unfolding_all refine' For_invVF lF' ?_ ?_ ?_; (rotate_right 3; (focus (exact rfl)); (focus (exact rfl)); rotate_left 1); k_whole)))
  k_with "call ref" => focus (((with_reducible show wpAny _ _ (call (Value.ref 256) _) _ _ _); k_dflt (refine' draw_ok ?_ ?_ ?_ ?_ ?_ ?_ ?_ ?_ ?_ ?_ ?_; (rotate_right 11; (focus (k_asm)); (focus (k_asm)); (focus (k_asm)); (focus (k_asm)); (focus (k_asm)); (focus (first | exact rfl | assumption)); (focus (walk_at "pen_at")); (focus (first | decide | lia)); (focus (walk_at "room")); (focus (walk_at "room")); rotate_left 1)); intro r9 t9 y9 h' tk9 lo9 hi9 F' N'; (try dsimp only at N'); (try k_sweep)))
  k_with "call ref" => focus (((with_reducible show wpAny _ _ (call (Value.ref 263) _) _ _ _); k_dflt (refine' pick_ok ?_ ?_ ?_ ?_ ?_ ?_ ?_ ?_ ?_ ?_ ?_ ?_ ?_ ?_ ?_; (rotate_right 15; (focus (k_asm)); (focus (k_asm)); (focus (k_asm)); (focus (k_asm)); (focus (k_asm)); (focus (first | exact rfl | assumption)); (focus (walk_at "pen_at")); (focus (k_mem)); (focus (k_ne)); (focus (k_ne)); (focus ((simp only [List.length_cons, List.length_nil]; lia))); (focus ((simp only [List.length_cons, List.length_nil]; lia))); (focus (walk_at "room")); (focus (walk_at "room")); rotate_left 1)); intro v9 y9 h' tk9 m9 F' N'; (try k_dflt (have q9 := pick_str4 m9; obtain ⟨w9, tw9, e9, ow9⟩ := q9; subst e9; clear m9)); (try dsimp only at N'); (try k_sweep)))
  trivial
structure TxSt where
  b : Array UInt8
  t : Tok
  y : PenSt
  u : Option Value
noncomputable def TxInv (n : Nat) (c : TxSt) : Prop := c.b.size ≤ 10 + 60 * n
noncomputable abbrev txLed (pa la : Nat) (rest : List (Addr × Obj)) (c : TxSt) : List (Addr × Obj) := (pa, penA la c.y) :: (la, penB c.y) :: rest
noncomputable abbrev txM (m₀ : Str → Option Value) (z1 z2 : Str) (c : TxSt) (z : Str) : Option Value := if z = z2 then c.u else if z = z1 then some (.bytes c.b c.t) else m₀ z
theorem all_nil {P : Value → Prop} : ∀ x ∈ ([] : List Value), P x := fun _ h => nomatch h
theorem all_cons {P : Value → Prop} {a : Value} {l : List Value} (h1 : P a) (h2 : ∀ x ∈ l, P x) : ∀ x ∈ a :: l, P x := fun x h => by
  rcases List.mem_cons.mp h with rfl | h
  · exact h1
  · exact h2 x h
noncomputable def IntTo (n : Int) (v : Value) : Prop := ∃ i t, v = .int i t ∧ 0 ≤ i ∧ i ≤ n
noncomputable def BytesTo (n : Nat) (v : Value) : Prop := ∃ b t, v = .bytes b t ∧ b.size ≤ n
theorem IntTo.mk' {n i : Int} {t : Tok} (h0 : 0 ≤ i) (h1 : i ≤ n) : IntTo n (.int i t) := ⟨i, t, rfl, h0, h1⟩
theorem BytesTo.mk' {n : Nat} {b : Array UInt8} {t : Tok} (h1 : b.size ≤ n) : BytesTo n (.bytes b t) := ⟨b, t, rfl, h1⟩
theorem text_loop {w : World} {A : Around} {E : Value → Shared → Prop} {s : Shared} {env : Env} {h₀ : Heap} {x : Str} {body : List Stmt} {Q : Flow → Shared → Prop} {prog : Program}
    {r : Addr} {bb : Int} {t u v : Tok} {m₀ : Str → Option Value} {rest : List (Addr × Obj)} {pa la : Nat} {b : Array UInt8} {tb : Tok} {y : PenSt}
    (hh : A.handled = none) (hr : IsRange s.heap r 0 bb 1 t u v) (hm : m₀ (Str.ofString "data") = some (.bytes b tb)) (F : Fr h₀ env.locals s.heap m₀) (N : News h₀ env.locals s.heap ((pa, penA la y) :: (la, penB y) :: rest))
    (h0 : 0 ≤ bb) (hb : bb ≤ 3) (hsz : b.size ≤ 10) 
    (turn : ∀ (i : Nat) t (c : TxSt) I h tk oI, i < 3 → c.b.size ≤ 190 → TxInv i c → pa ≠ I → la ≠ I → (∀ p ∈ rest, p.1 ≠ I) → 
      Fr h₀ env.locals h (fun z => if z = x then some (.int (0 + (i : Int)) t) else if z = Str.ofString "number" then c.u else if z = Str.ofString "data" then some (.bytes c.b c.t) else m₀ z) → News h₀ env.locals h ((I, oI) :: (pa, penA la c.y) :: (la, penB c.y) :: rest) →
      wpAny (model prog w) A (execs body env) (LPost h₀ env.locals x (txM m₀ (Str.ofString "data") (Str.ofString "number")) (txLed pa la rest) (TxInv (i + 1)) I oI { s with heap := h, toks := tk } Q) E { s with heap := h, toks := tk })
    (done : ∀ (c : TxSt) (u : Option Value) h tk, c.b.size ≤ 190 → Fr h₀ env.locals h (fun z => if z = x then u else if z = Str.ofString "number" then c.u else if z = Str.ofString "data" then some (.bytes c.b c.t) else m₀ z) → News h₀ env.locals h ((pa, penA la c.y) :: (la, penB c.y) :: rest) → Q .next { s with heap := h, toks := tk }) :
    wpAny (model prog w) A (pyIter (.ref r)) (fun it s₂ => LoopAtV prog w A h₀ env x body Q E it s₂) E s := by
  refine lp_range (n := bb.toNat) (txM m₀ (Str.ofString "data") (Str.ofString "number")) (txLed pa la rest) (fun i c => TxInv i c) ⟨b, tb, y, m₀ (Str.ofString "number")⟩ hh hr ?_ ?_ F N ?_ (fun p hp => hp) (by show b.size ≤ _; lia) ?_ ?_
  · exact small_one (by lia) (by lia) (by lia) (by lia)
  · have e := rangeSize_nat 0 bb
    simpa using e
  · intro z _
    unfold txM
    by_cases e : z = Str.ofString "number"
    · rw [if_pos e, e]
    · rw [if_neg e]
      by_cases e' : z = Str.ofString "data"
      · rw [if_pos e', e', hm]
      · rw [if_neg e']
  · intro i t c I h tk oI hi hv ho F' N'
    have hv' : c.b.size ≤ 10 + 60 * i := hv
    exact turn i t c I h tk oI (by lia) (by lia) hv (ho (pa, _) (.head _)) (ho (la, _) (.tail _ (.head _))) (fun p hp => ho p (.tail _ (.tail _ hp))) F' N'
  · intro c u h tk hv F' N'
    have hv' : c.b.size ≤ 10 + 60 * bb.toNat := hv
    exact done c u h tk (by lia) F' N'
theorem tx_map {m₀ : Str → Option Value} {x D Nm : Str} {v1 v1' v2 tv cu cd : Option Value} {c : TxSt} (hne : Nm ≠ D) (h1 : v1 = some (.bytes c.b c.t)) (h2 : v2 = c.u) :
    ∀ z, z ≠ x → (fun z => if z = D then v1 else if z = D then v1' else if z = Nm then v2 else if z = x then tv else if z = Nm then cu else if z = D then cd else m₀ z) z = txM m₀ D Nm c z := by
  intro z hz
  simp only [txM]
  by_cases e : z = Nm
  · subst e
    rw [if_neg hne, if_neg hne, if_pos rfl, if_pos rfl, h2]
  · by_cases e' : z = D
    · rw [if_pos e', if_neg e, if_pos e', h1]
    · rw [if_neg e', if_neg e', if_neg e, if_neg hz, if_neg e, if_neg e', if_neg e, if_neg e']
theorem text_end {h₀ : Heap} {L : Addr} {x : Str} {Q : Flow → Shared → Prop} {m₀ m' : Str → Option Value} {news' rest : List (Addr × Obj)} {pa la I : Nat} {oI : Obj} {y' : PenSt} {c : TxSt} {s₁ : Shared} {h' : Heap} {tk n : Nat} {b' : Array UInt8} {tb' : Tok} {u' : Option Value}
    (hv : TxInv n c) (F : Fr h₀ L h' m') (N : News h₀ L h' news') (hI : (I, oI) ∈ news') (h1 : (pa, penA la y') ∈ news') (h2 : (la, penB y') ∈ news') (h3 : ∀ p ∈ rest, p ∈ news')
    (n2 : pa ≠ I) (n3 : la ≠ I) (n4 : ∀ p ∈ rest, p.1 ≠ I) (hb : b'.size ≤ c.b.size + 60) (hm : ∀ z, z ≠ x → m' z = txM m₀ (Str.ofString "data") (Str.ofString "number") ⟨b', tb', y', u'⟩ z) :
    LPost h₀ L x (txM m₀ (Str.ofString "data") (Str.ofString "number")) (txLed pa la rest) (TxInv (n + 1)) I oI s₁ Q .next { s₁ with heap := h', toks := tk } := by
  have hv' : c.b.size ≤ 10 + 60 * n := hv
  refine LEnd.intro ⟨b', tb', y', u'⟩ F N hI ?_ ?_ hm (by show b'.size ≤ _; lia)
  · intro p hp
    simp only [txLed, List.mem_cons] at hp
    rcases hp with rfl | rfl | hp
    · exact h1
    · exact h2
    · exact h3 p hp
  · intro p hp
    simp only [txLed, List.mem_cons] at hp
    rcases hp with rfl | rfl | hp
    · exact n2
    · exact n3
    · exact n4 p hp
theorem pick_elim {P : Value → Prop} {G : Prop} {items : List Value} {v : Value} (h : v ∈ items) (k : ∀ x ∈ items, P x) (g : P v → G) : G := g (k v h)
theorem rowsText2 : True := by
  k_with "menu_int" => focus (repeat' (first | exact all_nil | (refine all_cons ?_ ?_) | (refine IntTo.mk' ?_ ?_ <;> first | lia | decide +kernel)))
  k_with "menu_bytes" => focus (repeat' (first | exact all_nil | (refine all_cons ?_ ?_) | (refine BytesTo.mk' ?_; first | assumption | exact Nat.le_of_ble_eq_true rfl)))
  k_with "call ref" => focus (((with_reducible show wpAny _ _ (call (Value.ref 263) _) _ _ _); k_dflt (refine' pick_ok ?_ ?_ ?_ ?_ ?_ ?_ ?_ ?_ ?_ ?_ ?_ ?_ ?_ ?_ ?_; (rotate_right 15; (focus (k_asm)); (focus (k_asm)); (focus (k_asm)); (focus (k_asm)); (focus (k_asm)); (focus (first | exact rfl | assumption)); (focus (walk_at "pen_at")); (focus (k_mem)); (focus (k_ne)); (focus (k_ne)); (focus ((simp only [List.length_cons, List.length_nil]; lia))); (focus ((simp only [List.length_cons, List.length_nil]; lia))); (focus (walk_at "room")); (focus (walk_at "room")); rotate_left 1)); intro v9 y9 h' tk9 m9 F' N'; (try k_dflt (first | (refine pick_elim (P := IntTo 3) m9 ?_ ?_; (rotate_right 2; (focus (walk_at "menu_int")); rotate_left 1); intro q9; obtain ⟨i9, ti9, e9, lo9, hi9⟩ := q9; subst e9; clear m9) | (refine pick_elim (P := IntTo 100000000000000000000) m9 ?_ ?_; (rotate_right 2; (focus (walk_at "menu_int")); rotate_left 1); intro q9; obtain ⟨i9, ti9, e9, lo9, hi9⟩ := q9; subst e9; clear m9) | (refine pick_elim (P := BytesTo 10) m9 ?_ ?_; (rotate_right 2; (focus (walk_at "menu_bytes")); rotate_left 1); intro q9; obtain ⟨b9, tb9, e9, hi9⟩ := q9; subst e9; clear m9) | (refine pick_elim (P := BytesTo 21) m9 ?_ ?_; (rotate_right 2; (focus (walk_at "menu_bytes")); rotate_left 1); intro q9; obtain ⟨b9, tb9, e9, hi9⟩ := q9; subst e9; clear m9))); (try dsimp only at N'); (try k_sweep)))
  k_with "my pyIter ref" => focus ((k_here; (rename IsRange _ _ _ _ _ _ _ _ => R'); k_dflt (refine' text_loop ?_ R' ?_ ?_ ?_ ?_ ?_ ?_ ?_ ?_; (rotate_right 9; (focus (exact rfl)); rotate_left 8); (rotate_right 7; (focus (k_asm)); rotate_left 6); (rotate_right 7; (focus (rfl)); (focus (first | k_asm | exact News.grown (by assumption) (by assumption) | exact News.tail' (by assumption) | exact News.tail' (News.tail' (by assumption)) | exact News.tail' (News.tail' (News.tail' (by assumption))))); (focus (lia)); (focus (lia)); (focus (assumption)); rotate_left 2)); (all_goals intros)))
  k_with "getMethod str" => focus ((k_here; (with_reducible refine BY.method_encode ?_)))
  k_with "call builtin:str.encode" => focus ((k_here; k_dflt (refine BY.encode_int ?_ ?_ ?_; (rotate_right 3; (focus (lia)); (focus (lia)); rotate_left 1)); intro t9 k9 z9))
  k_with "binaryOp Add bytes bytes" => focus ((k_here; k_dflt (refine KBy.add_bytes ?_ ?_; (rotate_right 2; (focus ((simp only [Array.size_append, List.size_toArray, List.length_cons, List.length_nil]; lia))); rotate_left 1)); intro t9 k9))
  trivial
set_option maxRecDepth 100000 in
set_option maxHeartbeats 8000000 in
theorem text_ok {w : World} {mean : ExcName → Option Value} {mg mb : Str → Option Value} {dp un : Nat} {gd : Option (List Code)} {cn : Str} {cs : Scope} {a : Addr} {ccd : Value} {cl : List (Str × Addr)} {outer : List Env} {A₀ : Around} {base h₀ : Heap} {L : Addr} {m : Str → Option Value} {s : Shared}
    {Q E : Value → Shared → Prop} {pa la : Nat} {x : PenSt} {rest : List (Addr × Obj)}
    (B : Below A₀ base outer h₀) (F : Fr h₀ L s.heap m) (X : (Mine.hd.heap_1 w.params).In h₀) (N : News h₀ L s.heap ((pa, penA la x) :: (la, penB x) :: rest))
    (T : Top Mine.hd.view_1 (looseW Mine.hd.view_1 [Str.ofString "PaperError"]) mean mg mb h₀) (hk : cs.kind = .function)
    (hpl : pa ≠ la) (hop : ∀ p ∈ rest, p.1 ≠ pa) (hol : ∀ p ∈ rest, p.1 ≠ la) (hd : dp < 380) (hu : un < 380)
    (hret : ∀ (b : Array UInt8) (tb : Tok) (y : PenSt) h' tk', b.size ≤ 190 →
      Fr h₀ L h' m → News h₀ L h' ((pa, penA la y) :: (la, penB y) :: rest) → Q (.bytes b tb) { s with heap := h', toks := tk' }) :
    wpAny (model PySem.Challenge.rw_nn0202_01.row.prog w) (ktrTop dp un gd cn cs L a ccd cl outer) (call (.ref 282) [.ref pa]) Q E s := by
  revert X
  k_fill
  intro X
  refine wpAny_call ?_
  k_dflt cell_enter
  k_steps
  all_goals first
    | (refine' text_end ?hv ?F ?N ?hI ?h1 ?h2 ?h3 ?n2 ?n3 ?n4 ?hb ?hm; (case hv => assumption); (case F => k_asm); (case N => k_asm); (case hI => k_mem); (case h1 => k_mem); (case h2 => k_mem); (case h3 => kcj_all); (case n2 => assumption); (case n3 => assumption); (case n4 => assumption); (case hm => exact tx_map (by decide) rfl rfl); (case hb => (simp only [Array.size_append, List.size_toArray, List.length_cons, List.length_nil]; lia)))
    | (refine' hret _ _ _ _ _ ?z ?F ?N; (case z => assumption); (case F => k_asm); (case N => k_asm))
end
section
theorem rowsWl1 : True := by
  k_with_none
  k_with "pen_at" => focus (first | with_reducible assumption | (refine' PenAt.head ?_ ?_ ?_; (rotate_right 3; (focus (first | with_reducible assumption | k_ne)); (focus (k_all)); (focus (k_all)))) | (refine' PenAt.tail ?_ ?_ ?_; (rotate_right 1; (focus (walk_at "pen_at"))); (rotate_right 2; (focus (k_ne)); (focus (k_ne)))))
  k_with "room" => focus (first | lia | (dsimp only [ktrTop, Around.deeper]; lia))
  k_with "enterC" => focus ((refine' code_defC ?_ ?_ ?_ ?_ ?_ ?_ ?_ ?_ ?_ ?_ ?_ ?_ ?_ ?_ ?_ ?_ ?_ ?_; (rotate_right 13; (focus (exact rfl)); (focus (exact rfl)); (focus (first | exact rfl | assumption)); rotate_left 10); (rotate_right 15; (focus (k_asm)); (focus (k_asm)); (focus (k_asm)); (focus (k_asm)); (focus (k_asm)); (focus (k_is)); (focus (k_is)); (focus (k_room)); (focus (exact BindsTo.of_eq rfl)); (focus (exact rfl)); (focus (decide +kernel)); rotate_left 4); (rotate_right 3; (focus (exact rfl)); (focus (exact rfl)); (focus (exact rfl))); k_whole; intro g' L' h' tk' cells' FG' F' N' Y' B' X' T' l1; (try k_lt l1); k_cells Y'; (try simp only [List.cons_append, List.nil_append] at N'); (try dsimp only); (try k_lift B'); (try k_fold)))
  k_with "eval Name" => focus ((k_here; (with_reducible show wpAny _ _ (eval (Expr.Name _ _) (compEnvC _ _ _ _)) _ _ _); k_dflt (first | (refine' lcf_cell ?_ ?_ ?_ ?_ ?_ ?_ ?_; (rotate_right 1; (focus (rfl))); (rotate_right 1; (focus (rfl))); (rotate_right 5; (focus (k_asm)); (focus (rfl)); (focus (k_mem)); (focus (k_asm)); rotate_left 1); k_whole) | (refine' lcf_free ?_ ?_ ?_ ?_ ?_ ?_ ?_; (rotate_right 1; (focus (rfl))); (rotate_right 1; (focus (rfl))); (rotate_right 5; (focus (k_asm)); (focus (rfl)); (focus (k_mem)); (focus (k_asm)); rotate_left 1); k_whole) | refine LCgL.ld_global (by k_asm) (by k_asm) (by k_asm) (by k_is) ?_)))
  k_with "exec For Name Name cons nil" => focus ((k_here; (rename Fr _ _ _ _ => lF'); (with_unfolding_all refine' For_invVF lF' ?_ ?_ ?_; (rotate_right 3; (focus (exact rfl)); (focus (exact rfl)); rotate_left 1); k_whole)))
  k_with "exec For Name Call cons nil" => focus ((k_here; (rename Fr _ _ _ _ => lF'); (with_unfolding_all refine' For_invVF lF' ?_ ?_ ?_; (rotate_right 3; (focus (exact rfl)); (focus (exact rfl)); rotate_left 1); k_whole)))
  trivial
noncomputable def WIf (b : Bool) (T F : Prop) : Prop := if b = true then T else F
theorem WIf.yes {b : Bool} {T F : Prop} (h : b = true) (t : T) : WIf b T F := by
  subst h
  exact t
theorem WIf.no {b : Bool} {T F : Prop} (h : b = false) (f : F) : WIf b T F := by
  subst h
  unfold WIf
  rw [if_neg Bool.false_ne_true]
  exact f
theorem WIf.dec {p : Prop} [Decidable p] {T F : Prop} (h1 : p → T) (h2 : ¬p → F) : WIf (decide p) T F := by
  by_cases h : p
  · exact .yes (decide_eq_true h) (h1 h)
  · exact .no (decide_eq_false h) (h2 h)
noncomputable def WEnd {σ : Type} (h₀ : Heap) (L : Addr) (M : σ → Str → Option Value) (Led : σ → List (Addr × Obj)) (Inv : σ → Prop) (μ : σ → Nat) (c : σ) (s₁ s₂ : Shared) : Prop :=
  ∃ (c' : σ) (h' : Heap) (tk : Nat) (m' : Str → Option Value) (news' : List (Addr × Obj)), s₂ = { s₁ with heap := h', toks := tk } ∧ Fr h₀ L h' m' ∧ News h₀ L h' news' ∧ (∀ p ∈ Led c', p ∈ news') ∧ (∀ z, m' z = M c' z) ∧ Inv c' ∧ μ c' < μ c
noncomputable def WPost {σ : Type} (h₀ : Heap) (L : Addr) (M : σ → Str → Option Value) (Led : σ → List (Addr × Obj)) (Inv : σ → Prop) (μ : σ → Nat) (c : σ) (s₁ : Shared) (Q : Flow → Shared → Prop) (f : Flow) (s₂ : Shared) : Prop :=
  match f with
  | .ret v => Q (.ret v) s₂
  | .brk => Q .next s₂
  | .next => WEnd h₀ L M Led Inv μ c s₁ s₂
  | .cont => WEnd h₀ L M Led Inv μ c s₁ s₂
theorem WPost.ret {σ : Type} {h₀ : Heap} {L : Addr} {M : σ → Str → Option Value} {Led : σ → List (Addr × Obj)} {Inv : σ → Prop} {μ : σ → Nat} {c : σ} {s₁ s₂ : Shared} {Q : Flow → Shared → Prop} {v : Value} (h : Q (.ret v) s₂) : WPost h₀ L M Led Inv μ c s₁ Q (.ret v) s₂ := h
theorem WEnd.intro {σ : Type} {h₀ : Heap} {L : Addr} {M : σ → Str → Option Value} {Led : σ → List (Addr × Obj)} {Inv : σ → Prop} {μ : σ → Nat} {c : σ} {s₁ : Shared} {h' : Heap} {tk : Nat} {m' : Str → Option Value} {news' : List (Addr × Obj)} (c' : σ)
    (F : Fr h₀ L h' m') (N : News h₀ L h' news') (hn : ∀ p ∈ Led c', p ∈ news') (hm : ∀ z, m' z = M c' z) (hv : Inv c') (hu : μ c' < μ c) :
    WEnd h₀ L M Led Inv μ c s₁ { s₁ with heap := h', toks := tk } := ⟨c', h', tk, m', news', rfl, F, N, hn, hm, hv, hu⟩
section
variable {prog : Program} {w : World} {A : Around} {E : Value → Shared → Prop} {Q : Flow → Shared → Prop} {s : Shared} {env : Env} {h₀ : Heap}
theorem wl_inv {σ : Type} {test : PySem.Expr} {body : List Stmt} {pos : Pos} {m₀ : Str → Option Value} {news : List (Addr × Obj)} (M : σ → Str → Option Value) (Led : σ → List (Addr × Obj)) (Inv : σ → Prop) (μ : σ → Nat) (c₀ : σ)
    (F : Fr h₀ env.locals s.heap m₀) (N : News h₀ env.locals s.heap news) (hm : ∀ z, m₀ z = M c₀ z) (hl : ∀ p ∈ Led c₀, p ∈ news) (hj : Inv c₀)
    (hE : PassesOwn (model prog w) A env E)
    (turn : ∀ c h tk, Inv c → Fr h₀ env.locals h (M c) → News h₀ env.locals h (Led c) →
      wpAny (model prog w) A (isTrue test env (eval test env)) (fun b s₂ => WIf b (wpAny (model prog w) A (execs body env) (WPost h₀ env.locals M Led Inv μ c { s with heap := h, toks := tk } Q) E s₂) (Q .next s₂)) E { s with heap := h, toks := tk }) :
    wpAny (model prog w) A (exec (.While test body [] pos) env) Q E s := by
  refine While_inv2 (fun n m nx => ∃ c : σ, nx = Led c ∧ μ c = n ∧ (∀ z, m z = M c z) ∧ Inv c) F (news := Led c₀) (fun p hp => N p (hl p hp)) ⟨c₀, rfl, rfl, hm, hj⟩ ?_ hE
  rintro n m₁ nx h tk F₁ N₁ ⟨c, rfl, rfl, h1, hv⟩
  have e : m₁ = M c := funext h1
  subst e
  refine wpAny_mono (turn c h tk hv F₁ N₁) (fun b s₂ p => ?_) fun _ _ x => x
  cases b with
  | false => simpa [WIf] using p
  | true =>
    have p' : wpAny (model prog w) A (execs body env) (WPost h₀ env.locals M Led Inv μ c { s with heap := h, toks := tk } Q) E s₂ := p
    simp only [if_true]
    refine wpAny_mono p' (fun f s₃ q => ?_) fun _ _ x => x
    have fin : WEnd h₀ env.locals M Led Inv μ c { s with heap := h, toks := tk } s₃ → WhileStep2 h₀ env.locals s (fun n m nx => ∃ c : σ, nx = Led c ∧ μ c = n ∧ (∀ z, m z = M c z) ∧ Inv c) Q (μ c) .next s₃ := by
      rintro ⟨c', h', tk', m', news', rfl, F', N', hn, hm', hv', hu'⟩
      exact ⟨h', tk', m', Led c', μ c', rfl, F', fun p hp => N' p (hn p hp), hu', c', rfl, rfl, hm', hv'⟩
    cases f with
    | ret v => exact q
    | brk => exact q
    | next => exact fin q
    | cont => exact fin q
end
end
section
theorem rowsSkip1 : True := by
  k_with_none
  k_with "pen_at" => focus (first | with_reducible assumption | (refine' PenAt.head ?_ ?_ ?_; (rotate_right 3; (focus (first | with_reducible assumption | k_ne)); (focus (k_all)); (focus (k_all)))) | (refine' PenAt.tail ?_ ?_ ?_; (rotate_right 1; (focus (walk_at "pen_at"))); (rotate_right 2; (focus (k_ne)); (focus (k_ne)))))
  k_with "room" => focus (first | lia | (dsimp only [ktrTop, Around.deeper]; lia))
  k_with "enterC" => focus ((refine' code_defC ?_ ?_ ?_ ?_ ?_ ?_ ?_ ?_ ?_ ?_ ?_ ?_ ?_ ?_ ?_ ?_ ?_ ?_; (rotate_right 13; (focus (exact rfl)); (focus (exact rfl)); (focus (first | exact rfl | assumption)); rotate_left 10); (rotate_right 15; (focus (k_asm)); (focus (k_asm)); (focus (k_asm)); (focus (k_asm)); (focus (k_asm)); (focus (k_is)); (focus (k_is)); (focus (k_room)); (focus (exact BindsTo.of_eq rfl)); (focus (exact rfl)); (focus (decide +kernel)); rotate_left 4); (rotate_right 3; (focus (exact rfl)); (focus (exact rfl)); (focus (exact rfl))); k_whole; intro g' L' h' tk' cells' FG' F' N' Y' B' X' T' l1; (try k_lt l1); k_cells Y'; (try simp only [List.cons_append, List.nil_append] at N'); (try dsimp only); (try k_lift B'); (try k_fold)))
  k_with "eval Name" => focus ((k_here; (with_reducible show wpAny _ _ (eval (Expr.Name _ _) (compEnvC _ _ _ _)) _ _ _); k_dflt (first | (refine' lcf_cell ?_ ?_ ?_ ?_ ?_ ?_ ?_; (rotate_right 1; (focus (rfl))); (rotate_right 1; (focus (rfl))); (rotate_right 5; (focus (k_asm)); (focus (rfl)); (focus (k_mem)); (focus (k_asm)); rotate_left 1); k_whole) | (refine' lcf_free ?_ ?_ ?_ ?_ ?_ ?_ ?_; (rotate_right 1; (focus (rfl))); (rotate_right 1; (focus (rfl))); (rotate_right 5; (focus (k_asm)); (focus (rfl)); (focus (k_mem)); (focus (k_asm)); rotate_left 1); k_whole) | refine LCgL.ld_global (by k_asm) (by k_asm) (by k_asm) (by k_is) ?_)))
  k_with "exec For Name Name cons nil" => focus ((k_here; (rename Fr _ _ _ _ => lF'); (with_unfolding_all refine' For_invVF lF' ?_ ?_ ?_; (rotate_right 3; (focus (exact rfl)); (focus (exact rfl)); rotate_left 1); k_whole)))
  k_with "exec For Name Call cons nil" => focus ((k_here; (rename Fr _ _ _ _ => lF'); (with_unfolding_all refine' For_invVF lF' ?_ ?_ ?_; (rotate_right 3; (focus (exact rfl)); (focus (exact rfl)); rotate_left 1); k_whole)))
  k_with "WIf" => focus (first | (refine WIf.yes rfl ?_) | (refine WIf.no rfl ?_) | (refine WIf.dec ?_ ?_ <;> intro))
  trivial
noncomputable def wstep (rem : Bool) (c : Int) : Option Bool :=
  if rem = true ∨ c = 0 ∨ c = 9 ∨ c = 10 ∨ c = 12 ∨ c = 13 ∨ c = 32 ∨ c = 37 then some (decide (c = 37) || (rem && !(decide (c = 10) || decide (c = 13)))) else none
noncomputable def skipW : List Int → Bool → Nat
  | [], _ => 0
  | c :: r, rem => match wstep rem c with
    | some rem' => skipW r rem' + 1
    | none => 0
noncomputable abbrev curD (w : World) (b : Array UInt8) (en : Int) (tb t1 t2 t3 te : Tok) (at_ : Int) (ta : Tok) : Obj :=
  dictOf [⟨PyData.keyHash w.params (Str.ofString "data"), .str (Str.ofString "data") t1, .bytes b tb⟩, ⟨PyData.keyHash w.params (Str.ofString "at"), .str (Str.ofString "at") t2, .int at_ ta⟩, ⟨PyData.keyHash w.params (Str.ofString "end"), .str (Str.ofString "end") t3, .int en te⟩] 3
structure SwSt where
  at_ : Int
  ta : Tok
  u : Option Value
noncomputable def SwInv (ks : List Int) (tot lo : Int) (rem : Bool) (c : SwSt) : Prop := lo ≤ c.at_ ∧ 0 ≤ c.at_ ∧ c.at_ + skipW (ks.drop c.at_.toNat) rem = tot
section
variable {prog : Program} {w : World} {A : Around} {E : Value → Shared → Prop} {Q : Flow → Shared → Prop} {s : Shared} {env : Env} {h₀ : Heap}
  {test : PySem.Expr} {body : List Stmt} {pos : Pos} {m₀ : Str → Option Value} {b : Array UInt8} {en : Int} {tb t1 t2 t3 te ta : Tok} {x d : Nat} {at_ : Int} {ks : List Int} {rest : List (Addr × Obj)}
noncomputable abbrev swLed (w : World) (b : Array UInt8) (en : Int) (tb t1 t2 t3 te : Tok) (x d : Nat) (rest : List (Addr × Obj)) (c : SwSt) : List (Addr × Obj) := (x, instObj 132 d) :: (d, curD w b en tb t1 t2 t3 te c.at_ c.ta) :: rest
theorem sw_outer (_hks : KBw.bInts b = ks) (h0 : 0 ≤ at_) (F : Fr h₀ env.locals s.heap m₀) (N : News h₀ env.locals s.heap ((x, instObj 132 d) :: (d, curD w b en tb t1 t2 t3 te at_ ta) :: rest))
    (hE : PassesOwn (model prog w) A env E)
    (turn : ∀ (c : SwSt) h tk, SwInv ks (at_ + skipW (ks.drop at_.toNat) false) at_ false c → 0 ≤ c.at_ → Fr h₀ env.locals h (fun z => if z = Str.ofString "code" then c.u else m₀ z) → News h₀ env.locals h ((x, instObj 132 d) :: (d, curD w b en tb t1 t2 t3 te c.at_ c.ta) :: rest) →
      wpAny (model prog w) A (isTrue test env (eval test env)) (fun b₁ s₂ => WIf b₁ (wpAny (model prog w) A (execs body env) (WPost h₀ env.locals (fun c z => if z = Str.ofString "code" then c.u else m₀ z) (swLed w b en tb t1 t2 t3 te x d rest) (SwInv ks (at_ + skipW (ks.drop at_.toNat) false) at_ false) (fun c => ks.length - c.at_.toNat) c { s with heap := h, toks := tk } Q) E s₂) (Q .next s₂)) E { s with heap := h, toks := tk }) :
    wpAny (model prog w) A (exec (.While test body [] pos) env) Q E s := by
  refine wl_inv (fun (c : SwSt) z => if z = Str.ofString "code" then c.u else m₀ z) (swLed w b en tb t1 t2 t3 te x d rest) (SwInv ks (at_ + skipW (ks.drop at_.toNat) false) at_ false) (fun c => ks.length - c.at_.toNat) ⟨at_, ta, m₀ (Str.ofString "code")⟩ F N ?_ (fun p hp => hp) ⟨Int.le_refl _, h0, rfl⟩ hE ?_
  · intro z
    by_cases e : z = Str.ofString "code"
    · simp only [e, if_true]
    · simp only [e, if_false]
  · intro c h tk hv F' N'
    exact turn c h tk hv hv.2.1 F' N'
theorem sw_inner (_hks : KBw.bInts b = ks) (h0 : 0 ≤ at_) (F : Fr h₀ env.locals s.heap m₀) (N : News h₀ env.locals s.heap ((x, instObj 132 d) :: (d, curD w b en tb t1 t2 t3 te at_ ta) :: rest))
    (hE : PassesOwn (model prog w) A env E)
    (turn : ∀ (c : SwSt) h tk, SwInv ks (at_ + skipW (ks.drop at_.toNat) true) at_ true c → 0 ≤ c.at_ → Fr h₀ env.locals h m₀ → News h₀ env.locals h ((x, instObj 132 d) :: (d, curD w b en tb t1 t2 t3 te c.at_ c.ta) :: rest) →
      wpAny (model prog w) A (isTrue test env (eval test env)) (fun b₁ s₂ => WIf b₁ (wpAny (model prog w) A (execs body env) (WPost h₀ env.locals (fun _ => m₀) (swLed w b en tb t1 t2 t3 te x d rest) (SwInv ks (at_ + skipW (ks.drop at_.toNat) true) at_ true) (fun c => ks.length - c.at_.toNat) c { s with heap := h, toks := tk } Q) E s₂) (Q .next s₂)) E { s with heap := h, toks := tk }) :
    wpAny (model prog w) A (exec (.While test body [] pos) env) Q E s := by
  refine wl_inv (fun (_ : SwSt) => m₀) (swLed w b en tb t1 t2 t3 te x d rest) (SwInv ks (at_ + skipW (ks.drop at_.toNat) true) at_ true) (fun c => ks.length - c.at_.toNat) ⟨at_, ta, none⟩ F N (fun _ => rfl) (fun p hp => hp) ⟨Int.le_refl _, h0, rfl⟩ hE ?_
  intro c h tk hv F' N'
  exact turn c h tk hv hv.2.1 F' N'
end
theorem drop_getD {ks : List Int} {a : Int} (h0 : 0 ≤ a) (h1 : a < ks.length) : ks.drop a.toNat = ks.getD a.toNat 0 :: ks.drop (a + 1).toNat := by
  have hlt : a.toNat < ks.length := by lia
  have e : (a + 1).toNat = a.toNat + 1 := by lia
  rw [e, List.drop_eq_getElem_cons hlt, List.getD_eq_getElem?_getD, List.getElem?_eq_getElem hlt]
  rfl
theorem drop_past {ks : List Int} {a : Int} (h1 : ¬ a < ks.length) : ks.drop a.toNat = [] := List.drop_eq_nil_of_le (by lia)
theorem skip_37 {r : List Int} {rem : Bool} : skipW (37 :: r) rem = skipW r true + 1 := by
  have e : wstep rem 37 = some true := by
    unfold wstep
    rw [if_pos (by simp)]
    simp
  conv => lhs; unfold skipW; rw [e]
theorem skip_stop {k : Int} {r : List Int} (h1 : k ≠ 37) (h2 : ([0, 9, 10, 12, 13, 32].any fun x => x == k) = false) : skipW (k :: r) false = 0 := by
  simp only [List.any_cons, List.any_nil, Bool.or_false, Bool.or_eq_false_iff, beq_eq_false_iff_ne, ne_eq] at h2
  unfold skipW wstep
  rw [if_neg]
  rintro (h | h | h | h | h | h | h | h) <;> simp_all
theorem skip_white {k : Int} {r : List Int} (h1 : k ≠ 37) (h2 : ([0, 9, 10, 12, 13, 32].any fun x => x == k) = true) : skipW (k :: r) false = skipW r false + 1 := by
  simp only [List.any_cons, List.any_nil, Bool.or_false, Bool.or_eq_true, beq_iff_eq] at h2
  have e : wstep false k = some false := by
    unfold wstep
    rw [if_pos (by rcases h2 with h | h | h | h | h | h <;> simp [← h])]
    simp [h1]
  conv => lhs; unfold skipW; rw [e]
theorem skip_rem {k : Int} {r : List Int} (h2 : ([10, 13].any fun x => x == k) = false) : skipW (k :: r) true = skipW r true + 1 := by
  simp only [List.any_cons, List.any_nil, Bool.or_false, Bool.or_eq_false_iff, beq_eq_false_iff_ne, ne_eq] at h2
  have e : wstep true k = some true := by
    unfold wstep
    rw [if_pos (by simp)]
    have h3 : ¬ k = 10 := fun e => h2.1 e.symm
    have h4 : ¬ k = 13 := fun e => h2.2 e.symm
    simp [h3, h4]
  conv => lhs; unfold skipW; rw [e]
theorem skip_eol {k : Int} {r : List Int} (h2 : ([10, 13].any fun x => x == k) = true) : skipW (k :: r) true = skipW (k :: r) false := by
  simp only [List.any_cons, List.any_nil, Bool.or_false, Bool.or_eq_true, beq_iff_eq] at h2
  rcases h2 with rfl | rfl <;> simp [skipW, wstep]
section
variable {ks : List Int} {tot lo : Int} {c c' : SwSt} {bs : Int} {t : Tok} {v : Option Value}
theorem sw_s1 (hz : bs = ks.length) (h1 : SwInv ks tot lo false c) (hlt : c.at_ < bs) (h37 : ks.getD c.at_.toNat 0 = 37) (h2 : SwInv ks (c.at_ + skipW (ks.drop c.at_.toNat) true) c.at_ true c') (hlt' : c'.at_ < bs) (h3 : ([10, 13].any fun x => x == ks.getD c'.at_.toNat 0) = true) :
    SwInv ks tot lo false ⟨c'.at_, t, v⟩ ∧ ks.length - c'.at_.toNat < ks.length - c.at_.toNat := by
  obtain ⟨a1, a2, a3⟩ := h1
  obtain ⟨b1, b2, b3⟩ := h2
  have hne : c'.at_ ≠ c.at_ := by
    intro e
    rw [e, h37] at h3
    simp at h3
  rw [drop_getD b2 (by lia), skip_eol h3, ← drop_getD b2 (by lia)] at b3
  rw [drop_getD a2 (by lia), h37, skip_37] at a3 b3
  refine ⟨⟨by show lo ≤ c'.at_; lia, b2, ?_⟩, by lia⟩
  show c'.at_ + (skipW (ks.drop c'.at_.toNat) false : Int) = tot
  lia
theorem sw_s3 (hz : bs = ks.length) (h1 : SwInv ks tot lo false c) (hlt : c.at_ < bs) (h37 : ks.getD c.at_.toNat 0 = 37) (h2 : SwInv ks (c.at_ + skipW (ks.drop c.at_.toNat) true) c.at_ true c') (hlt' : ¬ c'.at_ < bs) :
    SwInv ks tot lo false ⟨c'.at_, t, v⟩ ∧ ks.length - c'.at_.toNat < ks.length - c.at_.toNat := by
  obtain ⟨a1, a2, a3⟩ := h1
  obtain ⟨b1, b2, b3⟩ := h2
  have e : skipW (ks.drop c'.at_.toNat) true = skipW (ks.drop c'.at_.toNat) false := by
    rw [drop_past (by lia)]
    rfl
  rw [e] at b3
  rw [drop_getD a2 (by lia), h37, skip_37] at a3 b3
  refine ⟨⟨by show lo ≤ c'.at_; lia, b2, ?_⟩, by lia⟩
  show c'.at_ + (skipW (ks.drop c'.at_.toNat) false : Int) = tot
  lia
theorem sw_s2 (hz : bs = ks.length) (h2 : SwInv ks tot lo true c) (hlt : c.at_ < bs) (h3 : ([10, 13].any fun x => x == ks.getD c.at_.toNat 0) = false) :
    SwInv ks tot lo true ⟨c.at_ + 1, t, v⟩ ∧ ks.length - (c.at_ + 1).toNat < ks.length - c.at_.toNat := by
  obtain ⟨a1, a2, a3⟩ := h2
  rw [drop_getD a2 (by lia), skip_rem h3] at a3
  refine ⟨⟨by show lo ≤ c.at_ + 1; lia, by show 0 ≤ c.at_ + 1; lia, ?_⟩, by lia⟩
  show c.at_ + 1 + (skipW (ks.drop (c.at_ + 1).toNat) true : Int) = tot
  lia
theorem sw_s4 (hz : bs = ks.length) (h2 : SwInv ks tot lo false c) (hlt : c.at_ < bs) (h1 : ks.getD c.at_.toNat 0 ≠ 37) (h3 : ([0, 9, 10, 12, 13, 32].any fun x => x == ks.getD c.at_.toNat 0) = true) :
    SwInv ks tot lo false ⟨c.at_ + 1, t, v⟩ ∧ ks.length - (c.at_ + 1).toNat < ks.length - c.at_.toNat := by
  obtain ⟨a1, a2, a3⟩ := h2
  rw [drop_getD a2 (by lia), skip_white h1 h3] at a3
  refine ⟨⟨by show lo ≤ c.at_ + 1; lia, by show 0 ≤ c.at_ + 1; lia, ?_⟩, by lia⟩
  show c.at_ + 1 + (skipW (ks.drop (c.at_ + 1).toNat) false : Int) = tot
  lia
theorem sw_f5 (hz : bs = ks.length) (h2 : SwInv ks tot lo false c) (hlt : c.at_ < bs) (h1 : ks.getD c.at_.toNat 0 ≠ 37) (h3 : ([0, 9, 10, 12, 13, 32].any fun x => x == ks.getD c.at_.toNat 0) = false) : c.at_ = tot := by
  obtain ⟨a1, a2, a3⟩ := h2
  rw [drop_getD a2 (by lia), skip_stop h1 h3] at a3
  lia
theorem sw_f6 (hz : bs = ks.length) (h2 : SwInv ks tot lo false c) (hlt : ¬ c.at_ < bs) : c.at_ = tot := by
  obtain ⟨a1, a2, a3⟩ := h2
  rw [drop_past (by lia)] at a3
  simp only [skipW] at a3
  lia
end
section
variable {w : World} {h₀ : Heap} {L : Addr} {Q : Flow → Shared → Prop} {m₀ m' : Str → Option Value} {news' rest : List (Addr × Obj)} {x d : Nat} {b : Array UInt8} {en : Int} {tb t1 t2 t3 te t : Tok} {ks : List Int} {tot lo at' : Int} {c : SwSt} {s₁ : Shared} {h' : Heap} {tk : Nat} {v v' : Option Value}
theorem sw_end_i (F : Fr h₀ L h' m₀) (N : News h₀ L h' news') (h1 : (x, instObj 132 d) ∈ news') (h2 : (d, curD w b en tb t1 t2 t3 te at' t) ∈ news') (h3 : ∀ p ∈ rest, p ∈ news')
    (hv : SwInv ks tot lo true ⟨at', t, none⟩ ∧ ks.length - at'.toNat < ks.length - c.at_.toNat) :
    WPost h₀ L (fun _ => m₀) (swLed w b en tb t1 t2 t3 te x d rest) (SwInv ks tot lo true) (fun c => ks.length - c.at_.toNat) c s₁ Q .next { s₁ with heap := h', toks := tk } := by
  refine WEnd.intro ⟨at', t, none⟩ F N ?_ (fun _ => rfl) hv.1 hv.2
  intro p hp
  simp only [swLed, List.mem_cons] at hp
  rcases hp with rfl | rfl | hp
  · exact h1
  · exact h2
  · exact h3 p hp
theorem sw_end_o (F : Fr h₀ L h' m') (hm : ∀ z, m' z = if z = Str.ofString "code" then v else m₀ z) (N : News h₀ L h' news') (h1 : (x, instObj 132 d) ∈ news') (h2 : (d, curD w b en tb t1 t2 t3 te at' t) ∈ news') (h3 : ∀ p ∈ rest, p ∈ news')
    (hv : SwInv ks tot lo false ⟨at', t, v⟩ ∧ ks.length - at'.toNat < ks.length - c.at_.toNat) :
    WPost h₀ L (fun c z => if z = Str.ofString "code" then c.u else m₀ z) (swLed w b en tb t1 t2 t3 te x d rest) (SwInv ks tot lo false) (fun c => ks.length - c.at_.toNat) c s₁ Q .next { s₁ with heap := h', toks := tk } := by
  refine WEnd.intro ⟨at', t, v⟩ F N ?_ hm hv.1 hv.2
  intro p hp
  simp only [swLed, List.mem_cons] at hp
  rcases hp with rfl | rfl | hp
  · exact h1
  · exact h2
  · exact h3 p hp
theorem sw_map {m₀ : Str → Option Value} {C : Str} {v v' : Option Value} : ∀ z, (fun y => if y = C then v else if y = C then v' else m₀ y) z = if z = C then v else m₀ z := by
  intro z
  by_cases e : z = C
  · simp only [e, if_true]
  · simp only [e, if_false]
end
theorem in_top_tuple {prog : Program} {w : World} {A : Around} {E : Value → Shared → Prop} {s : Shared} {h₀ : Heap} {L : Addr} {m : Str → Option Value} {K : Frag} {t : Addr} {items : Array Value} {n : Nat} {sl : Array (Option Value)} {od : Option Addr} {ns : List Int} {x : Int} {u : Tok} {Q : Value → Shared → Prop}
    (F : Fr h₀ L s.heap m) (X : K.In h₀) (ho : K.lookup t = some ⟨.type "tuple", od, .seq items n, sl⟩) (hi : IntsAre items.toList ns) (h : Q (.bool (ns.any (· == x))) s) : wpAny (model prog w) A (compareOp .In (.int x u) (.ref t)) Q E s :=
  in_tuple_ints ⟨_, (X.keeps F.keep) _ _ ho, rfl, _, rfl⟩ hi h
theorem rowsSkip2 : True := by
  k_with "compareOp In int ref" => focus ((k_here; k_dflt (refine' in_top_tuple ?_ ?_ ?_ ?_ ?_; (rotate_right 5; (focus (k_asm)); (focus (k_asm)); (focus (k_is)); (focus (repeat constructor)); rotate_left 1))))
  k_with "exec While Compare cons nil" => focus ((k_here; k_dflt (refine' sw_outer ?_ ?_ ?_ ?_ ?_ ?_; (rotate_right 6; (focus (assumption)); rotate_left 5); (rotate_right 4; (focus (k_asm)); (focus (k_asm)); rotate_left 2); (rotate_right 3; (focus (first | assumption | lia)); (focus (first | passes_own | with_unfolding_all passes_own)); rotate_left 1)); intros))
  k_with "exec While BoolOp cons nil" => focus ((k_here; k_dflt (refine' sw_inner ?_ ?_ ?_ ?_ ?_ ?_; (rotate_right 6; (focus (assumption)); rotate_left 5); (rotate_right 4; (focus (k_asm)); (focus (k_asm)); rotate_left 2); (rotate_right 3; (focus (first | assumption | lia)); (focus (first | passes_own | with_unfolding_all passes_own)); rotate_left 1)); intros))
  k_with "subscriptTail" => focus ((k_here; (with_reducible show wpAny _ _ (subscriptTail _ _ (Value.bytes _ _) (Value.int _ _)) _ _ _); k_dflt (refine' KBw.item_K ?_ ?_ ?_ ?_ ?_ ?_ ?_; (rotate_right 7; (focus (assumption)); (focus (lia)); (focus (lia)); (focus (lia)); rotate_left 3); (rotate_right 2; (focus (with_unfolding_all rfl)); (focus ((intro _; with_unfolding_all rfl))))); intro t9 k9 lo9 hi9))
  trivial
set_option maxRecDepth 100000 in
set_option maxHeartbeats 8000000 in
theorem skip_ok {w : World} {mean : ExcName → Option Value} {mg mb : Str → Option Value} {dp un : Nat} {gd : Option (List Code)} {cn : Str} {cs : Scope} {a : Addr} {ccd : Value} {cl : List (Str × Addr)} {outer : List Env} {A₀ : Around} {base h₀ : Heap} {L : Addr} {m : Str → Option Value} {s : Shared}
    {Q E : Value → Shared → Prop} {b : Array UInt8} {en : Int} {tb t1 t2 t3 te ta : Tok} {x d : Nat} {at_ : Int} {ks : List Int} {rest : List (Addr × Obj)}
    (B : Below A₀ base outer h₀) (F : Fr h₀ L s.heap m) (X : (Mine.hd.heap_1 w.params).In h₀) (N : News h₀ L s.heap ((x, instObj 132 d) :: (d, curD w b en tb t1 t2 t3 te at_ ta) :: rest))
    (T : Top Mine.hd.view_1 (looseW Mine.hd.view_1 [Str.ofString "PaperError"]) mean mg mb h₀) (hk : cs.kind = .function) (hks : KBw.bInts b = ks) (hxd : d < x) (hor : AllLt d rest)
    (hz : ks.length ≤ 1000) (hz' : en = ks.length) (h0 : 0 ≤ at_) (hd : dp < 370) (hu : un < 370)
    (hret : ∀ (t : Tok) h' tk', Fr h₀ L h' m → News h₀ L h' ((x, instObj 132 d) :: (d, curD w b en tb t1 t2 t3 te (at_ + skipW (ks.drop at_.toNat) false) t) :: rest) → Q .none { s with heap := h', toks := tk' }) :
    wpAny (model PySem.Challenge.rw_nn0202_01.row.prog w) (ktrTop dp un gd cn cs L a ccd cl outer) (call (.ref 87) [.ref x]) Q E s := by
  revert X
  k_fill
  intro X
  refine wpAny_call ?_
  k_dflt cell_enter
  k_steps
  all_goals (try (refine WPost.ret ?_; dsimp only; k_steps))
  all_goals first
    | (refine' sw_end_i ?F ?N ?h1 ?h2 ?h3 ?hv; (case F => k_asm); (case N => k_asm); (case h1 => k_mem); (case h2 => k_mem); (case h3 => kcj_all); (case hv => exact sw_s2 hz' (by assumption) (by assumption) (by assumption)))
    | (refine' sw_end_o ?F ?hm ?N ?h1 ?h2 ?h3 ?hv; (case F => k_asm); (case hm => exact sw_map); (case N => k_asm); (case h1 => k_mem); (case h2 => k_mem); (case h3 => kcj_all); (case hv => first | exact sw_s1 hz' (by assumption) (by assumption) (by assumption) (by assumption) (by assumption) (by assumption) | exact sw_s3 hz' (by assumption) (by assumption) (by assumption) (by assumption) (by assumption) | exact sw_s4 hz' (by assumption) (by assumption) (by assumption) (by assumption)))
    | ((have e9 := sw_f6 hz' (by assumption) (by assumption)); refine' hret _ _ _ ?F ?N; (case F => k_asm); (case N => (rw [← e9]; k_asm)))
    | ((have e9 := sw_f5 hz' (by assumption) (by assumption) (by assumption) (by assumption)); refine' hret _ _ _ ?F ?N; (case F => k_asm); (case N => (rw [← e9]; k_asm)))
end
section
theorem rowsNum1 : True := by
  k_with_none
  k_with "pen_at" => focus (first | with_reducible assumption | (refine' PenAt.head ?_ ?_ ?_; (rotate_right 3; (focus (first | with_reducible assumption | k_ne)); (focus (k_all)); (focus (k_all)))) | (refine' PenAt.tail ?_ ?_ ?_; (rotate_right 1; (focus (walk_at "pen_at"))); (rotate_right 2; (focus (k_ne)); (focus (k_ne)))))
  k_with "room" => focus (first | lia | (dsimp only [ktrTop, Around.deeper]; lia))
  k_with "enterC" => focus ((refine' code_defC ?_ ?_ ?_ ?_ ?_ ?_ ?_ ?_ ?_ ?_ ?_ ?_ ?_ ?_ ?_ ?_ ?_ ?_; (rotate_right 13; (focus (exact rfl)); (focus (exact rfl)); (focus (first | exact rfl | assumption)); rotate_left 10); (rotate_right 15; (focus (k_asm)); (focus (k_asm)); (focus (k_asm)); (focus (k_asm)); (focus (k_asm)); (focus (k_is)); (focus (k_is)); (focus (k_room)); (focus (exact BindsTo.of_eq rfl)); (focus (exact rfl)); (focus (decide +kernel)); rotate_left 4); (rotate_right 3; (focus (exact rfl)); (focus (exact rfl)); (focus (exact rfl))); k_whole; intro g' L' h' tk' cells' FG' F' N' Y' B' X' T' l1; (try k_lt l1); k_cells Y'; (try simp only [List.cons_append, List.nil_append] at N'); (try dsimp only); (try k_lift B'); (try k_fold)))
  k_with "eval Name" => focus ((k_here; (with_reducible show wpAny _ _ (eval (Expr.Name _ _) (compEnvC _ _ _ _)) _ _ _); k_dflt (first | (refine' lcf_cell ?_ ?_ ?_ ?_ ?_ ?_ ?_; (rotate_right 1; (focus (rfl))); (rotate_right 1; (focus (rfl))); (rotate_right 5; (focus (k_asm)); (focus (rfl)); (focus (k_mem)); (focus (k_asm)); rotate_left 1); k_whole) | (refine' lcf_free ?_ ?_ ?_ ?_ ?_ ?_ ?_; (rotate_right 1; (focus (rfl))); (rotate_right 1; (focus (rfl))); (rotate_right 5; (focus (k_asm)); (focus (rfl)); (focus (k_mem)); (focus (k_asm)); rotate_left 1); k_whole) | refine LCgL.ld_global (by k_asm) (by k_asm) (by k_asm) (by k_is) ?_)))
  k_with "exec For Name Name cons nil" => focus ((k_here; (rename Fr _ _ _ _ => lF'); (with_unfolding_all refine' For_invVF lF' ?_ ?_ ?_; (rotate_right 3; (focus (exact rfl)); (focus (exact rfl)); rotate_left 1); k_whole)))
  k_with "exec For Name Call cons nil" => focus ((k_here; (rename Fr _ _ _ _ => lF'); (with_unfolding_all refine' For_invVF lF' ?_ ?_ ?_; (rotate_right 3; (focus (exact rfl)); (focus (exact rfl)); rotate_left 1); k_whole)))
  k_with "WIf" => focus (first | (refine WIf.yes rfl ?_) | (refine WIf.no rfl ?_) | (refine WIf.dec ?_ ?_ <;> intro))
  trivial
noncomputable def isFig (c : Int) : Bool := decide (48 ≤ c) && decide (c ≤ 57)
noncomputable def figs (l : List Int) : List Int := l.takeWhile isFig
noncomputable def dval (a : Int) (l : List Int) : Int := l.foldl (fun a c => a * 10 + c - 48) a
structure NmSt where
  at_ : Int
  ta : Tok
  n : Int
  tn : Tok
noncomputable def NmInv (ks : List Int) (lo : Int) (c : NmSt) : Prop := lo ≤ c.at_ ∧ dval c.n (figs (ks.drop c.at_.toNat)) = dval 0 (figs (ks.drop lo.toNat)) ∧ c.at_ + (figs (ks.drop c.at_.toNat)).length = lo + (figs (ks.drop lo.toNat)).length
section
variable {ks : List Int} {c : NmSt} {bs : Int} {lo : Int} {t tn : Tok}
theorem nm_stopA (hz : bs = ks.length) (h : ¬ c.at_ + 0 < bs) : figs (ks.drop c.at_.toNat) = [] := by
  rw [drop_past (by lia)]
  rfl
theorem nm_stopB (hz : bs = ks.length) (h0 : 0 ≤ c.at_) (h : c.at_ + 0 < bs) (h1 : ¬ 48 ≤ ks.getD (c.at_ + 0).toNat 0) : figs (ks.drop c.at_.toNat) = [] := by
  rw [Int.add_zero] at h1
  rw [drop_getD h0 (by lia)]
  unfold figs
  rw [List.takeWhile_cons_of_neg]
  simp only [isFig, decide_eq_false h1, Bool.false_and, Bool.false_eq_true, not_false_eq_true]
theorem nm_stopC (hz : bs = ks.length) (h0 : 0 ≤ c.at_) (h : c.at_ + 0 < bs) (h1 : ¬ ks.getD (c.at_ + 0).toNat 0 ≤ 57) : figs (ks.drop c.at_.toNat) = [] := by
  rw [Int.add_zero] at h1
  rw [drop_getD h0 (by lia)]
  unfold figs
  rw [List.takeWhile_cons_of_neg]
  simp only [isFig, decide_eq_false h1, Bool.and_false, Bool.false_eq_true, not_false_eq_true]
theorem nm_stop (h : NmInv ks lo c) (hs : figs (ks.drop c.at_.toNat) = []) : c.at_ = lo + (figs (ks.drop lo.toNat)).length ∧ c.n = dval 0 (figs (ks.drop lo.toNat)) := by
  obtain ⟨_, h2, h3⟩ := h
  rw [hs] at h2 h3
  simp only [List.length_nil] at h3
  exact ⟨by lia, h2⟩
theorem nm_turn (hz : bs = ks.length) (h : NmInv ks lo c) (h0 : 0 ≤ c.at_) (hlt : c.at_ + 0 < bs) (h1 : 48 ≤ ks.getD (c.at_ + 0).toNat 0) (h2 : ks.getD (c.at_ + 0).toNat 0 ≤ 57) :
    NmInv ks lo ⟨c.at_ + 1, t, c.n * 10 + ks.getD c.at_.toNat 0 - 48, tn⟩ ∧ ks.length - (c.at_ + 1).toNat < ks.length - c.at_.toNat := by
  obtain ⟨a1, a2, a3⟩ := h
  rw [Int.add_zero] at h1 h2
  have e : figs (ks.drop c.at_.toNat) = ks.getD c.at_.toNat 0 :: figs (ks.drop (c.at_ + 1).toNat) := by
    rw [drop_getD h0 (by lia)]
    unfold figs
    rw [List.takeWhile_cons_of_pos]
    simp only [isFig, decide_eq_true h1, decide_eq_true h2, Bool.and_self]
  rw [e] at a2 a3
  simp only [List.length_cons] at a3
  refine ⟨⟨by show lo ≤ c.at_ + 1; lia, a2, ?_⟩, by lia⟩
  show c.at_ + 1 + ((figs (ks.drop (c.at_ + 1).toNat)).length : Int) = _
  lia
end
noncomputable abbrev nmLed (w : World) (b : Array UInt8) (en : Int) (tb t1 t2 t3 te : Tok) (x d : Nat) (rest : List (Addr × Obj)) (c : NmSt) : List (Addr × Obj) := (x, instObj 132 d) :: (d, curD w b en tb t1 t2 t3 te c.at_ c.ta) :: rest
section
variable {prog : Program} {w : World} {A : Around} {E : Value → Shared → Prop} {Q : Flow → Shared → Prop} {s : Shared} {env : Env} {h₀ : Heap}
  {test : PySem.Expr} {body : List Stmt} {pos : Pos} {m₀ : Str → Option Value} {b : Array UInt8} {en : Int} {tb t1 t2 t3 te ta tn : Tok} {x d : Nat} {at_ : Int} {ks : List Int} {rest : List (Addr × Obj)}
theorem nm_loop (_hks : KBw.bInts b = ks) (h0 : 0 ≤ at_) (hm : m₀ (Str.ofString "number") = some (.int 0 tn)) (F : Fr h₀ env.locals s.heap m₀) (N : News h₀ env.locals s.heap ((x, instObj 132 d) :: (d, curD w b en tb t1 t2 t3 te at_ ta) :: rest))
    (hE : PassesOwn (model prog w) A env E)
    (turn : ∀ (c : NmSt) h tk, NmInv ks at_ c → 0 ≤ c.at_ → Fr h₀ env.locals h (fun z => if z = Str.ofString "number" then some (.int c.n c.tn) else m₀ z) → News h₀ env.locals h ((x, instObj 132 d) :: (d, curD w b en tb t1 t2 t3 te c.at_ c.ta) :: rest) →
      wpAny (model prog w) A (isTrue test env (eval test env)) (fun b₁ s₂ => WIf b₁ (wpAny (model prog w) A (execs body env) (WPost h₀ env.locals (fun c z => if z = Str.ofString "number" then some (.int c.n c.tn) else m₀ z) (nmLed w b en tb t1 t2 t3 te x d rest) (NmInv ks at_) (fun c => ks.length - c.at_.toNat) c { s with heap := h, toks := tk } Q) E s₂) (Q .next s₂)) E { s with heap := h, toks := tk }) :
    wpAny (model prog w) A (exec (.While test body [] pos) env) Q E s := by
  refine wl_inv (fun (c : NmSt) z => if z = Str.ofString "number" then some (.int c.n c.tn) else m₀ z) (nmLed w b en tb t1 t2 t3 te x d rest) (NmInv ks at_) (fun c => ks.length - c.at_.toNat) ⟨at_, ta, 0, tn⟩ F N ?_ (fun p hp => hp) ⟨Int.le_refl _, rfl, rfl⟩ hE ?_
  · intro z
    by_cases e : z = Str.ofString "number"
    · simp only [e, if_true, hm]
    · simp only [e, if_false]
  · intro c h tk hv F' N'
    exact turn c h tk hv (Int.le_trans h0 hv.1) F' N'
end
section
variable {w : World} {h₀ : Heap} {L : Addr} {Q : Flow → Shared → Prop} {m₀ m' : Str → Option Value} {news' rest : List (Addr × Obj)} {x d : Nat} {b : Array UInt8} {en : Int} {tb t1 t2 t3 te t tn : Tok} {ks : List Int} {lo at' n' : Int} {c : NmSt} {s₁ : Shared} {h' : Heap} {tk : Nat}
theorem nm_end (F : Fr h₀ L h' m') (hm : ∀ z, m' z = if z = Str.ofString "number" then some (.int n' tn) else m₀ z) (N : News h₀ L h' news') (h1 : (x, instObj 132 d) ∈ news') (h2 : (d, curD w b en tb t1 t2 t3 te at' t) ∈ news') (h3 : ∀ p ∈ rest, p ∈ news')
    (hv : NmInv ks lo ⟨at', t, n', tn⟩ ∧ ks.length - at'.toNat < ks.length - c.at_.toNat) :
    WPost h₀ L (fun c z => if z = Str.ofString "number" then some (.int c.n c.tn) else m₀ z) (nmLed w b en tb t1 t2 t3 te x d rest) (NmInv ks lo) (fun c => ks.length - c.at_.toNat) c s₁ Q .next { s₁ with heap := h', toks := tk } := by
  refine WEnd.intro ⟨at', t, n', tn⟩ F N ?_ hm hv.1 hv.2
  intro p hp
  simp only [nmLed, List.mem_cons] at hp
  rcases hp with rfl | rfl | hp
  · exact h1
  · exact h2
  · exact h3 p hp
end
theorem rowsNum2 : True := by
  k_with "exec While Call cons nil" => focus ((k_here; k_dflt ((refine' nm_loop ?_ ?_ ?_ ?_ ?_ ?_ ?_; (rotate_right 7; (focus (assumption)); rotate_left 6); (rotate_right 4; (focus (k_asm)); rotate_left 3); (rotate_right 4; (focus (rfl)); (focus (k_asm)); rotate_left 2); (rotate_right 3; (focus (first | assumption | lia)); (focus (first | passes_own | with_unfolding_all passes_own)); rotate_left 1))); intros))
  k_with "subscriptTail" => focus ((k_here; (with_reducible show wpAny _ _ (subscriptTail _ _ (Value.bytes _ _) (Value.int _ _)) _ _ _); k_dflt (refine' KBw.item_K ?_ ?_ ?_ ?_ ?_ ?_ ?_; (rotate_right 7; (focus (assumption)); (focus (lia)); (focus (lia)); (focus (lia)); rotate_left 3); (rotate_right 2; (focus (with_unfolding_all rfl)); (focus ((intro _; with_unfolding_all rfl))))); intro t9 k9 lo9 hi9))
  trivial
set_option maxRecDepth 100000 in
set_option maxHeartbeats 8000000 in
theorem num_ok {w : World} {mean : ExcName → Option Value} {mg mb : Str → Option Value} {dp un : Nat} {gd : Option (List Code)} {cn : Str} {cs : Scope} {a : Addr} {ccd : Value} {cl : List (Str × Addr)} {outer : List Env} {A₀ : Around} {base h₀ : Heap} {L : Addr} {m : Str → Option Value} {s : Shared}
    {Q E : Value → Shared → Prop} {b : Array UInt8} {en : Int} {tb t1 t2 t3 te ta : Tok} {x d : Nat} {at_ : Int} {ks : List Int} {rest : List (Addr × Obj)}
    (B : Below A₀ base outer h₀) (F : Fr h₀ L s.heap m) (X : (Mine.hd.heap_1 w.params).In h₀) (N : News h₀ L s.heap ((x, instObj 132 d) :: (d, curD w b en tb t1 t2 t3 te at_ ta) :: rest))
    (T : Top Mine.hd.view_1 (looseW Mine.hd.view_1 [Str.ofString "PaperError"]) mean mg mb h₀) (hk : cs.kind = .function) (hks : KBw.bInts b = ks) (hxd : d < x) (hor : AllLt d rest)
    (hz : ks.length ≤ 1000) (hz' : en = ks.length) (h0 : 0 ≤ at_) (hd : dp < 370) (hu : un < 370)
    (hnone : ∀ (t : Tok) h' tk', ¬ (0 < (figs (ks.drop at_.toNat)).length ∧ (figs (ks.drop at_.toNat)).length ≤ 20) → Fr h₀ L h' m → News h₀ L h' ((x, instObj 132 d) :: (d, curD w b en tb t1 t2 t3 te at_ t) :: rest) → Q .none { s with heap := h', toks := tk' })
    (hsome : ∀ (t t' : Tok) h' tk', 0 < (figs (ks.drop at_.toNat)).length → (figs (ks.drop at_.toNat)).length ≤ 20 → Fr h₀ L h' m → News h₀ L h' ((x, instObj 132 d) :: (d, curD w b en tb t1 t2 t3 te (at_ + (figs (ks.drop at_.toNat)).length) t) :: rest) → Q (.int (dval 0 (figs (ks.drop at_.toNat))) t') { s with heap := h', toks := tk' }) :
    wpAny (model PySem.Challenge.rw_nn0202_01.row.prog w) (ktrTop dp un gd cn cs L a ccd cl outer) (call (.ref 115) [.ref x]) Q E s := by
  revert X
  k_fill
  intro X
  refine wpAny_call ?_
  k_dflt cell_enter
  k_steps
  all_goals first
    | (exfalso; lia)
    | (refine' nm_end ?F ?hm ?N ?h1 ?h2 ?h3 ?hv; (case F => k_asm); (case hm => exact sw_map); (case N => k_asm); (case h1 => k_mem); (case h2 => k_mem); (case h3 => kcj_all); (case hv => exact nm_turn hz' (by assumption) (by assumption) (by assumption) (by assumption) (by assumption)))
    | ((have e9 := nm_stop (by assumption) (by first | exact nm_stopA hz' (by assumption) | exact nm_stopB hz' (by assumption) (by assumption) (by assumption) | exact nm_stopC hz' (by assumption) (by assumption) (by assumption))); obtain ⟨e9, f9⟩ := e9; first
      | (refine' hnone _ _ _ ?k ?F ?N; (case k => lia); (case F => k_asm); (case N => k_asm))
      | (rw [f9]; refine' hsome _ _ _ _ ?k1 ?k2 ?F ?N; (case k1 => lia); (case k2 => lia); (case F => k_asm); (case N => (rw [← e9]; k_asm))))
end
section
theorem rowsExc1 : True := by
  k_with_none
  k_with "pen_at" => focus (first | with_reducible assumption | (refine' PenAt.head ?_ ?_ ?_; (rotate_right 3; (focus (first | with_reducible assumption | k_ne)); (focus (k_all)); (focus (k_all)))) | (refine' PenAt.tail ?_ ?_ ?_; (rotate_right 1; (focus (walk_at "pen_at"))); (rotate_right 2; (focus (k_ne)); (focus (k_ne)))))
  k_with "room" => focus (first | lia | (dsimp only [ktrTop, Around.deeper]; lia))
  k_with "enterC" => focus ((refine' code_defC ?_ ?_ ?_ ?_ ?_ ?_ ?_ ?_ ?_ ?_ ?_ ?_ ?_ ?_ ?_ ?_ ?_ ?_; (rotate_right 13; (focus (exact rfl)); (focus (exact rfl)); (focus (first | exact rfl | assumption)); rotate_left 10); (rotate_right 15; (focus (k_asm)); (focus (k_asm)); (focus (k_asm)); (focus (k_asm)); (focus (k_asm)); (focus (k_is)); (focus (k_is)); (focus (k_room)); (focus (exact BindsTo.of_eq rfl)); (focus (exact rfl)); (focus (decide +kernel)); rotate_left 4); (rotate_right 3; (focus (exact rfl)); (focus (exact rfl)); (focus (exact rfl))); k_whole; intro g' L' h' tk' cells' FG' F' N' Y' B' X' T' l1; (try k_lt l1); k_cells Y'; (try simp only [List.cons_append, List.nil_append] at N'); (try dsimp only); (try k_lift B'); (try k_fold)))
  k_with "eval Name" => focus ((k_here; (with_reducible show wpAny _ _ (eval (Expr.Name _ _) (compEnvC _ _ _ _)) _ _ _); k_dflt (first | (refine' lcf_cell ?_ ?_ ?_ ?_ ?_ ?_ ?_; (rotate_right 1; (focus (rfl))); (rotate_right 1; (focus (rfl))); (rotate_right 5; (focus (k_asm)); (focus (rfl)); (focus (k_mem)); (focus (k_asm)); rotate_left 1); k_whole) | (refine' lcf_free ?_ ?_ ?_ ?_ ?_ ?_ ?_; (rotate_right 1; (focus (rfl))); (rotate_right 1; (focus (rfl))); (rotate_right 5; (focus (k_asm)); (focus (rfl)); (focus (k_mem)); (focus (k_asm)); rotate_left 1); k_whole) | refine LCgL.ld_global (by k_asm) (by k_asm) (by k_asm) (by k_is) ?_)))
  k_with "exec For Name Name cons nil" => focus ((k_here; (rename Fr _ _ _ _ => lF'); (with_unfolding_all refine' For_invVF lF' ?_ ?_ ?_; (rotate_right 3; (focus (exact rfl)); (focus (exact rfl)); rotate_left 1); k_whole)))
  k_with "exec For Name Call cons nil" => focus ((k_here; (rename Fr _ _ _ _ => lF'); (with_unfolding_all refine' For_invVF lF' ?_ ?_ ?_; (rotate_right 3; (focus (exact rfl)); (focus (exact rfl)); rotate_left 1); k_whole)))
  trivial
namespace XC
open Builtin Builtin.ObjectAttr
set_option maxRecDepth 100000
section
variable {prog : Program} {w : World} {A : Around} {E : Value → Shared → Prop} {R : Result → Shared → Prop} {h : Heap} {g : Array GenState} {d : Drawn} {t : Nat} {os : OsState}
variable {nm q : PySem.Str} {C N : Addr} {bs bm bmB : List Value} {hdct : Bool} {sn : List PySem.Str} {sub : List Value} {ab : Bool} {col : Option Bool} {dd : Option Addr} {k0 k1 k2 k3 k5 : Option Value} {B newId initId : String}
theorem check_new {M : Model} (F : ExcBaseFacts B newId initId bmB) (hB : bm.contains (.type B) = true) {rest : List Value} {Q : Unit → Shared → Prop} (hC : h.get? C = some (excClassObj nm q C N bs bm hdct sn sub ab col dd k0 k1 k2 k3 k5 newId))
    (hq : Q () ⟨h, g, d, t, os⟩) : wpAny M A (checkBuiltinCall newId ⟨.ref C :: rest, []⟩) Q E ⟨h, g, d, t, os⟩ := by
  have hcont : (Value.ref C :: bm).contains (.type B) = true := by rw [List.contains_cons, hB, Bool.or_true]
  have hstar := F.noStar
  simp only [checkBuiltinCall, F.newKind, F.newSplit, F.newRow]
  repeat (first | refine wpAny_loadPart_at hC ?_ | (refine wpAny_isSubtype_exc hC ?_; rw [hcont]) | refine wpAny_staticBase_exc hC ?_ | refine wpAny_madeBy_exc hC ?_ | simp only [bne_self_eq_false, Bool.false_eq_true, if_false] | wp_step)
  exact hq
theorem exc_new (F : ExcBaseFacts B newId initId bmB) (hB : bm.contains (.type B) = true) (hA : bm.contains (.type "AttributeError") = false) (hN : bm.contains (.type "NameError") = false) {rest : List Value} (hC : h.get? C = some (excClassObj nm q C N bs bm hdct sn sub ab col dd k0 k1 k2 k3 k5 newId))
    (hq : R (.ok (.ret (.ref (h.objs.size + 1)))) ⟨(h.push { cls := .type "tuple", data := .seq rest.toArray }).push
      { cls := .ref C, data := .fields #[.ref h.objs.size, .none, .none, .none, .bool false, .none] }, g, d, t, os⟩) (hrest : rest.length ≤ sizeLine := by size_fits) :
    codeAny (model prog w) A (.builtin newId ⟨.ref C :: rest, []⟩) R ⟨h, g, d, t, os⟩ := by
  have hends := F.ends
  have hcB : (Value.ref C :: bm).contains (.type B) = true := by rw [List.contains_cons, hB, Bool.or_true]
  have hcA : (Value.ref C :: bm).contains (.type "AttributeError") = false := by rw [List.contains_cons, hA]; rfl
  have hcN : (Value.ref C :: bm).contains (.type "NameError") = false := by rw [List.contains_cons, hN]; rfl
  refine codeAny_builtinAt F.entry ?_
  unfold Builtin.«BaseException.__new__»
  refine PySem.wpAt_bind ?_
  show PySem.wpAt _ _ _ (stack >>= _) _ _ _
  refine PySem.wpAt_bind (PySem.wpAt_stack fun p below => PySem.wpAt_of_wpAny ?_)
  wp_walk
  refine PySem.wpAt_of_wpAny ?_
  rw [F.owner]
  repeat (first | with_reducible refine wpAny_madeHere_exc F.canon hC ?_ | with_reducible refine wpAny_loadPart_at hC ?_ | (with_reducible refine wpAny_isSubtype_exc hC ?_; first | rw [hcB] | rw [hcA] | rw [hcN]) | wp_step)
  show R _ _
  rw [Heap.size_push]
  exact hq
theorem type_call (F : ExcBaseFacts B newId initId bmB) (hB : bm.contains (.type B) = true) (hA : bm.contains (.type "AttributeError") = false) (hN : bm.contains (.type "NameError") = false) {rest : List Value} {fI : Addr} {oI : Obj} {Q : Fin → Shared → Prop}
    (hC : h.get? C = some (excClassObj nm q C N bs bm hdct sn sub ab col dd k0 k1 k2 k3 k5 newId)) (hi : Looks (model prog w) h (typeLookup (.ref C) "__init__") (some (.ref fI)))
    (hfI : h.get? fI = some oI) (hfc : oI.cls = .type "function")
    (hq : wpAny (model prog w) A (call (.ref fI) (.ref (h.objs.size + 1) :: rest)) (fun r s' => r = .none ∧ Q (.done (.ret (.ref (h.objs.size + 1)))) s') E
      ⟨(h.push { cls := .type "tuple", data := .seq rest.toArray }).push { cls := .ref C, data := .fields #[.ref h.objs.size, .none, .none, .none, .bool false, .none] }, g, d, t, os⟩) (hrest : rest.length ≤ sizeLine := by size_fits) :
    wpAny (model prog w) A (Builtin.«type.__call__» ⟨.ref C :: rest, []⟩) Q E ⟨h, g, d, t, os⟩ := by
  repeat (first | with_reducible refine wpAny_loadPart_at hC ?_ | with_reducible refine wpAny_madeBy_exc hC ?_ | wp_step)
  refine codeAny_call_builtin_code (Code.quiet_builtin _ F.quiet) (check_new F hB hC ?_)
  refine exc_new F hB hA hN hC ?_ hrest
  show wpAny _ _ _ _ _ _
  have up : ∀ b o, h.get? b = some o → ((h.push { cls := .type "tuple", data := .seq rest.toArray }).push { cls := .ref C, data := .fields #[.ref h.objs.size, .none, .none, .none, .bool false, .none] }).get? b = some o :=
    fun b o e => Heap.get?_push_of_some _ (Heap.get?_push_of_some _ e)
  have hC₁ := up _ _ hC
  have hfI₁ := up _ _ hfI
  have hget : ((h.push { cls := .type "tuple", data := .seq rest.toArray }).push
      { cls := .ref C, data := .fields #[.ref h.objs.size, .none, .none, .none, .bool false, .none] }).get? (h.objs.size + 1) = some
      { cls := .ref C, data := .fields #[.ref h.objs.size, .none, .none, .none, .bool false, .none] } := by heap_get
  have hcC : (Value.ref C :: bm).contains (.ref C) = true := by simp
  unfold isInstance
  repeat (first | with_reducible refine wpAny_loadPart_at hget ?_ | (with_reducible refine wpAny_isSubtype_exc hC₁ ?_; rw [hcC]) | wp_step)
  show wpAny _ _ (typeLookup (.ref C) _) _ _ _
  refine (hi.keeps up).at ?_
  refine wpAny_holding (wpAny_bind ?_)
  unfold bindSpecial
  refine wpAny_bind (wpAny_typeOf (T := "function") ⟨_, hfI₁, hfc⟩ ?_)
  rw [if_pos (by decide)]
  refine wpAny_pure (wpAny_bind (wpAny_mono hq (fun r s' hr => ?_) fun _ _ x => x))
  obtain ⟨rfl, hQ⟩ := hr
  wp_walk
  exact hQ
theorem call_cls (F : ExcBaseFacts B newId initId bmB) (hB : bm.contains (.type B) = true) (hA : bm.contains (.type "AttributeError") = false) (hN : bm.contains (.type "NameError") = false) {rest : List Value} {fI : Addr} {oI : Obj} {Q : Value → Shared → Prop}
    (hC : h.get? C = some (excClassObj nm q C N bs bm hdct sn sub ab col dd k0 k1 k2 k3 k5 newId)) (hi : Looks (model prog w) h (typeLookup (.ref C) "__init__") (some (.ref fI)))
    (hfI : h.get? fI = some oI) (hfc : oI.cls = .type "function")
    (hq : wpAny (model prog w) (A.under (.builtin "type.__call__" ⟨.ref C :: rest, []⟩)) (call (.ref fI) (.ref (h.objs.size + 1) :: rest)) (fun r s' => r = .none ∧ Q (.ref (h.objs.size + 1)) s') E
      ⟨(h.push { cls := .type "tuple", data := .seq rest.toArray }).push { cls := .ref C, data := .fields #[.ref h.objs.size, .none, .none, .none, .bool false, .none] }, g, d, t, os⟩) (hrest : rest.length ≤ sizeLine := by size_fits) :
    wpAny (model prog w) A (call (.ref C) rest) Q E ⟨h, g, d, t, os⟩ := by
  have f1 := tc_lookup
  have f2 := tc_bind (.ref C)
  have hT : (⟨h, g, d, t, os⟩ : Shared).TypeIs (.ref C) "type" := ⟨_, hC, rfl⟩
  refine wpAny_call (codeAny_of_tree ?_)
  show wpAny _ _ (callAny (.ref C) _) _ _ _
  repeat (any_goals (first | assumption | with_reducible refine wpAny_loadPart_at hC ?_ | wp_step))
  refine ⟨rfl, ?_⟩
  exact codeAny_call_builtin_at (Code.quiet_builtin _ (by decide +kernel)) entry_typeCall (wpAny_check_type_call_sub hC (type_call (hrest := hrest) F hB hA hN hC hi hfI hfc hq))
end
end XC
end
section
theorem rowsExc21 : True := by
  k_with_none
  k_with "pen_at" => focus (first | with_reducible assumption | (refine' PenAt.head ?_ ?_ ?_; (rotate_right 3; (focus (first | with_reducible assumption | k_ne)); (focus (k_all)); (focus (k_all)))) | (refine' PenAt.tail ?_ ?_ ?_; (rotate_right 1; (focus (walk_at "pen_at"))); (rotate_right 2; (focus (k_ne)); (focus (k_ne)))))
  k_with "room" => focus (first | lia | (dsimp only [ktrTop, Around.deeper]; lia))
  k_with "enterC" => focus ((refine' code_defC ?_ ?_ ?_ ?_ ?_ ?_ ?_ ?_ ?_ ?_ ?_ ?_ ?_ ?_ ?_ ?_ ?_ ?_; (rotate_right 13; (focus (exact rfl)); (focus (exact rfl)); (focus (first | exact rfl | assumption)); rotate_left 10); (rotate_right 15; (focus (k_asm)); (focus (k_asm)); (focus (k_asm)); (focus (k_asm)); (focus (k_asm)); (focus (k_is)); (focus (k_is)); (focus (k_room)); (focus (exact BindsTo.of_eq rfl)); (focus (exact rfl)); (focus (decide +kernel)); rotate_left 4); (rotate_right 3; (focus (exact rfl)); (focus (exact rfl)); (focus (exact rfl))); k_whole; intro g' L' h' tk' cells' FG' F' N' Y' B' X' T' l1; (try k_lt l1); k_cells Y'; (try simp only [List.cons_append, List.nil_append] at N'); (try dsimp only); (try k_lift B'); (try k_fold)))
  k_with "eval Name" => focus ((k_here; (with_reducible show wpAny _ _ (eval (Expr.Name _ _) (compEnvC _ _ _ _)) _ _ _); k_dflt (first | (refine' lcf_cell ?_ ?_ ?_ ?_ ?_ ?_ ?_; (rotate_right 1; (focus (rfl))); (rotate_right 1; (focus (rfl))); (rotate_right 5; (focus (k_asm)); (focus (rfl)); (focus (k_mem)); (focus (k_asm)); rotate_left 1); k_whole) | (refine' lcf_free ?_ ?_ ?_ ?_ ?_ ?_ ?_; (rotate_right 1; (focus (rfl))); (rotate_right 1; (focus (rfl))); (rotate_right 5; (focus (k_asm)); (focus (rfl)); (focus (k_mem)); (focus (k_asm)); rotate_left 1); k_whole) | refine LCgL.ld_global (by k_asm) (by k_asm) (by k_asm) (by k_is) ?_)))
  k_with "exec For Name Name cons nil" => focus ((k_here; (rename Fr _ _ _ _ => lF'); (with_unfolding_all refine' For_invVF lF' ?_ ?_ ?_; (rotate_right 3; (focus (exact rfl)); (focus (exact rfl)); rotate_left 1); k_whole)))
  k_with "exec For Name Call cons nil" => focus ((k_here; (rename Fr _ _ _ _ => lF'); (with_unfolding_all refine' For_invVF lF' ?_ ?_ ?_; (rotate_right 3; (focus (exact rfl)); (focus (exact rfl)); rotate_left 1); k_whole)))
  trivial
namespace XC
open Builtin Builtin.ObjectAttr
set_option maxRecDepth 100000
noncomputable abbrev xo (C : Addr) (od : Option Addr) (a0 : Value) : Obj := { cls := .ref C, dict := od, data := .fields #[a0, .none, .none, .none, .bool false, .none] }
noncomputable def bmExc : List Value := [.type "Exception", .type "BaseException", .type "object"]
noncomputable def refsThen : List Value → Bool
  | .ref _ :: r => refsThen r
  | l => l == bmExc
theorem refuse_refs (self : Value) : ∀ {l : List Value}, refsThen l = true → refuseLoop self "__setattr__" l = pure ()
  | .ref c :: r, e => by rw [refuseLoop_ref]; exact refuse_refs self e
  | [], e => by cases e
  | .type n :: r, e => by
    have e' : (.type n :: r : List Value) = bmExc := beq_iff_eq.mp e
    rw [e']
    exact PySem.F.store_Exception.passes self
  | .none :: r, e => by cases beq_iff_eq.mp e
  | .bool _ :: r, e => by cases beq_iff_eq.mp e
  | .int _ _ :: r, e => by cases beq_iff_eq.mp e
  | .float _ _ :: r, e => by cases beq_iff_eq.mp e
  | .str _ _ :: r, e => by cases beq_iff_eq.mp e
  | .bytes _ _ :: r, e => by cases beq_iff_eq.mp e
  | .builtin _ :: r, e => by cases beq_iff_eq.mp e
  | .notImplemented :: r, e => by cases beq_iff_eq.mp e
  | .ellipsis :: r, e => by cases beq_iff_eq.mp e
theorem refs_has : ∀ {l : List Value}, refsThen l = true → l.contains (.type "object") = true ∧ l.isEmpty = false
  | .ref c :: r, e => ⟨by rw [List.contains_cons, (refs_has (l := r) e).1, Bool.or_true], rfl⟩
  | [], e => by cases e
  | .type n :: r, e => by
    have e' : (.type n :: r : List Value) = bmExc := beq_iff_eq.mp e
    rw [e']
    decide
  | .none :: r, e => by cases beq_iff_eq.mp e
  | .bool _ :: r, e => by cases beq_iff_eq.mp e
  | .int _ _ :: r, e => by cases beq_iff_eq.mp e
  | .float _ _ :: r, e => by cases beq_iff_eq.mp e
  | .str _ _ :: r, e => by cases beq_iff_eq.mp e
  | .bytes _ _ :: r, e => by cases beq_iff_eq.mp e
  | .builtin _ :: r, e => by cases beq_iff_eq.mp e
  | .notImplemented :: r, e => by cases beq_iff_eq.mp e
  | .ellipsis :: r, e => by cases beq_iff_eq.mp e
noncomputable def excOver (K : Frag) (C : Addr) : Bool := (clsIn K C).any fun cd => refsThen cd.mro
section
variable {prog : Program} {w : World} {A : Around} {K : Frag} {C x : Addr} {s : Shared} {h₀ : Heap} {L : Addr} {m : PySem.Str → Option Value} {news : List (Addr × Obj)} {R : Result → Shared → Prop}
theorem xo_open {ox : Obj} {od : Option Obj} {name : PySem.Str} {tk : Tok} {v : Value} {r : Option Value} (X : K.In s.heap) (I : InstAt s.heap x ox C od) {cdx : ClassData} (hpc : clsIn K C = some cdx) (hpr : refsThen cdx.mro = true) (ht : takerIn K C name = some r)
    (h : ∀ b, wpAny (model prog w) A.in1 (match r with | some a => setByDescriptor a (.ref x) v | none => storeInOwnDict (.ref x) (.ref C) (.str name tk) name v b)
      (fun fin s' => match fin with | .done f => R (.ok f) s' | .again c' => c'.quiet = true ∧ codeAny (model prog w) A c' R s') (fun e s' => R (.error e) s') s) :
    codeAny (model prog w) A (.call (.builtin "object.__setattr__") ⟨[.ref x, .str name tk, v], []⟩) R s := by
  have SF := PySem.F.store_object
  have hc := hpc
  have ho := hpr
  have ne := (refs_has ho).2
  have sub : Looks (model prog w) s.heap (isInstance (.ref x) (.type "object")) true := I.type.andThen (looks_mroIn X (by unfold mroIn; rw [hc, Option.bind_some, if_neg (by rw [ne]; decide), (refs_has ho).1]))
  refine codeAny_call_builtin SF.slot.plain SF.entry (@check_slot (model prog w) _ _ s "object.__setattr__" "object" "__setattr__" (.ref x) [.str name tk, v] [] _ SF.kind SF.split sub (SF.args (.ref x) (.str name tk) v) ?_)
  obtain ⟨attr, ha, hr⟩ := Option.bind_eq_some_iff.mp ht
  have hm : Looks (model prog w) s.heap (mroOf (.ref C)) cdx.mro := (looks_clsIn X hc).andThen .now
  have L3 : Looks (model prog w) s.heap (storeTaker? attr) r := by
    cases attr with
    | none => cases hr; exact .now
    | some a =>
      obtain ⟨b, hb, rfl⟩ := Option.map_eq_some_iff.mp hr
      refine (looks_takesIn X hb).andThen ?_
      cases b <;> exact .now
  rw [osa_eq, refuse_eq]
  refine wpAny_bind (wpAny_bind (I.type.here (wpAny_bind (hm.here ?_))))
  rw [refuse_refs _ ho]
  refine wpAny_pure (wpAny_bind (I.type.here (wpAny_bind ((looks_findIn X ha).here (wpAny_bind (L3.here ?_))))))
  exact h _
theorem put_here {D : Addr} {od od' : Obj} {name : PySem.Str} {tk : Tok} {v : Value} {pre post : List (Addr × Obj)} {es : List DictEntry} {n : Nat} {Q : PySem.Fin → Shared → Prop} {E : Value → Shared → Prop} (F : Fr h₀ L s.heap m) (N : News h₀ L s.heap (pre ++ (D, od) :: post))
    (hl : (lookIn name od).isSome = true) (h1 : ∀ p ∈ pre, p.1 ≠ D) (h2 : ∀ p ∈ post, p.1 ≠ D)
    (e : Obj.putName name (PyData.keyHash w.params name) (.str name s.toks) v od = od') (e' : od'.data = .dict es.toArray n) (hz : es.length ≤ 1000)
    (h : ∀ h', Fr h₀ L h' m → News h₀ L h' (pre ++ (D, od') :: post) → Q (.done (.ret .none)) { s with heap := h', toks := s.toks + 1 }) :
    wpAny (model prog w) A (storeInDict D (.str name tk) name v) Q E s := by
  obtain ⟨U1, U2⟩ := news_upd (f := Obj.putName name (PyData.keyHash w.params name) (.str name s.toks) v) F N h1 h2 e (by obtain ⟨_, _, dd, _⟩ := od'; cases e'; rfl)
  have Dg := (N (D, od) (by simp)).1
  have D' := (U2 (D, od') (by simp)).1
  refine wpAny_bind (wpAny_pure (wpAny_bind ?_))
  unfold nsSet
  refine wpAny_bind (wpAny_bind (wpAny_askSetting (wpAny_pure (wpAny_bind (wpAny_mkText (wpAny_bind (wpAny_loadPart Dg ?_)))))))
  unfold lookIn at hl
  split at hl
  · rename_i es₀ n₀ q
    rw [q]
    dsimp only
    have c : (!es₀.any (·.key.isStr name) && es₀.any (·.refKey)) = false := by
      rw [← Array.any_toList, ← Array.any_toList]
      split at hl
      · rename_i en he
        rw [List.any_eq_true.mpr ⟨en, List.mem_of_find?_eq_some he, List.find?_some he⟩]; rfl
      · split at hl
        · cases hl
        · rename_i z; rw [Bool.not_eq_true] at z; rw [z, Bool.and_false]
    rw [aRefKeyMayBeTheName_at, c]
    refine wpAny_updatePart Dg ?_
    refine wpAny_bind (wpAny_lookBehind D' (by rw [e']; exact pastItsLine_dict (by rw [List.size_toArray, sizeLine_eq]; lia)) ?_)
    exact wpAny_pure (h _ U1 U2)
  · cases hl
end
section
variable {prog : Program} {w : World} {A : Around} {E : Value → Shared → Prop} {s : Shared} {K : Frag} {x C L : Addr} {h₀ : Heap} {m : PySem.Str → Option Value} {news news' : List (Addr × Obj)} {g : Obj → List (Addr × Obj)} {a0 : Value} {es es' : List DictEntry} {n n' : Nat} {name : PySem.Str} {v : Value} {Q : Unit → Shared → Prop}
theorem set_exc1 {dx : Addr} {cdx : ClassData} (F : Fr h₀ L s.heap m) (X₀ : K.In h₀) (N : News h₀ L s.heap news) (hx : (x, xo C (some dx) a0) ∈ news) (hdx : (dx, dictOf es n) ∈ news)
    (hs : findIn K (.ref C) "__setattr__" = some (some (.builtin "object.__setattr__"))) (hpc : clsIn K C = some cdx) (hpr : refsThen cdx.mro = true) (ht : takerIn K C name = some none) (hh : hasDictIn K C = true) (hl : (getL name es).isSome = true)
    (e : (putL name (PyData.keyHash w.params name) (.str name (s.toks + 1)) v es, putN name es n) = (es', n')) (U : Upd dx (dictOf es n) (dictOf es' n') news news') (hz : es'.length ≤ 1000)
    (h : ∀ h', Fr h₀ L h' m → News h₀ L h' news' → Q () { s with heap := h', toks := s.toks + 2 }) :
    wpAny (model prog w) A (setAttr (.ref x) name v) Q E s := by
  have I : InstAt s.heap x (xo C (some dx) a0) C (some (dictOf es n)) := ⟨(N _ hx).1, rfl, rfl, (N _ hdx).1⟩
  obtain ⟨pre, post, rfl, rfl, a, b⟩ := U.split
  obtain ⟨e1, e2⟩ := Prod.mk.inj e
  have X := X₀.keeps F.keep
  obtain ⟨cd, hc, hd'⟩ := any_some hh
  refine set_plain X I hs (xo_open (s := { s with toks := s.toks + 1 }) X I hpc hpr ht fun b' => ?_)
  refine wpAny_bind (wpAny_pure (wpAny_bind (wpAny_bind (wpAny_loadPart (N _ hx).1 (wpAny_bind (Looks.here (s := { s with toks := s.toks + 1 }) (looks_clsIn X hc) ?_))))))
  rw [hd']
  refine wpAny_pure (a := some dx) ?_
  exact put_here F N hl a b (by rw [putName_dict, e1, e2]) rfl hz fun h' F' N' => h h' F' N'
theorem set_exc0 {cdx : ClassData} (F : Fr h₀ L s.heap m) (X₀ : K.In h₀) (N : News h₀ L s.heap news) (U : UpdF x (xo C none a0) news g)
    (hs : findIn K (.ref C) "__setattr__" = some (some (.builtin "object.__setattr__"))) (hpc : clsIn K C = some cdx) (hpr : refsThen cdx.mro = true) (ht : takerIn K C name = some none) (hh : hasDictIn K C = true)
    (h : ∀ (D : Nat) h', Fr h₀ L h' m → News h₀ L h' ((D, dictOf [⟨PyData.keyHash w.params name, .str name (s.toks + 1), v⟩] 1) :: g (xo C (some D) a0)) → (∀ p ∈ news, p.1 < D) → Q () { s with heap := h', toks := s.toks + 2 }) :
    wpAny (model prog w) A (setAttr (.ref x) name v) Q E s := by
  obtain ⟨pre, post, rfl, hg, a, b⟩ := U.split
  have hxm : (x, xo C none a0) ∈ pre ++ (x, xo C none a0) :: post := by simp
  have I : InstAt s.heap x (xo C none a0) C none := ⟨(N _ hxm).1, rfl, rfl, trivial⟩
  have X := X₀.keeps F.keep
  obtain ⟨cd, hc, hd'⟩ := any_some hh
  have lt : ∀ p ∈ pre ++ (x, xo C none a0) :: post, p.1 < s.heap.objs.size := fun p hp => Heap.lt_size (N p hp).1
  refine set_plain X I hs (xo_open (s := { s with toks := s.toks + 1 }) X I hpc hpr ht fun b' => ?_)
  refine wpAny_bind (wpAny_pure (wpAny_bind (wpAny_bind (wpAny_loadPart (N _ hxm).1 (wpAny_bind (Looks.here (s := { s with toks := s.toks + 1 }) (looks_clsIn X hc) ?_))))))
  rw [hd']
  have F1 := F.push emptyDict
  have N1 := N.push F emptyDict
  obtain ⟨F2, N2⟩ := news_upd (f := fun o => { o with dict := some s.heap.objs.size }) (pre := (s.heap.objs.size, emptyDict) :: pre) F1 N1 (fun p hp => by
    rcases List.mem_cons.mp hp with rfl | hp
    · exact Nat.ne_of_gt (lt _ hxm)
    · exact a p hp) b rfl rfl
  show wpAny _ _ ((do let d ← alloc emptyDict; update x fun o => { o with dict := some d }; dictMade (.ref C) x d) >>= fun r => _) _ _ _
  refine wpAny_bind (wpAny_bind (wpAny_alloc' (wpAny_bind (wpAny_update' (Heap.get?_push_of_some _ (N _ hxm).1) ?_))))
  refine wpAny_pure (a := some s.heap.objs.size) (wpAny_pure (a := some s.heap.objs.size) ?_)
  refine put_here (s := { s with heap := (s.heap.push emptyDict).update x (fun o => { o with dict := some s.heap.objs.size }), toks := s.toks + 1 }) (D := s.heap.objs.size) (pre := []) (post := pre ++ (x, xo C (some s.heap.objs.size) a0) :: post) (od := emptyDict) F2 N2 rfl (fun p hp => nomatch hp) (fun p hp => ?_) (putName_dict name _ _ v [] 0) rfl (by simp [putL]) fun h' F' N' => ?_
  · rcases List.mem_append.mp hp with q | q
    · exact Nat.ne_of_lt (lt p (List.mem_append_left _ q))
    · rcases List.mem_cons.mp q with e | q
      · rw [e]
        exact Nat.ne_of_lt (lt (x, xo C none a0) hxm)
      · exact Nat.ne_of_lt (lt p (List.mem_append_right _ (.tail _ q)))
  · refine h s.heap.objs.size h' F' ?_ lt
    rw [hg]
    exact N'
end
end XC
end
section
theorem rowsExc31 : True := by
  k_with_none
  k_with "pen_at" => focus (first | with_reducible assumption | (refine' PenAt.head ?_ ?_ ?_; (rotate_right 3; (focus (first | with_reducible assumption | k_ne)); (focus (k_all)); (focus (k_all)))) | (refine' PenAt.tail ?_ ?_ ?_; (rotate_right 1; (focus (walk_at "pen_at"))); (rotate_right 2; (focus (k_ne)); (focus (k_ne)))))
  k_with "room" => focus (first | lia | (dsimp only [ktrTop, Around.deeper]; lia))
  k_with "enterC" => focus ((refine' code_defC ?_ ?_ ?_ ?_ ?_ ?_ ?_ ?_ ?_ ?_ ?_ ?_ ?_ ?_ ?_ ?_ ?_ ?_; (rotate_right 13; (focus (exact rfl)); (focus (exact rfl)); (focus (first | exact rfl | assumption)); rotate_left 10); (rotate_right 15; (focus (k_asm)); (focus (k_asm)); (focus (k_asm)); (focus (k_asm)); (focus (k_asm)); (focus (k_is)); (focus (k_is)); (focus (k_room)); (focus (exact BindsTo.of_eq rfl)); (focus (exact rfl)); (focus (decide +kernel)); rotate_left 4); (rotate_right 3; (focus (exact rfl)); (focus (exact rfl)); (focus (exact rfl))); k_whole; intro g' L' h' tk' cells' FG' F' N' Y' B' X' T' l1; (try k_lt l1); k_cells Y'; (try simp only [List.cons_append, List.nil_append] at N'); (try dsimp only); (try k_lift B'); (try k_fold)))
  k_with "eval Name" => focus ((k_here; (with_reducible show wpAny _ _ (eval (Expr.Name _ _) (compEnvC _ _ _ _)) _ _ _); k_dflt (first | (refine' lcf_cell ?_ ?_ ?_ ?_ ?_ ?_ ?_; (rotate_right 1; (focus (rfl))); (rotate_right 1; (focus (rfl))); (rotate_right 5; (focus (k_asm)); (focus (rfl)); (focus (k_mem)); (focus (k_asm)); rotate_left 1); k_whole) | (refine' lcf_free ?_ ?_ ?_ ?_ ?_ ?_ ?_; (rotate_right 1; (focus (rfl))); (rotate_right 1; (focus (rfl))); (rotate_right 5; (focus (k_asm)); (focus (rfl)); (focus (k_mem)); (focus (k_asm)); rotate_left 1); k_whole) | refine LCgL.ld_global (by k_asm) (by k_asm) (by k_asm) (by k_is) ?_)))
  k_with "exec For Name Name cons nil" => focus ((k_here; (rename Fr _ _ _ _ => lF'); (with_unfolding_all refine' For_invVF lF' ?_ ?_ ?_; (rotate_right 3; (focus (exact rfl)); (focus (exact rfl)); rotate_left 1); k_whole)))
  k_with "exec For Name Call cons nil" => focus ((k_here; (rename Fr _ _ _ _ => lF'); (with_unfolding_all refine' For_invVF lF' ?_ ?_ ?_; (rotate_right 3; (focus (exact rfl)); (focus (exact rfl)); rotate_left 1); k_whole)))
  trivial
namespace XC
open Builtin Builtin.ObjectAttr
set_option maxRecDepth 100000
section
variable {prog : Program} {w : World} {A : Around} {E : Value → Shared → Prop} {h : Heap} {g : Array GenState} {d : Drawn} {t : Nat} {os : OsState}
variable {nm q : PySem.Str} {C Nn : Addr} {bs bm bmB : List Value} {hdct : Bool} {sn : List PySem.Str} {sub : List Value} {ab : Bool} {col : Option Bool} {dd : Option Addr} {k0 k1 k2 k3 k5 : Option Value} {B newId initId : String}
theorem check_init (F : ExcBaseFacts B newId initId bmB) (hB : bm.contains (.type B) = true) {M : Model} {e : Addr} {oe : Obj} {rest : List Value} {Q : Unit → Shared → Prop}
    (hC : h.get? C = some (excClassObj nm q C Nn bs bm hdct sn sub ab col dd k0 k1 k2 k3 k5 newId)) (he : h.get? e = some oe) (hcls : oe.cls = .ref C) (hq : Q () ⟨h, g, d, t, os⟩) :
    wpAny M A (checkBuiltinCall initId ⟨.ref e :: rest, []⟩) Q E ⟨h, g, d, t, os⟩ := by
  have hcB : (Value.ref C :: bm).contains (.type B) = true := by rw [List.contains_cons, hB, Bool.or_true]
  have hshort := F.noStar
  simp only [checkBuiltinCall, F.initKind, F.initSplit, F.initRow]
  repeat (first | (with_reducible refine wpAny_loadPart_at he ?_; rw [hcls]) | with_reducible refine wpAny_loadPart_at hC ?_ | (with_reducible refine wpAny_isSubtype_exc hC ?_; rw [hcB]) | wp_step)
  refine wpAny_onRaise ?_
  rw [show ∀ (a b : String) (n : Nat), Bind.check ⟨.positional, "*", B, .self, [⟨"args", .varPos, false⟩]⟩ a b n (List.map (fun x => x.fst) ({ pos := Value.ref e :: rest } : Args).kw) = pure () from
    fun a b n => check_star_args _ _ _ _ _ _]
  exact wpAny_pure hq
theorem init_at (F : ExcBaseFacts B newId initId bmB) (hB : bm.contains (.type B) = true) {e : Addr} {od : Option Addr} {t0 : Addr} {rest : List Value} {Q : Value → Shared → Prop}
    (hC : h.get? C = some (excClassObj nm q C Nn bs bm hdct sn sub ab col dd k0 k1 k2 k3 k5 newId)) (he : h.get? e = some (xo C od (.ref t0)))
    (hq : Q .none ⟨(h.push { cls := .type "tuple", data := .seq rest.toArray }).update e (Obj.mapFields (·.setIfInBounds 0 (.ref h.objs.size))), g, d, t, os⟩) (hrest : rest.length ≤ sizeLine := by size_fits) :
    wpAny (model prog w) A (call (.builtin initId) (.ref e :: rest)) Q E ⟨h, g, d, t, os⟩ := by
  have he₁ : (h.push { cls := .type "tuple", data := .seq rest.toArray }).get? e = some (xo C od (.ref t0)) := Heap.get?_push_of_some _ he
  refine wpAny_call (codeAny_call_builtin F.init.plain F.initEntry (check_init F hB hC he rfl ?_))
  wp_walk
  exact hq
end
section
variable {prog : Program} {w : World} {A : Around} {E : Value → Shared → Prop} {s : Shared} {K : Frag} {h₀ : Heap} {L : Addr} {m : PySem.Str → Option Value} {news : List (Addr × Obj)} {g : Obj → List (Addr × Obj)}
variable {nm q : PySem.Str} {C Nn : Addr} {bs bm bmB : List Value} {hdct : Bool} {sn : List PySem.Str} {sub : List Value} {ab : Bool} {col : Option Bool} {dd : Option Addr} {k0 k1 k2 k3 k5 : Option Value} {B newId initId : String}
theorem init_led (FB : ExcBaseFacts B newId initId bmB) {e t0 : Addr} {od : Option Addr} {rest : List Value} {Q : Value → Shared → Prop} (F : Fr h₀ L s.heap m) (X₀ : K.In h₀) (N : News h₀ L s.heap news)
    (hC : K.lookup C = some (excClassObj nm q C Nn bs bm hdct sn sub ab col dd k0 k1 k2 k3 k5 newId)) (hB : bm.contains (.type B) = true) (U : UpdF e (xo C od (.ref t0)) news g)
    (h : ∀ (t : Nat) h', Fr h₀ L h' m → News h₀ L h' ((t, tupO rest) :: g (xo C od (.ref t))) → (∀ p ∈ news, p.1 < t) → Q .none { s with heap := h' }) (hrest : rest.length ≤ sizeLine := by size_fits) :
    wpAny (model prog w) A (call (.builtin initId) (.ref e :: rest)) Q E s := by
  obtain ⟨pre, post, rfl, hg, a, b⟩ := U.split
  have hem : (e, xo C od (.ref t0)) ∈ pre ++ (e, xo C od (.ref t0)) :: post := by simp
  have X := X₀.keeps F.keep
  have lt : ∀ p ∈ pre ++ (e, xo C od (.ref t0)) :: post, p.1 < s.heap.objs.size := fun p hp => Heap.lt_size (N p hp).1
  obtain ⟨F2, N2⟩ := news_upd (f := Obj.mapFields (·.setIfInBounds 0 (.ref s.heap.objs.size))) (o' := xo C od (.ref s.heap.objs.size)) (pre := (s.heap.objs.size, tupO rest) :: pre) (F.push (tupO rest)) (N.push F (tupO rest)) (fun p hp => by
    rcases List.mem_cons.mp hp with rfl | hp
    · exact Nat.ne_of_gt (lt _ hem)
    · exact a p hp) b rfl rfl
  have z := h s.heap.objs.size _ F2 (by rw [hg]; exact N2) lt
  obtain ⟨hh, gg, d, t, os⟩ := s
  exact init_at FB hB (X _ _ hC) (N _ hem).1 z hrest
theorem call_led (FB : ExcBaseFacts B newId initId bmB) {fI : Addr} {rest : List Value} {Q : Value → Shared → Prop} (F : Fr h₀ L s.heap m) (X₀ : K.In h₀) (N : News h₀ L s.heap news)
    (hC : K.lookup C = some (excClassObj nm q C Nn bs bm hdct sn sub ab col dd k0 k1 k2 k3 k5 newId)) (hB : bm.contains (.type B) = true) (hA : bm.contains (.type "AttributeError") = false) (hN : bm.contains (.type "NameError") = false)
    (hi : findIn K (.ref C) "__init__" = some (some (.ref fI))) (hf : typeIn K (.ref fI) = some (.type "function"))
    (h : ∀ (t e : Nat) h', Fr h₀ L h' m → News h₀ L h' ((e, xo C none (.ref t)) :: (t, tupO rest) :: news) → (∀ p ∈ news, p.1 < t) → (∀ p ∈ (t, tupO rest) :: news, p.1 < e) →
      wpAny (model prog w) (A.under (.builtin "type.__call__" ⟨.ref C :: rest, []⟩)) (call (.ref fI) (.ref e :: rest)) (fun r s' => r = .none ∧ Q (.ref e) s') E { s with heap := h' }) (hrest : rest.length ≤ sizeLine := by size_fits) :
    wpAny (model prog w) A (call (.ref C) rest) Q E s := by
  have X := X₀.keeps F.keep
  obtain ⟨oI, hoI, hcI⟩ := Option.map_eq_some_iff.mp hf
  obtain ⟨hh, gg, d, tk, os⟩ := s
  refine call_cls FB hB hA hN (X _ _ hC) (looks_findIn X hi) (X _ _ hoI) hcI ?_ hrest
  have N2 := (N.push F (tupO rest)).push (F.push (tupO rest)) (xo C none (.ref hh.objs.size))
  rw [Heap.size_push] at N2
  exact h hh.objs.size (hh.objs.size + 1) _ ((F.push (tupO rest)).push (xo C none (.ref hh.objs.size))) N2 (fun p hp => Heap.lt_size (N p hp).1) (fun p hp => by
    rcases List.mem_cons.mp hp with rfl | hp
    · exact Nat.lt_succ_self _
    · exact Nat.lt_succ_of_lt (Heap.lt_size (N p hp).1))
end
end XC
end
section
theorem rowsExc41 : True := by
  k_with_none
  k_with "pen_at" => focus (first | with_reducible assumption | (refine' PenAt.head ?_ ?_ ?_; (rotate_right 3; (focus (first | with_reducible assumption | k_ne)); (focus (k_all)); (focus (k_all)))) | (refine' PenAt.tail ?_ ?_ ?_; (rotate_right 1; (focus (walk_at "pen_at"))); (rotate_right 2; (focus (k_ne)); (focus (k_ne)))))
  k_with "room" => focus (first | lia | (dsimp only [ktrTop, Around.deeper]; lia))
  k_with "enterC" => focus ((refine' code_defC ?_ ?_ ?_ ?_ ?_ ?_ ?_ ?_ ?_ ?_ ?_ ?_ ?_ ?_ ?_ ?_ ?_ ?_; (rotate_right 13; (focus (exact rfl)); (focus (exact rfl)); (focus (first | exact rfl | assumption)); rotate_left 10); (rotate_right 15; (focus (k_asm)); (focus (k_asm)); (focus (k_asm)); (focus (k_asm)); (focus (k_asm)); (focus (k_is)); (focus (k_is)); (focus (k_room)); (focus (exact BindsTo.of_eq rfl)); (focus (exact rfl)); (focus (decide +kernel)); rotate_left 4); (rotate_right 3; (focus (exact rfl)); (focus (exact rfl)); (focus (exact rfl))); k_whole; intro g' L' h' tk' cells' FG' F' N' Y' B' X' T' l1; (try k_lt l1); k_cells Y'; (try simp only [List.cons_append, List.nil_append] at N'); (try dsimp only); (try k_lift B'); (try k_fold)))
  k_with "eval Name" => focus ((k_here; (with_reducible show wpAny _ _ (eval (Expr.Name _ _) (compEnvC _ _ _ _)) _ _ _); k_dflt (first | (refine' lcf_cell ?_ ?_ ?_ ?_ ?_ ?_ ?_; (rotate_right 1; (focus (rfl))); (rotate_right 1; (focus (rfl))); (rotate_right 5; (focus (k_asm)); (focus (rfl)); (focus (k_mem)); (focus (k_asm)); rotate_left 1); k_whole) | (refine' lcf_free ?_ ?_ ?_ ?_ ?_ ?_ ?_; (rotate_right 1; (focus (rfl))); (rotate_right 1; (focus (rfl))); (rotate_right 5; (focus (k_asm)); (focus (rfl)); (focus (k_mem)); (focus (k_asm)); rotate_left 1); k_whole) | refine LCgL.ld_global (by k_asm) (by k_asm) (by k_asm) (by k_is) ?_)))
  k_with "exec For Name Name cons nil" => focus ((k_here; (rename Fr _ _ _ _ => lF'); (with_unfolding_all refine' For_invVF lF' ?_ ?_ ?_; (rotate_right 3; (focus (exact rfl)); (focus (exact rfl)); rotate_left 1); k_whole)))
  k_with "exec For Name Call cons nil" => focus ((k_here; (rename Fr _ _ _ _ => lF'); (with_unfolding_all refine' For_invVF lF' ?_ ?_ ?_; (rotate_right 3; (focus (exact rfl)); (focus (exact rfl)); rotate_left 1); k_whole)))
  trivial
namespace XC
open Builtin Builtin.ObjectAttr
set_option maxRecDepth 100000
noncomputable def RaisableC (E : Value → Shared → Prop) (v : Value) (s₁ : Shared) : Prop :=
  ∃ (e : Addr) (od : Option Addr) (t C Nn : Addr) (nm q : PySem.Str) (bs bm : List Value) (hdct : Bool) (sn : List PySem.Str) (sub : List Value) (ab : Bool) (col : Option Bool) (dd : Option Addr) (k0 k1 k2 k3 k5 : Option Value) (newId : String),
    v = .ref e ∧ s₁.heap.get? C = some (excClassObj nm q C Nn bs bm hdct sn sub ab col dd k0 k1 k2 k3 k5 newId) ∧ bm.contains (.type "BaseException") = true ∧ s₁.heap.get? e = some (xo C od (.ref t)) ∧ E (.ref e) s₁
theorem RaisableC.intro {K : Frag} {E : Value → Shared → Prop} {s₁ : Shared} {h₀ : Heap} {L : Addr} {m : PySem.Str → Option Value} {news : List (Addr × Obj)} {e : Addr} {od : Option Addr} {t C Nn : Addr} {nm q : PySem.Str} {bs bm : List Value} {hdct : Bool} {sn : List PySem.Str} {sub : List Value} {ab : Bool} {col : Option Bool} {dd : Option Addr} {k0 k1 k2 k3 k5 : Option Value} {newId : String}
    (F : Fr h₀ L s₁.heap m) (X₀ : K.In h₀) (N : News h₀ L s₁.heap news) (he : (e, xo C od (.ref t)) ∈ news) (hC : K.lookup C = some (excClassObj nm q C Nn bs bm hdct sn sub ab col dd k0 k1 k2 k3 k5 newId)) (hB : bm.contains (.type "BaseException") = true) (h : E (.ref e) s₁) : RaisableC E (.ref e) s₁ :=
  ⟨e, od, t, C, Nn, nm, q, bs, bm, hdct, sn, sub, ab, col, dd, k0, k1, k2, k3, k5, newId, rfl, (X₀.keeps F.keep) _ _ hC, hB, (N _ he).1, h⟩
section
variable {M : Model} {A : Around} {E : Value → Shared → Prop} {env : Env} {s : Shared}
theorem raiseStmt_C {x : Sem Value} {Q : Flow → Shared → Prop} (hh : A.handled = none) (h : wpAny M A x (RaisableC E) E s) : wpAny M A (raiseStmt env (some x) none) Q E s := by
  unfold raiseStmt
  refine wpAny_bind (wpAny_mono h (fun v s₁ h₁ => ?_) fun _ _ x => x)
  obtain ⟨e, od, t, C, Nn, nm, q, bs, bm, hdct, sn, sub, ab, col, dd, k0, k1, k2, k3, k5, newId, rfl, hC, hbase, he, hE⟩ := h₁
  have hcB : (Value.ref C :: bm).contains (.type "BaseException") = true := by rw [List.contains_cons, hbase, Bool.or_true]
  obtain ⟨hp, g, d, tk, os⟩ := s₁
  repeat (first | with_reducible refine wpAny_loadPart_at he ?_ | with_reducible refine wpAny_loadPart_at hC ?_ | (with_reducible refine wpAny_isSubtype_exc hC ?_; rw [hcB]) | wp_step)
  exact wpAny_raiseNew_none hh hE
theorem Raise_C {e : PySem.Expr} {pos : Pos} {Q : Flow → Shared → Prop} (hh : A.handled = none) (h : wpAny M A (eval e env) (RaisableC E) E s) : wpAny M A (exec (.Raise (some e) none pos) env) Q E s := by
  show wpAny M A (do standAt pos; raiseStmt env (some (do let v ← eval e env; standAt pos; pure v)) none) Q E s
  refine wpAny_bind (wpAny_standAt (raiseStmt_C hh ?_))
  exact wpAny_bind (wpAny_mono h (fun v s₁ h₁ => wpAny_bind (wpAny_standAt (wpAny_pure h₁))) fun _ _ x => x)
end
end XC
end
section
theorem rowsFly1 : True := by
  k_with_none
  k_with "pen_at" => focus (first | with_reducible assumption | (refine' PenAt.head ?_ ?_ ?_; (rotate_right 3; (focus (first | with_reducible assumption | k_ne)); (focus (k_all)); (focus (k_all)))) | (refine' PenAt.tail ?_ ?_ ?_; (rotate_right 1; (focus (walk_at "pen_at"))); (rotate_right 2; (focus (k_ne)); (focus (k_ne)))))
  k_with "room" => focus (first | lia | (dsimp only [ktrTop, Around.deeper]; lia))
  k_with "enterC" => focus ((refine' code_defC ?_ ?_ ?_ ?_ ?_ ?_ ?_ ?_ ?_ ?_ ?_ ?_ ?_ ?_ ?_ ?_ ?_ ?_; (rotate_right 13; (focus (exact rfl)); (focus (exact rfl)); (focus (first | exact rfl | assumption)); rotate_left 10); (rotate_right 15; (focus (k_asm)); (focus (k_asm)); (focus (k_asm)); (focus (k_asm)); (focus (k_asm)); (focus (k_is)); (focus (k_is)); (focus (k_room)); (focus (exact BindsTo.of_eq rfl)); (focus (exact rfl)); (focus (decide +kernel)); rotate_left 4); (rotate_right 3; (focus (exact rfl)); (focus (exact rfl)); (focus (exact rfl))); k_whole; intro g' L' h' tk' cells' FG' F' N' Y' B' X' T' l1; (try k_lt l1); k_cells Y'; (try simp only [List.cons_append, List.nil_append] at N'); (try dsimp only); (try k_lift B'); (try k_fold)))
  k_with "eval Name" => focus ((k_here; (with_reducible show wpAny _ _ (eval (Expr.Name _ _) (compEnvC _ _ _ _)) _ _ _); k_dflt (first | (refine' lcf_cell ?_ ?_ ?_ ?_ ?_ ?_ ?_; (rotate_right 1; (focus (rfl))); (rotate_right 1; (focus (rfl))); (rotate_right 5; (focus (k_asm)); (focus (rfl)); (focus (k_mem)); (focus (k_asm)); rotate_left 1); k_whole) | (refine' lcf_free ?_ ?_ ?_ ?_ ?_ ?_ ?_; (rotate_right 1; (focus (rfl))); (rotate_right 1; (focus (rfl))); (rotate_right 5; (focus (k_asm)); (focus (rfl)); (focus (k_mem)); (focus (k_asm)); rotate_left 1); k_whole) | refine LCgL.ld_global (by k_asm) (by k_asm) (by k_asm) (by k_is) ?_)))
  k_with "exec For Name Name cons nil" => focus ((k_here; (rename Fr _ _ _ _ => lF'); (with_unfolding_all refine' For_invVF lF' ?_ ?_ ?_; (rotate_right 3; (focus (exact rfl)); (focus (exact rfl)); rotate_left 1); k_whole)))
  k_with "exec For Name Call cons nil" => focus ((k_here; (rename Fr _ _ _ _ => lF'); (with_unfolding_all refine' For_invVF lF' ?_ ?_ ?_; (rotate_right 3; (focus (exact rfl)); (focus (exact rfl)); rotate_left 1); k_whole)))
  trivial
namespace XC
open Builtin Builtin.ObjectAttr
set_option maxRecDepth 100000
theorem dict_mapFields (f : Array Value → Array Value) (o : Obj) : (Obj.mapFields f o).dict = o.dict := by
  obtain ⟨c, d, dt, sl⟩ := o
  cases dt <;> rfl
noncomputable def TrD (h base : Heap) (e : Addr) (cls : Value) (dx : Addr) (fl : Value) : Prop :=
  ∃ oe vs T oT ts, h.get? e = some oe ∧ (oe.cls = cls ∧ oe.dict = some dx) ∧ oe.data = .fields vs ∧ vs[1]? = some (.ref T) ∧ base.get? T = none ∧ T ≠ e ∧ h.get? T = some oT ∧ oT.data = .fields ts ∧ ts[3]? = some fl
noncomputable def StepD (base : Heap) (l : List Env) (e : Addr) (cls : Value) (dx : Addr) (fl : Value) (h h' : Heap) : Prop :=
  base.StaysIn h' ∧ h'.FunFrames base l ∧ TrD h' base e cls dx fl ∧ h.UpToSlots h'
section
variable {M : Model} {A : Around} {E : Value → Shared → Prop} {s : Shared}
theorem entryD {base : Heap} {env : Env} {outer : List Env} {L e dx : Addr} {oe : Obj} {vs : Array Value} {head : Value} {hadNext : Bool} {Q : Unit → Shared → Prop}
    (hfr : A.frames = some (env :: outer)) (hl : s.heap.FunFrames base (env :: outer)) (hf : env.frame = some L)
    (he : s.heap.get? e = some oe) (hdx : oe.dict = some dx) (hkb : base.StaysIn s.heap) (hen : base.get? e = none) (hd : oe.data = .fields vs) (hsz : 1 < vs.size)
    (h : ∀ h', StepD base (env :: outer) e oe.cls dx (rawInt L) s.heap h' → Q () { s with heap := h' }) :
    wpAny M A (do let a ← frameOf env; let pl ← entryPlaceOf L hadNext; let b ← EntryCells.newEntry head a .none (rawInt L) .none pl; setField (.ref e) 1 b) Q E s := by
  have hene : e ∉ (env :: outer).filterMap (·.frame) := fun hm => by
    obtain ⟨_, o, ho, hnf⟩ := hl.mem hm
    rw [he] at ho; injection ho with ho; subst ho; exact hnf vs hd
  refine wpAny_bind (wpAny_frameOf_fun hfr hl hf fun h₁ hs₁ => ?_)
  refine wpAny_bind (wpAny_entryPlaceOf fun pl hpl => ?_)
  unfold EntryCells.newEntry newFields
  refine wpAny_bind (wpAny_newObj_type ?_ (hpl.sizeOk5 _ _ _ _ _))
  have he₁ : h₁.get? e = some oe := (hs₁.2.1 e hene).trans he
  have kb₁ : base.StaysIn h₁ := fun b o hbo => (hs₁.2.1 b fun hm => by rw [(hl.mem hm).1] at hbo; cases hbo).trans (hkb b o hbo)
  have he₂ := Heap.get?_push_of_some (h := h₁) { cls := .type "traceback", dict := none, data := .fields ([head, .ref L, .none, rawInt L, .none] ++ (if pl.isEmpty then List.replicate 6 Value.none else pl)).toArray } he₁
  refine wpAny_setField he₂ hd hsz (h _ ?_)
  have hTe : h₁.objs.size ≠ e := Nat.ne_of_gt (Heap.lt_size he₁)
  have hd₃ := Obj.data_mapFields hd (·.setIfInBounds 1 (Value.ref h₁.objs.size))
  have he₃ := Heap.get?_update_self (Obj.mapFields (·.setIfInBounds 1 (Value.ref h₁.objs.size))) he₂ (Obj.isFreed_of_fields hd₃)
  have hT₃ := (Heap.get?_update_other (h₁.push { cls := .type "traceback", dict := none, data := .fields ([head, .ref L, .none, rawInt L, .none] ++ (if pl.isEmpty then List.replicate 6 Value.none else pl)).toArray })
    (Obj.mapFields (·.setIfInBounds 1 (Value.ref h₁.objs.size))) (Ne.symm hTe)).trans (Heap.get?_push_size h₁ rfl)
  have keep : ∀ b o, b ≠ e → h₁.get? b = some o →
      ((h₁.push { cls := .type "traceback", dict := none, data := .fields ([head, .ref L, .none, rawInt L, .none] ++ (if pl.isEmpty then List.replicate 6 Value.none else pl)).toArray }).update e (Obj.mapFields (·.setIfInBounds 1 (Value.ref h₁.objs.size)))).get? b = some o :=
    fun b o hbe hb => by
      rw [Heap.get?_update_other _ _ (Ne.symm hbe)]
      exact Heap.get?_push_of_some _ hb
  have noRecord : ∀ b o, s.heap.get? b = some o → (∀ vs, o.data ≠ .fields vs) → b ≠ e := fun b o hb hnf q => by
    rw [q, he] at hb; injection hb with hb; subst hb; exact hnf vs hd
  refine ⟨fun b o hbo => keep b o (fun q => by rw [q, hen] at hbo; cases hbo) (kb₁ b o hbo), hl.of_keeps fun b o hb hnf => ?_, ?_, fun b o hb hnf => ?_⟩
  · obtain ⟨sl, hs⟩ := hs₁.2.2 b o hb
    exact ⟨_, keep b _ (noRecord b o hb hnf) hs, rfl⟩
  · exact ⟨_, _, h₁.objs.size, _, _, he₃, ⟨Obj.cls_mapFields _ _, (dict_mapFields _ _).trans hdx⟩, hd₃, by simp [hsz], kb₁.fresh, hTe, hT₃, rfl, by first | (simp; done) | (rcases hpl with rfl | ⟨_, _, _, _, _, _, _, rfl⟩ <;> simp)⟩
  · obtain ⟨sl, hs⟩ := hs₁.2.2 b o hb
    exact ⟨sl, keep b _ (noRecord b o hb hnf) hs⟩
theorem flightD {base : Heap} {l : List Env} {e dx : Addr} {cls fl : Value} {Q : Unit → Shared → Prop}
    (hkb : base.StaysIn s.heap) (hl : s.heap.FunFrames base l) (ht : TrD s.heap base e cls dx fl)
    (h : ∀ h', StepD base l e cls dx .none s.heap h' → Q () { s with heap := h' }) :
    wpAny M A (setFlight (.ref e) none) Q E s := by
  obtain ⟨oe, vs, T, oT, ts, he, hcls, hd, h1, hnT, hTe, hT, hdT, h3⟩ := ht
  have hsz3 : 3 < ts.size := (Array.getElem?_eq_some_iff.mp h3).1
  have other : ∀ b, b ≠ T → (s.heap.update T (Obj.mapFields (·.setIfInBounds 3 ((none : Option Addr).elim Value.none fun f => rawInt f)))).get? b = s.heap.get? b :=
    fun b hb => Heap.get?_update_other _ _ (Ne.symm hb)
  have noRecord : ∀ b o, s.heap.get? b = some o → (∀ vs, o.data ≠ .fields vs) → b ≠ T := fun b o hb hnf q => by
    rw [q, hT] at hb; injection hb with hb; subst hb; exact hnf ts hdT
  unfold setFlight
  refine wpAny_bind (wpAny_field he hd h1 ?_)
  rw [if_pos (show (Value.ref T != Value.none) = true from by simp)]
  refine wpAny_setField hT hdT hsz3 (h _ ⟨fun b o hbo => (other b fun q => by rw [q, hnT] at hbo; cases hbo).trans (hkb b o hbo),
    hl.of_keeps fun b o hb hnf => ⟨o, (other b (noRecord b o hb hnf)).trans hb, rfl⟩, ?_, fun b o hb hnf => ⟨o.slots, (other b (noRecord b o hb hnf)).trans hb⟩⟩)
  exact ⟨oe, vs, T, _, _, (other e (Ne.symm hTe)).trans he, hcls, hd, h1, hnT, hTe, Heap.get?_update_self _ hT (Obj.isFreed_of_fields (Obj.data_mapFields hdT _)), Obj.data_mapFields hdT _, by simp [hsz3]⟩
theorem StepD.trans {base h₁ h₂ h₃ : Heap} {l : List Env} {e dx : Addr} {cls f g : Value} (x : StepD base l e cls dx f h₁ h₂) (y : StepD base l e cls dx g h₂ h₃) : StepD base l e cls dx g h₁ h₃ :=
  ⟨y.1, y.2.1, y.2.2.1, x.2.2.2.trans y.2.2.2⟩
theorem leave1D {base : Heap} {env : Env} {outer : List Env} {L e dx : Addr} {oe : Obj} {vs : Array Value} {Q : Unit → Shared → Prop}
    (hfr : A.frames = some (env :: outer)) (hl : s.heap.FunFrames base (env :: outer)) (hf : env.frame = some L)
    (he : s.heap.get? e = some oe) (hdx : oe.dict = some dx) (hkb : base.StaysIn s.heap) (hen : base.get? e = none) (hd : oe.data = .fields vs) (h1 : vs[1]? = some .none)
    (h : ∀ h', StepD base (env :: outer) e oe.cls dx .none s.heap h' → Q () { s with heap := h' }) : wpAny M A (leaving env (.ref e)) Q E s := by
  unfold leaving noteFrame
  simp only [hf]
  refine wpAny_bind (wpAny_bind (wpAny_field he hd h1 ?_))
  rw [if_neg (by decide)]
  refine entryD hfr hl hf he hdx hkb hen hd (Array.getElem?_eq_some_iff.mp h1).1 fun h' x => ?_
  exact flightD (s := { s with heap := h' }) x.1 x.2.1 x.2.2.1 fun h'' y => h h'' (x.trans y)
theorem noteD {base : Heap} {env : Env} {outer : List Env} {L e dx : Addr} {cls : Value} {Q : Unit → Shared → Prop}
    (hfr : A.frames = some (env :: outer)) (hl : s.heap.FunFrames base (env :: outer)) (hf : env.frame = some L) (ht : TrD s.heap base e cls dx .none) (hkb : base.StaysIn s.heap) (hen : base.get? e = none)
    (h : ∀ h', StepD base (env :: outer) e cls dx (rawInt L) s.heap h' → Q () { s with heap := h' }) : wpAny M A (noteFrame (.ref e) env) Q E s := by
  obtain ⟨oe, vs, T, oT, ts, he, ⟨hcls, hdx⟩, hd, h1, hnT, hTe, hT, hdT, h3⟩ := ht
  subst hcls
  unfold noteFrame
  simp only [hf]
  refine wpAny_bind (wpAny_field he hd h1 ?_)
  rw [if_pos (show (Value.ref T != Value.none) = true from by simp)]
  refine wpAny_bind (wpAny_field hT hdT h3 ?_)
  rw [if_neg (show ¬ ((Value.none == rawInt L) = true) from by simp [rawInt])]
  refine wpAny_bind (wpAny_setField hT hdT (Array.getElem?_eq_some_iff.mp h3).1 ?_)
  have other : ∀ b, b ≠ T → (s.heap.update T (Obj.mapFields (·.setIfInBounds 3 Value.none))).get? b = s.heap.get? b := fun b hb => Heap.get?_update_other _ _ (Ne.symm hb)
  have noRecord : ∀ b o, s.heap.get? b = some o → (∀ vs, o.data ≠ .fields vs) → b ≠ T := fun b o hb hnf q => by
    rw [q, hT] at hb; injection hb with hb; subst hb; exact hnf ts hdT
  refine entryD (hfr := hfr) (hl.of_keeps fun b o hb hnf => ⟨o, (other b (noRecord b o hb hnf)).trans hb, rfl⟩) hf ((other e (Ne.symm hTe)).trans he) hdx
    (fun b o hbo => (other b fun q => by rw [q, hnT] at hbo; cases hbo).trans (hkb b o hbo)) hen hd (Array.getElem?_eq_some_iff.mp h1).1
    fun h' ⟨x1, x2, x3, x4⟩ => h h' ⟨x1, x2, x3, fun b o hb hnf => x4 b o ((other b (noRecord b o hb hnf)).trans hb) hnf⟩
end
end XC
end
section
theorem rowsFly21 : True := by
  k_with_none
  k_with "pen_at" => focus (first | with_reducible assumption | (refine' PenAt.head ?_ ?_ ?_; (rotate_right 3; (focus (first | with_reducible assumption | k_ne)); (focus (k_all)); (focus (k_all)))) | (refine' PenAt.tail ?_ ?_ ?_; (rotate_right 1; (focus (walk_at "pen_at"))); (rotate_right 2; (focus (k_ne)); (focus (k_ne)))))
  k_with "room" => focus (first | lia | (dsimp only [ktrTop, Around.deeper]; lia))
  k_with "enterC" => focus ((refine' code_defC ?_ ?_ ?_ ?_ ?_ ?_ ?_ ?_ ?_ ?_ ?_ ?_ ?_ ?_ ?_ ?_ ?_ ?_; (rotate_right 13; (focus (exact rfl)); (focus (exact rfl)); (focus (first | exact rfl | assumption)); rotate_left 10); (rotate_right 15; (focus (k_asm)); (focus (k_asm)); (focus (k_asm)); (focus (k_asm)); (focus (k_asm)); (focus (k_is)); (focus (k_is)); (focus (k_room)); (focus (exact BindsTo.of_eq rfl)); (focus (exact rfl)); (focus (decide +kernel)); rotate_left 4); (rotate_right 3; (focus (exact rfl)); (focus (exact rfl)); (focus (exact rfl))); k_whole; intro g' L' h' tk' cells' FG' F' N' Y' B' X' T' l1; (try k_lt l1); k_cells Y'; (try simp only [List.cons_append, List.nil_append] at N'); (try dsimp only); (try k_lift B'); (try k_fold)))
  k_with "eval Name" => focus ((k_here; (with_reducible show wpAny _ _ (eval (Expr.Name _ _) (compEnvC _ _ _ _)) _ _ _); k_dflt (first | (refine' lcf_cell ?_ ?_ ?_ ?_ ?_ ?_ ?_; (rotate_right 1; (focus (rfl))); (rotate_right 1; (focus (rfl))); (rotate_right 5; (focus (k_asm)); (focus (rfl)); (focus (k_mem)); (focus (k_asm)); rotate_left 1); k_whole) | (refine' lcf_free ?_ ?_ ?_ ?_ ?_ ?_ ?_; (rotate_right 1; (focus (rfl))); (rotate_right 1; (focus (rfl))); (rotate_right 5; (focus (k_asm)); (focus (rfl)); (focus (k_mem)); (focus (k_asm)); rotate_left 1); k_whole) | refine LCgL.ld_global (by k_asm) (by k_asm) (by k_asm) (by k_is) ?_)))
  k_with "exec For Name Name cons nil" => focus ((k_here; (rename Fr _ _ _ _ => lF'); (with_unfolding_all refine' For_invVF lF' ?_ ?_ ?_; (rotate_right 3; (focus (exact rfl)); (focus (exact rfl)); rotate_left 1); k_whole)))
  k_with "exec For Name Call cons nil" => focus ((k_here; (rename Fr _ _ _ _ => lF'); (with_unfolding_all refine' For_invVF lF' ?_ ?_ ?_; (rotate_right 3; (focus (exact rfl)); (focus (exact rfl)); rotate_left 1); k_whole)))
  trivial
namespace XC
open Builtin Builtin.ObjectAttr
set_option maxRecDepth 100000
noncomputable def RaisedD (base G : Heap) (l : List Env) (e : Addr) (cls : Value) (dx : Addr) (news : List (Addr × Obj)) (h : Heap) : Prop :=
  ∃ B, base.StaysIn B ∧ (∀ b o, G.get? b = some o → b ∉ l.filterMap (·.frame) → B.get? b = some o) ∧ (∀ q ∈ news, B.get? q.1 = some q.2 ∧ G.get? q.1 = none ∧ base.get? q.1 = none) ∧
    (B.StaysIn h ∧ B.get? e = none ∧ h.FunFrames B l ∧ TrD h B e cls dx .none) ∧ G.get? e = none
section
variable {M : Model} {A : Around} {E : Value → Shared → Prop} {s' : Shared} {base g : Heap} {outer : List Env} {L a e dx C : Addr} {m : PySem.Str → Option Value} {name : PySem.Str} {scope : Scope} {cd : Value} {Q : Unit → Shared → Prop} {news news' : List (Addr × Obj)}
theorem leave_raiseD {a0 : Value} (K : Below A base outer g) (F : Fr g L s'.heap m) (N : News g L s'.heap news) (he : (e, xo C (some dx) a0) ∈ news) (hn : ∀ q ∈ news', q ∈ news) (hne : ∀ q ∈ news', q.1 ≠ e)
    (hQ : ∀ h', RaisedD base g outer e (.ref C) dx news' h' → g.UpToSlots h' → Q () { s' with heap := h' }) (hk : scope.kind = .function := by rfl) :
    wpAny M (A.deeper (envOf name scope L a cd)) (leaving (envOf name scope L a cd) (.ref e)) Q E s' := by
  have K' := K.push (name := name) (a := a) (cd := cd) F hk
  have hg : g.get? e = none := (N _ he).2.2
  have hin : ∀ env ∈ (envOf name scope L a cd :: outer), ∀ b, env.frame = some b → b ∈ e :: (envOf name scope L a cd :: outer).filterMap (·.frame) := fun env he b hb => .tail _ (List.mem_filterMap.mpr ⟨env, he, hb⟩)
  have st : base.StaysIn (hideAll s'.heap (e :: (envOf name scope L a cd :: outer).filterMap (·.frame))) := fun b o q => hideAll_get _ (K'.stays b o q) fun hm => by
    rcases List.mem_cons.mp hm with rfl | hm
    · rw [fresh_of_stays K.stays hg] at q; cases q
    · rw [(K'.frames.mem hm).1] at q; cases q
  have sg : ∀ b o, g.get? b = some o → b ∉ outer.filterMap (·.frame) → (hideAll s'.heap (e :: (envOf name scope L a cd :: outer).filterMap (·.frame))).get? b = some o := fun b o q nm => hideAll_get _ (F.keep b o q) fun hm => by
    rcases List.mem_cons.mp hm with rfl | hm
    · rw [hg] at q; cases q
    · rcases kts_mem hm with z | z
      · rw [z, kts_self F] at q
        cases q
      · exact nm z
  have hl : ∀ q ∈ news', (hideAll s'.heap (e :: (envOf name scope L a cd :: outer).filterMap (·.frame))).get? q.1 = some q.2 ∧ g.get? q.1 = none ∧ base.get? q.1 = none := fun q hq => by
    refine ⟨hideAll_get _ (N q (hn q hq)).1 fun hm => ?_, (N q (hn q hq)).2.2, fresh_of_stays K.stays (N q (hn q hq)).2.2⟩
    rcases List.mem_cons.mp hm with z | hm
    · exact hne q hq z
    · obtain ⟨env, he, hf⟩ := List.mem_filterMap.mp hm
      rcases List.mem_cons.mp he with rfl | he
      · exact (N q (hn q hq)).2.1 (Option.some.inj hf).symm
      · obtain ⟨o, ho, _⟩ := (K.frames.mem (List.mem_filterMap.mpr ⟨env, he, hf⟩)).2
        rw [(N q (hn q hq)).2.2] at ho; cases ho
  refine leave1D (dx := dx) K'.stack (funFrames_hide K'.frames hin) rfl (N _ he).1 rfl (fun b o q => of_hideAll _ q) (hideAll_none _ (.head _)) rfl rfl fun h' x => ?_
  obtain ⟨x1, ⟨_, _, x2⟩, x3, x4⟩ := x
  exact hQ h' ⟨_, st, sg, hl, ⟨x1, hideAll_none _ (.head _), x2, x3⟩, hg⟩ ((Heap.UpToSlots.of_keeps F.keep).trans x4)
end
section
variable {prog : Program} {w : World} {A₀ : Around} {E : Value → Shared → Prop} {s' : Shared} {base g g₀ G : Heap} {outer : List Env} {L a e dx C : Addr} {m : PySem.Str → Option Value} {name : PySem.Str} {scope : Scope} {cd : Value}
  {n : PySem.Str} {b₀ : Stmt} {suite : List Stmt} {pos np : Pos} {rest : List ExceptHandler} {Q : Flow → Shared → Prop} {news : List (Addr × Obj)} {KF : Frag}
  {p : Program} {loose : List PySem.Str} {mean : ExcName → Option Value} {mg mb : PySem.Str → Option Value} {x y : PySem.Str}
theorem caughtD (R : RaisedD base G (envOf name scope L a cd :: outer) e (.ref C) dx news s'.heap) (F : Fr g L G m) (K : Below A₀ base outer g) (hsm : G.UpToSlots s'.heap) (XB : KF.In base) (TB : Top p loose mean mg mb base)
    (T0 : KtsTurn (outer.filterMap (·.frame)) g₀ g)
    (ex : nsIn KF mainGlobals x = some (some (.ref C))) (q : ktsIn KF C "BaseException" = true)
    (k : ∀ h' g' oe vs tk, KtsTurn (outer.filterMap (·.frame)) g₀ g' → oe.cls = .ref C → oe.dict = some dx → oe.data = .fields vs → Fr g' L h' (fun y => if y = n then some (.ref e) else m y) → News g' L h' ((e, oe) :: news) → Below A₀ base outer g' → KF.In g' → Top p loose mean mg mb g' →
      wpAny (model prog w) ((A₀.deeper (envOf name scope L a cd)).mark (some (.ref e))) (execs (b₀ :: suite) (envOf name scope L a cd))
        (fun f s₄ => wpAny (model prog w) (A₀.deeper (envOf name scope L a cd)) (do bindName (envOf name scope L a cd) n .none; unbindBehindTheSuite (envOf name scope L a cd) n pos) (fun _ s₅ => Q f s₅) E s₄)
        (AsSuiteRaised (model prog w) ((A₀.deeper (envOf name scope L a cd)).mark (some (.ref e))) (envOf name scope L a cd) n pos (notedBy (model prog w) ((A₀.deeper (envOf name scope L a cd)).mark (some (.ref e))) (envOf name scope L a cd) (cameBackBy (model prog w) (A₀.deeper (envOf name scope L a cd)) (envOf name scope L a cd) E)))
        { s' with heap := h', toks := tk })
    (hk : scope.kind = .function := by rfl) (hlo : (envOf name scope L a cd).kindOf n = some .local := by rfl) (hx : (envOf name scope L a cd).kindOf x = some .globalImplicit := by rfl) (hd : (x == ("__debug__" : PySem.Str)) = false := by decide) :
    wpAny (model prog w) (A₀.deeper (envOf name scope L a cd)) (noteFrame (.ref e) (envOf name scope L a cd))
      (fun _ s₂ => wpAny (model prog w) (A₀.deeper (envOf name scope L a cd)) (setFlight (.ref e) none) (fun _ s₃ =>
        wpAny (model prog w) (A₀.deeper (envOf name scope L a cd)) (handleBy (.ref e) (envOf name scope L a cd) (.ExceptHandler (some (.Name x np)) (some n) (b₀ :: suite) pos :: rest)) Q E s₃) E s₂) E s' := by
  obtain ⟨B, hB, hBG, hl, ⟨f1, f2, f3, f4⟩, hGe⟩ := R
  have hL : B.get? L = none := by
    obtain ⟨_, ⟨L', _, hf, hn', _⟩, _⟩ := f3
    obtain rfl : L = L' := Option.some.inj hf
    exact hn'
  refine noteD (Around.frames_deeper K.stack) f3 rfl f4 f1 f2 fun h₄ x₄ => ?_
  refine flightD (s := { s' with heap := h₄ }) x₄.1 x₄.2.1 x₄.2.2.1 fun h₅ x₅ => ?_
  have hsm₅ := x₄.2.2.2.trans x₅.2.2.2
  obtain ⟨g₅, T₅, F₅, K₅⟩ := kts_ground K F hBG x₅.1 (hsm.trans hsm₅)
  have X₅ : KF.In g₅ := XB.keeps K₅.stays
  have P₅ : TopRead p loose mg mb g₅ := topRead_of (TB.keeps K₅.stays)
  obtain ⟨ob, _, _, _, _, hob, ⟨hobc, _⟩, _⟩ := id x₅.2.2.1
  obtain ⟨nm, q', N, bs, bm, hdct, sn, sub, ab, col, dd, k0, k1, k2, k3, k5, newId, hC, hbase, hbT⟩ := kts_cls X₅ q
  have hC₅ := F₅.keep _ _ hC
  refine wpAny_handleBy_cons (codeAny_handlers_test (name_K (s := { s' with heap := h₅ }) F₅ X₅ P₅ ex ?_ hk hx hd)) (by intro q; cases q)
  refine wpAny_excMatches_sub_self hC₅ hob hobc hbase (codeAny_handlers_suite_as ?_)
  refine flightD (s := { s' with heap := h₅ }) x₅.1 x₅.2.1 x₅.2.2.1 fun h₆ x₆ => ?_
  obtain ⟨g₆, T₆, F₆, K₆⟩ := kts_ground K F hBG x₆.1 ((hsm.trans hsm₅).trans x₆.2.2.2)
  obtain ⟨oe, vs, _, _, _, hoe, ⟨hoec, hoedx⟩, hoed, _⟩ := id x₆.2.2.1
  have ne₆ : g₆.get? e = none := T₆.none_ _ (kts_none F.keep hGe)
  have N₆ := News.more F₆ News.nil hoe (fun es n q => by rw [hoed] at q; cases q) ne₆
  have Nl : News g₆ L h₆ news := fun q hq => ⟨x₆.1 _ _ (hl q hq).1, (fun z => by have := (hl q hq).1; rw [z, hL] at this; cases this), T₆.none_ _ (kts_none F.keep (hl q hq).2.1)⟩
  have X₆ : KF.In g₆ := XB.keeps K₆.stays
  have P₆ : Top p loose mean mg mb g₆ := TB.keeps K₆.stays
  refine stN (s := { s' with heap := h₆ }) F₆ (news := (e, oe) :: news) (fun q hq => (List.mem_cons.mp hq).elim (fun z => z ▸ N₆ _ (.head _)) (Nl q)) (fun h₇ F₇ N₇ => ?_) hk hlo
  exact k h₇ g₆ oe vs _ (T0.trans T₆) hoec hoedx hoed F₇ N₇ K₆ X₆ P₆
end
section
variable {prog : Program} {w : World} {A₀ A : Around} {s : Shared} {base h₀ : Heap} {L : Addr} {m : PySem.Str → Option Value} {env : Env} {news : List (Addr × Obj)} {K : Frag} {p : Program} {loose : List PySem.Str} {mean : ExcName → Option Value} {mg mb : PySem.Str → Option Value}
    {R : Result → Shared → Prop} {name qual : PySem.Str} {params : Arguments} {body : List Stmt} {scope : Scope} {dV kV doc pm cdv ct oc : Value} {an od : Option Addr} {osl : Array (Option Value)} {f : Addr} {args : Args} {binds : List (PySem.Str × Value)}
theorem code_turn (B : Below A₀ base [] h₀) (F : Fr h₀ L s.heap m) (X₀ : K.In h₀) (N : News h₀ L s.heap news) (T : Top p loose mean mg mb h₀) (hA : A.frames = some [env]) (hf : env.frame = some L) (hke : env.scope.kind = .function)
    (ho : K.lookup f = some ⟨oc, od, .func (fnOf name qual params body scope dV kV doc pm an cdv ct), osl⟩) (hcd : codeIn K cdv qual = true) (hroom : A.depth < recursionLimit)
    (hbind : BindsTo s (fnOf name qual params body scope dV kV doc pm an cdv ct) args binds) (hloc : ∀ y ∈ binds, scope.names.lookup y.1 = some .local)
    (h : ∀ g L' h₁, Fr h₀ L g m → Fr g L' h₁ (fun y => binds.reverse.lookup y) → News g L' h₁ news → Below A base [env] g → K.In g → Top p loose mean mg mb g →
      wpAny (model prog w) (A.deeper (envOf qual scope L' f cdv)) (execs body (envOf qual scope L' f cdv))
        (fun fl s' => LeaveS0 ([env].filterMap (·.frame)) h₀ L m g R (match fl with | .ret v => v | _ => .none) s')
        (fun e s' => wpAny (model prog w) (A.deeper (envOf qual scope L' f cdv)) (leaving (envOf qual scope L' f cdv) e) (fun _ s'' => R (.error e) s'') (fun e' s'' => R (.error e') s'') s')
        { s with heap := h₁, toks := s.toks + binds.length })
    (hco : scope.isCoroutine = false) (hgen : scope.isGenerator = false) (hk : scope.kind = .function)
    (hcell : ∀ x ∈ scope.names, x.2 ≠ .cell) : codeAny (model prog w) A (.call (.ref f) args) R s := by
  obtain ⟨FG, BG, st, _⟩ := groundX (R := R) B F N hA hf hke
  have X := X₀.keeps F.keep
  refine codeAny_call_def (fd := fnOf name qual params body scope dV kV doc pm an cdv ct) (body := body) (binds := binds) hroom (X _ _ ho) rfl (T.nolimit.keeps F.keep) (codeRec_of X hcd) rfl hbind hcell hloc (fun h₁ hns hk₁ => ?_) hco hgen hk
  refine wpAny_mono (h _ s.heap.objs.size h₁ FG ⟨hns, fun b o e => hk₁ b o (of_hideAll _ e), Nat.le_of_eq (hideAll_size _ _)⟩
    (fun p hp => ⟨hk₁ _ _ (N p hp).1, Nat.ne_of_lt (Heap.lt_size (N p hp).1), hideAll_none _ (List.mem_map_of_mem hp)⟩) BG (X₀.keeps st) (T.keeps st)) (fun fl s' hl => ?_) fun _ _ y => y
  obtain ⟨g', L', m', news', T', F', N', k⟩ := hl
  have nL₀ : h₀.get? L = none := kts_self F
  obtain ⟨oL, es, ep, hLg, hLd, hLk, hLf⟩ := FG.ns
  obtain ⟨sl, hs⟩ := T'.up hLg
  have only : ∀ b, b ∈ [env].filterMap (·.frame) → b = L := fun b hb => by
    obtain ⟨env', he, hf'⟩ := List.mem_filterMap.mp hb
    rw [List.mem_singleton.mp he, hf] at hf'
    exact (Option.some.inj hf').symm
  refine k ⟨⟨{ oL with slots := sl }, es, ep, F'.keep _ _ hs, hLd, hLk, hLf⟩, fun b o e => F'.keep b o (T'.other b o (st b o e) (fun q => by
    rw [only b q, nL₀] at e
    cases e)), F.above⟩ fun p hp => ⟨(N' p hp).1, fun q => ?_, ?_⟩
  · have := (N' p hp).2.2; rw [q, hs] at this; cases this
  · cases q : h₀.get? p.1 with
    | none => rfl
    | some o =>
      obtain ⟨sl', hs'⟩ := T'.up (st _ _ q)
      have := (N' p hp).2.2
      rw [hs'] at this
      cases this
end
end XC
end
section
theorem rowsGet1 : True := by
  k_with_none
  k_with "pen_at" => focus (first | with_reducible assumption | (refine' PenAt.head ?_ ?_ ?_; (rotate_right 3; (focus (first | with_reducible assumption | k_ne)); (focus (k_all)); (focus (k_all)))) | (refine' PenAt.tail ?_ ?_ ?_; (rotate_right 1; (focus (walk_at "pen_at"))); (rotate_right 2; (focus (k_ne)); (focus (k_ne)))))
  k_with "room" => focus (first | lia | (dsimp only [ktrTop, Around.deeper]; lia))
  k_with "enterC" => focus ((refine' code_defC ?_ ?_ ?_ ?_ ?_ ?_ ?_ ?_ ?_ ?_ ?_ ?_ ?_ ?_ ?_ ?_ ?_ ?_; (rotate_right 13; (focus (exact rfl)); (focus (exact rfl)); (focus (first | exact rfl | assumption)); rotate_left 10); (rotate_right 15; (focus (k_asm)); (focus (k_asm)); (focus (k_asm)); (focus (k_asm)); (focus (k_asm)); (focus (k_is)); (focus (k_is)); (focus (k_room)); (focus (exact BindsTo.of_eq rfl)); (focus (exact rfl)); (focus (decide +kernel)); rotate_left 4); (rotate_right 3; (focus (exact rfl)); (focus (exact rfl)); (focus (exact rfl))); k_whole; intro g' L' h' tk' cells' FG' F' N' Y' B' X' T' l1; (try k_lt l1); k_cells Y'; (try simp only [List.cons_append, List.nil_append] at N'); (try dsimp only); (try k_lift B'); (try k_fold)))
  k_with "eval Name" => focus ((k_here; (with_reducible show wpAny _ _ (eval (Expr.Name _ _) (compEnvC _ _ _ _)) _ _ _); k_dflt (first | (refine' lcf_cell ?_ ?_ ?_ ?_ ?_ ?_ ?_; (rotate_right 1; (focus (rfl))); (rotate_right 1; (focus (rfl))); (rotate_right 5; (focus (k_asm)); (focus (rfl)); (focus (k_mem)); (focus (k_asm)); rotate_left 1); k_whole) | (refine' lcf_free ?_ ?_ ?_ ?_ ?_ ?_ ?_; (rotate_right 1; (focus (rfl))); (rotate_right 1; (focus (rfl))); (rotate_right 5; (focus (k_asm)); (focus (rfl)); (focus (k_mem)); (focus (k_asm)); rotate_left 1); k_whole) | refine LCgL.ld_global (by k_asm) (by k_asm) (by k_asm) (by k_is) ?_)))
  k_with "exec For Name Name cons nil" => focus ((k_here; (rename Fr _ _ _ _ => lF'); (with_unfolding_all refine' For_invVF lF' ?_ ?_ ?_; (rotate_right 3; (focus (exact rfl)); (focus (exact rfl)); rotate_left 1); k_whole)))
  k_with "exec For Name Call cons nil" => focus ((k_here; (rename Fr _ _ _ _ => lF'); (with_unfolding_all refine' For_invVF lF' ?_ ?_ ?_; (rotate_right 3; (focus (exact rfl)); (focus (exact rfl)); rotate_left 1); k_whole)))
  trivial
namespace XC
open Builtin Builtin.ObjectAttr
set_option maxRecDepth 100000
theorem ga_kind : builtinKind "BaseException.__getattribute__" = some .slot := by decide +kernel
theorem ga_split : splitId "BaseException.__getattribute__" = some ("BaseException", "__getattribute__") := by decide +kernel
section
variable {prog : Program} {w : World} {A : Around} {E : Value → Shared → Prop} {s : Shared} {K : Frag} {x C : Addr} {ox : Obj} {od : Option Obj} {name : PySem.Str} {v : Value} {expr : Bool} {Q : Value → Shared → Prop}
theorem ga_entry {tk : Tok} {Q : PySem.Fin → Shared → Prop} (X : K.In s.heap) (I : InstAt s.heap x ox C od) (hf : findObj K C od name = some (.value v)) (h : Q (.done (.ret v)) s) : wpAny (model prog w) A (Builtin.«object.__getattribute__» ⟨[.ref x, .str name tk], []⟩) Q E s := by
  have L0 := I.type (M := model prog w)
  have L1 := looks_find (M := model prog w) X I hf
  refine wpAny_bind (wpAny_pure (wpAny_bind (wpAny_pure (wpAny_bind (L0.here (wpAny_bind (L1.here ?_)))))))
  exact wpAny_pure h
theorem get_exc (X : K.In s.heap) (I : InstAt s.heap x ox C od) (hga : findIn K (.ref C) "__getattribute__" = some (some (.builtin "BaseException.__getattribute__"))) (hg : findIn K (.ref C) "__getattr__" = some none)
    (hf : findObj K C od name = some (.value v)) (hsub : mroIn K C (.type "BaseException") = some true) (hh : handedIn v = true) (h : Q v { s with toks := s.toks + 1 }) : wpAny (model prog w) A (getAttr (.ref x) name expr) Q E s := by
  have hx0 : (expr && onTheHeap (Value.builtin "BaseException.__getattribute__")) = false := by cases expr <;> rfl
  have hx2 : (Value.builtin "BaseException.__getattribute__" == Value.builtin "object.__getattribute__") = false := by decide +kernel
  have hx1 : (onTheHeap (Value.ref C) && Value.builtin "BaseException.__getattribute__" == Value.builtin "object.__getattribute__") = false := by rw [hx2]; rfl
  have f3 := PySem.F.attr_Exception.ga.bind (.ref x)
  unfold getAttr getAttrBy
  refine wpAny_bind (wpAny_mkText (wpAny_holding (wpAny_bind (Looks.here (s := { s with toks := s.toks + 1 }) I.type (wpAny_bind (Looks.here (s := { s with toks := s.toks + 1 }) (looks_findIn X hga) ?_))))))
  dsimp only
  rw [hx1, if_neg Bool.false_ne_true]
  unfold getAttrByItsOwn
  refine wpAny_bind ?_
  show wpAny _ _ (if onTheHeap (Value.ref C) = true then typeLookup (.ref C) "__getattr__" else pure none) _ _ _
  rw [if_pos (show onTheHeap (Value.ref C) = true from rfl)]
  refine Looks.here (s := { s with toks := s.toks + 1 }) (looks_findIn X hg) ?_
  refine wpAny_bind (wpAny_attempt (wpAny_holding ?_))
  unfold callGetattribute
  rw [hx0, if_neg Bool.false_ne_true]
  unfold boundAndCalled
  rw [f3]
  refine wpAny_bind (wpAny_pure ?_)
  have sub : Looks (model prog w) s.heap (isInstance (.ref x) (.type "BaseException")) true := I.type.andThen (looks_mroIn X hsub)
  refine wpAny_call (codeAny_call_builtin PySem.F.attr_Exception.ga.plain PySem.F.entry_bexc_ga (@check_slot (model prog w) _ _ { s with toks := s.toks + 1 } "BaseException.__getattribute__" "BaseException" "__getattribute__" (.ref x) [.str name s.toks] [] _ ga_kind ga_split sub (PySem.F.args_bexc_ga _ _) ?_))
  refine ga_entry (s := { s with toks := s.toks + 1 }) X I hf ?_
  show wpAny _ _ (handedOut v) _ _ _
  rw [handedOut_of hh]
  exact wpAny_pure h
end
end XC
end
section
theorem rowsFind1 : True := by
  k_with_none
  k_with "pen_at" => focus (first | with_reducible assumption | (refine' PenAt.head ?_ ?_ ?_; (rotate_right 3; (focus (first | with_reducible assumption | k_ne)); (focus (k_all)); (focus (k_all)))) | (refine' PenAt.tail ?_ ?_ ?_; (rotate_right 1; (focus (walk_at "pen_at"))); (rotate_right 2; (focus (k_ne)); (focus (k_ne)))))
  k_with "room" => focus (first | lia | (dsimp only [ktrTop, Around.deeper]; lia))
  k_with "enterC" => focus ((refine' code_defC ?_ ?_ ?_ ?_ ?_ ?_ ?_ ?_ ?_ ?_ ?_ ?_ ?_ ?_ ?_ ?_ ?_ ?_; (rotate_right 13; (focus (exact rfl)); (focus (exact rfl)); (focus (first | exact rfl | assumption)); rotate_left 10); (rotate_right 15; (focus (k_asm)); (focus (k_asm)); (focus (k_asm)); (focus (k_asm)); (focus (k_asm)); (focus (k_is)); (focus (k_is)); (focus (k_room)); (focus (exact BindsTo.of_eq rfl)); (focus (exact rfl)); (focus (decide +kernel)); rotate_left 4); (rotate_right 3; (focus (exact rfl)); (focus (exact rfl)); (focus (exact rfl))); k_whole; intro g' L' h' tk' cells' FG' F' N' Y' B' X' T' l1; (try k_lt l1); k_cells Y'; (try simp only [List.cons_append, List.nil_append] at N'); (try dsimp only); (try k_lift B'); (try k_fold)))
  k_with "eval Name" => focus ((k_here; (with_reducible show wpAny _ _ (eval (Expr.Name _ _) (compEnvC _ _ _ _)) _ _ _); k_dflt (first | (refine' lcf_cell ?_ ?_ ?_ ?_ ?_ ?_ ?_; (rotate_right 1; (focus (rfl))); (rotate_right 1; (focus (rfl))); (rotate_right 5; (focus (k_asm)); (focus (rfl)); (focus (k_mem)); (focus (k_asm)); rotate_left 1); k_whole) | (refine' lcf_free ?_ ?_ ?_ ?_ ?_ ?_ ?_; (rotate_right 1; (focus (rfl))); (rotate_right 1; (focus (rfl))); (rotate_right 5; (focus (k_asm)); (focus (rfl)); (focus (k_mem)); (focus (k_asm)); rotate_left 1); k_whole) | refine LCgL.ld_global (by k_asm) (by k_asm) (by k_asm) (by k_is) ?_)))
  k_with "exec For Name Name cons nil" => focus ((k_here; (rename Fr _ _ _ _ => lF'); (with_unfolding_all refine' For_invVF lF' ?_ ?_ ?_; (rotate_right 3; (focus (exact rfl)); (focus (exact rfl)); rotate_left 1); k_whole)))
  k_with "exec For Name Call cons nil" => focus ((k_here; (rename Fr _ _ _ _ => lF'); (with_unfolding_all refine' For_invVF lF' ?_ ?_ ?_; (rotate_right 3; (focus (exact rfl)); (focus (exact rfl)); rotate_left 1); k_whole)))
  k_with "WIf" => focus (first | (refine WIf.yes rfl ?_) | (refine WIf.no rfl ?_) | (refine WIf.dec ?_ ?_ <;> intro))
  trivial
noncomputable abbrev wordS : Array UInt8 := #[115, 116, 97, 114, 116, 120, 114, 101, 102]
noncomputable abbrev fspW (b : Array UInt8) (ks : List Int) : Int := BY.rfd b wordS + (wordS.size : Int) + skipW (ks.drop (BY.rfd b wordS + (wordS.size : Int)).toNat) false
noncomputable abbrev fspF (b : Array UInt8) (ks : List Int) : List Int := figs (ks.drop (fspW b ks).toNat)
noncomputable def fsp (b : Array UInt8) (ks : List Int) : Option Int × Int :=
  if BY.rfd b wordS < 0 then (none, -1)
  else if 0 < (fspF b ks).length ∧ (fspF b ks).length ≤ 20 then (if (ks.length : Int) ≤ dval 0 (fspF b ks) then (none, fspW b ks) else (some (dval 0 (fspF b ks)), 0)) else (none, fspW b ks)
section
variable {b : Array UInt8} {ks : List Int}
theorem fsp_0 (h : BY.rfd b wordS < 0) : fsp b ks = (none, -1) := by
  unfold fsp
  rw [if_pos h]
theorem fsp_1 (h : ¬ BY.rfd b wordS < 0) (h1 : ¬ (0 < (fspF b ks).length ∧ (fspF b ks).length ≤ 20)) : fsp b ks = (none, fspW b ks) := by
  unfold fsp
  rw [if_neg h, if_neg h1]
theorem fsp_2 (h : ¬ BY.rfd b wordS < 0) (h1 : 0 < (fspF b ks).length) (h2 : (fspF b ks).length ≤ 20) (h3 : (ks.length : Int) ≤ dval 0 (fspF b ks)) : fsp b ks = (none, fspW b ks) := by
  unfold fsp
  rw [if_neg h, if_pos ⟨h1, h2⟩, if_pos h3]
theorem fsp_3 (h : ¬ BY.rfd b wordS < 0) (h1 : 0 < (fspF b ks).length) (h2 : (fspF b ks).length ≤ 20) (h3 : ¬ (ks.length : Int) ≤ dval 0 (fspF b ks)) : fsp b ks = (some (dval 0 (fspF b ks)), 0) := by
  unfold fsp
  rw [if_neg h, if_pos ⟨h1, h2⟩, if_neg h3]
end
noncomputable abbrev xcD (w : World) (wh : Str) (at_ : Int) (t1 t2 t3 ta : Tok) : Obj :=
  dictOf [⟨PyData.keyHash w.params (Str.ofString "what"), .str (Str.ofString "what") t1, .str wh t2⟩, ⟨PyData.keyHash w.params (Str.ofString "at"), .str (Str.ofString "at") t3, .int at_ ta⟩] 2
theorem ne_of_lt_all {e : Nat} {q : Addr × Obj} {l : List (Addr × Obj)} (h1 : q.1 ≠ e) (h2 : ∀ p ∈ l, p.1 ≠ e) : ∀ p ∈ q :: l, p.1 ≠ e := fun p hp => by
  rcases List.mem_cons.mp hp with rfl | hp
  · exact h1
  · exact h2 p hp
theorem mem_of_two {q : Addr × Obj} {l l' : List (Addr × Obj)} (h1 : q ∈ l') (h2 : ∀ p ∈ l, p ∈ l') : ∀ p ∈ q :: l, p ∈ l' := fun p hp => by
  rcases List.mem_cons.mp hp with rfl | hp
  · exact h1
  · exact h2 p hp
theorem meta_exc : typeOf (.type "Exception") = pure (.type "type") := by kernel_rfl
theorem rowsFind2 : True := by
  k_with "getMethod type:Exception" => focus ((k_here; refine' method_type ?_ ?_ ?_ (by decide +kernel) ?_ ?_ ?_; (rotate_right 6; (focus (k_asm)); (focus (k_asm)); (focus (exact meta_exc)); (focus (k_dflt k_is)); (focus (k_handed)); rotate_left 1)))
  k_with "getMethod bytes" => focus ((k_here; (with_reducible refine BY.method_rfind ?_)))
  k_with "call builtin:bytes.rfind" => focus ((k_here; k_dflt (refine BY.rfind ?_ ?_; (rotate_right 2; (focus (lia)); rotate_left 1)); intro t9 k9))
  k_with "call ref" => focus (((with_reducible show wpAny _ _ (call (Value.ref 87) _) _ _ _); k_dflt (refine' skip_ok ?_ ?_ ?_ ?_ ?_ ?_ ?_ ?_ ?_ ?_ ?_ ?_ ?_ ?_ ?_; (rotate_right 15; (focus (k_asm)); (focus (k_asm)); (focus (k_asm)); (focus (k_asm)); (focus (k_asm)); (focus (first | exact rfl | assumption)); (focus (assumption)); (focus (assumption)); (focus (first | assumption | exact allLt_of (by assumption))); (focus (assumption)); (focus (rfl)); (focus (lia)); (focus (walk_at "room")); (focus (walk_at "room")); rotate_left 1)); intro t9 h' tk9 F' N'; (try dsimp only at N'); (try k_sweep)))
  k_with "call ref" => focus (((with_reducible show wpAny _ _ (call (Value.ref 115) _) _ _ _); k_dflt (refine' num_ok ?_ ?_ ?_ ?_ ?_ ?_ ?_ ?_ ?_ ?_ ?_ ?_ ?_ ?_ ?_ ?_; (rotate_right 16; (focus (k_asm)); (focus (k_asm)); (focus (k_asm)); (focus (k_asm)); (focus (k_asm)); (focus (first | exact rfl | assumption)); (focus (assumption)); (focus (assumption)); (focus (first | assumption | exact allLt_of (by assumption))); (focus (assumption)); (focus (rfl)); (focus (lia)); (focus (walk_at "room")); (focus (walk_at "room")); rotate_left 2)); all_goals intros; all_goals (try k_sweep)))
  k_with "exec Raise some none" => focus ((k_here; k_dflt (refine XC.Raise_C ?_ ?_; (rotate_right 2; (focus (exact rfl)); rotate_left 1))))
  k_with "call ref" => focus (((with_reducible show wpAny _ _ (call (Value.ref 174) _) _ _ _); k_dflt (refine' XC.call_led PySem.F.excBase_Exception ?_ ?_ ?_ ?_ ?_ ?_ ?_ ?_ ?_ ?_ ?_; (rotate_right 11; (focus (k_asm)); (focus (k_asm)); (focus (k_asm)); (focus (k_is)); (focus (decide +kernel)); (focus (decide +kernel)); (focus (decide +kernel)); (focus (k_is)); (focus (k_is)); rotate_left 2); (rotate_right 1; (focus ((rw [sizeLine_eq]; exact Nat.le_of_ble_eq_true rfl))))); intro t9 e9 h' F' N' l8 l9; (try k_lt l8); (try k_lt l9)))
  k_with "call builtin:Exception.__init__" => focus ((k_here; (k_dflt (refine' XC.init_led PySem.F.excBase_Exception ?_ ?_ ?_ ?_ ?_ ?_ ?_ ?_; (rotate_right 8; (focus (k_asm)); (focus (k_asm)); (focus (k_asm)); rotate_left 5); (rotate_right 3; (focus (k_updF)); rotate_left 2); (rotate_right 4; (focus (k_is)); (focus (decide +kernel)); rotate_left 2); (rotate_right 1; (focus ((rw [sizeLine_eq]; exact Nat.le_of_ble_eq_true rfl)))))); intro t9 h' F' N' l8; (try k_lt l8); (try dsimp only at N'); (try k_sweep)))
  k_with "setAttr ref" => focus ((k_here; k_dflt (refine' XC.set_exc1 ?_ ?_ ?_ ?_ ?_ ?_ ?_ ?_ ?_ ?_ ?_ ?_ ?_ ?_ ?_; (rotate_right 15; (focus (k_asm)); (focus (k_asm)); (focus (k_asm)); (focus (k_mem)); (focus (k_mem)); (focus (k_is)); (focus (k_is)); (focus (decide +kernel)); (focus (k_is)); (focus (k_is)); (focus (exact rfl)); (focus (k_put)); (focus (k_upd)); (focus (exact Nat.le_of_ble_eq_true rfl)); rotate_left 1)); intro h' F' N'; (try k_sweep)))
  k_with "setAttr ref" => focus ((k_here; (k_dflt (refine' XC.set_exc0 ?_ ?_ ?_ ?_ ?_ ?_ ?_ ?_ ?_ ?_; (rotate_right 10; (focus (k_asm)); (focus (k_asm)); (focus (k_asm)); (focus (k_updF)); (focus (k_is)); (focus (k_is)); (focus (decide +kernel)); (focus (k_is)); (focus (k_is)); rotate_left 1))); intro D9 h' F' N' l8; (try dsimp only at N'); (try k_lt l8); (try k_sweep)))
  trivial
set_option maxRecDepth 100000 in
set_option maxHeartbeats 8000000 in
theorem find_ok {w : World} {mean : ExcName → Option Value} {mg mb : Str → Option Value} {dp un : Nat} {gd : Option (List Code)} {cn : Str} {cs : Scope} {a : Addr} {ccd : Value} {cl : List (Str × Addr)} {outer : List Env} {A₀ : Around} {base h₀ : Heap} {L : Addr} {m : Str → Option Value} {s : Shared}
    {Q E : Value → Shared → Prop} {b : Array UInt8} {tb : Tok} {ks : List Int} {rest : List (Addr × Obj)}
    (B : Below A₀ base outer h₀) (F : Fr h₀ L s.heap m) (X : (Mine.hd.heap_1 w.params).In h₀) (N : News h₀ L s.heap rest)
    (T : Top Mine.hd.view_1 (looseW Mine.hd.view_1 [Str.ofString "PaperError"]) mean mg mb h₀) (hk : cs.kind = .function)
    (hks : KBw.bInts b = ks) (hz : ks.length ≤ 1000) (hz' : (b.size : Int) = ks.length) (hd : dp < 360) (hu : un < 360)
    (hret : ∀ (n : Int) (t : Tok) h' tk', fsp b ks = (some n, 0) → Fr h₀ L h' m → News h₀ L h' rest → Q (.int n t) { s with heap := h', toks := tk' })
    (hexc : ∀ (e dx : Nat) (wh : Str) (at_ : Int) (t1 t2 t3 ta : Tok) g h' tk', fsp b ks = (none, at_) → Fr h₀ L g m → XC.RaisedD base g (envX cn cs L a ccd cl :: outer) e (.ref 174) dx ((dx, xcD w wh at_ t1 t2 t3 ta) :: rest) h' → g.UpToSlots h' → E (.ref e) { s with heap := h', toks := tk' }) :
    wpAny (model PySem.Challenge.rw_nn0202_01.row.prog w) (ktrTop dp un gd cn cs L a ccd cl outer) (call (.ref 237) [.bytes b tb]) Q E s := by
  revert X
  k_fill
  intro X
  refine wpAny_call ?_
  k_dflt cell_enter
  k_steps
  all_goals first
    | (refine' XC.RaisableC.intro ?F ?X ?N ?he ?C ?hB ?_; (case F => k_asm); (case X => k_asm); (case N => k_asm); (case he => k_mem); (case C => k_is); (case hB => decide +kernel)
       show wpAny _ _ (leaving _ _) _ _ _
       refine' XC.leave_raiseD (news' := (_, xcD w _ _ _ _ _ _) :: rest) ?K ?F ?N ?he ?hn ?hne ?_; (case K => assumption); (case F => k_asm); (case N => k_asm); (case he => k_mem); (case hn => (refine mem_of_two ?_ ?_; k_mem; kcj_all)); (case hne => (refine ne_of_lt_all ?_ ?_; k_ne; k_all))
       intro h' R' U'
       refine' hexc _ _ _ _ _ _ _ _ _ _ _ ?fs ?F R' U'
       (case F => k_asm)
       (case fs => first | exact fsp_0 (by assumption) | exact fsp_1 (by assumption) (by assumption) | exact fsp_2 (by assumption) (by assumption) (by assumption) (by assumption)))
    | (refine' hret _ _ _ _ ?fs ?F ?N; (case F => k_asm); (case N => first | k_asm | exact News.tail' (by assumption) | exact News.tail' (News.tail' (by assumption))); (case fs => exact fsp_3 (by assumption) (by assumption) (by assumption) (by assumption)))
end
section
theorem rowsHeard1 : True := by
  k_with_none
  k_with "pen_at" => focus (first | with_reducible assumption | (refine' PenAt.head ?_ ?_ ?_; (rotate_right 3; (focus (first | with_reducible assumption | k_ne)); (focus (k_all)); (focus (k_all)))) | (refine' PenAt.tail ?_ ?_ ?_; (rotate_right 1; (focus (walk_at "pen_at"))); (rotate_right 2; (focus (k_ne)); (focus (k_ne)))))
  k_with "room" => focus (first | lia | (dsimp only [ktrTop, Around.deeper]; lia))
  k_with "enterC" => focus ((refine' code_defC ?_ ?_ ?_ ?_ ?_ ?_ ?_ ?_ ?_ ?_ ?_ ?_ ?_ ?_ ?_ ?_ ?_ ?_; (rotate_right 13; (focus (exact rfl)); (focus (exact rfl)); (focus (first | exact rfl | assumption)); rotate_left 10); (rotate_right 15; (focus (k_asm)); (focus (k_asm)); (focus (k_asm)); (focus (k_asm)); (focus (k_asm)); (focus (k_is)); (focus (k_is)); (focus (k_room)); (focus (exact BindsTo.of_eq rfl)); (focus (exact rfl)); (focus (decide +kernel)); rotate_left 4); (rotate_right 3; (focus (exact rfl)); (focus (exact rfl)); (focus (exact rfl))); k_whole; intro g' L' h' tk' cells' FG' F' N' Y' B' X' T' l1; (try k_lt l1); k_cells Y'; (try simp only [List.cons_append, List.nil_append] at N'); (try dsimp only); (try k_lift B'); (try k_fold)))
  k_with "eval Name" => focus ((k_here; (with_reducible show wpAny _ _ (eval (Expr.Name _ _) (compEnvC _ _ _ _)) _ _ _); k_dflt (first | (refine' lcf_cell ?_ ?_ ?_ ?_ ?_ ?_ ?_; (rotate_right 1; (focus (rfl))); (rotate_right 1; (focus (rfl))); (rotate_right 5; (focus (k_asm)); (focus (rfl)); (focus (k_mem)); (focus (k_asm)); rotate_left 1); k_whole) | (refine' lcf_free ?_ ?_ ?_ ?_ ?_ ?_ ?_; (rotate_right 1; (focus (rfl))); (rotate_right 1; (focus (rfl))); (rotate_right 5; (focus (k_asm)); (focus (rfl)); (focus (k_mem)); (focus (k_asm)); rotate_left 1); k_whole) | refine LCgL.ld_global (by k_asm) (by k_asm) (by k_asm) (by k_is) ?_)))
  k_with "exec For Name Name cons nil" => focus ((k_here; (rename Fr _ _ _ _ => lF'); (with_unfolding_all refine' For_invVF lF' ?_ ?_ ?_; (rotate_right 3; (focus (exact rfl)); (focus (exact rfl)); rotate_left 1); k_whole)))
  k_with "exec For Name Call cons nil" => focus ((k_here; (rename Fr _ _ _ _ => lF'); (with_unfolding_all refine' For_invVF lF' ?_ ?_ ?_; (rotate_right 3; (focus (exact rfl)); (focus (exact rfl)); rotate_left 1); k_whole)))
  k_with "WIf" => focus (first | (refine WIf.yes rfl ?_) | (refine WIf.no rfl ?_) | (refine WIf.dec ?_ ?_ <;> intro))
  trivial
noncomputable def OptV (v : Value) : Option Int → Prop
  | none => v = .none
  | some n => ∃ t, v = .int n t
theorem get_excD {prog : Program} {w : World} {A : Around} {E : Value → Shared → Prop} {s : Shared} {K : Frag} {C L : Addr} {h₀ : Heap} {m : Str → Option Value} {news : List (Addr × Obj)} {e dx : Addr} {oe : Obj} {vs : Array Value} {es : List DictEntry} {n : Nat} {name : Str} {v : Value} {expr : Bool} {Q : Value → Shared → Prop}
    (F : Fr h₀ L s.heap m) (X₀ : K.In h₀) (N : News h₀ L s.heap news) (c1 : oe.cls = .ref C) (c2 : oe.dict = some dx) (c3 : oe.data = .fields vs) (he : (e, oe) ∈ news) (hdx : (dx, dictOf es n) ∈ news)
    (hga : findIn K (.ref C) "__getattribute__" = some (some (.builtin "BaseException.__getattribute__"))) (hg : findIn K (.ref C) "__getattr__" = some none) (hh : hasDictIn K C = true) (ha : findIn K (.ref C) name = some none)
    (hsub : mroIn K C (.type "BaseException") = some true) (hl : getL name es = some (some v)) (hv : handedIn v = true) (h : Q v { s with toks := s.toks + 1 }) : wpAny (model prog w) A (getAttr (.ref e) name expr) Q E s := by
  have I : W.InstAt s.heap e oe C (some (dictOf es n)) := ⟨(N _ he).1, c1, by unfold notCls; rw [c3], by rw [c2]; exact (N _ hdx).1⟩
  exact XC.get_exc (X₀.keeps F.keep) I hga hg (findObj_own hh ha rfl hl) hsub hv h
theorem rowsHeard2 : True := by
  k_with "getAttr ref" => focus ((k_here; k_dflt (refine' get_excD ?_ ?_ ?_ ?_ ?_ ?_ ?_ ?_ ?_ ?_ ?_ ?_ ?_ ?_ ?_ ?_; (rotate_right 16; (focus (k_asm)); (focus (k_asm)); (focus (k_asm)); (focus (assumption)); (focus (assumption)); (focus (assumption)); (focus (k_mem)); (focus (k_mem)); (focus (k_is)); (focus (k_is)); (focus (k_is)); (focus (k_is)); (focus (k_is)); (focus (k_get)); (focus (exact rfl)); rotate_left 1))))
  k_with "call ref" => focus (((with_reducible show wpAny _ _ (call (Value.ref 237) _) _ _ _); k_dflt (refine' find_ok ?_ ?_ ?_ ?_ ?_ ?_ ?_ ?_ ?_ ?_ ?_ ?_ ?_; (rotate_right 13; (focus (k_asm)); (focus (k_asm)); (focus (k_asm)); (focus (k_asm)); (focus (k_asm)); (focus (first | exact rfl | assumption)); (focus (assumption)); (focus (assumption)); (focus (assumption)); (focus (walk_at "room")); (focus (walk_at "room")); rotate_left 2)); all_goals intros; all_goals (try k_sweep)))
  k_with "noteFrame ref" => focus ((k_here; k_dflt (refine' XC.caughtD ?_ ?_ ?_ ?_ ?_ ?_ ?_ ?_ ?_ ?_; (rotate_right 10; (focus (assumption)); (focus (assumption)); (focus (assumption)); (focus (assumption)); (focus (assumption)); (focus (assumption)); (focus (exact KtsTurn.refl)); (focus (k_is)); (focus (kts_isx)); rotate_left 1)); intro h' g' oe vs tk' T9 c1 c2 c3 F' N' K' X' P'; (try k_lift K'); (try k_sweep)))
  trivial
set_option maxRecDepth 100000 in
set_option maxHeartbeats 8000000 in
theorem heard_ok {w : World} {mean : ExcName → Option Value} {mg mb : Str → Option Value} {dp un : Nat} {gd : Option (List Code)} {cn : Str} {cs : Scope} {a : Addr} {ccd : Value} {cl : List (Str × Addr)} {A₀ : Around} {base h₀ : Heap} {L : Addr} {m : Str → Option Value} {s : Shared}
    {Q E : Value → Shared → Prop} {b : Array UInt8} {tb : Tok} {ks : List Int} {rest : List (Addr × Obj)}
    (B : Below A₀ base [] h₀) (F : Fr h₀ L s.heap m) (X : (Mine.hd.heap_1 w.params).In h₀) (N : News h₀ L s.heap rest)
    (T : Top Mine.hd.view_1 (looseW Mine.hd.view_1 [Str.ofString "PaperError"]) mean mg mb h₀) (XB : (Mine.hd.heap_1 w.params).In base) (TB : Top Mine.hd.view_1 (looseW Mine.hd.view_1 [Str.ofString "PaperError"]) mean mg mb base) (hk : cs.kind = .function)
    (hks : KBw.bInts b = ks) (hz : ks.length ≤ 1000) (hz' : (b.size : Int) = ks.length) (hd : dp < 350) (hu : un < 350)
    (hret : ∀ (R : Nat) (v : Value) (k : Int) (t : Tok) h' tk', OptV v (fsp b ks).1 → k = (fsp b ks).2 → Fr h₀ L h' m → News h₀ L h' ((R, tupO [v, .int k t]) :: rest) → AllLt R rest → Q (.ref R) { s with heap := h', toks := tk' }) :
    wpAny (model PySem.Challenge.rw_nn0202_01.row.prog w) (ktrTop dp un gd cn cs L a ccd cl []) (call (.ref 294) [.bytes b tb]) Q E s := by
  revert X
  k_fill
  intro X
  refine wpAny_call ?_
  k_dflt (refine' XC.code_turn ?k1 ?k2 ?k3 ?k4 ?k5 ?kA ?kF ?kK ?k6 ?k7 ?k8 ?k9 ?kB ?_ ?c2 ?c3 ?c4 ?c5; (case kA => exact rfl); (case kF => exact rfl); (case kK => assumption); (case k1 => k_asm); (case k2 => k_asm); (case k3 => k_asm); (case k4 => k_asm); (case k5 => k_asm); (case k6 => k_is); (case k7 => k_is); (case k8 => ktr_room); (case k9 => exact BindsTo.of_eq rfl); (case c5 => decide); (case kB => exact locs rfl); (case c2 => exact rfl); (case c3 => exact rfl); (case c4 => exact rfl); k_whole; intro g' L' h' FG' F' N' B' X' T'; (try dsimp only); (try k_lift B'); (try k_fold))
  k_steps
  all_goals first
    | (refine' hret _ _ _ _ _ _ ?v ?k ?F ?N ?l; (case F => k_asm); (case N => first | k_asm | exact cb_drop (by assumption) (mem_of_two (by k_mem) (fun p hp => .tail _ (.tail _ (.tail _ hp))))); (case l => first | assumption | exact allLt_of (by assumption) | exact And.right (And.right (by assumption))); (case k => (rename fsp _ _ = _ => e9; rw [e9])); (case v => (rename fsp _ _ = _ => e9; rw [e9]; first | exact rfl | exact ⟨_, rfl⟩)))
end
section
theorem rowsStA1 : True := by
  k_with_none
  k_with "pen_at" => focus (first | with_reducible assumption | (refine' PenAt.head ?_ ?_ ?_; (rotate_right 3; (focus (first | with_reducible assumption | k_ne)); (focus (k_all)); (focus (k_all)))) | (refine' PenAt.tail ?_ ?_ ?_; (rotate_right 1; (focus (walk_at "pen_at"))); (rotate_right 2; (focus (k_ne)); (focus (k_ne)))))
  k_with "room" => focus (first | lia | (dsimp only [ktrTop, Around.deeper]; lia))
  k_with "enterC" => focus ((refine' code_defC ?_ ?_ ?_ ?_ ?_ ?_ ?_ ?_ ?_ ?_ ?_ ?_ ?_ ?_ ?_ ?_ ?_ ?_; (rotate_right 13; (focus (exact rfl)); (focus (exact rfl)); (focus (first | exact rfl | assumption)); rotate_left 10); (rotate_right 15; (focus (k_asm)); (focus (k_asm)); (focus (k_asm)); (focus (k_asm)); (focus (k_asm)); (focus (k_is)); (focus (k_is)); (focus (k_room)); (focus (exact BindsTo.of_eq rfl)); (focus (exact rfl)); (focus (decide +kernel)); rotate_left 4); (rotate_right 3; (focus (exact rfl)); (focus (exact rfl)); (focus (exact rfl))); k_whole; intro g' L' h' tk' cells' FG' F' N' Y' B' X' T' l1; (try k_lt l1); k_cells Y'; (try simp only [List.cons_append, List.nil_append] at N'); (try dsimp only); (try k_lift B'); (try k_fold)))
  k_with "eval Name" => focus ((k_here; (with_reducible show wpAny _ _ (eval (Expr.Name _ _) (compEnvC _ _ _ _)) _ _ _); k_dflt (first | (refine' lcf_cell ?_ ?_ ?_ ?_ ?_ ?_ ?_; (rotate_right 1; (focus (rfl))); (rotate_right 1; (focus (rfl))); (rotate_right 5; (focus (k_asm)); (focus (rfl)); (focus (k_mem)); (focus (k_asm)); rotate_left 1); k_whole) | (refine' lcf_free ?_ ?_ ?_ ?_ ?_ ?_ ?_; (rotate_right 1; (focus (rfl))); (rotate_right 1; (focus (rfl))); (rotate_right 5; (focus (k_asm)); (focus (rfl)); (focus (k_mem)); (focus (k_asm)); rotate_left 1); k_whole) | refine LCgL.ld_global (by k_asm) (by k_asm) (by k_asm) (by k_is) ?_)))
  k_with "exec For Name Name cons nil" => focus ((k_here; (rename Fr _ _ _ _ => lF'); (with_unfolding_all refine' For_invVF lF' ?_ ?_ ?_; (rotate_right 3; (focus (exact rfl)); (focus (exact rfl)); rotate_left 1); k_whole)))
  k_with "exec For Name Call cons nil" => focus ((k_here; (rename Fr _ _ _ _ => lF'); (with_unfolding_all refine' For_invVF lF' ?_ ?_ ?_; (rotate_right 3; (focus (exact rfl)); (focus (exact rfl)); rotate_left 1); k_whole)))
  k_with "WIf" => focus (first | (refine WIf.yes rfl ?_) | (refine WIf.no rfl ?_) | (refine WIf.dec ?_ ?_ <;> intro))
  k_with "eval ListComp" => focus ((k_here; first | (with_reducible refine' ListComp_W ?_ ?_ ?_ ?_ ?_ ?_ ?_ ?_; (rotate_right 8; (focus (k_asm)); (focus (with_unfolding_all rfl)); (focus (decide)); (focus (with_unfolding_all rfl)); (focus (decide)); (focus (with_unfolding_all rfl)); rotate_left 2); (rotate_right 1; (focus ((intro _; with_unfolding_all rfl))))) | (with_reducible refine' ListComp_WT ?_ ?_ ?_ ?_ ?_ ?_ ?_ ?_; (rotate_right 8; (focus (k_asm)); (focus (with_unfolding_all rfl)); (focus (decide)); (focus (with_unfolding_all rfl)); (focus (decide)); (focus (with_unfolding_all rfl)); rotate_left 2); (rotate_right 1; (focus ((intro _; with_unfolding_all rfl)))))))
  k_with "exec Assign cons ListComp" => focus ((k_here; k_dflt (first | refine Assign_ListComp_WT (_F₀ := by k_asm) (by rfl) (by with_unfolding_all rfl) (by with_unfolding_all rfl) (by decide) (by rfl) (by decide) (by rfl) (by rfl) (by rfl) ?_ | refine Assign_ListComp_W (_F₀ := by k_asm) (by rfl) (by with_unfolding_all rfl) (by with_unfolding_all rfl) (by decide) (by rfl) (by decide) (by rfl) (by rfl) (by rfl) ?_ | refine wpAny_Assign_Name ?_)))
  trivial
section
variable {prog : Program} {w : World} {A : Around} {E : Value → Shared → Prop} {s : Shared} {h₀ : Heap} {L : Addr}
theorem last_led {value slice : PySem.Expr} {sa : Addr} {vs : List Value} {n : Nat} {t : Tok} {v : Value} {news : List (Addr × Obj)} {Q : Value → Shared → Prop} (N : News h₀ L s.heap news) (hm : (sa, listOf vs.toArray n) ∈ news) (hv : vs.getLast? = some v) (hz : vs.length ≤ 100000)
    (h : Q v s)
    (hs : subscripted slice false (.ref sa) (.int (-1) t) = operate [.ref sa, .int (-1) t] (getItem (.ref sa) (.int (-1) t)) := by with_unfolding_all rfl) : wpAny (model prog w) A (subscriptTail value slice (.ref sa) (.int (-1) t)) Q E s := by
  have hlt : 0 < vs.length := by
    cases vs with
    | nil => simp at hv
    | cons a r => simp
  refine tail_any (News.isList N hm).typeIs slot_list_getitem.lookup (wpAny_getItem_list_neg (News.isList N hm) (by decide) (by simp only [List.size_toArray]; lia) (by decide) ?_ h) hs
  have e : ((-1 : Int) + (vs.toArray.size : Int)).toNat = vs.length - 1 := by simp only [List.size_toArray]; lia
  rw [e]
  rw [List.getLast?_eq_getElem?] at hv
  simpa using hv
end
theorem ints_last {ys : List Value} {ns : List Int} (h : IntsAre ys ns) (hne : decide (ns = []) = false) : ∃ k t, ns.getLast? = some k ∧ ys.getLast? = some (.int k t) ∧ ys.length = ns.length := by
  induction h with
  | nil => simp at hne
  | @cons n t vs ns' h ih =>
    cases h with
    | nil => exact ⟨n, t, rfl, rfl, rfl⟩
    | cons n2 t2 h2 =>
      obtain ⟨k, t', e1, e2, e3⟩ := ih (by simp)
      refine ⟨k, t', ?_, ?_, by simp at e3 ⊢; exact e3⟩
      · rw [List.getLast?_cons_cons]; exact e1
      · rw [List.getLast?_cons_cons]; exact e2
noncomputable def WOut {σ : Type} (h₀ : Heap) (L : Addr) (s₁ : Shared) (M : σ → Str → Option Value) (Led : σ → List (Addr × Obj)) (P : σ → Prop) (s₂ : Shared) : Prop :=
  ∃ (c' : σ) (h' : Heap) (tk : Nat) (m' : Str → Option Value) (news' : List (Addr × Obj)), s₂ = { s₁ with heap := h', toks := tk } ∧ Fr h₀ L h' m' ∧ News h₀ L h' news' ∧ (∀ p ∈ Led c', p ∈ news') ∧ (∀ z, m' z = M c' z) ∧ P c'
theorem WIf.mono {b : Bool} {T T' F F' : Prop} (h : WIf b T F) (h1 : T → T') (h2 : F → F') : WIf b T' F' := by
  cases b with
  | true => exact .yes rfl (h1 (by simpa [WIf] using h))
  | false => exact .no rfl (h2 (by simpa [WIf] using h))
structure S1St where
  at_ : Int
  ta : Tok
  rem : Bool
noncomputable def S1Inv (ks : List Int) (tot lo : Int) (c : S1St) : Prop := lo ≤ c.at_ ∧ 0 ≤ c.at_ ∧ c.at_ + skipW (ks.drop c.at_.toNat) c.rem = tot
structure S2St where
  en : Int
  te : Tok
  o : Obj
noncomputable def S2Inv (ks : List Int) (lo : Int) (c : S2St) : Prop := c.o.data = .cell (some (.int c.en c.te)) ∧ lo ≤ c.en ∧ c.en + (figs (ks.drop c.en.toNat)).length = lo + (figs (ks.drop lo.toNat)).length
section
variable {prog : Program} {w : World} {A : Around} {E : Value → Shared → Prop} {Q : Flow → Shared → Prop} {s : Shared} {env : Env} {h₀ : Heap}
  {test : PySem.Expr} {body : List Stmt} {pos : Pos} {m₀ : Str → Option Value} {at_ : Int} {ta : Tok} {ks : List Int} {news : List (Addr × Obj)}
noncomputable abbrev s1M (m₀ : Str → Option Value) (c : S1St) (z : Str) : Option Value := if z = Str.ofString "is_remark" then some (.bool c.rem) else if z = Str.ofString "at" then some (.int c.at_ c.ta) else m₀ z
theorem st_loop1 {b : Array UInt8} (_hks : KBw.bInts b = ks) (h0 : 0 ≤ at_) (hm1 : m₀ (Str.ofString "at") = some (.int at_ ta)) (hm2 : m₀ (Str.ofString "is_remark") = some (.bool false)) (F : Fr h₀ env.locals s.heap m₀) (N : News h₀ env.locals s.heap news)
    (hE : PassesOwn (model prog w) A env E)
    (turn : ∀ (c : S1St) h tk, S1Inv ks (at_ + skipW (ks.drop at_.toNat) false) at_ c → 0 ≤ c.at_ → Fr h₀ env.locals h (fun z => if z = Str.ofString "is_remark" then some (.bool c.rem) else if z = Str.ofString "at" then some (.int c.at_ c.ta) else m₀ z) → News h₀ env.locals h news →
      wpAny (model prog w) A (isTrue test env (eval test env)) (fun b₁ s₂ => WIf b₁ (wpAny (model prog w) A (execs body env) (WPost h₀ env.locals (s1M m₀) (fun _ => news) (S1Inv ks (at_ + skipW (ks.drop at_.toNat) false) at_) (fun c => ks.length - c.at_.toNat) c { s with heap := h, toks := tk } Q) E s₂) (Halt (WOut h₀ env.locals s (s1M m₀) (fun _ => news) (fun c => c.at_ = at_ + skipW (ks.drop at_.toNat) false) s₂))) E { s with heap := h, toks := tk })
    (done : ∀ (t : Tok) (rem : Bool) h tk, Fr h₀ env.locals h (fun z => if z = Str.ofString "is_remark" then some (.bool rem) else if z = Str.ofString "at" then some (.int (at_ + skipW (ks.drop at_.toNat) false) t) else m₀ z) → News h₀ env.locals h news → Halt (Q .next { s with heap := h, toks := tk })) :
    wpAny (model prog w) A (exec (.While test body [] pos) env) Q E s := by
  refine wl_inv (s1M m₀) (fun _ => news) (S1Inv ks (at_ + skipW (ks.drop at_.toNat) false) at_) (fun c => ks.length - c.at_.toNat) ⟨at_, ta, false⟩ F N ?_ (fun p hp => hp) ⟨Int.le_refl _, h0, rfl⟩ hE ?_
  · intro z
    simp only [s1M]
    by_cases e : z = Str.ofString "is_remark"
    · rw [if_pos e, e, hm2]
    · rw [if_neg e]
      by_cases e' : z = Str.ofString "at"
      · rw [if_pos e', e', hm1]
      · rw [if_neg e']
  · intro c h tk hv F' N'
    refine wpAny_mono (turn c h tk hv hv.2.1 F' N') (fun b₁ s₂ p => ?_) fun _ _ x => x
    refine WIf.mono p (fun x => x) ?_
    rintro ⟨c', h', tk', m', news', rfl, F2, N2, hsub, hm, hc⟩
    have e : m' = s1M m₀ c' := funext hm
    subst e
    have hc' : c'.at_ = at_ + skipW (ks.drop at_.toNat) false := hc
    refine done c'.ta c'.rem h' tk' ?_ (fun p hp => N2 p (hsub p hp))
    rw [← hc']
    exact F2
theorem st_loop2 {ce : Addr} {o₀ : Obj} {te : Tok} {g : Obj → List (Addr × Obj)} {b : Array UInt8} (_hks : KBw.bInts b = ks) (h0 : 0 ≤ at_) (U : UpdF ce o₀ news g) (hd : o₀.data = .cell (some (.int at_ te))) (F : Fr h₀ env.locals s.heap m₀) (N : News h₀ env.locals s.heap news)
    (hE : PassesOwn (model prog w) A env E)
    (turn : ∀ (c : S2St) h tk, S2Inv ks at_ c → c.o.data = .cell (some (.int c.en c.te)) → 0 ≤ c.en → Fr h₀ env.locals h m₀ → News h₀ env.locals h (g c.o) →
      wpAny (model prog w) A (isTrue test env (eval test env)) (fun b₁ s₂ => WIf b₁ (wpAny (model prog w) A (execs body env) (WPost h₀ env.locals (fun _ => m₀) (fun c => g c.o) (S2Inv ks at_) (fun c => ks.length - c.en.toNat) c { s with heap := h, toks := tk } Q) E s₂) (Halt (WOut h₀ env.locals s (fun _ => m₀) (fun c => g c.o) (fun (c : S2St) => c.o.data = .cell (some (.int c.en c.te)) ∧ c.en = at_ + (figs (ks.drop at_.toNat)).length) s₂))) E { s with heap := h, toks := tk })
    (done : ∀ (o : Obj) (t : Tok) h tk, o.data = .cell (some (.int (at_ + (figs (ks.drop at_.toNat)).length) t)) → Fr h₀ env.locals h m₀ → News h₀ env.locals h (g o) → Halt (Q .next { s with heap := h, toks := tk })) :
    wpAny (model prog w) A (exec (.While test body [] pos) env) Q E s := by
  obtain ⟨pre, post, e, hg, _⟩ := U.split
  refine wl_inv (fun _ => m₀) (fun (c : S2St) => g c.o) (S2Inv ks at_) (fun c => ks.length - c.en.toNat) ⟨at_, te, o₀⟩ F N (fun _ => rfl) (fun p hp => by rw [e, ← hg]; exact hp) ⟨hd, Int.le_refl _, rfl⟩ hE ?_
  intro c h tk hv F' N'
  refine wpAny_mono (turn c h tk hv hv.1 (Int.le_trans h0 hv.2.1) F' N') (fun b₁ s₂ p => ?_) fun _ _ x => x
  refine WIf.mono p (fun x => x) ?_
  rintro ⟨c', h', tk', m', news', rfl, F2, N2, hsub, hm, hc⟩
  have e : m' = m₀ := funext hm
  subst e
  obtain ⟨hc1, hc2⟩ := hc
  have hc1' : c'.o.data = .cell (some (.int c'.en c'.te)) := hc1
  have hc2' : c'.en = at_ + (figs (ks.drop at_.toNat)).length := hc2
  rw [hc2'] at hc1'
  exact done c'.o c'.te h' tk' hc1' F2 (fun p hp => N2 p (hsub p hp))
end
end
section
theorem rowsStB1 : True := by
  k_with_none
  k_with "pen_at" => focus (first | with_reducible assumption | (refine' PenAt.head ?_ ?_ ?_; (rotate_right 3; (focus (first | with_reducible assumption | k_ne)); (focus (k_all)); (focus (k_all)))) | (refine' PenAt.tail ?_ ?_ ?_; (rotate_right 1; (focus (walk_at "pen_at"))); (rotate_right 2; (focus (k_ne)); (focus (k_ne)))))
  k_with "room" => focus (first | lia | (dsimp only [ktrTop, Around.deeper]; lia))
  k_with "enterC" => focus ((refine' code_defC ?_ ?_ ?_ ?_ ?_ ?_ ?_ ?_ ?_ ?_ ?_ ?_ ?_ ?_ ?_ ?_ ?_ ?_; (rotate_right 13; (focus (exact rfl)); (focus (exact rfl)); (focus (first | exact rfl | assumption)); rotate_left 10); (rotate_right 15; (focus (k_asm)); (focus (k_asm)); (focus (k_asm)); (focus (k_asm)); (focus (k_asm)); (focus (k_is)); (focus (k_is)); (focus (k_room)); (focus (exact BindsTo.of_eq rfl)); (focus (exact rfl)); (focus (decide +kernel)); rotate_left 4); (rotate_right 3; (focus (exact rfl)); (focus (exact rfl)); (focus (exact rfl))); k_whole; intro g' L' h' tk' cells' FG' F' N' Y' B' X' T' l1; (try k_lt l1); k_cells Y'; (try simp only [List.cons_append, List.nil_append] at N'); (try dsimp only); (try k_lift B'); (try k_fold)))
  k_with "eval Name" => focus ((k_here; (with_reducible show wpAny _ _ (eval (Expr.Name _ _) (compEnvC _ _ _ _)) _ _ _); k_dflt (first | (refine' lcf_cell ?_ ?_ ?_ ?_ ?_ ?_ ?_; (rotate_right 1; (focus (rfl))); (rotate_right 1; (focus (rfl))); (rotate_right 5; (focus (k_asm)); (focus (rfl)); (focus (k_mem)); (focus (k_asm)); rotate_left 1); k_whole) | (refine' lcf_free ?_ ?_ ?_ ?_ ?_ ?_ ?_; (rotate_right 1; (focus (rfl))); (rotate_right 1; (focus (rfl))); (rotate_right 5; (focus (k_asm)); (focus (rfl)); (focus (k_mem)); (focus (k_asm)); rotate_left 1); k_whole) | refine LCgL.ld_global (by k_asm) (by k_asm) (by k_asm) (by k_is) ?_)))
  k_with "exec For Name Name cons nil" => focus ((k_here; (rename Fr _ _ _ _ => lF'); (with_unfolding_all refine' For_invVF lF' ?_ ?_ ?_; (rotate_right 3; (focus (exact rfl)); (focus (exact rfl)); rotate_left 1); k_whole)))
  k_with "exec For Name Call cons nil" => focus ((k_here; (rename Fr _ _ _ _ => lF'); (with_unfolding_all refine' For_invVF lF' ?_ ?_ ?_; (rotate_right 3; (focus (exact rfl)); (focus (exact rfl)); rotate_left 1); k_whole)))
  k_with "WIf" => focus (first | (refine WIf.yes rfl ?_) | (refine WIf.no rfl ?_) | (refine WIf.dec ?_ ?_ <;> intro))
  k_with "eval ListComp" => focus ((k_here; first | (with_reducible refine' ListComp_W ?_ ?_ ?_ ?_ ?_ ?_ ?_ ?_; (rotate_right 8; (focus (k_asm)); (focus (with_unfolding_all rfl)); (focus (decide)); (focus (with_unfolding_all rfl)); (focus (decide)); (focus (with_unfolding_all rfl)); rotate_left 2); (rotate_right 1; (focus ((intro _; with_unfolding_all rfl))))) | (with_reducible refine' ListComp_WT ?_ ?_ ?_ ?_ ?_ ?_ ?_ ?_; (rotate_right 8; (focus (k_asm)); (focus (with_unfolding_all rfl)); (focus (decide)); (focus (with_unfolding_all rfl)); (focus (decide)); (focus (with_unfolding_all rfl)); rotate_left 2); (rotate_right 1; (focus ((intro _; with_unfolding_all rfl)))))))
  k_with "exec Assign cons ListComp" => focus ((k_here; k_dflt (first | refine Assign_ListComp_WT (_F₀ := by k_asm) (by rfl) (by with_unfolding_all rfl) (by with_unfolding_all rfl) (by decide) (by rfl) (by decide) (by rfl) (by rfl) (by rfl) ?_ | refine Assign_ListComp_W (_F₀ := by k_asm) (by rfl) (by with_unfolding_all rfl) (by with_unfolding_all rfl) (by decide) (by rfl) (by decide) (by rfl) (by rfl) (by rfl) ?_ | refine wpAny_Assign_Name ?_)))
  trivial
section
variable {ks : List Int} {tot lo bs : Int} {t : Tok}
theorem s1_turn {c : S1St} {v : Bool} (hz : bs = ks.length) (h : S1Inv ks tot lo c) (hlt : c.at_ < bs) (hr : wstep c.rem (ks.getD c.at_.toNat 0) = some v) :
    S1Inv ks tot lo ⟨c.at_ + 1, t, v⟩ ∧ ks.length - (c.at_ + 1).toNat < ks.length - c.at_.toNat := by
  obtain ⟨a1, a2, a3⟩ := h
  have e : skipW (ks.getD c.at_.toNat 0 :: ks.drop (c.at_ + 1).toNat) c.rem = skipW (ks.drop (c.at_ + 1).toNat) v + 1 := by
    conv => lhs; unfold skipW; rw [hr]
  rw [drop_getD a2 (by lia), e] at a3
  refine ⟨⟨by show lo ≤ c.at_ + 1; lia, by show 0 ≤ c.at_ + 1; lia, ?_⟩, by lia⟩
  show c.at_ + 1 + (skipW (ks.drop (c.at_ + 1).toNat) v : Int) = tot
  lia
theorem ws_37 {r v : Bool} {k : Int} (h : k = 37) (hv : v = true) : wstep r k = some v := by
  subst h hv
  unfold wstep
  rw [if_pos (by simp)]
  simp
theorem ws_rem {r : Bool} {k : Int} (hr : r = true) (h : k ≠ 37) : wstep r k = some (!([10, 13].any fun x => x == k)) := by
  subst hr
  unfold wstep
  rw [if_pos (by simp)]
  have e10 : decide (k = 10) = ((10 : Int) == k) := by
    by_cases e : k = 10
    · subst e; rfl
    · rw [decide_eq_false e]; exact (beq_eq_false_iff_ne.mpr (fun q => e q.symm)).symm
  have e13 : decide (k = 13) = ((13 : Int) == k) := by
    by_cases e : k = 13
    · subst e; rfl
    · rw [decide_eq_false e]; exact (beq_eq_false_iff_ne.mpr (fun q => e q.symm)).symm
  simp only [List.any_cons, List.any_nil, Bool.or_false, decide_eq_false h, Bool.false_or, Bool.true_and, e10, e13]
theorem ws_in {r v : Bool} {k : Int} (hr : r = false) (h : k ≠ 37) (h2 : ([0, 9, 10, 12, 13, 32, 37].any fun x => x == k) = true) (hv : v = false) : wstep r k = some v := by
  subst hr hv
  simp only [List.any_cons, List.any_nil, Bool.or_false, Bool.or_eq_true, beq_iff_eq] at h2
  unfold wstep
  rw [if_pos (by rcases h2 with h | h | h | h | h | h | h <;> simp [← h])]
  simp [h]
theorem ws_out {c : S1St} (hz : bs = ks.length) (h : S1Inv ks tot lo c) (hlt : c.at_ < bs) (hr : c.rem = false) (h2 : ([0, 9, 10, 12, 13, 32, 37].any fun x => x == ks.getD c.at_.toNat 0) = false) : c.at_ = tot := by
  obtain ⟨a1, a2, a3⟩ := h
  rw [drop_getD a2 (by lia), hr] at a3
  have e : skipW (ks.getD c.at_.toNat 0 :: ks.drop (c.at_ + 1).toNat) false = 0 := by
    simp only [List.any_cons, List.any_nil, Bool.or_false, Bool.or_eq_false_iff, beq_eq_false_iff_ne, ne_eq] at h2
    obtain ⟨q0, q1, q2, q3, q4, q5, q6⟩ := h2
    have : wstep false (ks.getD c.at_.toNat 0) = none := by
      unfold wstep
      rw [if_neg]
      rintro (h | h | h | h | h | h | h | h)
      · cases h
      · exact q0 h.symm
      · exact q1 h.symm
      · exact q2 h.symm
      · exact q3 h.symm
      · exact q4 h.symm
      · exact q5 h.symm
      · exact q6 h.symm
    unfold skipW
    rw [this]
  rw [e] at a3
  simpa using a3
theorem ws_past {c : S1St} (hz : bs = ks.length) (h : S1Inv ks tot lo c) (hlt : ¬ c.at_ < bs) : c.at_ = tot := by
  obtain ⟨a1, a2, a3⟩ := h
  rw [drop_past (by lia)] at a3
  simpa [skipW] using a3
theorem fig_step {k : Int} (h0 : 0 ≤ k) (hz : bs = ks.length) (hlt : k < bs) (h1 : 48 ≤ ks.getD k.toNat 0) (h2 : ks.getD k.toNat 0 ≤ 57) : figs (ks.drop k.toNat) = ks.getD k.toNat 0 :: figs (ks.drop (k + 1).toNat) := by
  rw [drop_getD h0 (by lia)]
  unfold figs
  rw [List.takeWhile_cons_of_pos]
  simp only [isFig, decide_eq_true h1, decide_eq_true h2, Bool.and_self]
theorem fig_stop {k : Int} (h0 : 0 ≤ k) (hz : bs = ks.length) (hlt : k < bs) (h1 : ¬ (48 ≤ ks.getD k.toNat 0 ∧ ks.getD k.toNat 0 ≤ 57)) : figs (ks.drop k.toNat) = [] := by
  rw [drop_getD h0 (by lia)]
  unfold figs
  rw [List.takeWhile_cons_of_neg]
  simp only [isFig, Bool.and_eq_true, decide_eq_true_eq]
  exact h1
theorem s2_turn {c : S2St} {o : Obj} (hz : bs = ks.length) (h : S2Inv ks lo c) (h0 : 0 ≤ c.en) (hlt : c.en < bs) (h1 : 48 ≤ ks.getD c.en.toNat 0) (h2 : ks.getD c.en.toNat 0 ≤ 57) (ho : o.data = .cell (some (.int (c.en + 1) t))) :
    S2Inv ks lo ⟨c.en + 1, t, o⟩ ∧ ks.length - (c.en + 1).toNat < ks.length - c.en.toNat := by
  obtain ⟨a1, a2, a3⟩ := h
  rw [fig_step h0 hz hlt h1 h2] at a3
  simp only [List.length_cons] at a3
  refine ⟨⟨ho, by show lo ≤ c.en + 1; lia, ?_⟩, by lia⟩
  show c.en + 1 + ((figs (ks.drop (c.en + 1).toNat)).length : Int) = _
  lia
theorem s2_past {c : S2St} (hz : bs = ks.length) (h : S2Inv ks lo c) (hlt : ¬ c.en < bs) : c.en = lo + (figs (ks.drop lo.toNat)).length := by
  obtain ⟨a1, a2, a3⟩ := h
  rw [drop_past (by lia)] at a3
  simpa [figs] using a3
theorem s2_stop {c : S2St} (hz : bs = ks.length) (h : S2Inv ks lo c) (h0 : 0 ≤ c.en) (hlt : c.en < bs) (h1 : ¬ (48 ≤ ks.getD c.en.toNat 0 ∧ ks.getD c.en.toNat 0 ≤ 57)) : c.en = lo + (figs (ks.drop lo.toNat)).length := by
  obtain ⟨a1, a2, a3⟩ := h
  rw [fig_stop h0 hz hlt h1] at a3
  simpa using a3
end
section
variable {h₀ : Heap} {L : Addr} {Q : Flow → Shared → Prop} {m₀ m' : Str → Option Value} {news news' : List (Addr × Obj)} {t : Tok} {ks : List Int} {tot lo at' : Int} {s₁ : Shared} {h' : Heap} {tk : Nat}
theorem s1_end {c : S1St} {v : Bool} (F : Fr h₀ L h' m') (hm : ∀ z, m' z = s1M m₀ ⟨at', t, v⟩ z) (N : News h₀ L h' news') (h3 : ∀ p ∈ news, p ∈ news')
    (hv : S1Inv ks tot lo ⟨at', t, v⟩ ∧ ks.length - at'.toNat < ks.length - c.at_.toNat) :
    WPost h₀ L (s1M m₀) (fun _ => news) (S1Inv ks tot lo) (fun c => ks.length - c.at_.toNat) c s₁ Q .next { s₁ with heap := h', toks := tk } :=
  WEnd.intro ⟨at', t, v⟩ F N h3 hm hv.1 hv.2
theorem s1_out {c : S1St} (F : Fr h₀ L h' m') (hm : ∀ z, m' z = s1M m₀ c z) (N : News h₀ L h' news') (h3 : ∀ p ∈ news, p ∈ news') (hv : c.at_ = tot) :
    Halt (WOut h₀ L s₁ (s1M m₀) (fun _ => news) (fun c => c.at_ = tot) { s₁ with heap := h', toks := tk }) :=
  ⟨c, h', tk, m', news', rfl, F, N, h3, hm, hv⟩
theorem s1_map {a a0 r r0 : Option Value} : ∀ z, (fun y => if y = Str.ofString "at" then a else if y = Str.ofString "is_remark" then r else if y = Str.ofString "is_remark" then r0 else if y = Str.ofString "at" then a0 else m₀ y) z = if z = Str.ofString "is_remark" then r else if z = Str.ofString "at" then a else m₀ z := by
  intro z
  by_cases e : z = Str.ofString "at"
  · have e2 : ¬ z = Str.ofString "is_remark" := by rw [e]; decide
    simp only [if_pos e, if_neg e2]
  · by_cases e2 : z = Str.ofString "is_remark"
    · simp only [if_neg e, if_pos e2]
    · simp only [if_neg e, if_neg e2]
theorem s2_end {c : S2St} {o : Obj} {Led : S2St → List (Addr × Obj)} (F : Fr h₀ L h' m₀) (N : News h₀ L h' news') (h3 : ∀ p ∈ Led ⟨at', t, o⟩, p ∈ news')
    (hv : S2Inv ks lo ⟨at', t, o⟩ ∧ ks.length - at'.toNat < ks.length - c.en.toNat) :
    WPost h₀ L (fun _ => m₀) Led (S2Inv ks lo) (fun c => ks.length - c.en.toNat) c s₁ Q .next { s₁ with heap := h', toks := tk } :=
  WEnd.intro ⟨at', t, o⟩ F N h3 (fun _ => rfl) hv.1 hv.2
theorem s2_out {c : S2St} {Led : S2St → List (Addr × Obj)} {P : S2St → Prop} (F : Fr h₀ L h' m₀) (N : News h₀ L h' news') (h3 : ∀ p ∈ Led c, p ∈ news') (hv : P c) :
    Halt (WOut h₀ L s₁ (fun _ => m₀) Led P { s₁ with heap := h', toks := tk }) :=
  ⟨c, h', tk, m₀, news', rfl, F, N, h3, fun _ => rfl, hv⟩
end
end
section
theorem rowsStC1 : True := by
  k_with_none
  k_with "pen_at" => focus (first | with_reducible assumption | (refine' PenAt.head ?_ ?_ ?_; (rotate_right 3; (focus (first | with_reducible assumption | k_ne)); (focus (k_all)); (focus (k_all)))) | (refine' PenAt.tail ?_ ?_ ?_; (rotate_right 1; (focus (walk_at "pen_at"))); (rotate_right 2; (focus (k_ne)); (focus (k_ne)))))
  k_with "room" => focus (first | lia | (dsimp only [ktrTop, Around.deeper]; lia))
  k_with "enterC" => focus ((refine' code_defC ?_ ?_ ?_ ?_ ?_ ?_ ?_ ?_ ?_ ?_ ?_ ?_ ?_ ?_ ?_ ?_ ?_ ?_; (rotate_right 13; (focus (exact rfl)); (focus (exact rfl)); (focus (first | exact rfl | assumption)); rotate_left 10); (rotate_right 15; (focus (k_asm)); (focus (k_asm)); (focus (k_asm)); (focus (k_asm)); (focus (k_asm)); (focus (k_is)); (focus (k_is)); (focus (k_room)); (focus (exact BindsTo.of_eq rfl)); (focus (exact rfl)); (focus (decide +kernel)); rotate_left 4); (rotate_right 3; (focus (exact rfl)); (focus (exact rfl)); (focus (exact rfl))); k_whole; intro g' L' h' tk' cells' FG' F' N' Y' B' X' T' l1; (try k_lt l1); k_cells Y'; (try simp only [List.cons_append, List.nil_append] at N'); (try dsimp only); (try k_lift B'); (try k_fold)))
  k_with "eval Name" => focus ((k_here; (with_reducible show wpAny _ _ (eval (Expr.Name _ _) (compEnvC _ _ _ _)) _ _ _); k_dflt (first | (refine' lcf_cell ?_ ?_ ?_ ?_ ?_ ?_ ?_; (rotate_right 1; (focus (rfl))); (rotate_right 1; (focus (rfl))); (rotate_right 5; (focus (k_asm)); (focus (rfl)); (focus (k_mem)); (focus (k_asm)); rotate_left 1); k_whole) | (refine' lcf_free ?_ ?_ ?_ ?_ ?_ ?_ ?_; (rotate_right 1; (focus (rfl))); (rotate_right 1; (focus (rfl))); (rotate_right 5; (focus (k_asm)); (focus (rfl)); (focus (k_mem)); (focus (k_asm)); rotate_left 1); k_whole) | refine LCgL.ld_global (by k_asm) (by k_asm) (by k_asm) (by k_is) ?_)))
  k_with "exec For Name Name cons nil" => focus ((k_here; (rename Fr _ _ _ _ => lF'); (with_unfolding_all refine' For_invVF lF' ?_ ?_ ?_; (rotate_right 3; (focus (exact rfl)); (focus (exact rfl)); rotate_left 1); k_whole)))
  k_with "exec For Name Call cons nil" => focus ((k_here; (rename Fr _ _ _ _ => lF'); (with_unfolding_all refine' For_invVF lF' ?_ ?_ ?_; (rotate_right 3; (focus (exact rfl)); (focus (exact rfl)); rotate_left 1); k_whole)))
  k_with "WIf" => focus (first | (refine WIf.yes rfl ?_) | (refine WIf.no rfl ?_) | (refine WIf.dec ?_ ?_ <;> intro))
  trivial
noncomputable def wordAt (b : Array UInt8) (i : Nat) : Bool := (KBy.picked b (some (0 + (i : Int))) (some (0 + (i : Int) + 9))).toList == wordS.toList
noncomputable def begs (b : Array UInt8) (n : Nat) : List Int := ((List.range n).filter (wordAt b)).map fun (i : Nat) => 0 + (i : Int)
theorem begs_len (b : Array UInt8) (n : Nat) : (begs b n).length ≤ n := by
  unfold begs
  rw [List.length_map]
  exact Nat.le_trans (List.length_filter_le _ _) (by simp)
theorem begs_in {b : Array UInt8} {n : Nat} {k : Int} (h : (begs b n).getLast? = some k) : 0 ≤ k ∧ k < n := by
  have hm := List.mem_of_getLast? h
  unfold begs at hm
  simp only [List.mem_map, List.mem_filter, List.mem_range] at hm
  obtain ⟨i, ⟨hi, _⟩, rfl⟩ := hm
  lia
theorem wordAt_eq {b : Array UInt8} {i : Nat} (h : i < b.size) : wordAt b i = ((b.toList.drop i).take 9 == wordS.toList) := by
  unfold wordAt
  rw [KBc.picked_eq]
  have e1 : clipAt b.size (0 + (i : Int)) = i := by
    have := clipAt_cast b.size (0 + (i : Int))
    rw [if_neg (by lia)] at this
    lia
  have e2 : clipAt b.size (0 + (i : Int) + 9) = min (i + 9) b.size := by
    have := clipAt_cast b.size (0 + (i : Int) + 9)
    rw [if_neg (by lia)] at this
    lia
  simp only [Option.elim]
  rw [e1, e2]
  congr 1
  by_cases hh : i + 9 ≤ b.size
  · rw [Nat.min_eq_left hh, Nat.add_sub_cancel_left]
  · rw [Nat.min_eq_right (by lia), List.take_of_length_le (by simp), List.take_of_length_le (by simp; lia)]
theorem wordAt_lt {b : Array UInt8} {i : Nat} (h : i < b.size) (hw : wordAt b i = true) : i + 9 ≤ b.size := by
  rw [wordAt_eq h] at hw
  have e := congrArg List.length (eq_of_beq hw)
  simp only [List.length_take, List.length_drop, Array.length_toList] at e
  have e9 : (wordS.toList).length = 9 := rfl
  simp only [List.length_cons, List.length_nil] at e
  lia
theorem ext_eq {b : Array UInt8} {i : Nat} : (b.extract i (i + wordS.size) == wordS) = ((b.toList.drop i).take 9 == wordS.toList) := by
  have e : (b.extract i (i + wordS.size)).toList = (b.toList.drop i).take 9 := by
    rw [Array.toList_extract]
    show (b.toList.drop i).take (i + 9 - i) = _
    rw [Nat.add_sub_cancel_left]
  rw [← e]
  rw [Bool.eq_iff_iff, beq_iff_eq, beq_iff_eq]
  exact ⟨fun q => by rw [q], fun q => by rw [← Array.toList_inj]; exact q⟩
theorem filt_ext (p q : Nat → Bool) (a : Nat) : ∀ d, (∀ i, i < a → p i = q i) → (∀ i, a ≤ i → i < a + d → p i = false) → (List.range (a + d)).filter p = (List.range a).filter q := by
  intro d
  induction d with
  | zero =>
    intro h1 _
    exact List.filter_congr fun i hi => h1 i (List.mem_range.mp hi)
  | succ d ih =>
    intro h1 h2
    rw [← Nat.add_assoc, List.range_succ, List.filter_append, ih h1 (fun i a1 a2 => h2 i a1 (by lia)), List.filter_cons_of_neg (by rw [h2 _ (by lia) (by lia)]; exact Bool.false_ne_true)]
    simp
theorem rfd_begs (b : Array UInt8) : BY.rfd b wordS = ((begs b b.size).getLast?).getD (-1) := by
  have key : ((begs b b.size).getLast?) = (Builtin.Bytes.rfind? b wordS 0 b.size).map fun (i : Nat) => (i : Int) := by
    unfold Builtin.Bytes.rfind? begs
    have e0 : (List.range (b.size + 1 - (0 + wordS.size))).map (· + 0) = List.range (b.size + 1 - 9) := by
      simp
    rw [e0, List.getLast?_map]
    have e1 : (List.range b.size).filter (wordAt b) = (List.range (b.size + 1 - 9)).filter (fun i => b.extract i (i + wordS.size) == wordS) := by
      by_cases hb : b.size = 0
      · rw [hb]; rfl
      · have hs : b.size = (b.size + 1 - 9) + (b.size - (b.size + 1 - 9)) := by lia
        conv => lhs; rw [hs]
        refine filt_ext _ _ _ _ (fun i hi => ?_) (fun i h1 h2 => ?_)
        · rw [wordAt_eq (by lia), ext_eq]
        · cases hw : wordAt b i with
          | false => rfl
          | true => have := wordAt_lt (by lia) hw; lia
    rw [e1, ← List.head?_reverse, ← List.filter_reverse, List.head?_filter]
    cases (List.find? _ _) with
    | none => rfl
    | some v => simp
  rw [key]
  unfold BY.rfd
  by_cases hlt : (b.size : Int) < (wordS.size : Int)
  · rw [if_pos hlt]
    have e : Builtin.Bytes.rfind? b wordS 0 b.size = none := by
      unfold Builtin.Bytes.rfind?
      have e9 : wordS.size = 9 := rfl
      rw [e9] at hlt ⊢
      have e0 : b.size + 1 - (0 + 9) = 0 := by lia
      rw [e0]
      rfl
    rw [e]
    rfl
  · rw [if_neg hlt]
    show (match Builtin.Bytes.rfind? b wordS 0 b.size with | some i => (i : Int) | none => -1) = _
    cases Builtin.Bytes.rfind? b wordS 0 b.size <;> rfl
theorem begs_rfd {b : Array UInt8} {ks : List Int} {k : Int} (hz' : (b.size : Int) = ks.length) (h : (begs b ks.length).getLast? = some k) : BY.rfd b wordS = k := by
  have e : b.size = ks.length := by lia
  rw [rfd_begs, e, h]
  rfl
theorem begs_none {b : Array UInt8} {ks : List Int} (hz' : (b.size : Int) = ks.length) (h : decide (begs b ks.length = []) = true) : BY.rfd b wordS = -1 := by
  have e : b.size = ks.length := by lia
  rw [rfd_begs, e, of_decide_eq_true h]
  rfl
noncomputable def dsum (l : List Int) : Int := ((List.range l.length).map fun i => (l.getD i 0 - 48) * (10 : Int) ^ (l.length - 1 - i)).sum
theorem dsum_cons (c : Int) (r : List Int) : dsum (c :: r) = (c - 48) * (10 : Int) ^ r.length + dsum r := by
  unfold dsum
  rw [List.length_cons, List.range_succ_eq_map, List.map_cons, List.sum_cons, List.map_map]
  congr 1
  congr 1
  refine List.map_congr_left fun i _ => ?_
  show (List.getD (c :: r) (i + 1) 0 - 48) * (10 : Int) ^ (r.length + 1 - 1 - (i + 1)) = _
  rw [List.getD_cons_succ]
  have e : r.length + 1 - 1 - (i + 1) = r.length - 1 - i := by lia
  rw [e]
theorem dval_dsum : ∀ (l : List Int) (a : Int), dval a l = a * (10 : Int) ^ l.length + dsum l := by
  intro l
  induction l with
  | nil => intro a; simp [dval, dsum]
  | cons c r ih =>
    intro a
    show dval (a * 10 + c - 48) r = _
    rw [ih, dsum_cons, List.length_cons, Int.pow_succ, Int.sub_mul, Int.add_mul, Int.sub_mul]
    have e : a * 10 * (10 : Int) ^ r.length = a * ((10 : Int) ^ r.length * 10) := by
      rw [Int.mul_assoc, Int.mul_comm 10]
    lia
theorem figs_getD {l : List Int} {i : Nat} (h : i < (figs l).length) : (figs l).getD i 0 = l.getD i 0 := by
  have hp : figs l <+: l := List.takeWhile_prefix _
  obtain ⟨t, ht⟩ := hp
  conv => rhs; rw [← ht]
  rw [List.getD_eq_getElem?_getD, List.getD_eq_getElem?_getD, List.getElem?_append_left h]
theorem fig_sum {ks : List Int} {at_ : Int} (h0 : 0 ≤ at_) : ((List.range (figs (ks.drop at_.toNat)).length).map fun (i : Nat) => (ks.getD (at_ + (i : Int)).toNat 0 - 48) * (10 : Int) ^ (at_ + ((figs (ks.drop at_.toNat)).length : Int) - 1 - (at_ + (i : Int))).toNat).sum = dval 0 (figs (ks.drop at_.toNat)) := by
  rw [dval_dsum, Int.zero_mul, Int.zero_add]
  unfold dsum
  congr 1
  refine List.map_congr_left fun i hi => ?_
  have hi' := List.mem_range.mp hi
  rw [figs_getD hi']
  have e1 : (ks.drop at_.toNat).getD i 0 = ks.getD (at_ + (i : Int)).toNat 0 := by
    have e : (at_ + (i : Int)).toNat = at_.toNat + i := by lia
    rw [e, List.getD_eq_getElem?_getD, List.getD_eq_getElem?_getD, List.getElem?_drop]
  have e2 : (at_ + ((figs (ks.drop at_.toNat)).length : Int) - 1 - (at_ + (i : Int))).toNat = (figs (ks.drop at_.toNat)).length - 1 - i := by lia
  rw [e1, e2]
theorem begs_in9 {b : Array UInt8} {k : Int} {n : Nat} (hn : (b.size : Int) = n) (h : (begs b n).getLast? = some k) : k + 9 ≤ n := by
  have hm := List.mem_of_getLast? h
  unfold begs at hm
  simp only [List.mem_map, List.mem_filter, List.mem_range] at hm
  obtain ⟨i, ⟨hi, hw⟩, rfl⟩ := hm
  have := wordAt_lt (by lia) hw
  lia
theorem skipW_le : ∀ (l : List Int) (r : Bool), skipW l r ≤ l.length
  | [], r => by simp [skipW]
  | c :: l, r => by
    unfold skipW
    cases wstep r c with
    | none => exact Nat.zero_le _
    | some r' => exact Nat.succ_le_succ (skipW_le l r')
theorem skip_bound {ks : List Int} {a : Int} {r : Bool} (h0 : 0 ≤ a) (h1 : a ≤ ks.length) : a + skipW (ks.drop a.toNat) r ≤ ks.length := by
  have := skipW_le (ks.drop a.toNat) r
  rw [List.length_drop] at this
  lia
theorem fig_bound {ks : List Int} {a : Int} (h0 : 0 ≤ a) (h1 : a ≤ ks.length) : a + (figs (ks.drop a.toNat)).length ≤ ks.length := by
  have : (figs (ks.drop a.toNat)).length ≤ (ks.drop a.toNat).length := (List.takeWhile_prefix _).length_le
  rw [List.length_drop] at this
  lia
theorem fspW_at {b : Array UInt8} {ks : List Int} {k A : Int} (hr : BY.rfd b wordS = k) (hA : k + 9 + (skipW (ks.drop (k + 9).toNat) false : Int) = A) : fspW b ks = A := by
  unfold fspW
  rw [hr]
  exact hA
section
variable {b : Array UInt8} {ks : List Int} {k A S : Int} {nf : Nat}
theorem st_e1 (hr : BY.rfd b wordS = k) (h0 : 0 ≤ k) (hA : k + 9 + (skipW (ks.drop (k + 9).toNat) false : Int) = A) (hn : (figs (ks.drop A.toNat)).length = nf) (h1 : 0 < nf) (h2 : nf ≤ 20) (hs : S = dval 0 (figs (ks.drop A.toNat))) (h3 : S < ks.length) : fsp b ks = (some S, 0) := by
  have hW := fspW_at hr hA
  subst hs hn
  rw [← hW] at h1 h2 h3 ⊢
  exact fsp_3 (by lia) h1 h2 (Int.not_le.mpr h3)
theorem st_e2 (hr : BY.rfd b wordS = k) (h0 : 0 ≤ k) (hA : k + 9 + (skipW (ks.drop (k + 9).toNat) false : Int) = A) (hn : (figs (ks.drop A.toNat)).length = nf) (h1 : 0 < nf) (h2 : nf ≤ 20) (hs : S = dval 0 (figs (ks.drop A.toNat))) (h3 : ¬ S < ks.length) : fsp b ks = (none, A) := by
  have hW := fspW_at hr hA
  subst hs hn
  rw [← hW] at h1 h2 h3 ⊢
  exact fsp_2 (by lia) h1 h2 (Int.not_lt.mp h3)
theorem st_e3 (hr : BY.rfd b wordS = k) (h0 : 0 ≤ k) (h : ¬ (0 < (figs (ks.drop (k + 9 + (skipW (ks.drop (k + 9).toNat) false : Int)).toNat)).length ∧ (figs (ks.drop (k + 9 + (skipW (ks.drop (k + 9).toNat) false : Int)).toNat)).length ≤ 20)) : fsp b ks = (none, k + 9 + (skipW (ks.drop (k + 9).toNat) false : Int)) := by
  have hW := fspW_at (ks := ks) hr rfl
  rw [← hW] at h ⊢
  exact fsp_1 (by lia) h
end
end
section
theorem rowsStart1 : True := by
  k_with_none
  k_with "pen_at" => focus (first | with_reducible assumption | (refine' PenAt.head ?_ ?_ ?_; (rotate_right 3; (focus (first | with_reducible assumption | k_ne)); (focus (k_all)); (focus (k_all)))) | (refine' PenAt.tail ?_ ?_ ?_; (rotate_right 1; (focus (walk_at "pen_at"))); (rotate_right 2; (focus (k_ne)); (focus (k_ne)))))
  k_with "room" => focus (first | lia | (dsimp only [ktrTop, Around.deeper]; lia))
  k_with "enterC" => focus ((refine' code_defC ?_ ?_ ?_ ?_ ?_ ?_ ?_ ?_ ?_ ?_ ?_ ?_ ?_ ?_ ?_ ?_ ?_ ?_; (rotate_right 13; (focus (exact rfl)); (focus (exact rfl)); (focus (first | exact rfl | assumption)); rotate_left 10); (rotate_right 15; (focus (k_asm)); (focus (k_asm)); (focus (k_asm)); (focus (k_asm)); (focus (k_asm)); (focus (k_is)); (focus (k_is)); (focus (k_room)); (focus (exact BindsTo.of_eq rfl)); (focus (exact rfl)); (focus (decide +kernel)); rotate_left 4); (rotate_right 3; (focus (exact rfl)); (focus (exact rfl)); (focus (exact rfl))); k_whole; intro g' L' h' tk' cells' FG' F' N' Y' B' X' T' l1; (try k_lt l1); k_cells Y'; (try simp only [List.cons_append, List.nil_append] at N'); (try dsimp only); (try k_lift B'); (try k_fold)))
  k_with "eval Name" => focus ((k_here; (with_reducible show wpAny _ _ (eval (Expr.Name _ _) (compEnvC _ _ _ _)) _ _ _); k_dflt (first | (refine' lcf_cell ?_ ?_ ?_ ?_ ?_ ?_ ?_; (rotate_right 1; (focus (rfl))); (rotate_right 1; (focus (rfl))); (rotate_right 5; (focus (k_asm)); (focus (rfl)); (focus (k_mem)); (focus (k_asm)); rotate_left 1); k_whole) | (refine' lcf_free ?_ ?_ ?_ ?_ ?_ ?_ ?_; (rotate_right 1; (focus (rfl))); (rotate_right 1; (focus (rfl))); (rotate_right 5; (focus (k_asm)); (focus (rfl)); (focus (k_mem)); (focus (k_asm)); rotate_left 1); k_whole) | refine LCgL.ld_global (by k_asm) (by k_asm) (by k_asm) (by k_is) ?_)))
  k_with "exec For Name Name cons nil" => focus ((k_here; (rename Fr _ _ _ _ => lF'); (with_unfolding_all refine' For_invVF lF' ?_ ?_ ?_; (rotate_right 3; (focus (exact rfl)); (focus (exact rfl)); rotate_left 1); k_whole)))
  k_with "exec For Name Call cons nil" => focus ((k_here; (rename Fr _ _ _ _ => lF'); (with_unfolding_all refine' For_invVF lF' ?_ ?_ ?_; (rotate_right 3; (focus (exact rfl)); (focus (exact rfl)); rotate_left 1); k_whole)))
  k_with "WIf" => focus (first | (refine WIf.yes rfl ?_) | (refine WIf.no rfl ?_) | (refine WIf.dec ?_ ?_ <;> intro))
  k_with "eval ListComp" => focus ((k_here; first | (with_reducible refine' ListComp_W ?_ ?_ ?_ ?_ ?_ ?_ ?_ ?_; (rotate_right 8; (focus (k_asm)); (focus (with_unfolding_all rfl)); (focus (decide)); (focus (with_unfolding_all rfl)); (focus (decide)); (focus (with_unfolding_all rfl)); rotate_left 2); (rotate_right 1; (focus ((intro _; with_unfolding_all rfl))))) | (with_reducible refine' ListComp_WT ?_ ?_ ?_ ?_ ?_ ?_ ?_ ?_; (rotate_right 8; (focus (k_asm)); (focus (with_unfolding_all rfl)); (focus (decide)); (focus (with_unfolding_all rfl)); (focus (decide)); (focus (with_unfolding_all rfl)); rotate_left 2); (rotate_right 1; (focus ((intro _; with_unfolding_all rfl)))))))
  k_with "exec Assign cons ListComp" => focus ((k_here; k_dflt (first | refine Assign_ListComp_WT (_F₀ := by k_asm) (by rfl) (by with_unfolding_all rfl) (by with_unfolding_all rfl) (by decide) (by rfl) (by decide) (by rfl) (by rfl) (by rfl) ?_ | refine Assign_ListComp_W (_F₀ := by k_asm) (by rfl) (by with_unfolding_all rfl) (by with_unfolding_all rfl) (by decide) (by rfl) (by decide) (by rfl) (by rfl) (by rfl) ?_ | refine wpAny_Assign_Name ?_)))
  trivial
theorem lt_up2 {L : Addr} {rest : List (Addr × Obj)} (h : ∀ p ∈ rest, p.1 < L) : AllLt (L + 1 + 1) rest ∧ AllLt (L + 1) rest :=
  ⟨allLt_of fun p hp => Nat.lt_succ_of_lt (Nat.lt_succ_of_lt (h p hp)), allLt_of fun p hp => Nat.lt_succ_of_lt (h p hp)⟩
theorem rowsStart2 : True := by
  k_with "updFo" => focus (first | (refine' UpdF.head ?_; (rotate_right 1; (focus (k_all)))) | (refine' UpdF.tail ?_ ?_; (rotate_right 1; (focus (walk_at "updFo"))); (rotate_right 1; (focus (k_ne)))))
  k_with "exec While BoolOp cons nil" => focus ((k_here; k_dflt (refine' st_loop2 ?_ ?_ ?_ ?_ ?_ ?_ ?_ ?_ ?_; (rotate_right 9; (focus (assumption)); rotate_left 8); (rotate_right 5; (focus (k_asm)); (focus (k_asm)); rotate_left 3); (rotate_right 4; (focus (assumption)); rotate_left 3); (rotate_right 4; (focus (walk_at "updFo")); rotate_left 3); (rotate_right 4; (focus (first | assumption | lia)); (focus (first | passes_own | with_unfolding_all passes_own)); rotate_left 2)); (all_goals intros)))
  k_with "exec While BoolOp cons nil" => focus ((k_here; k_dflt (refine' st_loop1 ?_ ?_ ?_ ?_ ?_ ?_ ?_ ?_ ?_; (rotate_right 9; (focus (assumption)); rotate_left 8); (rotate_right 5; (focus (k_asm)); (focus (k_asm)); rotate_left 3); (rotate_right 5; (focus (rfl)); (focus (rfl)); rotate_left 3); (rotate_right 4; (focus (first | assumption | lia)); (focus (first | passes_own | with_unfolding_all passes_own)); rotate_left 2)); (all_goals intros)))
  k_with "subscriptTail" => focus ((k_here; (with_reducible show wpAny _ _ (subscriptTail _ _ (Value.ref _) (Value.int (-1) _)) _ _ _); k_dflt (refine' last_led ?_ ?_ ?_ ?_ ?_ ?_; (rotate_right 6; (focus (k_asm)); rotate_left 5); (rotate_right 4; (focus (assumption)); rotate_left 3); (rotate_right 4; (focus (k_mem)); (focus (lia)); rotate_left 2); (rotate_right 1; (focus (with_unfolding_all rfl))))))
  k_with "binaryOp Pow int int" => focus ((k_here; (with_reducible refine' pow_int_small ?_ ?_ ?_ ?_); (rotate_right 4; (focus (lia)); (focus (lia)); (focus (decide)); rotate_left 1)))
  k_with "lastlt" => focus (first | assumption | exact And.right (by assumption) | exact And.right (And.right (by assumption)) | exact And.right (And.right (And.right (by assumption))) | exact And.right (And.right (And.right (And.right (by assumption)))) | exact And.right (And.right (And.right (And.right (And.right (by assumption))))) | exact And.right (And.right (And.right (And.right (And.right (And.right (by assumption)))))) | exact And.right (And.right (And.right (And.right (And.right (And.right (And.right (by assumption))))))) | exact And.right (And.right (And.right (And.right (And.right (And.right (And.right (And.right (by assumption)))))))))
  trivial
set_option maxRecDepth 100000 in
set_option maxHeartbeats 8000000 in
theorem start_ok {w : World} {mean : ExcName → Option Value} {mg mb : Str → Option Value} {dp un : Nat} {gd : Option (List Code)} {cn : Str} {cs : Scope} {a : Addr} {ccd : Value} {cl : List (Str × Addr)} {outer : List Env} {A₀ : Around} {base h₀ : Heap} {L : Addr} {m : Str → Option Value} {s : Shared}
    {Q E : Value → Shared → Prop} {b : Array UInt8} {tb : Tok} {ks : List Int} {rest : List (Addr × Obj)}
    (B : Below A₀ base outer h₀) (F : Fr h₀ L s.heap m) (X : (Mine.hd.heap_1 w.params).In h₀) (N : News h₀ L s.heap rest)
    (T : Top Mine.hd.view_1 (looseW Mine.hd.view_1 [Str.ofString "PaperError"]) mean mg mb h₀) (hk : cs.kind = .function)
    (hks : KBw.bInts b = ks) (hz : ks.length ≤ 1000) (hz' : (b.size : Int) = ks.length) (hd : dp < 350) (hu : un < 350)
    (hret : ∀ (R : Nat) (v : Value) (k : Int) (t : Tok) h' tk', OptV v (fsp b ks).1 → k = (fsp b ks).2 → Fr h₀ L h' m → News h₀ L h' ((R, tupO [v, .int k t]) :: rest) → AllLt R rest → Q (.ref R) { s with heap := h', toks := tk' }) :
    wpAny (model PySem.Challenge.rw_nn0202_01.row.prog w) (ktrTop dp un gd cn cs L a ccd cl outer) (call (.ref 287) [.bytes b tb]) Q E s := by
  revert X
  k_fill
  intro X
  refine wpAny_call ?_
  k_dflt (walk_at "enterC")
  k_steps
  rename IsRange _ _ _ _ _ _ _ _ => R'
  (rename ∀ p ∈ rest, p.1 < _ => lR)
  obtain ⟨lR1, lR2⟩ := lt_up2 lR
  refine' comp_intsT (IterW.range (n := ks.length) ?hh R' ?hsm ?hn) ?hle ?F ?N trivial (wordAt b) (fun (i : Nat) => 0 + (i : Int)) ?turn ?done
  case hh => exact rfl
  case hsm => exact small_one (by lia) (by lia) (by lia) (by lia)
  case hn => exact rangeSize_nat 0 _
  case hle => lia
  case F => k_asm
  case N => k_asm
  case turn =>
    intro i v ys I oI C oC R m₂ h tk E' hi hv hC hx off n1 n2 n3 F' N'
    obtain ⟨t, rfl⟩ := hv
    k_steps
    all_goals (refine ⟨by assumption, ?_⟩)
    · refine' ⟨_, _, _, _, rfl, ?F, ?N, ?sub, rfl⟩; (case F => k_asm); (case N => k_asm); (case sub => exact fun p hp => hp)
    · refine' ⟨_, _, _, rfl, ?F, ?N, ?sub⟩; (case F => k_asm); (case N => k_asm); (case sub => exact fun p hp => hp)
  case done =>
    intro ys hg hI D' h' tk' F' N' o1'
    change IntsAre ys (begs b ks.length) at hI
    dsimp only [LCg.Off1] at o1'
    have hlen := begs_len b ks.length
    k_steps
    rotate_left
    · obtain ⟨k1, t1, e1, e2, e3⟩ := ints_last hI (by assumption)
      obtain ⟨hk0, hk1⟩ := begs_in e1
      k_steps
      all_goals first
        | (refine' s1_end ?F ?hm ?N ?h3 ?hv; (case F => k_asm); (case hm => exact s1_map); (case N => k_asm); (case h3 => kcj_all); (case hv => exact s1_turn rfl (by assumption) (by assumption) (by first | exact ws_37 (by assumption) (by first | rfl | exact decide_eq_true (by assumption)) | exact ws_rem (by assumption) (by assumption) | exact ws_in (by assumption) (by assumption) (by assumption) (by first | rfl | assumption))))
        | (refine' s1_out ?F ?hm ?N ?h3 ?hv; (case F => k_asm); (case hm => exact fun _ => rfl); (case N => k_asm); (case h3 => kcj_all); (case hv => first | exact ws_past rfl (by assumption) (by assumption) | exact ws_out rfl (by assumption) (by assumption) (by assumption) (by assumption)))
        | skip
      unfold Halt
      dsimp only
      k_steps
      all_goals first
        | (refine' s2_end ?F ?N ?h3 ?hv; (case F => k_asm); (case N => k_asm); (case hv => exact s2_turn rfl (by assumption) (by assumption) (by assumption) (by assumption) (by assumption) (by assumption)); (case h3 => ((try dsimp only); kcj_all)))
        | (refine' s2_out ?F ?N ?h3 ?hv; (case F => k_asm); (case N => k_asm); (case h3 => ((try dsimp only); kcj_all)); (case hv => (refine ⟨by assumption, ?_⟩; first | exact s2_past rfl (by assumption) (by assumption) | exact s2_stop rfl (by assumption) (by assumption) (by assumption) (by lia))))
        | skip
      unfold Halt
      dsimp only
      k_steps
      · rename IsRange _ _ _ _ _ _ _ _ => R9
        have hk9 := begs_in9 hz' e1
        have hB1 := skip_bound (ks := ks) (a := k1 + 9) (r := false) (by lia) hk9
        have hB2 := fig_bound (ks := ks) (a := k1 + 9 + (skipW (ks.drop (k1 + 9).toNat) false : Int)) (by lia) hB1
        have hA : 0 ≤ k1 + 9 + (skipW (ks.drop (k1 + 9).toNat) false : Int) := by lia
        have hsum := fig_sum (ks := ks) hA
        revert R9 hsum
        generalize hAe : k1 + 9 + (skipW (ks.drop (k1 + 9).toNat) false : Int) = A9 at *
        generalize hne : (figs (ks.drop A9.toNat)).length = nf at *
        intro R9 hsum
        refine' comp_ints (IterW.range (n := nf) ?hh R9 ?hsm ?hn) ?hle ?F ?N trivial (fun (i : Nat) => (ks.getD (A9 + (i : Int)).toNat 0 - 48) * (10 : Int) ^ (A9 + (nf : Int) - 1 - (A9 + (i : Int))).toNat) ?turn ?done
        case hh => exact rfl
        case hsm => exact small_one (by lia) (by lia) (by lia) (by lia)
        case hn => (rw [rangeSize_nat]; lia)
        case hle => lia
        case F => k_asm
        case N => k_asm
        case turn =>
          intro i v ys I oI C oC R m₂ h tk E' hi hv hC hx off n1 n2 n3 F' N'
          obtain ⟨t, rfl⟩ := hv
          k_steps
          (refine' ⟨_, _, _, _, rfl, ?F, ?N, ?sub, rfl⟩; (case F => k_asm); (case N => k_asm); (case sub => exact fun p hp => hp))
        case done =>
          intro ys hg hI D' h' tk' F' N' o1'
          dsimp only [LCg.Off1] at o1'
          k_steps
          · have e9 := st_e1 (begs_rfd hz' e1) hk0 hAe hne (by lia) (by lia) hsum (by assumption)
            (refine' hret _ _ _ _ _ _ ?hv ?hk ?hF ?hN ?hl; (case hF => k_asm); (case hN => exact cb_drop (by assumption) (by kcj_all)); (case hl => walk_at "lastlt"); (case hk => (rw [e9]; try rfl)); (case hv => (rw [e9]; first | exact rfl | exact ⟨_, rfl⟩)))
          · have e9 := st_e2 (begs_rfd hz' e1) hk0 hAe hne (by lia) (by lia) hsum (by assumption)
            (refine' hret _ _ _ _ _ _ ?hv ?hk ?hF ?hN ?hl; (case hF => k_asm); (case hN => exact cb_drop (by assumption) (by kcj_all)); (case hl => walk_at "lastlt"); (case hk => (rw [e9]; try rfl)); (case hv => (rw [e9]; first | exact rfl | exact ⟨_, rfl⟩)))
      · have e9 := st_e3 (ks := ks) (begs_rfd hz' e1) hk0 (by lia)
        (refine' hret _ _ _ _ _ _ ?hv ?hk ?hF ?hN ?hl; (case hF => k_asm); (case hN => exact cb_drop (by assumption) (by kcj_all)); (case hl => walk_at "lastlt"); (case hk => (rw [e9]; try rfl)); (case hv => (rw [e9]; first | exact rfl | exact ⟨_, rfl⟩)))
      · have e9 := st_e3 (ks := ks) (begs_rfd hz' e1) hk0 (by lia)
        (refine' hret _ _ _ _ _ _ ?hv ?hk ?hF ?hN ?hl; (case hF => k_asm); (case hN => exact cb_drop (by assumption) (by kcj_all)); (case hl => walk_at "lastlt"); (case hk => (rw [e9]; try rfl)); (case hv => (rw [e9]; first | exact rfl | exact ⟨_, rfl⟩)))
    · have e9 := fsp_0 (ks := ks) (by rw [begs_none hz' (by assumption)]; decide)
      (refine' hret _ _ _ _ _ _ ?hv ?hk ?hF ?hN ?hl; (case hF => k_asm); (case hN => exact cb_drop (by assumption) (by kcj_all)); (case hl => walk_at "lastlt"); (case hk => (rw [e9]; try rfl)); (case hv => (rw [e9]; first | exact rfl | exact ⟨_, rfl⟩)))
end
section
theorem rowsTail1 : True := by
  k_with_none
  k_with "pen_at" => focus (first | with_reducible assumption | (refine' PenAt.head ?_ ?_ ?_; (rotate_right 3; (focus (first | with_reducible assumption | k_ne)); (focus (k_all)); (focus (k_all)))) | (refine' PenAt.tail ?_ ?_ ?_; (rotate_right 1; (focus (walk_at "pen_at"))); (rotate_right 2; (focus (k_ne)); (focus (k_ne)))))
  k_with "room" => focus (first | lia | (dsimp only [ktrTop, Around.deeper]; lia))
  k_with "enterC" => focus ((refine' code_defC ?_ ?_ ?_ ?_ ?_ ?_ ?_ ?_ ?_ ?_ ?_ ?_ ?_ ?_ ?_ ?_ ?_ ?_; (rotate_right 13; (focus (exact rfl)); (focus (exact rfl)); (focus (first | exact rfl | assumption)); rotate_left 10); (rotate_right 15; (focus (k_asm)); (focus (k_asm)); (focus (k_asm)); (focus (k_asm)); (focus (k_asm)); (focus (k_is)); (focus (k_is)); (focus (k_room)); (focus (exact BindsTo.of_eq rfl)); (focus (exact rfl)); (focus (decide +kernel)); rotate_left 4); (rotate_right 3; (focus (exact rfl)); (focus (exact rfl)); (focus (exact rfl))); k_whole; intro g' L' h' tk' cells' FG' F' N' Y' B' X' T' l1; (try k_lt l1); k_cells Y'; (try simp only [List.cons_append, List.nil_append] at N'); (try dsimp only); (try k_lift B'); (try k_fold)))
  k_with "eval Name" => focus ((k_here; (with_reducible show wpAny _ _ (eval (Expr.Name _ _) (compEnvC _ _ _ _)) _ _ _); k_dflt (first | (refine' lcf_cell ?_ ?_ ?_ ?_ ?_ ?_ ?_; (rotate_right 1; (focus (rfl))); (rotate_right 1; (focus (rfl))); (rotate_right 5; (focus (k_asm)); (focus (rfl)); (focus (k_mem)); (focus (k_asm)); rotate_left 1); k_whole) | (refine' lcf_free ?_ ?_ ?_ ?_ ?_ ?_ ?_; (rotate_right 1; (focus (rfl))); (rotate_right 1; (focus (rfl))); (rotate_right 5; (focus (k_asm)); (focus (rfl)); (focus (k_mem)); (focus (k_asm)); rotate_left 1); k_whole) | refine LCgL.ld_global (by k_asm) (by k_asm) (by k_asm) (by k_is) ?_)))
  k_with "exec For Name Name cons nil" => focus ((k_here; (rename Fr _ _ _ _ => lF'); (with_unfolding_all refine' For_invVF lF' ?_ ?_ ?_; (rotate_right 3; (focus (exact rfl)); (focus (exact rfl)); rotate_left 1); k_whole)))
  k_with "exec For Name Call cons nil" => focus ((k_here; (rename Fr _ _ _ _ => lF'); (with_unfolding_all refine' For_invVF lF' ?_ ?_ ?_; (rotate_right 3; (focus (exact rfl)); (focus (exact rfl)); rotate_left 1); k_whole)))
  k_with "call ref" => focus (((with_reducible show wpAny _ _ (call (Value.ref 256) _) _ _ _); k_dflt (refine' draw_ok ?_ ?_ ?_ ?_ ?_ ?_ ?_ ?_ ?_ ?_ ?_; (rotate_right 11; (focus (k_asm)); (focus (k_asm)); (focus (k_asm)); (focus (k_asm)); (focus (k_asm)); (focus (first | exact rfl | assumption)); (focus (walk_at "pen_at")); (focus (first | decide | lia)); (focus (walk_at "room")); (focus (walk_at "room")); rotate_left 1)); intro r9 t9 y9 h' tk9 lo9 hi9 F' N'; (try dsimp only at N'); (try k_sweep)))
  k_with "call ref" => focus (((with_reducible show wpAny _ _ (call (Value.ref 263) _) _ _ _); k_dflt (refine' pick_ok ?_ ?_ ?_ ?_ ?_ ?_ ?_ ?_ ?_ ?_ ?_ ?_ ?_ ?_ ?_; (rotate_right 15; (focus (k_asm)); (focus (k_asm)); (focus (k_asm)); (focus (k_asm)); (focus (k_asm)); (focus (first | exact rfl | assumption)); (focus (walk_at "pen_at")); (focus (k_mem)); (focus (k_ne)); (focus (k_ne)); (focus ((simp only [List.length_cons, List.length_nil]; lia))); (focus ((simp only [List.length_cons, List.length_nil]; lia))); (focus (walk_at "room")); (focus (walk_at "room")); rotate_left 1)); intro v9 y9 h' tk9 m9 F' N'; (try k_dflt (have q9 := pick_str4 m9; obtain ⟨w9, tw9, e9, ow9⟩ := q9; subst e9; clear m9)); (try dsimp only at N'); (try k_sweep)))
  trivial
noncomputable def tailB (k : Int) : Array UInt8 := #[115, 116, 97, 114, 116, 120, 114, 101, 102, 10] ++ BY.enc (PySem.Str.ofString (toString k)) ++ #[10, 37, 37, 69, 79, 70, 10]
theorem rowsTail2 : True := by
  k_with "getMethod str" => focus ((k_here; (with_reducible refine BY.method_encode ?_)))
  k_with "call builtin:str.encode" => focus ((k_here; k_dflt (refine BY.encode_int ?_ ?_ ?_; (rotate_right 3; (focus (lia)); (focus (lia)); rotate_left 1)); intro t9 k9 z9))
  k_with "binaryOp Add bytes bytes" => focus ((k_here; k_dflt (refine KBy.add_bytes ?_ ?_; (rotate_right 2; (focus ((simp only [Array.size_append, List.size_toArray, List.length_cons, List.length_nil]; lia))); rotate_left 1)); intro t9 k9))
  trivial
set_option maxRecDepth 100000 in
set_option maxHeartbeats 8000000 in
theorem tail_ok {w : World} {mean : ExcName → Option Value} {mg mb : Str → Option Value} {dp un : Nat} {gd : Option (List Code)} {cn : Str} {cs : Scope} {a : Addr} {ccd : Value} {cl : List (Str × Addr)} {outer : List Env} {A₀ : Around} {base h₀ : Heap} {L : Addr} {m : Str → Option Value} {s : Shared}
    {Q E : Value → Shared → Prop} {off : Int} {to : Tok} {rest : List (Addr × Obj)}
    (B : Below A₀ base outer h₀) (F : Fr h₀ L s.heap m) (X : (Mine.hd.heap_1 w.params).In h₀) (N : News h₀ L s.heap rest)
    (T : Top Mine.hd.view_1 (looseW Mine.hd.view_1 [Str.ofString "PaperError"]) mean mg mb h₀) (hk : cs.kind = .function)
    (h0 : 0 ≤ off) (h1 : off ≤ 1000) (hd : dp < 380) (hu : un < 380)
    (hret : ∀ (t : Tok) h' tk', (tailB off).size ≤ 40 → Fr h₀ L h' m → News h₀ L h' rest → Q (.bytes (tailB off) t) { s with heap := h', toks := tk' }) :
    wpAny (model PySem.Challenge.rw_nn0202_01.row.prog w) (ktrTop dp un gd cn cs L a ccd cl outer) (call (.ref 244) [.int off to]) Q E s := by
  revert X
  k_fill
  intro X
  refine wpAny_call ?_
  k_dflt cell_enter
  k_steps
  all_goals (refine' hret _ _ _ ?z ?F ?N; (case F => k_asm); (case N => k_asm); (case z => (simp only [tailB, Array.size_append, List.size_toArray, List.length_cons, List.length_nil]; lia)))
end
section
theorem rowsPen1 : True := by
  k_with_none
  k_with "pen_at" => focus (first | with_reducible assumption | (refine' PenAt.head ?_ ?_ ?_; (rotate_right 3; (focus (first | with_reducible assumption | k_ne)); (focus (k_all)); (focus (k_all)))) | (refine' PenAt.tail ?_ ?_ ?_; (rotate_right 1; (focus (walk_at "pen_at"))); (rotate_right 2; (focus (k_ne)); (focus (k_ne)))))
  k_with "room" => focus (first | lia | (dsimp only [ktrTop, Around.deeper]; lia))
  k_with "enterC" => focus ((refine' code_defC ?_ ?_ ?_ ?_ ?_ ?_ ?_ ?_ ?_ ?_ ?_ ?_ ?_ ?_ ?_ ?_ ?_ ?_; (rotate_right 13; (focus (exact rfl)); (focus (exact rfl)); (focus (first | exact rfl | assumption)); rotate_left 10); (rotate_right 15; (focus (k_asm)); (focus (k_asm)); (focus (k_asm)); (focus (k_asm)); (focus (k_asm)); (focus (k_is)); (focus (k_is)); (focus (k_room)); (focus (exact BindsTo.of_eq rfl)); (focus (exact rfl)); (focus (decide +kernel)); rotate_left 4); (rotate_right 3; (focus (exact rfl)); (focus (exact rfl)); (focus (exact rfl))); k_whole; intro g' L' h' tk' cells' FG' F' N' Y' B' X' T' l1; (try k_lt l1); k_cells Y'; (try simp only [List.cons_append, List.nil_append] at N'); (try dsimp only); (try k_lift B'); (try k_fold)))
  k_with "eval Name" => focus ((k_here; (with_reducible show wpAny _ _ (eval (Expr.Name _ _) (compEnvC _ _ _ _)) _ _ _); k_dflt (first | (refine' lcf_cell ?_ ?_ ?_ ?_ ?_ ?_ ?_; (rotate_right 1; (focus (rfl))); (rotate_right 1; (focus (rfl))); (rotate_right 5; (focus (k_asm)); (focus (rfl)); (focus (k_mem)); (focus (k_asm)); rotate_left 1); k_whole) | (refine' lcf_free ?_ ?_ ?_ ?_ ?_ ?_ ?_; (rotate_right 1; (focus (rfl))); (rotate_right 1; (focus (rfl))); (rotate_right 5; (focus (k_asm)); (focus (rfl)); (focus (k_mem)); (focus (k_asm)); rotate_left 1); k_whole) | refine LCgL.ld_global (by k_asm) (by k_asm) (by k_asm) (by k_is) ?_)))
  k_with "exec For Name Name cons nil" => focus ((k_here; (rename Fr _ _ _ _ => lF'); (with_unfolding_all refine' For_invVF lF' ?_ ?_ ?_; (rotate_right 3; (focus (exact rfl)); (focus (exact rfl)); rotate_left 1); k_whole)))
  k_with "exec For Name Call cons nil" => focus ((k_here; (rename Fr _ _ _ _ => lF'); (with_unfolding_all refine' For_invVF lF' ?_ ?_ ?_; (rotate_right 3; (focus (exact rfl)); (focus (exact rfl)); rotate_left 1); k_whole)))
  k_with "call ref" => focus (((with_reducible show wpAny _ _ (call (Value.ref 256) _) _ _ _); k_dflt (refine' draw_ok ?_ ?_ ?_ ?_ ?_ ?_ ?_ ?_ ?_ ?_ ?_; (rotate_right 11; (focus (k_asm)); (focus (k_asm)); (focus (k_asm)); (focus (k_asm)); (focus (k_asm)); (focus (first | exact rfl | assumption)); (focus (walk_at "pen_at")); (focus (first | decide | lia)); (focus (walk_at "room")); (focus (walk_at "room")); rotate_left 1)); intro r9 t9 y9 h' tk9 lo9 hi9 F' N'; (try dsimp only at N'); (try k_sweep)))
  k_with "call ref" => focus (((with_reducible show wpAny _ _ (call (Value.ref 263) _) _ _ _); k_dflt (refine' pick_ok ?_ ?_ ?_ ?_ ?_ ?_ ?_ ?_ ?_ ?_ ?_ ?_ ?_ ?_ ?_; (rotate_right 15; (focus (k_asm)); (focus (k_asm)); (focus (k_asm)); (focus (k_asm)); (focus (k_asm)); (focus (first | exact rfl | assumption)); (focus (walk_at "pen_at")); (focus (k_mem)); (focus (k_ne)); (focus (k_ne)); (focus ((simp only [List.length_cons, List.length_nil]; lia))); (focus ((simp only [List.length_cons, List.length_nil]; lia))); (focus (walk_at "room")); (focus (walk_at "room")); rotate_left 1)); intro v9 y9 h' tk9 m9 F' N'; (try k_dflt (have q9 := pick_str4 m9; obtain ⟨w9, tw9, e9, ow9⟩ := q9; subst e9; clear m9)); (try dsimp only at N'); (try k_sweep)))
  k_with "eval ListComp" => focus ((k_here; first | (with_reducible refine' ListComp_W ?_ ?_ ?_ ?_ ?_ ?_ ?_ ?_; (rotate_right 8; (focus (k_asm)); (focus (with_unfolding_all rfl)); (focus (decide)); (focus (with_unfolding_all rfl)); (focus (decide)); (focus (with_unfolding_all rfl)); rotate_left 2); (rotate_right 1; (focus ((intro _; with_unfolding_all rfl))))) | (with_reducible refine' ListComp_WT ?_ ?_ ?_ ?_ ?_ ?_ ?_ ?_; (rotate_right 8; (focus (k_asm)); (focus (with_unfolding_all rfl)); (focus (decide)); (focus (with_unfolding_all rfl)); (focus (decide)); (focus (with_unfolding_all rfl)); rotate_left 2); (rotate_right 1; (focus ((intro _; with_unfolding_all rfl)))))))
  k_with "exec Assign cons ListComp" => focus ((k_here; k_dflt (first | refine Assign_ListComp_WT (_F₀ := by k_asm) (by rfl) (by with_unfolding_all rfl) (by with_unfolding_all rfl) (by decide) (by rfl) (by decide) (by rfl) (by rfl) (by rfl) ?_ | refine Assign_ListComp_W (_F₀ := by k_asm) (by rfl) (by with_unfolding_all rfl) (by with_unfolding_all rfl) (by decide) (by rfl) (by decide) (by rfl) (by rfl) (by rfl) ?_ | refine wpAny_Assign_Name ?_)))
  trivial
theorem isl_two {h g h' : Heap} {L L' l : Addr} {m m' : Str → Option Value} {its : Array Value} (H : h.IsList l its) (F1 : Fr h L g m) (F2 : Fr g L' h' m') : h'.IsList l its := (H.at fun _ e => F1.keep _ _ e).at fun _ e => F2.keep _ _ e
theorem rowsPen2 : True := by
  k_with "subscriptTail" => focus ((k_here; (with_reducible show wpAny _ _ (subscriptTail _ (PySem.Expr.Slice _ _ none _) (Value.ref _) (Value.ref _)) _ _ _); k_dflt (refine' kmk_slice_ints ?_ ?_ ?_ ?_ ?_ ?_ ?_ ?_ ?_ ?_ ?_ ?_; (rotate_right 12; (focus (k_asm)); (focus (k_asm)); (focus (exact isl_two (by assumption) (by assumption) (by assumption))); (focus (kmk_part)); (focus (kmk_part)); (focus (assumption)); (focus (exact kmk_upto (by assumption) (by decide))); (focus (exact rfl)); rotate_left 4); (rotate_right 3; (focus (with_unfolding_all rfl)); (focus (kmk_pure)); (focus ((rw [sizeLine_eq, List.size_toArray]; lia))))); intro D' ws' h' F' N' l1 hI' hC' hL'))
  trivial
set_option maxRecDepth 100000 in
set_option maxHeartbeats 8000000 in
theorem lawpen_ok {w : World} {mean : ExcName → Option Value} {mg mb : Str → Option Value} {dp un : Nat} {gd : Option (List Code)} {cn : Str} {cs : Scope} {a : Addr} {ccd : Value} {cl : List (Str × Addr)} {outer : List Env} {A₀ : Around} {base h₀ : Heap} {L : Addr} {m : Str → Option Value} {s : Shared}
    {Q E : Value → Shared → Prop} {sc : Nat} {rest : List (Addr × Obj)} {vs : List Value} {ns : List Int}
    (B : Below A₀ base outer h₀) (F : Fr h₀ L s.heap m) (X : (Mine.hd.heap_1 w.params).In h₀) (N : News h₀ L s.heap rest)
    (T : Top Mine.hd.view_1 (looseW Mine.hd.view_1 [Str.ofString "PaperError"]) mean mg mb h₀) (hk : cs.kind = .function)
    (hs : h₀.IsList sc vs.toArray) (hi : IntsAre vs ns) (hlv : ns.length ≤ 63) (hd : dp < 380) (hu : un < 380)
    (hret : ∀ (pa la : Nat) (y : PenSt) h' tk', pa ≠ la → AllLt pa rest → LCg.Off1 la rest → Fr h₀ L h' m → News h₀ L h' ((pa, penA la y) :: (la, penB y) :: rest) → Q (.ref pa) { s with heap := h', toks := tk' }) :
    wpAny (model PySem.Challenge.rw_nn0202_01.row.prog w) (ktrTop dp un gd cn cs L a ccd cl outer) (call (.ref 249) [.ref sc]) Q E s := by
  revert X
  k_fill
  intro X
  have hlen := hi.length
  refine wpAny_call ?_
  k_dflt cell_enter
  k_steps
  rename IntsAre _ (List.take _ _) => hW
  have hWl := hW.length
  have hW63 : (List.take (Int.toNat 63) ns).length ≤ 63 := by rw [List.length_take]; exact Nat.min_le_left _ _
  rename (∀ p ∈ rest, p.1 < _) => lR
  refine' comp_ints (IterW.list ?hh ?Nl ?hl) ?hle ?F ?N ?S (fun i => (2 * if (List.take (Int.toNat 63) ns).getD i 0 < 0 then -((List.take (Int.toNat 63) ns).getD i 0) else (List.take (Int.toNat 63) ns).getD i 0) + (if decide ((List.take (Int.toNat 63) ns).getD i 0 < 0) = true then 1 else 0)) ?turn ?done
  case hh => exact rfl
  case Nl => k_asm
  case hl => k_mem
  case hle => lia
  case F => k_asm
  case N => k_asm
  case S => k_mem
  case turn =>
    intro i v ys I oI C oC R m₂ h tk E' hi hv hC hx off n1 n2 n3 F' N'
    obtain ⟨x, t, rfl, hx9⟩ := hW.at _ _ hv
    have hgd : (List.take (Int.toNat 63) ns).getD i 0 = x := by rw [List.getD_eq_getElem?_getD, hx9]; rfl
    rw [hgd]
    k_steps
    (refine' ⟨_, _, _, _, rfl, ?F, ?N, ?sub, rfl⟩; (case F => k_asm); (case N => k_asm); (case sub => exact fun p hp => hp))
  case done =>
    intro ys hg hI D' h' tk' F' N' o1'
    dsimp only [LCg.Off1] at o1'
    have hIl := hI.length
    rw [List.length_map, List.length_range] at hIl
    k_steps
    refine' hret _ _ ⟨0, 0, _, _, 0, ys.length, ys, _, hI, ?len⟩ _ _ ?ne ?l1 ?l2 ?F ?N
    case len => rw [List.length_map, List.length_range]; lia
    case F => k_asm
    case N => exact cb_drop (by assumption) (by kcj_all)
    case l2 => exact o1'.2
    case l1 => rename (_ < _ ∧ _ < _ ∧ AllLt _ rest) => l9; exact l9.2.2
    case ne => rename (_ < _ ∧ _ < _ ∧ AllLt _ rest) => l9; exact Nat.ne_of_gt l9.1
end
section
theorem rowsRuns1 : True := by
  k_with_none
  k_with "pen_at" => focus (first | with_reducible assumption | (refine' PenAt.head ?_ ?_ ?_; (rotate_right 3; (focus (first | with_reducible assumption | k_ne)); (focus (k_all)); (focus (k_all)))) | (refine' PenAt.tail ?_ ?_ ?_; (rotate_right 1; (focus (walk_at "pen_at"))); (rotate_right 2; (focus (k_ne)); (focus (k_ne)))))
  k_with "room" => focus (first | lia | (dsimp only [ktrTop, Around.deeper]; lia))
  k_with "enterC" => focus ((refine' code_defC ?_ ?_ ?_ ?_ ?_ ?_ ?_ ?_ ?_ ?_ ?_ ?_ ?_ ?_ ?_ ?_ ?_ ?_; (rotate_right 13; (focus (exact rfl)); (focus (exact rfl)); (focus (first | exact rfl | assumption)); rotate_left 10); (rotate_right 15; (focus (k_asm)); (focus (k_asm)); (focus (k_asm)); (focus (k_asm)); (focus (k_asm)); (focus (k_is)); (focus (k_is)); (focus (k_room)); (focus (exact BindsTo.of_eq rfl)); (focus (exact rfl)); (focus (decide +kernel)); rotate_left 4); (rotate_right 3; (focus (exact rfl)); (focus (exact rfl)); (focus (exact rfl))); k_whole; intro g' L' h' tk' cells' FG' F' N' Y' B' X' T' l1; (try k_lt l1); k_cells Y'; (try simp only [List.cons_append, List.nil_append] at N'); (try dsimp only); (try k_lift B'); (try k_fold)))
  k_with "eval Name" => focus ((k_here; (with_reducible show wpAny _ _ (eval (Expr.Name _ _) (compEnvC _ _ _ _)) _ _ _); k_dflt (first | (refine' lcf_cell ?_ ?_ ?_ ?_ ?_ ?_ ?_; (rotate_right 1; (focus (rfl))); (rotate_right 1; (focus (rfl))); (rotate_right 5; (focus (k_asm)); (focus (rfl)); (focus (k_mem)); (focus (k_asm)); rotate_left 1); k_whole) | (refine' lcf_free ?_ ?_ ?_ ?_ ?_ ?_ ?_; (rotate_right 1; (focus (rfl))); (rotate_right 1; (focus (rfl))); (rotate_right 5; (focus (k_asm)); (focus (rfl)); (focus (k_mem)); (focus (k_asm)); rotate_left 1); k_whole) | refine LCgL.ld_global (by k_asm) (by k_asm) (by k_asm) (by k_is) ?_)))
  k_with "exec For Name Name cons nil" => focus ((k_here; (rename Fr _ _ _ _ => lF'); (with_unfolding_all refine' For_invVF lF' ?_ ?_ ?_; (rotate_right 3; (focus (exact rfl)); (focus (exact rfl)); rotate_left 1); k_whole)))
  k_with "exec For Name Call cons nil" => focus ((k_here; (rename Fr _ _ _ _ => lF'); (with_unfolding_all refine' For_invVF lF' ?_ ?_ ?_; (rotate_right 3; (focus (exact rfl)); (focus (exact rfl)); rotate_left 1); k_whole)))
  k_with "WIf" => focus (first | (refine WIf.yes rfl ?_) | (refine WIf.no rfl ?_) | (refine WIf.dec ?_ ?_ <;> intro))
  k_with "eval ListComp" => focus ((k_here; first | (with_reducible refine' ListComp_W ?_ ?_ ?_ ?_ ?_ ?_ ?_ ?_; (rotate_right 8; (focus (k_asm)); (focus (with_unfolding_all rfl)); (focus (decide)); (focus (with_unfolding_all rfl)); (focus (decide)); (focus (with_unfolding_all rfl)); rotate_left 2); (rotate_right 1; (focus ((intro _; with_unfolding_all rfl))))) | (with_reducible refine' ListComp_WT ?_ ?_ ?_ ?_ ?_ ?_ ?_ ?_; (rotate_right 8; (focus (k_asm)); (focus (with_unfolding_all rfl)); (focus (decide)); (focus (with_unfolding_all rfl)); (focus (decide)); (focus (with_unfolding_all rfl)); rotate_left 2); (rotate_right 1; (focus ((intro _; with_unfolding_all rfl)))))))
  k_with "exec Assign cons ListComp" => focus ((k_here; k_dflt (first | refine Assign_ListComp_WT (_F₀ := by k_asm) (by rfl) (by with_unfolding_all rfl) (by with_unfolding_all rfl) (by decide) (by rfl) (by decide) (by rfl) (by rfl) (by rfl) ?_ | refine Assign_ListComp_W (_F₀ := by k_asm) (by rfl) (by with_unfolding_all rfl) (by with_unfolding_all rfl) (by decide) (by rfl) (by decide) (by rfl) (by rfl) (by rfl) ?_ | refine wpAny_Assign_Name ?_)))
  trivial
section
variable {w : World} {h₀ : Heap} {L : Addr} {x : Str} {Q : Flow → Shared → Prop} {m₀ m' : Str → Option Value} {news' rest : List (Addr × Obj)} {l I : Nat} {S : Nat × Obj} {oI : Obj} {c : RnSt} {s₁ : Shared} {h' : Heap} {tk i nn' : Nat} {ns : List Int} {refs' : List Value} {prs' : List (Int × Int)} {tl' : List (Addr × Obj)} {n : Int}
theorem runs_end (F : Fr h₀ L h' m') (hm : ∀ z, z ≠ x → m' z = m₀ z) (N : News h₀ L h' news') (hI : (I, oI) ∈ news') (hl : (l, listOf refs'.toArray nn') ∈ news') (hS : S ∈ news') (ht : ∀ p ∈ tl', p ∈ news') (hr : ∀ p ∈ rest, p ∈ news')
    (o1 : l ≠ I) (o2 : S.1 ≠ I) (o3 : ∀ p ∈ tl', p.1 ≠ I) (o4 : ∀ p ∈ rest, p.1 ≠ I) (hn : ns[i]? = some n) (hv : RnInv l ns i c) (h1 : ListRel (PairIn tl') refs' prs') (h2 : prs' = runStep c.prs n) (h3 : ∀ p ∈ tl', l < p.1) :
    LPost h₀ L x (fun _ => m₀) (rnLed S l rest) (RnInv l ns (i + 1)) I oI s₁ Q .next { s₁ with heap := h', toks := tk } := by
  refine LEnd.intro ⟨refs', prs', nn', tl'⟩ F N hI ?_ ?_ hm ⟨h1, ?_, h3⟩
  · intro p hp
    simp only [rnLed, List.mem_cons, List.mem_append] at hp
    rcases hp with rfl | rfl | hp | hp
    · exact hl
    · exact hS
    · exact ht p hp
    · exact hr p hp
  · intro p hp
    simp only [rnLed, List.mem_cons, List.mem_append] at hp
    rcases hp with rfl | rfl | hp | hp
    · exact o1
    · exact o2
    · exact o3 p hp
    · exact o4 p hp
  · show prs' = _
    rw [h2, hv.2.1, runsOf_take hn]
theorem runs_endA {D' : Nat} {ta tb : Tok} (F : Fr h₀ L h' m') (hm : ∀ z, z ≠ x → m' z = m₀ z) (N : News h₀ L h' news') (hI : (I, oI) ∈ news') (hl : (l, listOf (#[].push (Value.ref D')) nn') ∈ news') (hS : S ∈ news') (ht : ∀ p ∈ c.tl ++ rest, p ∈ news') (hD : (D', tupO [.int n ta, .int 1 tb]) ∈ news')
    (o1 : l ≠ I) (o2 : S.1 ≠ I) (o3 : ∀ p ∈ c.tl ++ rest, p.1 ≠ I) (o4 : D' ≠ I) (o5 : l < D') (hn : ns[i]? = some n) (hv : RnInv l ns i c) (hc : c.prs = []) :
    LPost h₀ L x (fun _ => m₀) (rnLed S l rest) (RnInv l ns (i + 1)) I oI s₁ Q .next { s₁ with heap := h', toks := tk } := by
  refine runs_end (refs' := [Value.ref D']) (prs' := [(n, 1)]) (tl' := (D', tupO [.int n ta, .int 1 tb]) :: c.tl) F hm N hI hl hS ?_ (fun p hp => ht p (List.mem_append_right _ hp)) o1 o2 ?_ (fun p hp => o3 p (List.mem_append_right _ hp)) hn hv ?_ ?_ ?_
  · intro p hp
    rcases List.mem_cons.mp hp with rfl | hp
    · exact hD
    · exact ht p (List.mem_append_left _ hp)
  · intro p hp
    rcases List.mem_cons.mp hp with rfl | hp
    · exact o4
    · exact o3 p (List.mem_append_left _ hp)
  · exact .cons ⟨D', ta, tb, rfl, .head _⟩ .nil
  · rw [hc]; rfl
  · intro p hp
    rcases List.mem_cons.mp hp with rfl | hp
    · exact o5
    · exact hv.2.2 p hp
theorem runs_endOn {D' : Nat} {ta tb : Tok} {rf : List Value} {pr : List (Int × Int)} {b k : Int} (F : Fr h₀ L h' m') (hm : ∀ z, z ≠ x → m' z = m₀ z) (N : News h₀ L h' news') (hI : (I, oI) ∈ news') (hl : (l, listOf (rf ++ [Value.ref D']).toArray nn') ∈ news') (hS : S ∈ news') (ht : ∀ p ∈ c.tl ++ rest, p ∈ news') (hD : (D', tupO [.int b ta, .int (k + 1) tb]) ∈ news')
    (o1 : l ≠ I) (o2 : S.1 ≠ I) (o3 : ∀ p ∈ c.tl ++ rest, p.1 ≠ I) (o4 : D' ≠ I) (o5 : l < D') (hn : ns[i]? = some n) (hv : RnInv l ns i c) (hc : c.prs = pr ++ [(b, k)]) (h1 : ListRel (PairIn c.tl) rf pr) (n1 : n = b + k) :
    LPost h₀ L x (fun _ => m₀) (rnLed S l rest) (RnInv l ns (i + 1)) I oI s₁ Q .next { s₁ with heap := h', toks := tk } := by
  refine runs_end (refs' := rf ++ [Value.ref D']) (prs' := pr ++ [(b, k + 1)]) (tl' := (D', tupO [.int b ta, .int (k + 1) tb]) :: c.tl) F hm N hI hl hS ?_ (fun p hp => ht p (List.mem_append_right _ hp)) o1 o2 ?_ (fun p hp => o3 p (List.mem_append_right _ hp)) hn hv ?_ ?_ ?_
  · intro p hp
    rcases List.mem_cons.mp hp with rfl | hp
    · exact hD
    · exact ht p (List.mem_append_left _ hp)
  · intro p hp
    rcases List.mem_cons.mp hp with rfl | hp
    · exact o4
    · exact o3 p (List.mem_append_left _ hp)
  · exact (h1.mono (PairIn.mono fun p hp => .tail _ hp)).snoc ⟨D', ta, tb, rfl, .head _⟩
  · rw [hc, runStep_on n1]
  · intro p hp
    rcases List.mem_cons.mp hp with rfl | hp
    · exact o5
    · exact hv.2.2 p hp
theorem runs_endNew {D' : Nat} {ta tb : Tok} {rs : List Value} {pr : List (Int × Int)} {b k : Int} (F : Fr h₀ L h' m') (hm : ∀ z, z ≠ x → m' z = m₀ z) (N : News h₀ L h' news') (hI : (I, oI) ∈ news') (hl : (l, listOf (rs.toArray.push (Value.ref D')) nn') ∈ news') (hS : S ∈ news') (ht : ∀ p ∈ c.tl ++ rest, p ∈ news') (hD : (D', tupO [.int n ta, .int 1 tb]) ∈ news')
    (o1 : l ≠ I) (o2 : S.1 ≠ I) (o3 : ∀ p ∈ c.tl ++ rest, p.1 ≠ I) (o4 : D' ≠ I) (o5 : l < D') (hn : ns[i]? = some n) (hv : RnInv l ns i c) (hc : c.prs = pr ++ [(b, k)]) (h1 : ListRel (PairIn c.tl) rs (pr ++ [(b, k)])) (n1 : n ≠ b + k) (n2 : b + k < n) :
    LPost h₀ L x (fun _ => m₀) (rnLed S l rest) (RnInv l ns (i + 1)) I oI s₁ Q .next { s₁ with heap := h', toks := tk } := by
  refine runs_end (refs' := rs ++ [Value.ref D']) (prs' := pr ++ [(b, k)] ++ [(n, 1)]) (tl' := (D', tupO [.int n ta, .int 1 tb]) :: c.tl) F hm N hI (by rw [← List.push_toArray]; exact hl) hS ?_ (fun p hp => ht p (List.mem_append_right _ hp)) o1 o2 ?_ (fun p hp => o3 p (List.mem_append_right _ hp)) hn hv ?_ ?_ ?_
  · intro p hp
    rcases List.mem_cons.mp hp with rfl | hp
    · exact hD
    · exact ht p (List.mem_append_left _ hp)
  · intro p hp
    rcases List.mem_cons.mp hp with rfl | hp
    · exact o4
    · exact o3 p (List.mem_append_left _ hp)
  · exact (h1.mono (PairIn.mono fun p hp => .tail _ hp)).snoc ⟨D', ta, tb, rfl, .head _⟩
  · rw [hc, runStep_new n1 n2]
  · intro p hp
    rcases List.mem_cons.mp hp with rfl | hp
    · exact o5
    · exact hv.2.2 p hp
theorem runs_endOld {rs : List Value} {pr : List (Int × Int)} {b k : Int} (F : Fr h₀ L h' m') (hm : ∀ z, z ≠ x → m' z = m₀ z) (N : News h₀ L h' news') (hI : (I, oI) ∈ news') (hl : (l, listOf rs.toArray nn') ∈ news') (hS : S ∈ news') (ht : ∀ p ∈ c.tl ++ rest, p ∈ news')
    (o1 : l ≠ I) (o2 : S.1 ≠ I) (o3 : ∀ p ∈ c.tl ++ rest, p.1 ≠ I) (hn : ns[i]? = some n) (hv : RnInv l ns i c) (hc : c.prs = pr ++ [(b, k)]) (h1 : ListRel (PairIn c.tl) rs (pr ++ [(b, k)])) (n1 : n ≠ b + k) (n2 : ¬ b + k < n) :
    LPost h₀ L x (fun _ => m₀) (rnLed S l rest) (RnInv l ns (i + 1)) I oI s₁ Q .next { s₁ with heap := h', toks := tk } :=
  runs_end (tl' := c.tl) F hm N hI hl hS (fun p hp => ht p (List.mem_append_left _ hp)) (fun p hp => ht p (List.mem_append_right _ hp)) o1 o2 (fun p hp => o3 p (List.mem_append_left _ hp)) (fun p hp => o3 p (List.mem_append_right _ hp)) hn hv h1 (by rw [hc, runStep_old n1 n2]) hv.2.2
end
section
variable {prog : Program} {w : World} {A : Around} {E : Value → Shared → Prop} {s : Shared} {h₀ : Heap} {L : Addr} {m : Str → Option Value} {news : List (Addr × Obj)} {g : Obj → List (Addr × Obj)}
theorem set_last {l : Addr} {vs : List Value} {x v : Value} {n : Nat} {t : Tok} {Q : Unit → Shared → Prop} (F : Fr h₀ L s.heap m) (N : News h₀ L s.heap news) (U : UpdF l (listOf (vs ++ [x]).toArray n) news g) (hz : vs.length ≤ 100000)
    (h : ∀ h' n', Fr h₀ L h' m → News h₀ L h' (g (listOf (vs ++ [v]).toArray n')) → Q () { s with heap := h' }) : wpAny (model prog w) A (setItem (.ref l) (.int (-1) t) v) Q E s := by
  obtain ⟨pre, post, rfl, hg, a, b⟩ := U.split
  have hm := N (l, _) (List.mem_append_right _ (.head _))
  have e : ((-1 : Int) + ((vs ++ [x]).toArray.size : Int)).toNat = vs.length := by
    simp only [List.size_toArray, List.length_append, List.length_cons, List.length_nil]
    lia
  refine setItem_list_neg (x := x) hm.1 (by decide) (by simp only [List.size_toArray, List.length_append, List.length_cons, List.length_nil]; lia) (by decide) ?_ fun h' n' hl' hs => ?_
  · rw [e]
    simp
  · rw [e] at hl'
    have e2 : (vs ++ [x]).toArray.setIfInBounds vs.length v = (vs ++ [v]).toArray := by simp
    rw [e2] at hl'
    refine h h' n' (F.change hs hm.2.1 hm.2.2) ?_
    rw [hg]
    exact N.setIn a b hs hl'
end
theorem rowsRuns2 : True := by
  k_with "call builtin:sorted" => focus ((k_here; k_dflt (refine' kso_sorted ?_ ?_ ?_ ?_ ?_ ?_; (rotate_right 6; (focus (k_asm)); (focus (k_asm)); (focus (exact News.isList (by k_asm) (by first | k_mem | exact List.mem_cons_of_mem _ (by assumption)))); (focus (assumption)); (focus (lia)); rotate_left 1)); intro D' vs' ns' c' h' F' N' l1 hI' hl' hp' hs' _; (try k_lt l1)))
  k_with "my pyIter ref" => focus ((k_here; k_dflt (refine' runs_loop ?_ ?_ ?_ ?_ ?_ ?_ ?_ ?_ ?_ ?_; (rotate_right 10; (focus (exact rfl)); (focus (k_asm)); (focus (k_asm)); (focus (assumption)); rotate_left 6); (rotate_right 5; (focus (assumption)); (focus (exact allLt_of (by assumption))); rotate_left 3); (rotate_right 4; (focus (lia)); rotate_left 3)); (all_goals intros)))
  k_with "compareOp NotEq ref ref" => focus ((k_here; k_dflt (refine' pairs_ne_nil ?_ ?_ ?_ ?_ ?_ ?_ ?_ ?_; (rotate_right 8; (focus (k_asm)); (focus (k_mem)); (focus (k_mem)); (focus (assumption)); (focus (kcj_all)); (focus (simp)); (focus (ke_room)); rotate_left 1))))
  k_with "compareOp Eq ref ref" => focus ((k_here; k_dflt (refine' pairs_eq_nil ?_ ?_ ?_ ?_ ?_ ?_ ?_ ?_; (rotate_right 8; (focus (k_asm)); (focus (k_mem)); (focus (k_mem)); (focus (assumption)); (focus (kcj_all)); (focus (simp)); (focus (ke_room)); rotate_left 1))))
  k_with "call builtin:list.append" => focus ((k_here; k_dflt (refine' append_K ?_ ?_ ?_ ?_ ?_; (rotate_right 5; (focus (k_asm)); (focus (k_asm)); (focus (k_upd)); rotate_left 2); (rotate_right 1; (focus ((rw [sizeLine_eq]; simp only [List.size_toArray, List.length_append, List.length_cons, List.length_nil]; lia))))); intro h' F' N'; (try dsimp only at N')))
  k_with "setItem ref int" => focus ((k_here; k_dflt (refine' set_last ?_ ?_ ?_ ?_ ?_; (rotate_right 5; (focus (k_asm)); (focus (k_asm)); (focus (k_updF)); (focus (lia)); rotate_left 1)); intro h' n9 F' N'; (try dsimp only at N')))
  k_with "subscriptTail" => focus ((k_here; (with_reducible show wpAny _ _ (subscriptTail _ _ (Value.ref _) (Value.int (-1) _)) _ _ _); k_dflt (refine' last_led ?_ ?_ ?_ ?_ ?_ ?_; (rotate_right 6; (focus (k_asm)); (focus (k_mem)); (focus (simp; rfl)); (focus ((rw [List.length_append]; simp only [List.length_cons, List.length_nil]; lia))); rotate_left 2); (rotate_right 1; (focus (with_unfolding_all rfl))))))
  trivial
set_option maxRecDepth 100000 in
set_option maxHeartbeats 8000000 in
theorem runs_ok {w : World} {mean : ExcName → Option Value} {mg mb : Str → Option Value} {dp un : Nat} {gd : Option (List Code)} {cn : Str} {cs : Scope} {a : Addr} {ccd : Value} {cl : List (Str × Addr)} {outer : List Env} {A₀ : Around} {base h₀ : Heap} {L : Addr} {m : Str → Option Value} {s : Shared}
    {Q E : Value → Shared → Prop} {D nn : Nat} {vs : List Value} {ns : List Int} {rest : List (Addr × Obj)}
    (B : Below A₀ base outer h₀) (F : Fr h₀ L s.heap m) (X : (Mine.hd.heap_1 w.params).In h₀) (N : News h₀ L s.heap rest)
    (T : Top Mine.hd.view_1 (looseW Mine.hd.view_1 [Str.ofString "PaperError"]) mean mg mb h₀) (hk : cs.kind = .function)
    (hD : (D, listOf vs.toArray nn) ∈ rest) (hi : IntsAre vs ns) (hl : ns.length ≤ 20) (hd : dp < 380) (hu : un < 380)
    (hret : ∀ (R : Nat) (refs : List Value) (nn' : Nat) (ns' : List Int) (tl : List (Addr × Obj)) h' tk', ns'.Perm ns → ns'.Pairwise (· ≤ ·) → ListRel (PairIn tl) refs (runsOf ns') → AllLt R rest → (∀ p ∈ tl, R < p.1) → Fr h₀ L h' m → News h₀ L h' ((R, listOf refs.toArray nn') :: (tl ++ rest)) → Q (.ref R) { s with heap := h', toks := tk' }) :
    wpAny (model PySem.Challenge.rw_nn0202_01.row.prog w) (ktrTop dp un gd cn cs L a ccd cl outer) (call (.ref 211) [.ref D]) Q E s := by
  revert X
  k_fill
  intro X
  refine wpAny_call ?_
  k_dflt cell_enter
  k_steps
  all_goals first
    | (refine' runs_endA ?F ?hm ?N ?hI ?hl ?hS ?ht ?hD ?o1 ?o2 ?o3 ?o4 ?o5 ?hn ?hv ?hc; (case hc => assumption); (case F => k_asm); (case hm => (intro z hz; exact if_neg hz)); (case N => k_asm); (case hI => k_mem); (case hl => k_mem); (case hS => k_mem); (case ht => kcj_all); (case hD => k_mem); (case o1 => assumption); (case o2 => assumption); (case o3 => assumption); (case o4 => k_ne); (case o5 => lia); (case hn => assumption); (case hv => assumption))
    | (refine' runs_endOn ?F ?hm ?N ?hI ?hl ?hS ?ht ?hD ?o1 ?o2 ?o3 ?o4 ?o5 ?hn ?hv ?hc ?h1 ?n1; (case n1 => assumption); (case hc => assumption); (case h1 => assumption); (case F => k_asm); (case hm => (intro z hz; exact if_neg hz)); (case N => k_asm); (case hI => k_mem); (case hl => k_mem); (case hS => k_mem); (case ht => kcj_all); (case hD => k_mem); (case o1 => assumption); (case o2 => assumption); (case o3 => assumption); (case o4 => k_ne); (case o5 => lia); (case hn => assumption); (case hv => assumption))
    | (refine' runs_endNew ?F ?hm ?N ?hI ?hl ?hS ?ht ?hD ?o1 ?o2 ?o3 ?o4 ?o5 ?hn ?hv ?hc ?h1 ?n1 ?n2; (case n2 => assumption); (case n1 => assumption); (case hc => assumption); (case h1 => assumption); (case F => k_asm); (case hm => (intro z hz; exact if_neg hz)); (case N => k_asm); (case hI => k_mem); (case hl => k_mem); (case hS => k_mem); (case ht => kcj_all); (case hD => k_mem); (case o1 => assumption); (case o2 => assumption); (case o3 => assumption); (case o4 => k_ne); (case o5 => lia); (case hn => assumption); (case hv => assumption))
    | (refine' runs_endOld ?F ?hm ?N ?hI ?hl ?hS ?ht ?o1 ?o2 ?o3 ?hn ?hv ?hc ?h1 ?n1 ?n2; (case n2 => assumption); (case n1 => assumption); (case hc => assumption); (case h1 => assumption); (case F => k_asm); (case hm => (intro z hz; exact if_neg hz)); (case N => k_asm); (case hI => k_mem); (case hl => k_mem); (case hS => k_mem); (case ht => kcj_all); (case o1 => assumption); (case o2 => assumption); (case o3 => assumption); (case hn => assumption); (case hv => assumption))
    | (unfold Halt; dsimp only; k_steps; refine' hret _ _ _ _ _ _ _ ?zp ?zq ?zr ?zl ?zt ?zF ?zN; (case zp => assumption); (case zq => assumption); (case zr => assumption); (case zl => exact allLt_of (by assumption)); (case zt => assumption); (case zF => k_asm); (case zN => exact cb_drop (by assumption) (by kcj_all)))
end
section
theorem rowsOffs1 : True := by
  k_with_none
  k_with "eval ListComp" => focus ((k_here; first | (with_reducible refine' ListComp_W ?_ ?_ ?_ ?_ ?_ ?_ ?_ ?_; (rotate_right 8; (focus (k_asm)); (focus (with_unfolding_all rfl)); (focus (decide)); (focus (with_unfolding_all rfl)); (focus (decide)); (focus (with_unfolding_all rfl)); rotate_left 2); (rotate_right 1; (focus ((intro _; with_unfolding_all rfl))))) | (with_reducible refine' ListComp_WT ?_ ?_ ?_ ?_ ?_ ?_ ?_ ?_; (rotate_right 8; (focus (k_asm)); (focus (with_unfolding_all rfl)); (focus (decide)); (focus (with_unfolding_all rfl)); (focus (decide)); (focus (with_unfolding_all rfl)); rotate_left 2); (rotate_right 1; (focus ((intro _; with_unfolding_all rfl)))))))
  k_with "exec Assign cons ListComp" => focus ((k_here; k_dflt (first | refine Assign_ListComp_WT (_F₀ := by k_asm) (by rfl) (by with_unfolding_all rfl) (by with_unfolding_all rfl) (by decide) (by rfl) (by decide) (by rfl) (by rfl) (by rfl) ?_ | refine Assign_ListComp_W (_F₀ := by k_asm) (by rfl) (by with_unfolding_all rfl) (by with_unfolding_all rfl) (by decide) (by rfl) (by decide) (by rfl) (by rfl) (by rfl) ?_ | refine wpAny_Assign_Name ?_)))
  k_with "pen_at" => focus (first | with_reducible assumption | (refine' PenAt.head ?_ ?_ ?_; (rotate_right 3; (focus (first | with_reducible assumption | k_ne)); (focus (k_all)); (focus (k_all)))) | (refine' PenAt.tail ?_ ?_ ?_; (rotate_right 1; (focus (walk_at "pen_at"))); (rotate_right 2; (focus (k_ne)); (focus (k_ne)))))
  k_with "room" => focus (first | lia | (dsimp only [ktrTop, Around.deeper]; lia))
  k_with "enterC" => focus ((refine' code_defC ?_ ?_ ?_ ?_ ?_ ?_ ?_ ?_ ?_ ?_ ?_ ?_ ?_ ?_ ?_ ?_ ?_ ?_; (rotate_right 13; (focus (exact rfl)); (focus (exact rfl)); (focus (first | exact rfl | assumption)); rotate_left 10); (rotate_right 15; (focus (k_asm)); (focus (k_asm)); (focus (k_asm)); (focus (k_asm)); (focus (k_asm)); (focus (k_is)); (focus (k_is)); (focus (k_room)); (focus (exact BindsTo.of_eq rfl)); (focus (exact rfl)); (focus (decide +kernel)); rotate_left 4); (rotate_right 3; (focus (exact rfl)); (focus (exact rfl)); (focus (exact rfl))); k_whole; intro g' L' h' tk' cells' FG' F' N' Y' B' X' T' l1; (try k_lt l1); k_cells Y'; (try simp only [List.cons_append, List.nil_append] at N'); (try dsimp only); (try k_lift B'); (try k_fold)))
  k_with "eval Name" => focus ((k_here; (with_reducible show wpAny _ _ (eval (Expr.Name _ _) (compEnvC _ _ _ _)) _ _ _); k_dflt (first | (refine' lcf_cell ?_ ?_ ?_ ?_ ?_ ?_ ?_; (rotate_right 1; (focus (rfl))); (rotate_right 1; (focus (rfl))); (rotate_right 5; (focus (k_asm)); (focus (rfl)); (focus (k_mem)); (focus (k_asm)); rotate_left 1); k_whole) | (refine' lcf_free ?_ ?_ ?_ ?_ ?_ ?_ ?_; (rotate_right 1; (focus (rfl))); (rotate_right 1; (focus (rfl))); (rotate_right 5; (focus (k_asm)); (focus (rfl)); (focus (k_mem)); (focus (k_asm)); rotate_left 1); k_whole) | refine LCgL.ld_global (by k_asm) (by k_asm) (by k_asm) (by k_is) ?_)))
  k_with "exec For Name Name cons nil" => focus ((k_here; (rename Fr _ _ _ _ => lF'); (with_unfolding_all refine' For_invVF lF' ?_ ?_ ?_; (rotate_right 3; (focus (exact rfl)); (focus (exact rfl)); rotate_left 1); k_whole)))
  k_with "exec For Name Call cons nil" => focus ((k_here; (rename Fr _ _ _ _ => lF'); (with_unfolding_all refine' For_invVF lF' ?_ ?_ ?_; (rotate_right 3; (focus (exact rfl)); (focus (exact rfl)); rotate_left 1); k_whole)))
  k_with "call ref" => focus (((with_reducible show wpAny _ _ (call (Value.ref 256) _) _ _ _); k_dflt (refine' draw_ok ?_ ?_ ?_ ?_ ?_ ?_ ?_ ?_ ?_ ?_ ?_; (rotate_right 11; (focus (k_asm)); (focus (k_asm)); (focus (k_asm)); (focus (k_asm)); (focus (k_asm)); (focus (first | exact rfl | assumption)); (focus (walk_at "pen_at")); (focus (first | decide | lia)); (focus (walk_at "room")); (focus (walk_at "room")); rotate_left 1)); intro r9 t9 y9 h' tk9 lo9 hi9 F' N'; (try dsimp only at N'); (try k_sweep)))
  k_with "call ref" => focus (((with_reducible show wpAny _ _ (call (Value.ref 263) _) _ _ _); k_dflt (refine' pick_ok ?_ ?_ ?_ ?_ ?_ ?_ ?_ ?_ ?_ ?_ ?_ ?_ ?_ ?_ ?_; (rotate_right 15; (focus (k_asm)); (focus (k_asm)); (focus (k_asm)); (focus (k_asm)); (focus (k_asm)); (focus (first | exact rfl | assumption)); (focus (walk_at "pen_at")); (focus (k_mem)); (focus (k_ne)); (focus (k_ne)); (focus ((simp only [List.length_cons, List.length_nil]; lia))); (focus ((simp only [List.length_cons, List.length_nil]; lia))); (focus (walk_at "room")); (focus (walk_at "room")); rotate_left 1)); intro v9 y9 h' tk9 m9 F' N'; (try k_dflt (have q9 := pick_str4 m9; obtain ⟨w9, tw9, e9, ow9⟩ := q9; subst e9; clear m9)); (try dsimp only at N'); (try k_sweep)))
  trivial
noncomputable def isUsed (e : Ent) : Bool := e.way == Str.ofString "used"
noncomputable def offPs (es : List (Int × Ent)) : List (Int × Int) := (es.filter fun p => isUsed p.2).map fun p => (p.2.one, p.1)
noncomputable def offF (es : List (Int × Ent)) (i : Nat) : Bool := match es[i]? with | some p => isUsed p.2 | none => false
noncomputable def offG (es : List (Int × Ent)) (i : Nat) : Int × Int := match es[i]? with | some p => (p.2.one, p.1) | none => (0, 0)
theorem offF_at {es : List (Int × Ent)} {i : Nat} {p : Int × Ent} (h : es[i]? = some p) : offF es i = isUsed p.2 := by
  unfold offF
  rw [h]
theorem offG_at {es : List (Int × Ent)} {i : Nat} {p : Int × Ent} (h : es[i]? = some p) : offG es i = (p.2.one, p.1) := by
  unfold offG
  rw [h]
theorem offPs_range (es : List (Int × Ent)) : ∀ n, n ≤ es.length → ((List.range n).filter (offF es)).map (offG es) = offPs (es.take n)
  | 0, _ => rfl
  | n + 1, h => by
    have hn : n < es.length := h
    have he := List.getElem?_eq_getElem hn
    rw [List.range_succ, List.filter_append, List.map_append, offPs_range es n (by lia), List.take_add_one, he]
    unfold offPs
    rw [Option.toList_some, List.filter_append, List.map_append]
    congr 1
    by_cases hu : isUsed es[n].2 = true
    · rw [List.filter_cons_of_pos (by rw [offF_at he]; exact hu), List.filter_cons_of_pos (p := fun (p : Int × Ent) => isUsed p.2) (a := es[n]) hu]
      simp [offG_at he]
    · rw [List.filter_cons_of_neg (by rw [offF_at he]; exact hu), List.filter_cons_of_neg (p := fun (p : Int × Ent) => isUsed p.2) (a := es[n]) hu]
      rfl
theorem offPs_all (es : List (Int × Ent)) : ((List.range es.length).filter (offF es)).map (offG es) = offPs es := by
  rw [offPs_range es es.length (Nat.le_refl _), List.take_length]
theorem offPs_nodup {es : List (Int × Ent)} (h : (es.map (·.1)).Nodup) : (offPs es).Nodup := by
  unfold offPs
  unfold List.Nodup at h ⊢
  rw [List.pairwise_map] at h ⊢
  refine (h.filter _).imp fun hne e => hne ?_
  exact congrArg Prod.snd e
theorem offPs_small {es : List (Int × Ent)} (h : ∀ p ∈ es, Small (p.2.one, p.1)) : ∀ p ∈ offPs es, Small p := by
  intro p hp
  unfold offPs at hp
  obtain ⟨q, hq, rfl⟩ := List.mem_map.mp hp
  exact h q (List.mem_filter.mp hq).1
theorem offPs_len (es : List (Int × Ent)) : (offPs es).length ≤ es.length := by
  unfold offPs
  rw [List.length_map]
  exact List.length_filter_le _ _
theorem rowsOffs2 : True := by
  k_with "subscriptTail Name Name ref int" => focus ((k_here; k_dflt (refine' kda_item (knd := intKind _ _) ?_ ?_ ?_ (intKind_is _ _ _ _) ?_ ?_; (rotate_right 5; (focus (k_asm)); (focus (k_mem)); (focus (k_asm)); (focus (k_asm)); rotate_left 1))))
  trivial
set_option maxRecDepth 100000 in
set_option maxHeartbeats 8000000 in
theorem offs_ok {w : World} {mean : ExcName → Option Value} {mg mb : Str → Option Value} {dp un : Nat} {gd : Option (List Code)} {cn : Str} {cs : Scope} {a : Addr} {ccd : Value} {cl : List (Str × Addr)} {outer : List Env} {A₀ : Around} {base h₀ : Heap} {L : Addr} {m : Str → Option Value} {s : Shared}
    {Q E : Value → Shared → Prop} {D : Nat} {o : Obj} {kvs : List (Int × Value)} {es : List (Int × Ent)} {news : List (Addr × Obj)}
    (B : Below A₀ base outer h₀) (F : Fr h₀ L s.heap m) (X : (Mine.hd.heap_1 w.params).In h₀) (N : News h₀ L s.heap news)
    (T : Top Mine.hd.view_1 (looseW Mine.hd.view_1 [Str.ofString "PaperError"]) mean mg mb h₀) (hk : cs.kind = .function)
    (hD : (D, o) ∈ news) (hdo : o.IsDictOf (intKind PySem.Challenge.rw_nn0202_01.row.prog w) kvs) (lo : (D == sysModules) = false) (hlen : kvs.length ≤ 60) (rel : TabRel (EntIn w news) kvs es) (hsm : ∀ p ∈ es, Small (p.2.one, p.1)) (hd : dp < 380) (hu : un < 380)
    (hret : ∀ (R : Nat) (vs : List Value) (ps : List (Int × Int)) (nn : Nat) (tl : List (Addr × Obj)) h' tk', ListRel (PairIn tl) vs ps → ps.Perm (offPs es) → ps.Pairwise (fun a b => code a < code b) → AllLt R news → Fr h₀ L h' m → News h₀ L h' ((R, listOf vs.toArray nn) :: (tl ++ news)) → Q (.ref R) { s with heap := h', toks := tk' }) :
    wpAny (model PySem.Challenge.rw_nn0202_01.row.prog w) (ktrTop dp un gd cn cs L a ccd cl outer) (call (.ref 230) [.ref D]) Q E s := by
  revert X
  k_fill
  intro X
  refine wpAny_call ?_
  k_dflt (walk_at "enterC")
  k_steps
  have nd : (kvs.map (·.1)).Nodup := by
    obtain ⟨_, _, _, _, _, _, hn⟩ := hdo
    exact hn
  refine' comp_pairsT (IterW.dict ?hh lo ?Nd ?mem hdo) ?hle ?F ?N2 ?hS (offF es) (offG es) ?turn ?done
  case hh => exact rfl
  case Nd => k_asm
  case mem => exact .tail _ hD
  case hle => lia
  case F => k_asm
  case N2 => k_asm
  case hS => exact fun tl => List.mem_append_right _ (.tail _ hD)
  case turn =>
    intro i v ys tl I oI C oC R m₂ h tk E' hi hv hC hx n1 n2 n3 F' N'
    obtain ⟨k, y, t, hky, rfl⟩ := hv
    obtain ⟨e, he, xa, dx, t1, t2, t3, t4, t5, t6, rfl, hm1, hm2⟩ := rel.get hky
    have hva := valueAt_of_mem nd (List.mem_of_getElem? hky)
    rw [offF_at he, offG_at he]
    have N9 : News _ _ h ((xa, instObj 200 dx) :: (dx, entD w e t1 t2 t3 t4 t5 t6) :: (D, o) :: (I, oI) :: (C, oC) :: (R, LCg.lst ys) :: (tl ++ _ :: news)) := cb_drop N' (fun p hp => by
      simp only [List.mem_cons, List.mem_append] at hp ⊢
      rcases hp with rfl | rfl | rfl | hp
      · exact .inr (.inr (.inr (.inr (.inr hm1))))
      · exact .inr (.inr (.inr (.inr (.inr hm2))))
      · exact .inr (.inr (.inr (.inr (.inr hD))))
      · exact hp)
    clear N'
    k_steps
    · rename (_ < _ ∧ _ < _ ∧ _ < _ ∧ _ ∧ _) => l9
      refine' ⟨by assumption, _, _, _, _, _, rfl, ?F, ?N, rfl, l9.2.2.2⟩
      case F => k_asm
      case N => exact cb_drop (by assumption) (by kcj_all)
    · refine' ⟨by assumption, _, _, _, rfl, ?F, ?N, fun p hp => hp⟩
      case F => k_asm
      case N => exact cb_drop N9 (by kcj_all)
  case done =>
    intro ys tl hg hI
    intro D' h' tk' F' N' o1'
    rw [rel.length, offPs_all] at hI
    have hle := offPs_len es
    have hkl := rel.length
    k_steps
    refine sorted_ps F' N' (.head _) hI (fun p hp => .tail _ (List.mem_append_left _ hp)) (offPs_small hsm) (offPs_nodup (by rw [← rel.keys]; exact nd)) (by lia) fun D2 vs2 ps2 c2 h2 F2 N2 l2 r2 p2 s2 => ?_
    k_steps
    refine' hret _ _ _ _ _ _ _ r2 p2 s2 ?zl ?zF ?zN
    case zl => exact allLt_of fun p hp => l2 p (.tail _ (List.mem_append_right _ (.tail _ hp)))
    case zF => k_asm
    case zN => exact cb_drop (by assumption) (by kcj_all)
end
section
theorem rowsLwB1 : True := by
  k_with_none
  k_with "pen_at" => focus (first | with_reducible assumption | (refine' PenAt.head ?_ ?_ ?_; (rotate_right 3; (focus (first | with_reducible assumption | k_ne)); (focus (k_all)); (focus (k_all)))) | (refine' PenAt.tail ?_ ?_ ?_; (rotate_right 1; (focus (walk_at "pen_at"))); (rotate_right 2; (focus (k_ne)); (focus (k_ne)))))
  k_with "room" => focus (first | lia | (dsimp only [ktrTop, Around.deeper]; lia))
  k_with "enterC" => focus ((refine' code_defC ?_ ?_ ?_ ?_ ?_ ?_ ?_ ?_ ?_ ?_ ?_ ?_ ?_ ?_ ?_ ?_ ?_ ?_; (rotate_right 13; (focus (exact rfl)); (focus (exact rfl)); (focus (first | exact rfl | assumption)); rotate_left 10); (rotate_right 15; (focus (k_asm)); (focus (k_asm)); (focus (k_asm)); (focus (k_asm)); (focus (k_asm)); (focus (k_is)); (focus (k_is)); (focus (k_room)); (focus (exact BindsTo.of_eq rfl)); (focus (exact rfl)); (focus (decide +kernel)); rotate_left 4); (rotate_right 3; (focus (exact rfl)); (focus (exact rfl)); (focus (exact rfl))); k_whole; intro g' L' h' tk' cells' FG' F' N' Y' B' X' T' l1; (try k_lt l1); k_cells Y'; (try simp only [List.cons_append, List.nil_append] at N'); (try dsimp only); (try k_lift B'); (try k_fold)))
  k_with "eval Name" => focus ((k_here; (with_reducible show wpAny _ _ (eval (Expr.Name _ _) (compEnvC _ _ _ _)) _ _ _); k_dflt (first | (refine' lcf_cell ?_ ?_ ?_ ?_ ?_ ?_ ?_; (rotate_right 1; (focus (rfl))); (rotate_right 1; (focus (rfl))); (rotate_right 5; (focus (k_asm)); (focus (rfl)); (focus (k_mem)); (focus (k_asm)); rotate_left 1); k_whole) | (refine' lcf_free ?_ ?_ ?_ ?_ ?_ ?_ ?_; (rotate_right 1; (focus (rfl))); (rotate_right 1; (focus (rfl))); (rotate_right 5; (focus (k_asm)); (focus (rfl)); (focus (k_mem)); (focus (k_asm)); rotate_left 1); k_whole) | refine LCgL.ld_global (by k_asm) (by k_asm) (by k_asm) (by k_is) ?_)))
  k_with "exec For Name Name cons nil" => focus ((k_here; (rename Fr _ _ _ _ => lF'); (with_unfolding_all refine' For_invVF lF' ?_ ?_ ?_; (rotate_right 3; (focus (exact rfl)); (focus (exact rfl)); rotate_left 1); k_whole)))
  k_with "exec For Name Call cons nil" => focus ((k_here; (rename Fr _ _ _ _ => lF'); (with_unfolding_all refine' For_invVF lF' ?_ ?_ ?_; (rotate_right 3; (focus (exact rfl)); (focus (exact rfl)); rotate_left 1); k_whole)))
  k_with "call ref" => focus (((with_reducible show wpAny _ _ (call (Value.ref 256) _) _ _ _); k_dflt (refine' draw_ok ?_ ?_ ?_ ?_ ?_ ?_ ?_ ?_ ?_ ?_ ?_; (rotate_right 11; (focus (k_asm)); (focus (k_asm)); (focus (k_asm)); (focus (k_asm)); (focus (k_asm)); (focus (first | exact rfl | assumption)); (focus (walk_at "pen_at")); (focus (first | decide | lia)); (focus (walk_at "room")); (focus (walk_at "room")); rotate_left 1)); intro r9 t9 y9 h' tk9 lo9 hi9 F' N'; (try dsimp only at N'); (try k_sweep)))
  k_with "call ref" => focus (((with_reducible show wpAny _ _ (call (Value.ref 263) _) _ _ _); k_dflt (refine' pick_ok ?_ ?_ ?_ ?_ ?_ ?_ ?_ ?_ ?_ ?_ ?_ ?_ ?_ ?_ ?_; (rotate_right 15; (focus (k_asm)); (focus (k_asm)); (focus (k_asm)); (focus (k_asm)); (focus (k_asm)); (focus (first | exact rfl | assumption)); (focus (walk_at "pen_at")); (focus (k_mem)); (focus (k_ne)); (focus (k_ne)); (focus ((simp only [List.length_cons, List.length_nil]; lia))); (focus ((simp only [List.length_cons, List.length_nil]; lia))); (focus (walk_at "room")); (focus (walk_at "room")); rotate_left 1)); intro v9 y9 h' tk9 m9 F' N'; (try k_dflt (have q9 := pick_str4 m9; obtain ⟨w9, tw9, e9, ow9⟩ := q9; subst e9; clear m9)); (try dsimp only at N'); (try k_sweep)))
  k_with "eval ListComp" => focus ((k_here; first | (with_reducible refine' ListComp_W ?_ ?_ ?_ ?_ ?_ ?_ ?_ ?_; (rotate_right 8; (focus (k_asm)); (focus (with_unfolding_all rfl)); (focus (decide)); (focus (with_unfolding_all rfl)); (focus (decide)); (focus (with_unfolding_all rfl)); rotate_left 2); (rotate_right 1; (focus ((intro _; with_unfolding_all rfl))))) | (with_reducible refine' ListComp_WT ?_ ?_ ?_ ?_ ?_ ?_ ?_ ?_; (rotate_right 8; (focus (k_asm)); (focus (with_unfolding_all rfl)); (focus (decide)); (focus (with_unfolding_all rfl)); (focus (decide)); (focus (with_unfolding_all rfl)); rotate_left 2); (rotate_right 1; (focus ((intro _; with_unfolding_all rfl)))))))
  k_with "exec Assign cons ListComp" => focus ((k_here; k_dflt (first | refine Assign_ListComp_WT (_F₀ := by k_asm) (by rfl) (by with_unfolding_all rfl) (by with_unfolding_all rfl) (by decide) (by rfl) (by decide) (by rfl) (by rfl) (by rfl) ?_ | refine Assign_ListComp_W (_F₀ := by k_asm) (by rfl) (by with_unfolding_all rfl) (by with_unfolding_all rfl) (by decide) (by rfl) (by decide) (by rfl) (by rfl) (by rfl) ?_ | refine wpAny_Assign_Name ?_)))
  trivial
noncomputable def TabsOk (tabs : List (List (Int × Ent))) : Prop := ∀ t ∈ tabs, ∀ p ∈ t, EntOk 8 p
noncomputable def Above (pa la : Nat) (imm tl : List (Addr × Obj)) : Prop := ∀ p ∈ tl, (pa < p.1 ∧ la < p.1) ∧ ∀ q ∈ imm, q.1 < p.1
noncomputable def NewTab (prog : Program) (w : World) (h₀ : Heap) (L : Addr) (m : Str → Option Value) (s₁ : Shared) (pa la : Nat) (led : List (Addr × Obj)) (v : Value) (s₂ : Shared) : Prop :=
  ∃ (D : Nat) (o : Obj) (kvs : List (Int × Value)) (es : List (Int × Ent)) (tl : List (Addr × Obj)) (y : PenSt) (h' : Heap) (tk' : Nat), s₂ = { s₁ with heap := h', toks := tk' } ∧ v = .ref D ∧ o.IsDictOf (intKind prog w) kvs ∧ kvs.length ≤ 100 ∧ TabRel (EntIn w tl) kvs es ∧ (∀ p ∈ es, EntOk 8 p) ∧ (D == sysModules) = false ∧ (pa < D ∧ la < D ∧ AllLt D led) ∧ (∀ p ∈ tl, D < p.1) ∧
    Fr h₀ L h' m ∧ News h₀ L h' ((D, o) :: (pa, penA la y) :: (la, penB y) :: (tl ++ led))
theorem tables_src {prog : Program} {w : World} {A : Around} {h₀ : Heap} {L : Addr} {m : Str → Option Value} {env : Env} {elt : Expr} {x : Str} {scope : Scope} {cl : List (Str × Addr)} {Fin : Shared → List Value → List (Addr × Obj) → Prop} {S : List (Addr × Obj) → Prop} {n : Nat} {P : Nat → Value → Prop} {xv : Value} {s₁ : Shared} {pa la : Nat} {y : PenSt} {imm : List (Addr × Obj)}
    (I₀ : IterW prog w A xv s₁ S n P) (hS : ∀ l, S l) (hn : n ≤ 1000) (F : Fr h₀ L s₁.heap m) (N : News h₀ L s₁.heap ((pa, penA la y) :: (la, penB y) :: imm))
    (turn : ∀ (y' : PenSt) (tl : List (Addr × Obj)) (ys : List Value) (I : Nat) (oI : Obj) (C : Nat) (oC : Obj) (R : Nat) m₂ h tk (E' : Value → Shared → Prop), LCg.NsObj oC m₂ → (∀ p ∈ (I, oI) :: (C, oC) :: (R, LCg.lst ys) :: tl, p.1 ≠ pa) → (∀ p ∈ (I, oI) :: (C, oC) :: (R, LCg.lst ys) :: tl, p.1 ≠ la) →
      Fr h₀ L h m → News h₀ L h ((pa, penA la y') :: (la, penB y') :: (I, oI) :: (C, oC) :: (R, LCg.lst ys) :: (tl ++ imm)) → wpAny (model prog w) A (eval elt (compEnvC scope cl C env)) (fun v s₂ => Halt (NewTab prog w h₀ L m s₁ pa la ((I, oI) :: (C, oC) :: (R, LCg.lst ys) :: (tl ++ imm)) v s₂)) E' { s₁ with heap := h, toks := tk })
    (done : ∀ (ys : List Value) (tl : List (Addr × Obj)) (tabs : List (List (Int × Ent))) (y' : PenSt) hg, ListRel (TableIn prog w tl) ys tabs → ys.length = n → TabsOk tabs → Above pa la imm tl → Fin { s₁ with heap := hg } ys ((pa, penA la y') :: (la, penB y') :: (tl ++ imm))) :
    SrcW prog w A h₀ L m env elt x scope cl Fin xv s₁ := by
  refine ⟨_, S, n, P, I₀, by rw [sizeLine_eq]; lia, F, N, hS _, ?_⟩
  rintro s₂ ⟨hg, rfl⟩
  refine comp_inv (fun i ys nw => ∃ tl tabs y', nw = (pa, penA la y') :: (la, penB y') :: (tl ++ imm) ∧ ListRel (TableIn prog w tl) ys tabs ∧ ys.length = i ∧ TabsOk tabs ∧ Above pa la imm tl) ?_ ?_ n 0 [] _ (Nat.zero_add _) ⟨[], [], y, rfl, .nil, rfl, (fun _ h => nomatch h), fun _ h => nomatch h⟩
  · rintro i ys nw v I oI C oC R m₂ h tk E' hi hP ⟨tl, tabs, y', rfl, hr, hlen, hok, hab⟩ hC hx F' N' off ne
    have offm := off.mem
    have o1 : ∀ p ∈ (I, oI) :: (C, oC) :: (R, LCg.lst ys) :: tl, p.1 ≠ pa := fun p hp => by
      obtain ⟨q1, q2, q3⟩ := offm _ (.head _)
      simp only [List.mem_cons] at hp
      rcases hp with rfl | rfl | rfl | hp
      · exact Ne.symm q1
      · exact Ne.symm q2
      · exact Ne.symm q3
      · exact Nat.ne_of_gt (hab p hp).1.1
    have o2 : ∀ p ∈ (I, oI) :: (C, oC) :: (R, LCg.lst ys) :: tl, p.1 ≠ la := fun p hp => by
      obtain ⟨q1, q2, q3⟩ := offm _ (.tail _ (.head _))
      simp only [List.mem_cons] at hp
      rcases hp with rfl | rfl | rfl | hp
      · exact Ne.symm q1
      · exact Ne.symm q2
      · exact Ne.symm q3
      · exact Nat.ne_of_gt (hab p hp).1.2
    have N2 : News h₀ L h ((pa, penA la y') :: (la, penB y') :: (I, oI) :: (C, oC) :: (R, LCg.lst ys) :: (tl ++ imm)) := cb_drop N' (by
      intro p hp
      simp only [List.mem_cons, List.mem_append] at hp ⊢
      rcases hp with hp | hp | hp | hp | hp | hp | hp <;> simp [hp])
    refine wpAny_mono (turn y' tl ys I oI C oC R m₂ h tk E' hC o1 o2 F' N2) (fun v s₃ q => ?_) fun _ _ q => q
    obtain ⟨D, o, kvs, es, tl2, y2, h', tk', rfl, rfl, hd, hlk, rel, hes, lo, lD, ltl, F3, N3⟩ := q
    have hlt : ∀ q ∈ (I, oI) :: (C, oC) :: (R, LCg.lst ys) :: (tl ++ imm), q.1 < D := ktn_ltOf lD.2.2
    refine LCg.CompEnd.intro F3 N3 ((pa, penA la y2) :: (la, penB y2) :: (((D, o) :: tl2 ++ tl) ++ imm)) ?_ (LCg.Off3.of ?_) (hS _) ⟨(D, o) :: tl2 ++ tl, tabs ++ [es], y2, rfl, ?_, by rw [List.length_append, hlen]; rfl, ?_, ?_⟩
    · intro p hp
      simp only [List.mem_cons, List.mem_append, List.cons_append] at hp ⊢
      rcases hp with h | h | h | h | h | h | (h | h) | h <;> simp [h]
    · intro p hp
      have hI := hlt _ (.head _)
      have hC' := hlt _ (.tail _ (.head _))
      have hR := hlt _ (.tail _ (.tail _ (.head _)))
      simp only [List.mem_cons, List.mem_append, List.cons_append] at hp
      have big : ∀ p : Addr × Obj, D ≤ p.1 → p.1 ≠ I ∧ p.1 ≠ C ∧ p.1 ≠ R := fun p h => ⟨Nat.ne_of_gt (Nat.lt_of_lt_of_le hI h), Nat.ne_of_gt (Nat.lt_of_lt_of_le hC' h), Nat.ne_of_gt (Nat.lt_of_lt_of_le hR h)⟩
      rcases hp with rfl | rfl | rfl | (hp | hp) | hp
      · exact offm (pa, penA la y') (.head _)
      · exact offm (la, penB y') (.tail _ (.head _))
      · exact big _ (Nat.le_refl _)
      · exact big _ (Nat.le_of_lt (ltl p hp))
      · exact offm p (.tail _ (.tail _ (List.mem_append_left _ hp)))
      · exact offm p (.tail _ (.tail _ (List.mem_append_right _ hp)))
    · refine (hr.mono (TableIn.mono fun p hp => List.mem_append_right _ hp)).snoc ⟨D, o, kvs, rfl, List.mem_append_left _ (.head _), hd, lo, hlk, rel.mono (EntIn.mono fun p hp => List.mem_append_left _ (.tail _ hp))⟩
    · intro t ht
      rcases List.mem_append.mp ht with ht | ht
      · exact hok t ht
      · rw [List.mem_singleton.mp ht]; exact hes
    · intro p hp
      have up : ∀ p : Addr × Obj, D ≤ p.1 → (pa < p.1 ∧ la < p.1) ∧ ∀ q ∈ imm, q.1 < p.1 := fun p h => ⟨⟨Nat.lt_of_lt_of_le lD.1 h, Nat.lt_of_lt_of_le lD.2.1 h⟩, fun q hq => Nat.lt_of_lt_of_le (hlt q (.tail _ (.tail _ (.tail _ (List.mem_append_right _ hq))))) h⟩
      simp only [List.mem_cons, List.mem_append, List.cons_append] at hp
      rcases hp with rfl | hp | hp
      · exact up _ (Nat.le_refl _)
      · exact up _ (Nat.le_of_lt (ltl p hp))
      · exact hab p hp
  · rintro ys nw ⟨tl, tabs, y', rfl, hr, hlen, hok, hab⟩
    exact done ys tl tabs y' hg hr hlen hok hab
theorem iter_range {prog : Program} {w : World} {A : Around} {s : Shared} {r : Addr} {b : Int} {t u v : Tok} (hh : A.handled = none) (hr : IsRange s.heap r 0 b 1 t u v) (h0 : 0 ≤ b) (hb : b ≤ 1000) :
    IterW prog w A (.ref r) s (fun _ => True) b.toNat (fun i v => ∃ t, v = .int (0 + (i : Int)) t) :=
  IterW.range hh hr (small_one (by lia) (by lia) (by lia) (by lia)) ((rangeSize_nat 0 b).trans (by simp))
end
section
theorem rowsLwA1 : True := by
  k_with_none
  k_with "pen_at" => focus (first | with_reducible assumption | (refine' PenAt.head ?_ ?_ ?_; (rotate_right 3; (focus (first | with_reducible assumption | k_ne)); (focus (k_all)); (focus (k_all)))) | (refine' PenAt.tail ?_ ?_ ?_; (rotate_right 1; (focus (walk_at "pen_at"))); (rotate_right 2; (focus (k_ne)); (focus (k_ne)))))
  k_with "room" => focus (first | lia | (dsimp only [ktrTop, Around.deeper]; lia))
  k_with "enterC" => focus ((refine' code_defC ?_ ?_ ?_ ?_ ?_ ?_ ?_ ?_ ?_ ?_ ?_ ?_ ?_ ?_ ?_ ?_ ?_ ?_; (rotate_right 13; (focus (exact rfl)); (focus (exact rfl)); (focus (first | exact rfl | assumption)); rotate_left 10); (rotate_right 15; (focus (k_asm)); (focus (k_asm)); (focus (k_asm)); (focus (k_asm)); (focus (k_asm)); (focus (k_is)); (focus (k_is)); (focus (k_room)); (focus (exact BindsTo.of_eq rfl)); (focus (exact rfl)); (focus (decide +kernel)); rotate_left 4); (rotate_right 3; (focus (exact rfl)); (focus (exact rfl)); (focus (exact rfl))); k_whole; intro g' L' h' tk' cells' FG' F' N' Y' B' X' T' l1; (try k_lt l1); k_cells Y'; (try simp only [List.cons_append, List.nil_append] at N'); (try dsimp only); (try k_lift B'); (try k_fold)))
  k_with "eval Name" => focus ((k_here; (with_reducible show wpAny _ _ (eval (Expr.Name _ _) (compEnvC _ _ _ _)) _ _ _); k_dflt (first | (refine' lcf_cell ?_ ?_ ?_ ?_ ?_ ?_ ?_; (rotate_right 1; (focus (rfl))); (rotate_right 1; (focus (rfl))); (rotate_right 5; (focus (k_asm)); (focus (rfl)); (focus (k_mem)); (focus (k_asm)); rotate_left 1); k_whole) | (refine' lcf_free ?_ ?_ ?_ ?_ ?_ ?_ ?_; (rotate_right 1; (focus (rfl))); (rotate_right 1; (focus (rfl))); (rotate_right 5; (focus (k_asm)); (focus (rfl)); (focus (k_mem)); (focus (k_asm)); rotate_left 1); k_whole) | refine LCgL.ld_global (by k_asm) (by k_asm) (by k_asm) (by k_is) ?_)))
  k_with "exec For Name Name cons nil" => focus ((k_here; (rename Fr _ _ _ _ => lF'); (with_unfolding_all refine' For_invVF lF' ?_ ?_ ?_; (rotate_right 3; (focus (exact rfl)); (focus (exact rfl)); rotate_left 1); k_whole)))
  k_with "exec For Name Call cons nil" => focus ((k_here; (rename Fr _ _ _ _ => lF'); (with_unfolding_all refine' For_invVF lF' ?_ ?_ ?_; (rotate_right 3; (focus (exact rfl)); (focus (exact rfl)); rotate_left 1); k_whole)))
  k_with "call ref" => focus (((with_reducible show wpAny _ _ (call (Value.ref 256) _) _ _ _); k_dflt (refine' draw_ok ?_ ?_ ?_ ?_ ?_ ?_ ?_ ?_ ?_ ?_ ?_; (rotate_right 11; (focus (k_asm)); (focus (k_asm)); (focus (k_asm)); (focus (k_asm)); (focus (k_asm)); (focus (first | exact rfl | assumption)); (focus (walk_at "pen_at")); (focus (first | decide | lia)); (focus (walk_at "room")); (focus (walk_at "room")); rotate_left 1)); intro r9 t9 y9 h' tk9 lo9 hi9 F' N'; (try dsimp only at N'); (try k_sweep)))
  k_with "call ref" => focus (((with_reducible show wpAny _ _ (call (Value.ref 263) _) _ _ _); k_dflt (refine' pick_ok ?_ ?_ ?_ ?_ ?_ ?_ ?_ ?_ ?_ ?_ ?_ ?_ ?_ ?_ ?_; (rotate_right 15; (focus (k_asm)); (focus (k_asm)); (focus (k_asm)); (focus (k_asm)); (focus (k_asm)); (focus (first | exact rfl | assumption)); (focus (walk_at "pen_at")); (focus (k_mem)); (focus (k_ne)); (focus (k_ne)); (focus ((simp only [List.length_cons, List.length_nil]; lia))); (focus ((simp only [List.length_cons, List.length_nil]; lia))); (focus (walk_at "room")); (focus (walk_at "room")); rotate_left 1)); intro v9 y9 h' tk9 m9 F' N'; (try k_dflt (have q9 := pick_str4 m9; obtain ⟨w9, tw9, e9, ow9⟩ := q9; subst e9; clear m9)); (try dsimp only at N'); (try k_sweep)))
  k_with "eval ListComp" => focus ((k_here; first | (with_reducible refine' ListComp_W ?_ ?_ ?_ ?_ ?_ ?_ ?_ ?_; (rotate_right 8; (focus (k_asm)); (focus (with_unfolding_all rfl)); (focus (decide)); (focus (with_unfolding_all rfl)); (focus (decide)); (focus (with_unfolding_all rfl)); rotate_left 2); (rotate_right 1; (focus ((intro _; with_unfolding_all rfl))))) | (with_reducible refine' ListComp_WT ?_ ?_ ?_ ?_ ?_ ?_ ?_ ?_; (rotate_right 8; (focus (k_asm)); (focus (with_unfolding_all rfl)); (focus (decide)); (focus (with_unfolding_all rfl)); (focus (decide)); (focus (with_unfolding_all rfl)); rotate_left 2); (rotate_right 1; (focus ((intro _; with_unfolding_all rfl)))))))
  k_with "exec Assign cons ListComp" => focus ((k_here; k_dflt (first | refine Assign_ListComp_WT (_F₀ := by k_asm) (by rfl) (by with_unfolding_all rfl) (by with_unfolding_all rfl) (by decide) (by rfl) (by decide) (by rfl) (by rfl) (by rfl) ?_ | refine Assign_ListComp_W (_F₀ := by k_asm) (by rfl) (by with_unfolding_all rfl) (by with_unfolding_all rfl) (by decide) (by rfl) (by decide) (by rfl) (by rfl) (by rfl) ?_ | refine wpAny_Assign_Name ?_)))
  trivial
noncomputable def lawDef : Stmt := (PySem.Challenge.pw_nn0202_01.main.body.drop 29).headD (.Pass ⟨0, 0, 0, 0⟩)
noncomputable def lawBody : List Stmt := match lawDef with
  | .FunctionDef _ _ b _ _ _ _ _ _ _ => b
  | _ => []
noncomputable def lawScope : Scope := match lawDef with
  | .FunctionDef _ _ _ _ _ _ sc _ _ _ => sc
  | _ => { kind := .function, names := [], isGenerator := false, isCoroutine := false }
noncomputable def stm (k : Nat) : Stmt := (lawBody.drop k).headD (.Pass ⟨0, 0, 0, 0⟩)
section
variable {m : Str → Option Value} {x₁ x₂ x₃ x₄ : Str} {v₁ v₂ v₃ v₄ : Option Value}
theorem know1 (h₁ : m x₁ = v₁) : ∃ m₀ : Str → Option Value, m = fun z => if z = x₁ then v₁ else m₀ z :=
  ⟨m, funext fun z => by
    split
    · rename_i e; rw [e, h₁]
    · rfl⟩
theorem know2 (h₁ : m x₁ = v₁) (h₂ : m x₂ = v₂) : ∃ m₀ : Str → Option Value, m = fun z => if z = x₁ then v₁ else if z = x₂ then v₂ else m₀ z :=
  ⟨m, funext fun z => by
    split
    · rename_i e; rw [e, h₁]
    · split
      · rename_i e; rw [e, h₂]
      · rfl⟩
theorem know3 (h₁ : m x₁ = v₁) (h₂ : m x₂ = v₂) (h₃ : m x₃ = v₃) : ∃ m₀ : Str → Option Value, m = fun z => if z = x₁ then v₁ else if z = x₂ then v₂ else if z = x₃ then v₃ else m₀ z :=
  ⟨m, funext fun z => by
    split
    · rename_i e; rw [e, h₁]
    · split
      · rename_i e; rw [e, h₂]
      · split
        · rename_i e; rw [e, h₃]
        · rfl⟩
end
end
section
theorem rowsLwC1 : True := by
  k_with_none
  k_with "pen_at" => focus (first | with_reducible assumption | (refine' PenAt.head ?_ ?_ ?_; (rotate_right 3; (focus (first | with_reducible assumption | k_ne)); (focus (k_all)); (focus (k_all)))) | (refine' PenAt.tail ?_ ?_ ?_; (rotate_right 1; (focus (walk_at "pen_at"))); (rotate_right 2; (focus (k_ne)); (focus (k_ne)))))
  k_with "room" => focus (first | lia | (dsimp only [ktrTop, Around.deeper]; lia))
  k_with "enterC" => focus ((refine' code_defC ?_ ?_ ?_ ?_ ?_ ?_ ?_ ?_ ?_ ?_ ?_ ?_ ?_ ?_ ?_ ?_ ?_ ?_; (rotate_right 13; (focus (exact rfl)); (focus (exact rfl)); (focus (first | exact rfl | assumption)); rotate_left 10); (rotate_right 15; (focus (k_asm)); (focus (k_asm)); (focus (k_asm)); (focus (k_asm)); (focus (k_asm)); (focus (k_is)); (focus (k_is)); (focus (k_room)); (focus (exact BindsTo.of_eq rfl)); (focus (exact rfl)); (focus (decide +kernel)); rotate_left 4); (rotate_right 3; (focus (exact rfl)); (focus (exact rfl)); (focus (exact rfl))); k_whole; intro g' L' h' tk' cells' FG' F' N' Y' B' X' T' l1; (try k_lt l1); k_cells Y'; (try simp only [List.cons_append, List.nil_append] at N'); (try dsimp only); (try k_lift B'); (try k_fold)))
  k_with "eval Name" => focus ((k_here; (with_reducible show wpAny _ _ (eval (Expr.Name _ _) (compEnvC _ _ _ _)) _ _ _); k_dflt (first | (refine' lcf_cell ?_ ?_ ?_ ?_ ?_ ?_ ?_; (rotate_right 1; (focus (rfl))); (rotate_right 1; (focus (rfl))); (rotate_right 5; (focus (k_asm)); (focus (rfl)); (focus (k_mem)); (focus (k_asm)); rotate_left 1); k_whole) | (refine' lcf_free ?_ ?_ ?_ ?_ ?_ ?_ ?_; (rotate_right 1; (focus (rfl))); (rotate_right 1; (focus (rfl))); (rotate_right 5; (focus (k_asm)); (focus (rfl)); (focus (k_mem)); (focus (k_asm)); rotate_left 1); k_whole) | refine LCgL.ld_global (by k_asm) (by k_asm) (by k_asm) (by k_is) ?_)))
  k_with "exec For Name Name cons nil" => focus ((k_here; (rename Fr _ _ _ _ => lF'); (with_unfolding_all refine' For_invVF lF' ?_ ?_ ?_; (rotate_right 3; (focus (exact rfl)); (focus (exact rfl)); rotate_left 1); k_whole)))
  k_with "exec For Name Call cons nil" => focus ((k_here; (rename Fr _ _ _ _ => lF'); (with_unfolding_all refine' For_invVF lF' ?_ ?_ ?_; (rotate_right 3; (focus (exact rfl)); (focus (exact rfl)); rotate_left 1); k_whole)))
  k_with "call ref" => focus (((with_reducible show wpAny _ _ (call (Value.ref 256) _) _ _ _); k_dflt (refine' draw_ok ?_ ?_ ?_ ?_ ?_ ?_ ?_ ?_ ?_ ?_ ?_; (rotate_right 11; (focus (k_asm)); (focus (k_asm)); (focus (k_asm)); (focus (k_asm)); (focus (k_asm)); (focus (first | exact rfl | assumption)); (focus (walk_at "pen_at")); (focus (first | decide | lia)); (focus (walk_at "room")); (focus (walk_at "room")); rotate_left 1)); intro r9 t9 y9 h' tk9 lo9 hi9 F' N'; (try dsimp only at N'); (try k_sweep)))
  k_with "call ref" => focus (((with_reducible show wpAny _ _ (call (Value.ref 263) _) _ _ _); k_dflt (refine' pick_ok ?_ ?_ ?_ ?_ ?_ ?_ ?_ ?_ ?_ ?_ ?_ ?_ ?_ ?_ ?_; (rotate_right 15; (focus (k_asm)); (focus (k_asm)); (focus (k_asm)); (focus (k_asm)); (focus (k_asm)); (focus (first | exact rfl | assumption)); (focus (walk_at "pen_at")); (focus (k_mem)); (focus (k_ne)); (focus (k_ne)); (focus ((simp only [List.length_cons, List.length_nil]; lia))); (focus ((simp only [List.length_cons, List.length_nil]; lia))); (focus (walk_at "room")); (focus (walk_at "room")); rotate_left 1)); intro v9 y9 h' tk9 m9 F' N'; (try k_dflt (have q9 := pick_str4 m9; obtain ⟨w9, tw9, e9, ow9⟩ := q9; subst e9; clear m9)); (try dsimp only at N'); (try k_sweep)))
  k_with "eval ListComp" => focus ((k_here; first | (with_reducible refine' ListComp_W ?_ ?_ ?_ ?_ ?_ ?_ ?_ ?_; (rotate_right 8; (focus (k_asm)); (focus (with_unfolding_all rfl)); (focus (decide)); (focus (with_unfolding_all rfl)); (focus (decide)); (focus (with_unfolding_all rfl)); rotate_left 2); (rotate_right 1; (focus ((intro _; with_unfolding_all rfl))))) | (with_reducible refine' ListComp_WT ?_ ?_ ?_ ?_ ?_ ?_ ?_ ?_; (rotate_right 8; (focus (k_asm)); (focus (with_unfolding_all rfl)); (focus (decide)); (focus (with_unfolding_all rfl)); (focus (decide)); (focus (with_unfolding_all rfl)); rotate_left 2); (rotate_right 1; (focus ((intro _; with_unfolding_all rfl)))))))
  k_with "exec Assign cons ListComp" => focus ((k_here; k_dflt (first | refine Assign_ListComp_WT (_F₀ := by k_asm) (by rfl) (by with_unfolding_all rfl) (by with_unfolding_all rfl) (by decide) (by rfl) (by decide) (by rfl) (by rfl) (by rfl) ?_ | refine Assign_ListComp_W (_F₀ := by k_asm) (by rfl) (by with_unfolding_all rfl) (by with_unfolding_all rfl) (by decide) (by rfl) (by decide) (by rfl) (by rfl) (by rfl) ?_ | refine wpAny_Assign_Name ?_)))
  k_with "exec Assign cons ListComp" => focus ((k_here; k_dflt (first | (with_reducible refine' Assign_ListComp_W ?_ ?_ ?_ ?_ ?_ ?_ ?_ ?_ ?_ ?_ ?_ ?_; (rotate_right 12; (focus (k_asm)); (focus (with_unfolding_all rfl)); rotate_left 10); (rotate_right 9; (focus (with_unfolding_all rfl)); (focus (decide)); (focus (with_unfolding_all rfl)); (focus (decide)); (focus (with_unfolding_all rfl)); (focus (with_unfolding_all rfl)); (focus (with_unfolding_all rfl)); rotate_left 2); (rotate_right 1; (focus ((intro _; with_unfolding_all rfl)))); (rotate_right 2; (focus (with_unfolding_all rfl)); rotate_left 1)) | (with_reducible refine' Assign_ListComp_WT ?_ ?_ ?_ ?_ ?_ ?_ ?_ ?_ ?_ ?_ ?_ ?_; (rotate_right 12; (focus (k_asm)); (focus (with_unfolding_all rfl)); rotate_left 10); (rotate_right 9; (focus (with_unfolding_all rfl)); (focus (decide)); (focus (with_unfolding_all rfl)); (focus (decide)); (focus (with_unfolding_all rfl)); (focus (with_unfolding_all rfl)); (focus (with_unfolding_all rfl)); rotate_left 2); (rotate_right 1; (focus ((intro _; with_unfolding_all rfl)))); (rotate_right 2; (focus (with_unfolding_all rfl)); rotate_left 1)) | (with_reducible refine wpAny_Assign_Name ?_))))
  k_with "menu_int" => focus (repeat' (first | exact all_nil | (refine all_cons ?_ ?_) | (refine IntTo.mk' ?_ ?_ <;> first | lia | decide +kernel)))
  k_with "call ref" => focus (((with_reducible show wpAny _ _ (call (Value.ref 263) _) _ _ _); k_dflt (refine' pick_ok ?_ ?_ ?_ ?_ ?_ ?_ ?_ ?_ ?_ ?_ ?_ ?_ ?_ ?_ ?_; (rotate_right 15; (focus (k_asm)); (focus (k_asm)); (focus (k_asm)); (focus (k_asm)); (focus (k_asm)); (focus (first | exact rfl | assumption)); (focus (walk_at "pen_at")); (focus (k_mem)); (focus (k_ne)); (focus (k_ne)); (focus ((simp only [List.length_cons, List.length_nil]; lia))); (focus ((simp only [List.length_cons, List.length_nil]; lia))); (focus (walk_at "room")); (focus (walk_at "room")); rotate_left 1)); intro v9 y9 h' tk9 m9 F' N'; (try k_dflt (refine pick_elim (P := IntTo 1000) m9 ?_ ?_; (rotate_right 2; (focus (walk_at "menu_int")); rotate_left 1); intro q9; obtain ⟨i9, ti9, e9, lo9, hi9⟩ := q9; subst e9; clear m9)); (try dsimp only at N'); (try k_sweep)))
  trivial
theorem rowsLwC2 : True := by
  k_with "call ref" => focus (((with_reducible show wpAny _ _ (call (Value.ref 249) _) _ _ _); k_dflt (refine' lawpen_ok ?_ ?_ ?_ ?_ ?_ ?_ ?_ ?_ ?_ ?_ ?_ ?_; (rotate_right 12; (focus (k_asm)); (focus (k_asm)); (focus (k_asm)); (focus (k_asm)); (focus (k_asm)); (focus (first | exact rfl | assumption)); (focus (k_asm)); (focus (assumption)); (focus (lia)); (focus (walk_at "room")); (focus (walk_at "room")); rotate_left 1)); intro pa9 la9 y9 h' tk9 n9 l9 o9 F' N'; (try k_lt l9)))
  trivial
set_option maxRecDepth 100000 in
set_option maxHeartbeats 8000000 in
theorem st0 {w : World} {mean : ExcName → Option Value} {mg mb : Str → Option Value} {dp un : Nat} {gd : Option (List Code)} {a : Addr} {ccd : Value} {outer : List Env} {A₀ : Around} {base h₀ : Heap} {L : Addr} {m : Str → Option Value} {s : Shared} {E : Value → Shared → Prop} {Q : Flow → Shared → Prop} {sc : Nat} {vs : List Value} {ns : List Int} {o1 o2 o3 : Obj}
    (B : Below A₀ base outer h₀) (X : (Mine.hd.heap_1 w.params).In h₀) (T : Top Mine.hd.view_1 (looseW Mine.hd.view_1 [Str.ofString "PaperError"]) mean mg mb h₀) (hd : dp < 310) (hu : un < 300) (F : Fr h₀ L s.heap m) (hm : m (Str.ofString "script") = some (.ref sc)) (hs : h₀.IsList sc vs.toArray) (hi : IntsAre vs ns) (hlv : ns.length ≤ 63)
    (N : News h₀ L s.heap [(L + 1 + 1 + 1, o3), (L + 1 + 1, o2), (L + 1, o1)]) (d1 : o1.data = .cell none)
    (hnext : ∀ (pa la : Nat) (y : PenSt) (p1 : Obj) h' tk', pa ≠ la → (∀ p ∈ [(L + 1 + 1 + 1, o3), (L + 1 + 1, o2), (L + 1, p1)], p.1 ≠ pa) → (∀ p ∈ [(L + 1 + 1 + 1, o3), (L + 1 + 1, o2), (L + 1, p1)], p.1 ≠ la) → p1.data = .cell (some (.ref pa)) →
      Fr h₀ L h' m → News h₀ L h' ((pa, penA la y) :: (la, penB y) :: [(L + 1 + 1 + 1, o3), (L + 1 + 1, o2), (L + 1, p1)]) → Q .next { s with heap := h', toks := tk' }) :
    wpAny (model PySem.Challenge.rw_nn0202_01.row.prog w) (ktrTop dp un gd (Str.ofString "law") lawScope L a ccd [(Str.ofString "numbers", L + 1 + 1 + 1), (Str.ofString "due", L + 1 + 1), (Str.ofString "pen", L + 1)] outer) (exec (stm 0) (envX (Str.ofString "law") lawScope L a ccd [(Str.ofString "numbers", L + 1 + 1 + 1), (Str.ofString "due", L + 1 + 1), (Str.ofString "pen", L + 1)])) Q E s := by
  obtain ⟨m, rfl⟩ := know1 hm
  clear hm
  conv in (stm _) => whnf
  conv in lawScope => whnf
  conv in lawScope => whnf
  dsimp only
  revert X
  k_fill
  intro X
  k_steps
  rename AllLt _ _ => l9
  rename LCg.Off1 _ _ => o9
  obtain ⟨l1, l2, l3, _⟩ := l9
  obtain ⟨q1, q2, q3, _⟩ := o9
  dsimp only at l1 l2 l3 q1 q2 q3
  k_steps
  rename News _ _ _ _ => N9
  refine' hnext _ _ _ _ _ _ ?zp ?b ?c ?zd ?F N9; (case F => k_asm); (case zp => assumption); (case zd => assumption)
  all_goals (intro p hp; simp only [List.mem_cons, List.not_mem_nil, or_false] at hp; rcases hp with rfl | rfl | rfl <;> first | assumption | exact Nat.ne_of_lt (by assumption))
end
section
theorem rowsLwD1 : True := by
  k_with_none
  k_with "pen_at" => focus (first | with_reducible assumption | (refine' PenAt.head ?_ ?_ ?_; (rotate_right 3; (focus (first | with_reducible assumption | k_ne)); (focus (k_all)); (focus (k_all)))) | (refine' PenAt.tail ?_ ?_ ?_; (rotate_right 1; (focus (walk_at "pen_at"))); (rotate_right 2; (focus (k_ne)); (focus (k_ne)))))
  k_with "room" => focus (first | lia | (dsimp only [ktrTop, Around.deeper]; lia))
  k_with "enterC" => focus ((refine' code_defC ?_ ?_ ?_ ?_ ?_ ?_ ?_ ?_ ?_ ?_ ?_ ?_ ?_ ?_ ?_ ?_ ?_ ?_; (rotate_right 13; (focus (exact rfl)); (focus (exact rfl)); (focus (first | exact rfl | assumption)); rotate_left 10); (rotate_right 15; (focus (k_asm)); (focus (k_asm)); (focus (k_asm)); (focus (k_asm)); (focus (k_asm)); (focus (k_is)); (focus (k_is)); (focus (k_room)); (focus (exact BindsTo.of_eq rfl)); (focus (exact rfl)); (focus (decide +kernel)); rotate_left 4); (rotate_right 3; (focus (exact rfl)); (focus (exact rfl)); (focus (exact rfl))); k_whole; intro g' L' h' tk' cells' FG' F' N' Y' B' X' T' l1; (try k_lt l1); k_cells Y'; (try simp only [List.cons_append, List.nil_append] at N'); (try dsimp only); (try k_lift B'); (try k_fold)))
  k_with "eval Name" => focus ((k_here; (with_reducible show wpAny _ _ (eval (Expr.Name _ _) (compEnvC _ _ _ _)) _ _ _); k_dflt (first | (refine' lcf_cell ?_ ?_ ?_ ?_ ?_ ?_ ?_; (rotate_right 1; (focus (rfl))); (rotate_right 1; (focus (rfl))); (rotate_right 5; (focus (k_asm)); (focus (rfl)); (focus (k_mem)); (focus (k_asm)); rotate_left 1); k_whole) | (refine' lcf_free ?_ ?_ ?_ ?_ ?_ ?_ ?_; (rotate_right 1; (focus (rfl))); (rotate_right 1; (focus (rfl))); (rotate_right 5; (focus (k_asm)); (focus (rfl)); (focus (k_mem)); (focus (k_asm)); rotate_left 1); k_whole) | refine LCgL.ld_global (by k_asm) (by k_asm) (by k_asm) (by k_is) ?_)))
  k_with "exec For Name Name cons nil" => focus ((k_here; (rename Fr _ _ _ _ => lF'); (with_unfolding_all refine' For_invVF lF' ?_ ?_ ?_; (rotate_right 3; (focus (exact rfl)); (focus (exact rfl)); rotate_left 1); k_whole)))
  k_with "exec For Name Call cons nil" => focus ((k_here; (rename Fr _ _ _ _ => lF'); (with_unfolding_all refine' For_invVF lF' ?_ ?_ ?_; (rotate_right 3; (focus (exact rfl)); (focus (exact rfl)); rotate_left 1); k_whole)))
  k_with "call ref" => focus (((with_reducible show wpAny _ _ (call (Value.ref 256) _) _ _ _); k_dflt (refine' draw_ok ?_ ?_ ?_ ?_ ?_ ?_ ?_ ?_ ?_ ?_ ?_; (rotate_right 11; (focus (k_asm)); (focus (k_asm)); (focus (k_asm)); (focus (k_asm)); (focus (k_asm)); (focus (first | exact rfl | assumption)); (focus (walk_at "pen_at")); (focus (first | decide | lia)); (focus (walk_at "room")); (focus (walk_at "room")); rotate_left 1)); intro r9 t9 y9 h' tk9 lo9 hi9 F' N'; (try dsimp only at N'); (try k_sweep)))
  k_with "call ref" => focus (((with_reducible show wpAny _ _ (call (Value.ref 263) _) _ _ _); k_dflt (refine' pick_ok ?_ ?_ ?_ ?_ ?_ ?_ ?_ ?_ ?_ ?_ ?_ ?_ ?_ ?_ ?_; (rotate_right 15; (focus (k_asm)); (focus (k_asm)); (focus (k_asm)); (focus (k_asm)); (focus (k_asm)); (focus (first | exact rfl | assumption)); (focus (walk_at "pen_at")); (focus (k_mem)); (focus (k_ne)); (focus (k_ne)); (focus ((simp only [List.length_cons, List.length_nil]; lia))); (focus ((simp only [List.length_cons, List.length_nil]; lia))); (focus (walk_at "room")); (focus (walk_at "room")); rotate_left 1)); intro v9 y9 h' tk9 m9 F' N'; (try k_dflt (have q9 := pick_str4 m9; obtain ⟨w9, tw9, e9, ow9⟩ := q9; subst e9; clear m9)); (try dsimp only at N'); (try k_sweep)))
  k_with "eval ListComp" => focus ((k_here; first | (with_reducible refine' ListComp_W ?_ ?_ ?_ ?_ ?_ ?_ ?_ ?_; (rotate_right 8; (focus (k_asm)); (focus (with_unfolding_all rfl)); (focus (decide)); (focus (with_unfolding_all rfl)); (focus (decide)); (focus (with_unfolding_all rfl)); rotate_left 2); (rotate_right 1; (focus ((intro _; with_unfolding_all rfl))))) | (with_reducible refine' ListComp_WT ?_ ?_ ?_ ?_ ?_ ?_ ?_ ?_; (rotate_right 8; (focus (k_asm)); (focus (with_unfolding_all rfl)); (focus (decide)); (focus (with_unfolding_all rfl)); (focus (decide)); (focus (with_unfolding_all rfl)); rotate_left 2); (rotate_right 1; (focus ((intro _; with_unfolding_all rfl)))))))
  k_with "exec Assign cons ListComp" => focus ((k_here; k_dflt (first | refine Assign_ListComp_WT (_F₀ := by k_asm) (by rfl) (by with_unfolding_all rfl) (by with_unfolding_all rfl) (by decide) (by rfl) (by decide) (by rfl) (by rfl) (by rfl) ?_ | refine Assign_ListComp_W (_F₀ := by k_asm) (by rfl) (by with_unfolding_all rfl) (by with_unfolding_all rfl) (by decide) (by rfl) (by decide) (by rfl) (by rfl) (by rfl) ?_ | refine wpAny_Assign_Name ?_)))
  k_with "exec Assign cons ListComp" => focus ((k_here; k_dflt (first | (with_reducible refine' Assign_ListComp_W ?_ ?_ ?_ ?_ ?_ ?_ ?_ ?_ ?_ ?_ ?_ ?_; (rotate_right 12; (focus (k_asm)); (focus (with_unfolding_all rfl)); rotate_left 10); (rotate_right 9; (focus (with_unfolding_all rfl)); (focus (decide)); (focus (with_unfolding_all rfl)); (focus (decide)); (focus (with_unfolding_all rfl)); (focus (with_unfolding_all rfl)); (focus (with_unfolding_all rfl)); rotate_left 2); (rotate_right 1; (focus ((intro _; with_unfolding_all rfl)))); (rotate_right 2; (focus (with_unfolding_all rfl)); rotate_left 1)) | (with_reducible refine' Assign_ListComp_WT ?_ ?_ ?_ ?_ ?_ ?_ ?_ ?_ ?_ ?_ ?_ ?_; (rotate_right 12; (focus (k_asm)); (focus (with_unfolding_all rfl)); rotate_left 10); (rotate_right 9; (focus (with_unfolding_all rfl)); (focus (decide)); (focus (with_unfolding_all rfl)); (focus (decide)); (focus (with_unfolding_all rfl)); (focus (with_unfolding_all rfl)); (focus (with_unfolding_all rfl)); rotate_left 2); (rotate_right 1; (focus ((intro _; with_unfolding_all rfl)))); (rotate_right 2; (focus (with_unfolding_all rfl)); rotate_left 1)) | (with_reducible refine wpAny_Assign_Name ?_))))
  k_with "menu_int" => focus (repeat' (first | exact all_nil | (refine all_cons ?_ ?_) | (refine IntTo.mk' ?_ ?_ <;> first | lia | decide +kernel)))
  k_with "call ref" => focus (((with_reducible show wpAny _ _ (call (Value.ref 263) _) _ _ _); k_dflt (refine' pick_ok ?_ ?_ ?_ ?_ ?_ ?_ ?_ ?_ ?_ ?_ ?_ ?_ ?_ ?_ ?_; (rotate_right 15; (focus (k_asm)); (focus (k_asm)); (focus (k_asm)); (focus (k_asm)); (focus (k_asm)); (focus (first | exact rfl | assumption)); (focus (walk_at "pen_at")); (focus (k_mem)); (focus (k_ne)); (focus (k_ne)); (focus ((simp only [List.length_cons, List.length_nil]; lia))); (focus ((simp only [List.length_cons, List.length_nil]; lia))); (focus (walk_at "room")); (focus (walk_at "room")); rotate_left 1)); intro v9 y9 h' tk9 m9 F' N'; (try k_dflt (refine pick_elim (P := IntTo 1000) m9 ?_ ?_; (rotate_right 2; (focus (walk_at "menu_int")); rotate_left 1); intro q9; obtain ⟨i9, ti9, e9, lo9, hi9⟩ := q9; subst e9; clear m9)); (try dsimp only at N'); (try k_sweep)))
  k_with "call ref" => focus (((with_reducible show wpAny _ _ (call (Value.ref 263) _) _ _ _); k_dflt (refine' pick_ok ?_ ?_ ?_ ?_ ?_ ?_ ?_ ?_ ?_ ?_ ?_ ?_ ?_ ?_ ?_; (rotate_right 15; (focus (k_asm)); (focus (k_asm)); (focus (k_asm)); (focus (k_asm)); (focus (k_asm)); (focus (first | exact rfl | assumption)); (focus (walk_at "pen_at")); (focus (k_mem)); (focus (k_ne)); (focus (k_ne)); (focus ((simp only [List.length_cons, List.length_nil]; lia))); (focus ((simp only [List.length_cons, List.length_nil]; lia))); (focus (walk_at "room")); (focus (walk_at "room")); rotate_left 1)); intro v9 y9 h' tk9 m9 F' N'; (try k_dflt (refine pick_elim (P := IntTo 4) m9 ?_ ?_; (rotate_right 2; (focus (walk_at "menu_int")); rotate_left 1); intro q9; obtain ⟨i9, ti9, e9, lo9, hi9⟩ := q9; subst e9; clear m9)); (try dsimp only at N'); (try k_sweep)))
  k_with "call ref" => focus (((with_reducible show wpAny _ _ (call (Value.ref 270) _) _ _ _); k_dflt (refine' table_ok ?_ ?_ ?_ ?_ ?_ ?_ ?_ ?_ ?_ ?_ ?_ ?_ ?_; (rotate_right 13; (focus (k_asm)); (focus (k_asm)); (focus (k_asm)); (focus (k_asm)); (focus (k_asm)); (focus (first | exact rfl | assumption)); (focus (assumption)); (focus (assumption)); (focus (assumption)); (focus (decide)); (focus (walk_at "room")); (focus (walk_at "room")); rotate_left 1)); intro D9 o9 kvs9 es9 tl9 y9 h' tk9 d9 z9 r9 b9 lo9 l9 t9 F' N'))
  trivial
set_option maxRecDepth 100000 in
set_option maxHeartbeats 8000000 in
theorem st1 {w : World} {mean : ExcName → Option Value} {mg mb : Str → Option Value} {dp un : Nat} {gd : Option (List Code)} {a : Addr} {ccd : Value} {outer : List Env} {A₀ : Around} {base h₀ : Heap} {L : Addr} {m : Str → Option Value} {s : Shared} {E : Value → Shared → Prop} {Q : Flow → Shared → Prop} {pa la : Nat} {y : PenSt} {o2 o3 p1 : Obj}
    (B : Below A₀ base outer h₀) (X : (Mine.hd.heap_1 w.params).In h₀) (T : Top Mine.hd.view_1 (looseW Mine.hd.view_1 [Str.ofString "PaperError"]) mean mg mb h₀) (hd : dp < 310) (hu : un < 300) (F : Fr h₀ L s.heap m) (hpl : pa ≠ la) (hop : ∀ p ∈ [(L + 1 + 1 + 1, o3), (L + 1 + 1, o2), (L + 1, p1)], p.1 ≠ pa) (hol : ∀ p ∈ [(L + 1 + 1 + 1, o3), (L + 1 + 1, o2), (L + 1, p1)], p.1 ≠ la) (d1 : p1.data = .cell (some (.ref pa)))
    (N : News h₀ L s.heap ((pa, penA la y) :: (la, penB y) :: [(L + 1 + 1 + 1, o3), (L + 1 + 1, o2), (L + 1, p1)]))
    (hnext : ∀ (R : Nat) (ys : List Value) (tl : List (Addr × Obj)) (tabs : List (List (Int × Ent))) (y' : PenSt) h' tk', ListRel (TableIn PySem.Challenge.rw_nn0202_01.row.prog w tl) ys tabs → ys.length ≤ 4 → TabsOk tabs → Above pa la [(L + 1 + 1 + 1, o3), (L + 1 + 1, o2), (L + 1, p1)] tl → LCg.Off1 R ((pa, penA la y') :: (la, penB y') :: (tl ++ [(L + 1 + 1 + 1, o3), (L + 1 + 1, o2), (L + 1, p1)])) →
      Fr h₀ L h' (fun z => if z = Str.ofString "tables" then some (.ref R) else m z) → News h₀ L h' ((R, LCg.lst ys) :: (pa, penA la y') :: (la, penB y') :: (tl ++ [(L + 1 + 1 + 1, o3), (L + 1 + 1, o2), (L + 1, p1)])) → Q .next { s with heap := h', toks := tk' }) :
    wpAny (model PySem.Challenge.rw_nn0202_01.row.prog w) (ktrTop dp un gd (Str.ofString "law") lawScope L a ccd [(Str.ofString "numbers", L + 1 + 1 + 1), (Str.ofString "due", L + 1 + 1), (Str.ofString "pen", L + 1)] outer) (exec (stm 1) (envX (Str.ofString "law") lawScope L a ccd [(Str.ofString "numbers", L + 1 + 1 + 1), (Str.ofString "due", L + 1 + 1), (Str.ofString "pen", L + 1)])) Q E s := by
  conv in (stm _) => whnf
  conv in lawScope => whnf
  conv in lawScope => whnf
  dsimp only
  revert X
  k_fill
  intro X
  k_steps
  rename IsRange _ _ _ _ _ _ _ _ => R'
  refine' tables_src (iter_range ?hh R' (by assumption) (by lia)) (fun _ => trivial) ?hle ?F ?N ?turn ?done
  case hh => exact rfl
  case hle => lia
  case F => k_asm
  case N => (refine cb_drop (by assumption) ?_; intro p hp; exact .tail _ hp)
  case turn =>
    intro y' tl ys I oI C oC R m₂ h tk E' hC z1 z2 F' N'
    have z3 : ∀ p ∈ (I, oI) :: (C, oC) :: (R, LCg.lst ys) :: (tl ++ [(L + 1 + 1 + 1, o3), (L + 1 + 1, o2), (L + 1, p1)]), p.1 ≠ pa := fun p hp => by
      rw [← List.cons_append, ← List.cons_append, ← List.cons_append] at hp
      exact (List.mem_append.mp hp).elim (z1 p) (hop p)
    have z4 : ∀ p ∈ (I, oI) :: (C, oC) :: (R, LCg.lst ys) :: (tl ++ [(L + 1 + 1 + 1, o3), (L + 1 + 1, o2), (L + 1, p1)]), p.1 ≠ la := fun p hp => by
      rw [← List.cons_append, ← List.cons_append, ← List.cons_append] at hp
      exact (List.mem_append.mp hp).elim (z2 p) (hol p)
    k_steps
    exact ⟨_, _, _, _, _, _, _, _, rfl, rfl, by assumption, by assumption, by assumption, by assumption, by assumption, by assumption, by assumption, by assumption, by assumption⟩
  case done =>
    intro ys tl tabs y' hg hr hlen hok hab D' h' tk' F' N' o1'
    exact hnext _ _ _ _ _ _ _ hr (by lia) hok hab o1' F' N'
end
section
theorem rowsLwE1 : True := by
  k_with_none
  k_with "pen_at" => focus (first | with_reducible assumption | (refine' PenAt.head ?_ ?_ ?_; (rotate_right 3; (focus (first | with_reducible assumption | k_ne)); (focus (k_all)); (focus (k_all)))) | (refine' PenAt.tail ?_ ?_ ?_; (rotate_right 1; (focus (walk_at "pen_at"))); (rotate_right 2; (focus (k_ne)); (focus (k_ne)))))
  k_with "room" => focus (first | lia | (dsimp only [ktrTop, Around.deeper]; lia))
  k_with "enterC" => focus ((refine' code_defC ?_ ?_ ?_ ?_ ?_ ?_ ?_ ?_ ?_ ?_ ?_ ?_ ?_ ?_ ?_ ?_ ?_ ?_; (rotate_right 13; (focus (exact rfl)); (focus (exact rfl)); (focus (first | exact rfl | assumption)); rotate_left 10); (rotate_right 15; (focus (k_asm)); (focus (k_asm)); (focus (k_asm)); (focus (k_asm)); (focus (k_asm)); (focus (k_is)); (focus (k_is)); (focus (k_room)); (focus (exact BindsTo.of_eq rfl)); (focus (exact rfl)); (focus (decide +kernel)); rotate_left 4); (rotate_right 3; (focus (exact rfl)); (focus (exact rfl)); (focus (exact rfl))); k_whole; intro g' L' h' tk' cells' FG' F' N' Y' B' X' T' l1; (try k_lt l1); k_cells Y'; (try simp only [List.cons_append, List.nil_append] at N'); (try dsimp only); (try k_lift B'); (try k_fold)))
  k_with "eval Name" => focus ((k_here; (with_reducible show wpAny _ _ (eval (Expr.Name _ _) (compEnvC _ _ _ _)) _ _ _); k_dflt (first | (refine' lcf_cell ?_ ?_ ?_ ?_ ?_ ?_ ?_; (rotate_right 1; (focus (rfl))); (rotate_right 1; (focus (rfl))); (rotate_right 5; (focus (k_asm)); (focus (rfl)); (focus (k_mem)); (focus (k_asm)); rotate_left 1); k_whole) | (refine' lcf_free ?_ ?_ ?_ ?_ ?_ ?_ ?_; (rotate_right 1; (focus (rfl))); (rotate_right 1; (focus (rfl))); (rotate_right 5; (focus (k_asm)); (focus (rfl)); (focus (k_mem)); (focus (k_asm)); rotate_left 1); k_whole) | refine LCgL.ld_global (by k_asm) (by k_asm) (by k_asm) (by k_is) ?_)))
  k_with "exec For Name Name cons nil" => focus ((k_here; (rename Fr _ _ _ _ => lF'); (with_unfolding_all refine' For_invVF lF' ?_ ?_ ?_; (rotate_right 3; (focus (exact rfl)); (focus (exact rfl)); rotate_left 1); k_whole)))
  k_with "exec For Name Call cons nil" => focus ((k_here; (rename Fr _ _ _ _ => lF'); (with_unfolding_all refine' For_invVF lF' ?_ ?_ ?_; (rotate_right 3; (focus (exact rfl)); (focus (exact rfl)); rotate_left 1); k_whole)))
  k_with "call ref" => focus (((with_reducible show wpAny _ _ (call (Value.ref 256) _) _ _ _); k_dflt (refine' draw_ok ?_ ?_ ?_ ?_ ?_ ?_ ?_ ?_ ?_ ?_ ?_; (rotate_right 11; (focus (k_asm)); (focus (k_asm)); (focus (k_asm)); (focus (k_asm)); (focus (k_asm)); (focus (first | exact rfl | assumption)); (focus (walk_at "pen_at")); (focus (first | decide | lia)); (focus (walk_at "room")); (focus (walk_at "room")); rotate_left 1)); intro r9 t9 y9 h' tk9 lo9 hi9 F' N'; (try dsimp only at N'); (try k_sweep)))
  k_with "call ref" => focus (((with_reducible show wpAny _ _ (call (Value.ref 263) _) _ _ _); k_dflt (refine' pick_ok ?_ ?_ ?_ ?_ ?_ ?_ ?_ ?_ ?_ ?_ ?_ ?_ ?_ ?_ ?_; (rotate_right 15; (focus (k_asm)); (focus (k_asm)); (focus (k_asm)); (focus (k_asm)); (focus (k_asm)); (focus (first | exact rfl | assumption)); (focus (walk_at "pen_at")); (focus (k_mem)); (focus (k_ne)); (focus (k_ne)); (focus ((simp only [List.length_cons, List.length_nil]; lia))); (focus ((simp only [List.length_cons, List.length_nil]; lia))); (focus (walk_at "room")); (focus (walk_at "room")); rotate_left 1)); intro v9 y9 h' tk9 m9 F' N'; (try k_dflt (have q9 := pick_str4 m9; obtain ⟨w9, tw9, e9, ow9⟩ := q9; subst e9; clear m9)); (try dsimp only at N'); (try k_sweep)))
  k_with "eval ListComp" => focus ((k_here; first | (with_reducible refine' ListComp_W ?_ ?_ ?_ ?_ ?_ ?_ ?_ ?_; (rotate_right 8; (focus (k_asm)); (focus (with_unfolding_all rfl)); (focus (decide)); (focus (with_unfolding_all rfl)); (focus (decide)); (focus (with_unfolding_all rfl)); rotate_left 2); (rotate_right 1; (focus ((intro _; with_unfolding_all rfl))))) | (with_reducible refine' ListComp_WT ?_ ?_ ?_ ?_ ?_ ?_ ?_ ?_; (rotate_right 8; (focus (k_asm)); (focus (with_unfolding_all rfl)); (focus (decide)); (focus (with_unfolding_all rfl)); (focus (decide)); (focus (with_unfolding_all rfl)); rotate_left 2); (rotate_right 1; (focus ((intro _; with_unfolding_all rfl)))))))
  k_with "exec Assign cons ListComp" => focus ((k_here; k_dflt (first | refine Assign_ListComp_WT (_F₀ := by k_asm) (by rfl) (by with_unfolding_all rfl) (by with_unfolding_all rfl) (by decide) (by rfl) (by decide) (by rfl) (by rfl) (by rfl) ?_ | refine Assign_ListComp_W (_F₀ := by k_asm) (by rfl) (by with_unfolding_all rfl) (by with_unfolding_all rfl) (by decide) (by rfl) (by decide) (by rfl) (by rfl) (by rfl) ?_ | refine wpAny_Assign_Name ?_)))
  k_with "exec Assign cons ListComp" => focus ((k_here; k_dflt (first | (with_reducible refine' Assign_ListComp_W ?_ ?_ ?_ ?_ ?_ ?_ ?_ ?_ ?_ ?_ ?_ ?_; (rotate_right 12; (focus (k_asm)); (focus (with_unfolding_all rfl)); rotate_left 10); (rotate_right 9; (focus (with_unfolding_all rfl)); (focus (decide)); (focus (with_unfolding_all rfl)); (focus (decide)); (focus (with_unfolding_all rfl)); (focus (with_unfolding_all rfl)); (focus (with_unfolding_all rfl)); rotate_left 2); (rotate_right 1; (focus ((intro _; with_unfolding_all rfl)))); (rotate_right 2; (focus (with_unfolding_all rfl)); rotate_left 1)) | (with_reducible refine' Assign_ListComp_WT ?_ ?_ ?_ ?_ ?_ ?_ ?_ ?_ ?_ ?_ ?_ ?_; (rotate_right 12; (focus (k_asm)); (focus (with_unfolding_all rfl)); rotate_left 10); (rotate_right 9; (focus (with_unfolding_all rfl)); (focus (decide)); (focus (with_unfolding_all rfl)); (focus (decide)); (focus (with_unfolding_all rfl)); (focus (with_unfolding_all rfl)); (focus (with_unfolding_all rfl)); rotate_left 2); (rotate_right 1; (focus ((intro _; with_unfolding_all rfl)))); (rotate_right 2; (focus (with_unfolding_all rfl)); rotate_left 1)) | (with_reducible refine wpAny_Assign_Name ?_))))
  k_with "menu_int" => focus (repeat' (first | exact all_nil | (refine all_cons ?_ ?_) | (refine IntTo.mk' ?_ ?_ <;> first | lia | decide +kernel)))
  k_with "call ref" => focus (((with_reducible show wpAny _ _ (call (Value.ref 263) _) _ _ _); k_dflt (refine' pick_ok ?_ ?_ ?_ ?_ ?_ ?_ ?_ ?_ ?_ ?_ ?_ ?_ ?_ ?_ ?_; (rotate_right 15; (focus (k_asm)); (focus (k_asm)); (focus (k_asm)); (focus (k_asm)); (focus (k_asm)); (focus (first | exact rfl | assumption)); (focus (walk_at "pen_at")); (focus (k_mem)); (focus (k_ne)); (focus (k_ne)); (focus ((simp only [List.length_cons, List.length_nil]; lia))); (focus ((simp only [List.length_cons, List.length_nil]; lia))); (focus (walk_at "room")); (focus (walk_at "room")); rotate_left 1)); intro v9 y9 h' tk9 m9 F' N'; (try k_dflt (refine pick_elim (P := IntTo 1000) m9 ?_ ?_; (rotate_right 2; (focus (walk_at "menu_int")); rotate_left 1); intro q9; obtain ⟨i9, ti9, e9, lo9, hi9⟩ := q9; subst e9; clear m9)); (try dsimp only at N'); (try k_sweep)))
  trivial
noncomputable def RowsIn (l : List (Addr × Obj)) (v : Value) (t : List (Int × Ent)) : Prop := ∃ (R : Nat) (ys : List Value), v = .ref R ∧ (R, LCg.lst ys) ∈ l ∧ ListRel (RowIn l) ys t
theorem RowsIn.mono {l l' : List (Addr × Obj)} (h : ∀ p ∈ l, p ∈ l') : ∀ v t, RowsIn l v t → RowsIn l' v t := by
  rintro v t ⟨R, ys, rfl, h1, h2⟩
  exact ⟨R, ys, rfl, h _ h1, h2.mono (RowIn.mono h)⟩
noncomputable def NewRows (h₀ : Heap) (L : Addr) (m : Str → Option Value) (s₁ : Shared) (led : List (Addr × Obj)) (es : List (Int × Ent)) (v : Value) (s₂ : Shared) : Prop :=
  ∃ (R : Nat) (ys : List Value) (tl : List (Addr × Obj)) (h' : Heap) (tk' : Nat), s₂ = { s₁ with heap := h', toks := tk' } ∧ v = .ref R ∧ ListRel (RowIn tl) ys es ∧ Apart led ((R, LCg.lst ys) :: tl) ∧ Fr h₀ L h' m ∧ News h₀ L h' ((R, LCg.lst ys) :: (tl ++ led))
theorem rows_src {prog : Program} {w : World} {A : Around} {h₀ : Heap} {L : Addr} {m : Str → Option Value} {env : Env} {elt : Expr} {x : Str} {scope : Scope} {cl : List (Str × Addr)} {Fin : Shared → List Value → List (Addr × Obj) → Prop} {s₁ : Shared} {TA nn : Nat} {refs : List Value} {tabs : List (List (Int × Ent))} {news : List (Addr × Obj)}
    (hh : A.handled = none) (F : Fr h₀ L s₁.heap m) (N : News h₀ L s₁.heap news) (hT : (TA, listOf refs.toArray nn) ∈ news) (relT : ListRel (TableIn prog w news) refs tabs) (hn : refs.length ≤ 1000)
    (turn : ∀ (D : Nat) (o : Obj) (kvs : List (Int × Value)) (es : List (Int × Ent)) (tl : List (Addr × Obj)) (ys : List Value) (I : Nat) (oI : Obj) (C : Nat) (oC : Obj) (R : Nat) m₂ h tk (E' : Value → Shared → Prop), (D, o) ∈ news → o.IsDictOf (intKind prog w) kvs → (D == sysModules) = false → kvs.length ≤ 100 → TabRel (EntIn w news) kvs es → LCg.NsObj oC m₂ → m₂ x = some (.ref D) →
      Fr h₀ L h m → News h₀ L h ((I, oI) :: (C, oC) :: (R, LCg.lst ys) :: (tl ++ news)) → wpAny (model prog w) A (eval elt (compEnvC scope cl C env)) (fun v s₂ => Halt (NewRows h₀ L m s₁ ((I, oI) :: (C, oC) :: (R, LCg.lst ys) :: (tl ++ news)) es v s₂)) E' { s₁ with heap := h, toks := tk })
    (done : ∀ (ys : List Value) (tl : List (Addr × Obj)) hg, ListRel (RowsIn tl) ys tabs → Apart news tl → Fin { s₁ with heap := hg } ys (tl ++ news)) :
    SrcW prog w A h₀ L m env elt x scope cl Fin (.ref TA) s₁ := by
  refine ⟨_, _, _, _, IterW.list hh N hT, by rw [sizeLine_eq]; lia, F, N, hT, ?_⟩
  rintro s₂ ⟨hg, rfl⟩
  refine comp_inv (fun i ys nw => ∃ tl, nw = tl ++ news ∧ ListRel (RowsIn tl) ys (tabs.take i) ∧ Apart news tl) ?_ ?_ refs.length 0 [] _ (Nat.zero_add _) ⟨[], rfl, .nil, fun q _ p hp => nomatch hp⟩
  · rintro i ys nw v I oI C oC R m₂ h tk E' hi hP ⟨tl, rfl, hr, hap⟩ hC hx F' N' off ne
    obtain ⟨es, he, D, o, kvs, rfl, h1, h2, h3, h4, h5⟩ := relT.get hP
    refine wpAny_mono (turn D o kvs es tl ys I oI C oC R m₂ h tk E' h1 h2 h3 h4 h5 hC hx F' N') (fun v s₃ q => ?_) fun _ _ q => q
    obtain ⟨R', ys', tl', h', tk', rfl, rfl, hrow, hap', F3, N3⟩ := q
    have offm := off.mem
    refine LCg.CompEnd.intro F3 N3 (((R', LCg.lst ys') :: tl' ++ tl) ++ news) ?_ (LCg.Off3.of ?_) (List.mem_append_right _ hT) ⟨(R', LCg.lst ys') :: tl' ++ tl, rfl, ?_, ?_⟩
    · intro p hp
      simp only [List.mem_cons, List.mem_append, List.cons_append] at hp ⊢
      rcases hp with h | h | h | h | (h | h) | h <;> simp [h]
    · intro p hp
      simp only [List.mem_append] at hp
      rcases hp with (hp | hp) | hp
      · exact ⟨Ne.symm (hap' (I, oI) (.head _) p hp), Ne.symm (hap' (C, oC) (.tail _ (.head _)) p hp), Ne.symm (hap' (R, LCg.lst ys) (.tail _ (.tail _ (.head _))) p hp)⟩
      · exact offm p (List.mem_append_left _ hp)
      · exact offm p (List.mem_append_right _ hp)
    · rw [take_snoc he]
      exact (hr.mono (RowsIn.mono fun p hp => List.mem_append_right _ hp)).snoc ⟨R', ys', rfl, List.mem_append_left _ (.head _), hrow.mono (RowIn.mono fun p hp => List.mem_append_left _ (.tail _ hp))⟩
    · intro q hq p hp
      rcases List.mem_append.mp hp with hp | hp
      · exact hap' q (.tail _ (.tail _ (.tail _ (List.mem_append_right _ hq)))) p hp
      · exact hap q hq p hp
  · rintro ys nw ⟨tl, rfl, hr, hap⟩
    have ht : tabs.take refs.length = tabs := by rw [relT.length]; exact List.take_length
    rw [ht] at hr
    exact done ys tl hg hr hap
theorem rowsLwE2 : True := by
  k_with "call ref" => focus (((with_reducible show wpAny _ _ (call (Value.ref 275) _) _ _ _); k_dflt (refine' told_ok ?_ ?_ ?_ ?_ ?_ ?_ ?_ ?_ ?_ ?_ ?_ ?_ ?_ ?_; (rotate_right 14; (focus (k_asm)); (focus (k_asm)); (focus (k_asm)); (focus (k_asm)); (focus (k_asm)); (focus (first | exact rfl | assumption)); (focus (assumption)); (focus (assumption)); (focus (assumption)); (focus (lia)); (focus (assumption)); (focus (walk_at "room")); (focus (walk_at "room")); rotate_left 1)); intro R9 ys9 tl9 h' tk9 r9 a9 F' N'))
  trivial
set_option maxRecDepth 100000 in
set_option maxHeartbeats 8000000 in
theorem st2 {w : World} {mean : ExcName → Option Value} {mg mb : Str → Option Value} {dp un : Nat} {gd : Option (List Code)} {a : Addr} {ccd : Value} {outer : List Env} {A₀ : Around} {base h₀ : Heap} {L : Addr} {m : Str → Option Value} {s : Shared} {E : Value → Shared → Prop} {Q : Flow → Shared → Prop} {TA nn : Nat} {refs : List Value} {tabs : List (List (Int × Ent))} {news : List (Addr × Obj)}
    (B : Below A₀ base outer h₀) (X : (Mine.hd.heap_1 w.params).In h₀) (T : Top Mine.hd.view_1 (looseW Mine.hd.view_1 [Str.ofString "PaperError"]) mean mg mb h₀) (hd : dp < 310) (hu : un < 300) (F : Fr h₀ L s.heap m) (hm : m (Str.ofString "tables") = some (.ref TA)) (N : News h₀ L s.heap news) (hT : (TA, listOf refs.toArray nn) ∈ news) (relT : ListRel (TableIn PySem.Challenge.rw_nn0202_01.row.prog w news) refs tabs) (hn : refs.length ≤ 4)
    (hnext : ∀ (R : Nat) (ys : List Value) (tl : List (Addr × Obj)) h' tk', ListRel (RowsIn tl) ys tabs → Apart news ((R, LCg.lst ys) :: tl) → LCg.Off1 R (tl ++ news) →
      Fr h₀ L h' (fun z => if z = Str.ofString "rows" then some (.ref R) else m z) → News h₀ L h' ((R, LCg.lst ys) :: (tl ++ news)) → Q .next { s with heap := h', toks := tk' }) :
    wpAny (model PySem.Challenge.rw_nn0202_01.row.prog w) (ktrTop dp un gd (Str.ofString "law") lawScope L a ccd [(Str.ofString "numbers", L + 1 + 1 + 1), (Str.ofString "due", L + 1 + 1), (Str.ofString "pen", L + 1)] outer) (exec (stm 2) (envX (Str.ofString "law") lawScope L a ccd [(Str.ofString "numbers", L + 1 + 1 + 1), (Str.ofString "due", L + 1 + 1), (Str.ofString "pen", L + 1)])) Q E s := by
  obtain ⟨m, rfl⟩ := know1 hm
  clear hm
  conv in (stm _) => whnf
  conv in lawScope => whnf
  conv in lawScope => whnf
  dsimp only
  revert X
  k_fill
  intro X
  k_steps
  refine' rows_src ?hh ?F ?N hT relT (by lia) ?turn ?done
  case hh => exact rfl
  case F => k_asm
  case N => k_asm
  case turn =>
    intro D o kvs es tl ys I oI C oC R m₂ h tk E' h1 h2 h3 h4 h5 hC hx F' N'
    have hD : (D, o) ∈ (I, oI) :: (C, oC) :: (R, LCg.lst ys) :: (tl ++ news) := .tail _ (.tail _ (.tail _ (List.mem_append_right _ h1)))
    have hrel : TabRel (EntIn w ((I, oI) :: (C, oC) :: (R, LCg.lst ys) :: (tl ++ news))) kvs es := h5.mono (EntIn.mono fun p hp => .tail _ (.tail _ (.tail _ (List.mem_append_right _ hp))))
    k_steps
    exact ⟨_, _, _, _, _, rfl, rfl, by assumption, by assumption, by assumption, by assumption⟩
  case done =>
    intro ys tl hg hr hap D' h' tk' F' N' o1'
    refine hnext _ _ _ _ _ hr (fun q hq p hp => ?_) o1' F' N'
    rcases List.mem_cons.mp hp with rfl | hp
    · exact off1_mem o1' q (List.mem_append_right _ hq)
    · exact hap q hq p hp
end
section
theorem rowsLwF1 : True := by
  k_with_none
  k_with "pen_at" => focus (first | with_reducible assumption | (refine' PenAt.head ?_ ?_ ?_; (rotate_right 3; (focus (first | with_reducible assumption | k_ne)); (focus (k_all)); (focus (k_all)))) | (refine' PenAt.tail ?_ ?_ ?_; (rotate_right 1; (focus (walk_at "pen_at"))); (rotate_right 2; (focus (k_ne)); (focus (k_ne)))))
  k_with "room" => focus (first | lia | (dsimp only [ktrTop, Around.deeper]; lia))
  k_with "enterC" => focus ((refine' code_defC ?_ ?_ ?_ ?_ ?_ ?_ ?_ ?_ ?_ ?_ ?_ ?_ ?_ ?_ ?_ ?_ ?_ ?_; (rotate_right 13; (focus (exact rfl)); (focus (exact rfl)); (focus (first | exact rfl | assumption)); rotate_left 10); (rotate_right 15; (focus (k_asm)); (focus (k_asm)); (focus (k_asm)); (focus (k_asm)); (focus (k_asm)); (focus (k_is)); (focus (k_is)); (focus (k_room)); (focus (exact BindsTo.of_eq rfl)); (focus (exact rfl)); (focus (decide +kernel)); rotate_left 4); (rotate_right 3; (focus (exact rfl)); (focus (exact rfl)); (focus (exact rfl))); k_whole; intro g' L' h' tk' cells' FG' F' N' Y' B' X' T' l1; (try k_lt l1); k_cells Y'; (try simp only [List.cons_append, List.nil_append] at N'); (try dsimp only); (try k_lift B'); (try k_fold)))
  k_with "eval Name" => focus ((k_here; (with_reducible show wpAny _ _ (eval (Expr.Name _ _) (compEnvC _ _ _ _)) _ _ _); k_dflt (first | (refine' lcf_cell ?_ ?_ ?_ ?_ ?_ ?_ ?_; (rotate_right 1; (focus (rfl))); (rotate_right 1; (focus (rfl))); (rotate_right 5; (focus (k_asm)); (focus (rfl)); (focus (k_mem)); (focus (k_asm)); rotate_left 1); k_whole) | (refine' lcf_free ?_ ?_ ?_ ?_ ?_ ?_ ?_; (rotate_right 1; (focus (rfl))); (rotate_right 1; (focus (rfl))); (rotate_right 5; (focus (k_asm)); (focus (rfl)); (focus (k_mem)); (focus (k_asm)); rotate_left 1); k_whole) | refine LCgL.ld_global (by k_asm) (by k_asm) (by k_asm) (by k_is) ?_)))
  k_with "exec For Name Name cons nil" => focus ((k_here; (rename Fr _ _ _ _ => lF'); (with_unfolding_all refine' For_invVF lF' ?_ ?_ ?_; (rotate_right 3; (focus (exact rfl)); (focus (exact rfl)); rotate_left 1); k_whole)))
  k_with "exec For Name Call cons nil" => focus ((k_here; (rename Fr _ _ _ _ => lF'); (with_unfolding_all refine' For_invVF lF' ?_ ?_ ?_; (rotate_right 3; (focus (exact rfl)); (focus (exact rfl)); rotate_left 1); k_whole)))
  k_with "call ref" => focus (((with_reducible show wpAny _ _ (call (Value.ref 256) _) _ _ _); k_dflt (refine' draw_ok ?_ ?_ ?_ ?_ ?_ ?_ ?_ ?_ ?_ ?_ ?_; (rotate_right 11; (focus (k_asm)); (focus (k_asm)); (focus (k_asm)); (focus (k_asm)); (focus (k_asm)); (focus (first | exact rfl | assumption)); (focus (walk_at "pen_at")); (focus (first | decide | lia)); (focus (walk_at "room")); (focus (walk_at "room")); rotate_left 1)); intro r9 t9 y9 h' tk9 lo9 hi9 F' N'; (try dsimp only at N'); (try k_sweep)))
  k_with "call ref" => focus (((with_reducible show wpAny _ _ (call (Value.ref 263) _) _ _ _); k_dflt (refine' pick_ok ?_ ?_ ?_ ?_ ?_ ?_ ?_ ?_ ?_ ?_ ?_ ?_ ?_ ?_ ?_; (rotate_right 15; (focus (k_asm)); (focus (k_asm)); (focus (k_asm)); (focus (k_asm)); (focus (k_asm)); (focus (first | exact rfl | assumption)); (focus (walk_at "pen_at")); (focus (k_mem)); (focus (k_ne)); (focus (k_ne)); (focus ((simp only [List.length_cons, List.length_nil]; lia))); (focus ((simp only [List.length_cons, List.length_nil]; lia))); (focus (walk_at "room")); (focus (walk_at "room")); rotate_left 1)); intro v9 y9 h' tk9 m9 F' N'; (try k_dflt (have q9 := pick_str4 m9; obtain ⟨w9, tw9, e9, ow9⟩ := q9; subst e9; clear m9)); (try dsimp only at N'); (try k_sweep)))
  k_with "eval ListComp" => focus ((k_here; first | (with_reducible refine' ListComp_W ?_ ?_ ?_ ?_ ?_ ?_ ?_ ?_; (rotate_right 8; (focus (k_asm)); (focus (with_unfolding_all rfl)); (focus (decide)); (focus (with_unfolding_all rfl)); (focus (decide)); (focus (with_unfolding_all rfl)); rotate_left 2); (rotate_right 1; (focus ((intro _; with_unfolding_all rfl))))) | (with_reducible refine' ListComp_WT ?_ ?_ ?_ ?_ ?_ ?_ ?_ ?_; (rotate_right 8; (focus (k_asm)); (focus (with_unfolding_all rfl)); (focus (decide)); (focus (with_unfolding_all rfl)); (focus (decide)); (focus (with_unfolding_all rfl)); rotate_left 2); (rotate_right 1; (focus ((intro _; with_unfolding_all rfl)))))))
  k_with "exec Assign cons ListComp" => focus ((k_here; k_dflt (first | refine Assign_ListComp_WT (_F₀ := by k_asm) (by rfl) (by with_unfolding_all rfl) (by with_unfolding_all rfl) (by decide) (by rfl) (by decide) (by rfl) (by rfl) (by rfl) ?_ | refine Assign_ListComp_W (_F₀ := by k_asm) (by rfl) (by with_unfolding_all rfl) (by with_unfolding_all rfl) (by decide) (by rfl) (by decide) (by rfl) (by rfl) (by rfl) ?_ | refine wpAny_Assign_Name ?_)))
  k_with "exec Assign cons ListComp" => focus ((k_here; k_dflt (first | (with_reducible refine' Assign_ListComp_W ?_ ?_ ?_ ?_ ?_ ?_ ?_ ?_ ?_ ?_ ?_ ?_; (rotate_right 12; (focus (k_asm)); (focus (with_unfolding_all rfl)); rotate_left 10); (rotate_right 9; (focus (with_unfolding_all rfl)); (focus (decide)); (focus (with_unfolding_all rfl)); (focus (decide)); (focus (with_unfolding_all rfl)); (focus (with_unfolding_all rfl)); (focus (with_unfolding_all rfl)); rotate_left 2); (rotate_right 1; (focus ((intro _; with_unfolding_all rfl)))); (rotate_right 2; (focus (with_unfolding_all rfl)); rotate_left 1)) | (with_reducible refine' Assign_ListComp_WT ?_ ?_ ?_ ?_ ?_ ?_ ?_ ?_ ?_ ?_ ?_ ?_; (rotate_right 12; (focus (k_asm)); (focus (with_unfolding_all rfl)); rotate_left 10); (rotate_right 9; (focus (with_unfolding_all rfl)); (focus (decide)); (focus (with_unfolding_all rfl)); (focus (decide)); (focus (with_unfolding_all rfl)); (focus (with_unfolding_all rfl)); (focus (with_unfolding_all rfl)); rotate_left 2); (rotate_right 1; (focus ((intro _; with_unfolding_all rfl)))); (rotate_right 2; (focus (with_unfolding_all rfl)); rotate_left 1)) | (with_reducible refine wpAny_Assign_Name ?_))))
  k_with "menu_int" => focus (repeat' (first | exact all_nil | (refine all_cons ?_ ?_) | (refine IntTo.mk' ?_ ?_ <;> first | lia | decide +kernel)))
  k_with "call ref" => focus (((with_reducible show wpAny _ _ (call (Value.ref 263) _) _ _ _); k_dflt (refine' pick_ok ?_ ?_ ?_ ?_ ?_ ?_ ?_ ?_ ?_ ?_ ?_ ?_ ?_ ?_ ?_; (rotate_right 15; (focus (k_asm)); (focus (k_asm)); (focus (k_asm)); (focus (k_asm)); (focus (k_asm)); (focus (first | exact rfl | assumption)); (focus (walk_at "pen_at")); (focus (k_mem)); (focus (k_ne)); (focus (k_ne)); (focus ((simp only [List.length_cons, List.length_nil]; lia))); (focus ((simp only [List.length_cons, List.length_nil]; lia))); (focus (walk_at "room")); (focus (walk_at "room")); rotate_left 1)); intro v9 y9 h' tk9 m9 F' N'; (try k_dflt (refine pick_elim (P := IntTo 1000) m9 ?_ ?_; (rotate_right 2; (focus (walk_at "menu_int")); rotate_left 1); intro q9; obtain ⟨i9, ti9, e9, lo9, hi9⟩ := q9; subst e9; clear m9)); (try dsimp only at N'); (try k_sweep)))
  trivial
section
variable {prog : Program} {w : World} {A : Around} {E : Value → Shared → Prop} {s : Shared} {env : Env} {h₀ : Heap} {target : Expr} {body : List Stmt} {Q : Flow → Shared → Prop}
theorem lp_listT {σ : Type} {x : Str} {l : Addr} {vs : List Value} {nn : Nat} {m₀ : Str → Option Value} {news : List (Addr × Obj)}
    (M : σ → Str → Option Value) (Led : σ → List (Addr × Obj)) (Inv : Nat → σ → Prop) (c₀ : σ)
    (hh : A.handled = none) (F : Fr h₀ env.locals s.heap m₀) (N : News h₀ env.locals s.heap news) (hl : (l, listOf vs.toArray nn) ∈ news) (hext : ∀ i c, Inv i c → (l, listOf vs.toArray nn) ∈ Led c)
    (hm : ∀ z, z ≠ x → m₀ z = M c₀ z) (hs : ∀ p ∈ Led c₀, p ∈ news) (hj : Inv 0 c₀)
    (turn : ∀ i v c (u : Option Value) I (s₁ : Shared) oI, vs[i]? = some v → Inv i c → (∀ p ∈ Led c, p.1 ≠ I) → Fr h₀ env.locals s₁.heap (fun z => if z = x then u else M c z) → News h₀ env.locals s₁.heap ((I, oI) :: Led c) →
      wpAny (model prog w) A (assign target env v) (fun _ s₃ => wpAny (model prog w) A (execs body env) (fun f s₂ => f = .next ∧ LEnd h₀ env.locals x M Led (Inv (i + 1)) I oI s₁ s₂) E s₃) E s₁)
    (done : ∀ c (u : Option Value) h tk, Inv vs.length c → Fr h₀ env.locals h (fun z => if z = x then u else M c z) → News h₀ env.locals h (Led c) → Q .next { s with heap := h, toks := tk }) :
    wpAny (model prog w) A (pyIter (.ref l)) (fun it s₂ => LoopAtT prog w A h₀ env target body Q E it s₂) E s := by
  have hls := News.isList N hl
  have hlt : l < s.heap.objs.size := Heap.lt_size (N _ hl).1
  refine wpAny_pyIter_list hls ?_
  have W := Walks.list (prog := prog) (w := w) hh s.heap.objs.size l (Nat.ne_of_lt hlt) vs.toArray
  have hsz : vs.toArray.size = vs.length := by simp
  rw [hsz] at W
  have up : ∀ {h : Heap} {c : σ} {m' : Str → Option Value} (u : Option Value), (∀ z, z ≠ x → m' z = M c z) → Fr h₀ env.locals h (fun z => if z = x then u else m' z) → Fr h₀ env.locals h (fun z => if z = x then u else M c z) := by
    intro h c m' u hm' F'
    have e : (fun z => if z = x then u else M c z) = fun z => if z = x then u else m' z := by
      funext z
      by_cases hz : z = x
      · rw [if_pos hz, if_pos hz]
      · rw [if_neg hz, if_neg hz, hm' z hz]
    rw [e]
    exact F'
  have upm : ∀ {m' : Str → Option Value}, (fun z => if z = x then m' x else m' z) = m' := by
    intro m'
    funext z
    by_cases hz : z = x
    · rw [if_pos hz, hz]
    · rw [if_neg hz]
  have NL : News h₀ env.locals (s.heap.push { cls := .type "list_iterator", data := .fields #[.ref l, .int 0 0] }) (Led c₀) := fun p hp => ⟨Heap.get?_push_of_some _ (N p (hs p hp)).1, (N p (hs p hp)).2⟩
  have hLl : env.locals ≠ l := fun e => (N _ hl).2.1 e.symm
  refine ⟨s.heap.objs.size, [s.heap.objs.size, l], [s.heap.objs.size], vs.length, _, _, m₀, Led c₀, fun i m nx => ∃ c, nx = Led c ∧ (∀ z, z ≠ x → m z = M c z) ∧ Inv i c, rfl, W, ?_, ?_, ?_, ⟨⟨_, Heap.get?_push_size _ rfl, rfl, rfl⟩, hls.at fun o e => Heap.get?_push_of_some _ e⟩, F.push _, NL, fun i s' v Q' st hQ' => letGo_listiter st.1 hQ', ⟨c₀, rfl, hm, hj⟩, ?_, ?_⟩
  · intro hb
    rcases List.mem_cons.mp hb with e | hb
    · exact absurd F.ns.lt (e ▸ Nat.lt_irrefl _)
    · exact hLl (List.mem_singleton.mp hb)
  · intro b hb
    rw [List.mem_singleton.mp hb]
    exact next_is_new F
  · intro p hp hb
    exact absurd (Heap.lt_size (N p (hs p hp)).1) ((List.mem_singleton.mp hb) ▸ Nat.lt_irrefl _)
  · rintro i v m₁ news₁ s₁ own hi hP ⟨c, rfl, hm₁, hInv⟩ hoff hown howng hall hst₁ F₁ N₁
    obtain ⟨oI, hoI, _⟩ := hst₁.1
    have hI0 := next_is_new F
    have hIown : (s.heap.objs.size, oI) ∈ own := hall _ (.head _) hI0 oI hoI
    have off : ∀ p ∈ Led c, p.1 ≠ s.heap.objs.size := fun p hp e => hoff p hp (List.mem_singleton.mpr e)
    have N₂ : News h₀ env.locals s₁.heap ((s.heap.objs.size, oI) :: Led c) := fun p hp => by
      rcases List.mem_cons.mp hp with rfl | hp
      · exact N₁ _ (List.mem_append_left _ hIown)
      · exact N₁ p (List.mem_append_right _ hp)
    refine wpAny_mono (turn i v c (m₁ x) _ s₁ oI (by simpa using hP) hInv off (up (m₁ x) hm₁ (by rw [upm]; exact F₁)) N₂) (fun _ s₃ q => wpAny_mono q (fun f s₂ p => ?_) fun _ _ e => e) fun _ _ e => e
    obtain ⟨rfl, c', h', tk', m', news', e, F', N', hI', hn', ho', hm', hv'⟩ := p
    refine ⟨rfl, h', tk', m', Led c', e, F', fun p hp => ?_, fun p hp hb => ho' p hp (List.mem_singleton.mp hb), c', rfl, hm', hv'⟩
    rcases List.mem_append.mp hp with hp | hp
    · have e1 := howng p hp
      rcases List.mem_cons.mp (hown p hp) with q | q
      · have : p = (s.heap.objs.size, oI) := by
          obtain ⟨p1, p2⟩ := p
          simp only at q e1
          subst q
          have e3 : some p2 = some oI := e1.symm.trans hoI
          rw [Option.some.inj e3]
        rw [this]
        exact N' _ hI'
      · have q' : p.1 = l := List.mem_singleton.mp q
        have h1 := (N₂ _ (List.mem_cons_of_mem _ (hext i c hInv))).1
        have : p = (l, listOf vs.toArray nn) := by
          obtain ⟨p1, p2⟩ := p
          simp only at e1 q'
          subst q'
          have e3 : some p2 = some _ := e1.symm.trans h1
          rw [Option.some.inj e3]
        rw [this]
        exact N' _ (hn' _ (hext (i + 1) c' hv'))
    · exact N' _ (hn' _ hp)
  · rintro h' tk m' news' F' N' hoff ⟨c, rfl, hm', hv'⟩
    exact done c (m' x) h' tk hv' (up (m' x) hm' (by rw [upm]; exact F')) N'
end
end
section
theorem rowsLwG1 : True := by
  k_with_none
  k_with "pen_at" => focus (first | with_reducible assumption | (refine' PenAt.head ?_ ?_ ?_; (rotate_right 3; (focus (first | with_reducible assumption | k_ne)); (focus (k_all)); (focus (k_all)))) | (refine' PenAt.tail ?_ ?_ ?_; (rotate_right 1; (focus (walk_at "pen_at"))); (rotate_right 2; (focus (k_ne)); (focus (k_ne)))))
  k_with "room" => focus (first | lia | (dsimp only [ktrTop, Around.deeper]; lia))
  k_with "enterC" => focus ((refine' code_defC ?_ ?_ ?_ ?_ ?_ ?_ ?_ ?_ ?_ ?_ ?_ ?_ ?_ ?_ ?_ ?_ ?_ ?_; (rotate_right 13; (focus (exact rfl)); (focus (exact rfl)); (focus (first | exact rfl | assumption)); rotate_left 10); (rotate_right 15; (focus (k_asm)); (focus (k_asm)); (focus (k_asm)); (focus (k_asm)); (focus (k_asm)); (focus (k_is)); (focus (k_is)); (focus (k_room)); (focus (exact BindsTo.of_eq rfl)); (focus (exact rfl)); (focus (decide +kernel)); rotate_left 4); (rotate_right 3; (focus (exact rfl)); (focus (exact rfl)); (focus (exact rfl))); k_whole; intro g' L' h' tk' cells' FG' F' N' Y' B' X' T' l1; (try k_lt l1); k_cells Y'; (try simp only [List.cons_append, List.nil_append] at N'); (try dsimp only); (try k_lift B'); (try k_fold)))
  k_with "eval Name" => focus ((k_here; (with_reducible show wpAny _ _ (eval (Expr.Name _ _) (compEnvC _ _ _ _)) _ _ _); k_dflt (first | (refine' lcf_cell ?_ ?_ ?_ ?_ ?_ ?_ ?_; (rotate_right 1; (focus (rfl))); (rotate_right 1; (focus (rfl))); (rotate_right 5; (focus (k_asm)); (focus (rfl)); (focus (k_mem)); (focus (k_asm)); rotate_left 1); k_whole) | (refine' lcf_free ?_ ?_ ?_ ?_ ?_ ?_ ?_; (rotate_right 1; (focus (rfl))); (rotate_right 1; (focus (rfl))); (rotate_right 5; (focus (k_asm)); (focus (rfl)); (focus (k_mem)); (focus (k_asm)); rotate_left 1); k_whole) | refine LCgL.ld_global (by k_asm) (by k_asm) (by k_asm) (by k_is) ?_)))
  k_with "exec For Name Name cons nil" => focus ((k_here; (rename Fr _ _ _ _ => lF'); (with_unfolding_all refine' For_invVF lF' ?_ ?_ ?_; (rotate_right 3; (focus (exact rfl)); (focus (exact rfl)); rotate_left 1); k_whole)))
  k_with "exec For Name Call cons nil" => focus ((k_here; (rename Fr _ _ _ _ => lF'); (with_unfolding_all refine' For_invVF lF' ?_ ?_ ?_; (rotate_right 3; (focus (exact rfl)); (focus (exact rfl)); rotate_left 1); k_whole)))
  k_with "call ref" => focus (((with_reducible show wpAny _ _ (call (Value.ref 256) _) _ _ _); k_dflt (refine' draw_ok ?_ ?_ ?_ ?_ ?_ ?_ ?_ ?_ ?_ ?_ ?_; (rotate_right 11; (focus (k_asm)); (focus (k_asm)); (focus (k_asm)); (focus (k_asm)); (focus (k_asm)); (focus (first | exact rfl | assumption)); (focus (walk_at "pen_at")); (focus (first | decide | lia)); (focus (walk_at "room")); (focus (walk_at "room")); rotate_left 1)); intro r9 t9 y9 h' tk9 lo9 hi9 F' N'; (try dsimp only at N'); (try k_sweep)))
  k_with "call ref" => focus (((with_reducible show wpAny _ _ (call (Value.ref 263) _) _ _ _); k_dflt (refine' pick_ok ?_ ?_ ?_ ?_ ?_ ?_ ?_ ?_ ?_ ?_ ?_ ?_ ?_ ?_ ?_; (rotate_right 15; (focus (k_asm)); (focus (k_asm)); (focus (k_asm)); (focus (k_asm)); (focus (k_asm)); (focus (first | exact rfl | assumption)); (focus (walk_at "pen_at")); (focus (k_mem)); (focus (k_ne)); (focus (k_ne)); (focus ((simp only [List.length_cons, List.length_nil]; lia))); (focus ((simp only [List.length_cons, List.length_nil]; lia))); (focus (walk_at "room")); (focus (walk_at "room")); rotate_left 1)); intro v9 y9 h' tk9 m9 F' N'; (try k_dflt (have q9 := pick_str4 m9; obtain ⟨w9, tw9, e9, ow9⟩ := q9; subst e9; clear m9)); (try dsimp only at N'); (try k_sweep)))
  k_with "eval ListComp" => focus ((k_here; first | (with_reducible refine' ListComp_W ?_ ?_ ?_ ?_ ?_ ?_ ?_ ?_; (rotate_right 8; (focus (k_asm)); (focus (with_unfolding_all rfl)); (focus (decide)); (focus (with_unfolding_all rfl)); (focus (decide)); (focus (with_unfolding_all rfl)); rotate_left 2); (rotate_right 1; (focus ((intro _; with_unfolding_all rfl))))) | (with_reducible refine' ListComp_WT ?_ ?_ ?_ ?_ ?_ ?_ ?_ ?_; (rotate_right 8; (focus (k_asm)); (focus (with_unfolding_all rfl)); (focus (decide)); (focus (with_unfolding_all rfl)); (focus (decide)); (focus (with_unfolding_all rfl)); rotate_left 2); (rotate_right 1; (focus ((intro _; with_unfolding_all rfl)))))))
  k_with "exec Assign cons ListComp" => focus ((k_here; k_dflt (first | refine Assign_ListComp_WT (_F₀ := by k_asm) (by rfl) (by with_unfolding_all rfl) (by with_unfolding_all rfl) (by decide) (by rfl) (by decide) (by rfl) (by rfl) (by rfl) ?_ | refine Assign_ListComp_W (_F₀ := by k_asm) (by rfl) (by with_unfolding_all rfl) (by with_unfolding_all rfl) (by decide) (by rfl) (by decide) (by rfl) (by rfl) (by rfl) ?_ | refine wpAny_Assign_Name ?_)))
  k_with "exec Assign cons ListComp" => focus ((k_here; k_dflt (first | (with_reducible refine' Assign_ListComp_W ?_ ?_ ?_ ?_ ?_ ?_ ?_ ?_ ?_ ?_ ?_ ?_; (rotate_right 12; (focus (k_asm)); (focus (with_unfolding_all rfl)); rotate_left 10); (rotate_right 9; (focus (with_unfolding_all rfl)); (focus (decide)); (focus (with_unfolding_all rfl)); (focus (decide)); (focus (with_unfolding_all rfl)); (focus (with_unfolding_all rfl)); (focus (with_unfolding_all rfl)); rotate_left 2); (rotate_right 1; (focus ((intro _; with_unfolding_all rfl)))); (rotate_right 2; (focus (with_unfolding_all rfl)); rotate_left 1)) | (with_reducible refine' Assign_ListComp_WT ?_ ?_ ?_ ?_ ?_ ?_ ?_ ?_ ?_ ?_ ?_ ?_; (rotate_right 12; (focus (k_asm)); (focus (with_unfolding_all rfl)); rotate_left 10); (rotate_right 9; (focus (with_unfolding_all rfl)); (focus (decide)); (focus (with_unfolding_all rfl)); (focus (decide)); (focus (with_unfolding_all rfl)); (focus (with_unfolding_all rfl)); (focus (with_unfolding_all rfl)); rotate_left 2); (rotate_right 1; (focus ((intro _; with_unfolding_all rfl)))); (rotate_right 2; (focus (with_unfolding_all rfl)); rotate_left 1)) | (with_reducible refine wpAny_Assign_Name ?_))))
  k_with "menu_int" => focus (repeat' (first | exact all_nil | (refine all_cons ?_ ?_) | (refine IntTo.mk' ?_ ?_ <;> first | lia | decide +kernel)))
  k_with "call ref" => focus (((with_reducible show wpAny _ _ (call (Value.ref 263) _) _ _ _); k_dflt (refine' pick_ok ?_ ?_ ?_ ?_ ?_ ?_ ?_ ?_ ?_ ?_ ?_ ?_ ?_ ?_ ?_; (rotate_right 15; (focus (k_asm)); (focus (k_asm)); (focus (k_asm)); (focus (k_asm)); (focus (k_asm)); (focus (first | exact rfl | assumption)); (focus (walk_at "pen_at")); (focus (k_mem)); (focus (k_ne)); (focus (k_ne)); (focus ((simp only [List.length_cons, List.length_nil]; lia))); (focus ((simp only [List.length_cons, List.length_nil]; lia))); (focus (walk_at "room")); (focus (walk_at "room")); rotate_left 1)); intro v9 y9 h' tk9 m9 F' N'; (try k_dflt (refine pick_elim (P := IntTo 1000) m9 ?_ ?_; (rotate_right 2; (focus (walk_at "menu_int")); rotate_left 1); intro q9; obtain ⟨i9, ti9, e9, lo9, hi9⟩ := q9; subst e9; clear m9)); (try dsimp only at N'); (try k_sweep)))
  trivial
structure DuSt where
  o : Obj
  kvs : List (Int × Value)
  es : List (Int × Ent)
  u1 : Option Value
  u2 : Option Value
noncomputable def putAll (acc t : List (Int × Ent)) : List (Int × Ent) := t.foldl (fun a p => putK a p.1 p.2) acc
noncomputable def dueOf (tabs : List (List (Int × Ent))) : List (Int × Ent) := tabs.reverse.foldl putAll []
noncomputable def DuInv (prog : Program) (w : World) (rest : List (Addr × Obj)) (n : Nat) (es : List (Int × Ent)) (c : DuSt) : Prop :=
  c.o.IsDictOf (intKind prog w) c.kvs ∧ TabRel (TupIn rest) c.kvs c.es ∧ c.es = es ∧ c.kvs.length ≤ n
section
variable {prog : Program} {w : World} {A : Around} {E : Value → Shared → Prop} {s : Shared} {env : Env} {h₀ : Heap} {x z₁ z₂ : Str} {body : List Stmt} {Q : Flow → Shared → Prop}
theorem due_inner {target : Expr} {D I1 l nn : Nat} {o oI1 : Obj} {ys : List Value} {kvs : List (Int × Value)} {t es : List (Int × Ent)} {m₀ : Str → Option Value} {rest : List (Addr × Obj)} {n0 : Nat}
    (hz : z₂ ≠ x) (hh : A.handled = none) (hl : (l, listOf ys.toArray nn) ∈ rest) (rel : ListRel (RowIn rest) ys t) (hlen : ys.length ≤ 100) (hd : o.IsDictOf (intKind prog w) kvs) (rd : TabRel (TupIn rest) kvs es) (hk : kvs.length ≤ n0)
    (F : Fr h₀ env.locals s.heap m₀) (N : News h₀ env.locals s.heap ((I1, oI1) :: (D, o) :: rest))
    (turn : ∀ (k : Int) (e : Ent) (ra : Nat) (t0 : Tok) (v : Value) (c : DuSt) (u : Option Value) I (s₁ : Shared) oI, (ra, tupO [.int k t0, v]) ∈ rest → TupIn rest v e → c.o.IsDictOf (intKind prog w) c.kvs → TabRel (TupIn rest) c.kvs c.es → c.kvs.length ≤ n0 + 100 → D ≠ I → I1 ≠ I → (∀ p ∈ rest, p.1 ≠ I) →
      Fr h₀ env.locals s₁.heap (fun z => if z = x then u else if z = z₂ then c.u2 else m₀ z) → News h₀ env.locals s₁.heap ((I, oI) :: (D, c.o) :: (I1, oI1) :: rest) →
      wpAny (model prog w) A (assign target env (.ref ra)) (fun _ s₃ => wpAny (model prog w) A (execs body env) (fun f s₂ => f = .next ∧ LEnd h₀ env.locals x (fun (c : DuSt) z => if z = z₂ then c.u2 else m₀ z) (fun c : DuSt => (D, c.o) :: (I1, oI1) :: rest) (DuInv prog w rest (c.kvs.length + 1) (putK c.es k e)) I oI s₁ s₂) E s₃) E s₁)
    (done : ∀ (c : DuSt) (u : Option Value) h tk, DuInv prog w rest (n0 + 100) (putAll es t) c → Fr h₀ env.locals h (fun z => if z = x then u else if z = z₂ then c.u2 else m₀ z) → News h₀ env.locals h ((D, c.o) :: (I1, oI1) :: rest) → Q .next { s with heap := h, toks := tk }) :
    wpAny (model prog w) A (pyIter (.ref l)) (fun it s₂ => LoopAtT prog w A h₀ env target body Q E it s₂) E s := by
  refine lp_listT (x := x) (fun (c : DuSt) z => if z = z₂ then c.u2 else m₀ z) (fun c : DuSt => (D, c.o) :: (I1, oI1) :: rest) (fun i => DuInv prog w rest (n0 + i) (putAll es (t.take i))) ⟨o, kvs, es, none, m₀ z₂⟩ hh F N (.tail _ (.tail _ hl)) (fun i c _ => .tail _ (.tail _ hl)) ?_ ?_ ⟨hd, rd, rfl, hk⟩ ?_ ?_
  · intro z _
    by_cases e : z = z₂
    · simp only [e, if_true]
    · simp only [e, if_false]
  · intro p hp
    rcases List.mem_cons.mp hp with rfl | hp
    · exact .tail _ (.head _)
    · rcases List.mem_cons.mp hp with rfl | hp
      · exact .head _
      · exact .tail _ (.tail _ hp)
  · rintro i v c u I s₁ oI hv ⟨c1, c2, c3, c4⟩ ho F' N'
    obtain ⟨⟨k, e⟩, he, ra, t0, v, rfl, h1, h2⟩ := rel.get hv
    have hi : i < ys.length := by
      rcases Nat.lt_or_ge i ys.length with q | q
      · exact q
      · rw [List.getElem?_eq_none q] at hv; cases hv
    refine wpAny_mono (turn k e ra t0 v c u I s₁ oI h1 h2 c1 c2 (by lia) (ho _ (.head _)) (ho _ (.tail _ (.head _))) (fun p hp => ho p (.tail _ (.tail _ hp))) F' N') (fun _ s₃ q => wpAny_mono q (fun f s₂ p => ?_) fun _ _ e => e) fun _ _ e => e
    obtain ⟨hf, c', h', tk, m', news', q1, q2, q3, q4, q5, q6, q7, d1, d2, d3, d4⟩ := p
    refine ⟨hf, c', h', tk, m', news', q1, q2, q3, q4, q5, q6, q7, d1, d2, ?_, by lia⟩
    rw [d3, take_snoc he, putAll, List.foldl_append, c3]
    rfl
  · rintro c u h tk ⟨c1, c2, c3, c4⟩ F' N'
    have ht : t.take ys.length = t := by rw [rel.length]; exact List.take_length
    rw [ht] at c3
    exact done c u h tk ⟨c1, c2, c3, by lia⟩ F' N'
theorem due_outer {r D : Nat} {b : Int} {t u v : Tok} {o : Obj} {refs : List Value} {tabs : List (List (Int × Ent))} {m₀ : Str → Option Value} {rest : List (Addr × Obj)}
    (hx1 : z₁ ≠ x) (hx2 : z₂ ≠ x) (hh : A.handled = none) (hr : IsRange s.heap r 0 b 1 t u v) (hb : b = (refs.length : Int)) (hb4 : refs.length ≤ 100) (rel : ListRel (RowsIn rest) refs tabs) (hts : ∀ t ∈ tabs, t.length ≤ 100) (hd : o.IsDictOf (intKind prog w) []) (hD : ∀ p ∈ rest, p.1 ≠ D)
    (F : Fr h₀ env.locals s.heap m₀) (N : News h₀ env.locals s.heap ((D, o) :: rest))
    (turn : ∀ (i : Nat) (tt : Tok) (c : DuSt) (es : List (Int × Ent)) (n0 : Nat) I h tk oI, i < refs.length → (∀ v, refs[refs.length - 1 - i]? = some v → RowsIn rest v es) → es.length ≤ 100 → c.o.IsDictOf (intKind prog w) c.kvs → TabRel (TupIn rest) c.kvs c.es → c.kvs.length ≤ n0 → n0 ≤ 10000 → D ≠ I → (∀ p ∈ rest, p.1 ≠ I) → (∀ p ∈ rest, p.1 ≠ D) →
      Fr h₀ env.locals h (fun z => if z = x then some (.int (0 + (i : Int)) tt) else if z = z₁ then c.u1 else if z = z₂ then c.u2 else m₀ z) → News h₀ env.locals h ((I, oI) :: (D, c.o) :: rest) →
      wpAny (model prog w) A (execs body env) (LPost h₀ env.locals x (fun (c : DuSt) z => if z = z₁ then c.u1 else if z = z₂ then c.u2 else m₀ z) (fun c : DuSt => (D, c.o) :: rest) (DuInv prog w rest (n0 + 100) (putAll c.es es)) I oI { s with heap := h, toks := tk } Q) E { s with heap := h, toks := tk })
    (done : ∀ (c : DuSt) (u : Option Value) h tk, DuInv prog w rest 10000 (dueOf tabs) c → Fr h₀ env.locals h (fun z => if z = x then u else if z = z₁ then c.u1 else if z = z₂ then c.u2 else m₀ z) → News h₀ env.locals h ((D, c.o) :: rest) → Q .next { s with heap := h, toks := tk }) :
    wpAny (model prog w) A (pyIter (.ref r)) (fun it s₂ => LoopAtV prog w A h₀ env x body Q E it s₂) E s := by
  have hlen := rel.length
  refine lp_range (n := refs.length) (fun (c : DuSt) z => if z = z₁ then c.u1 else if z = z₂ then c.u2 else m₀ z) (fun c : DuSt => (D, c.o) :: rest) (fun i => DuInv prog w rest (100 * i) ((tabs.reverse.take i).foldl putAll [])) ⟨o, [], [], m₀ z₁, m₀ z₂⟩ hh hr ?_ ?_ F N ?_ (fun p hp => hp) ⟨hd, .nil, rfl, Nat.le_refl _⟩ ?_ ?_
  · exact small_one (by lia) (by lia) (by lia) (by lia)
  · rw [hb]; exact rangeSize_nat 0 _ |>.trans (by simp)
  · intro z _
    by_cases e : z = z₁
    · simp only [e, if_true]
    · by_cases e2 : z = z₂
      · simp only [e, e2, if_false, if_true]
        subst e2
        simp only [e, if_false]
      · simp only [e, e2, if_false]
  · rintro i tt c I h tk oI hi ⟨c1, c2, c3, c4⟩ ho F' N'
    obtain ⟨es, he⟩ : ∃ es, tabs[refs.length - 1 - i]? = some es := ⟨_, List.getElem?_eq_getElem (by lia)⟩
    have he' : tabs.reverse[i]? = some es := by
      rw [List.getElem?_reverse (by lia), ← he]
      congr 1
      lia
    refine wpAny_mono (turn i tt c es (100 * i) I h tk oI hi (fun v hv => ?_) (hts es (List.mem_of_getElem? he)) c1 c2 c4 (by lia) (ho _ (.head _)) (fun p hp => ho p (.tail _ hp)) hD F' N') (fun f s₂ q => LPost.mono q ?_) fun _ _ q => q
    · obtain ⟨es', he2, hrow⟩ := rel.get hv
      rw [he] at he2
      cases he2
      exact hrow
    · rintro c' ⟨d1, d2, d3, d4⟩
      refine ⟨d1, d2, ?_, by lia⟩
      rw [d3, take_snoc he', List.foldl_append, c3]
      rfl
  · rintro c u h tk ⟨c1, c2, c3, c4⟩ F' N'
    have ht : tabs.reverse.take refs.length = tabs.reverse := by rw [hlen, ← List.length_reverse]; exact List.take_length
    rw [ht] at c3
    exact done c u h tk ⟨c1, c2, c3, by lia⟩ F' N'
end
section
variable {prog : Program} {w : World} {h₀ : Heap} {L : Addr} {Q : Flow → Shared → Prop} {rest : List (Addr × Obj)} {D I1 I : Nat} {oI oI1 o' : Obj} {s₁ : Shared} {h : Heap} {tk : Nat} {m₀ : Str → Option Value} {x z₁ z₂ : Str} {k : Int} {v : Value} {e : Ent} {c : DuSt}
theorem due_e1 {w1 u u2 : Option Value} (h1 : o'.IsDictOf (intKind prog w) (stored c.kvs k v)) (h2 : TabRel (TupIn rest) c.kvs c.es) (hv : TupIn rest v e) (F : Fr h₀ L h (fun y => if y = z₂ then some v else if y = x then w1 else if y = x then u else if y = z₂ then u2 else m₀ y))
    (N : News h₀ L h ((I, oI) :: (D, o') :: (I1, oI1) :: rest)) (n1 : D ≠ I) (n2 : I1 ≠ I) (n3 : ∀ p ∈ rest, p.1 ≠ I) :
    LEnd h₀ L x (fun (c : DuSt) z => if z = z₂ then c.u2 else m₀ z) (fun c : DuSt => (D, c.o) :: (I1, oI1) :: rest) (DuInv prog w rest (c.kvs.length + 1) (putK c.es k e)) I oI s₁ { s₁ with heap := h, toks := tk } := by
  refine LEnd.intro ⟨o', stored c.kvs k v, putK c.es k e, none, some v⟩ F N (.head _) (fun p hp => .tail _ hp) ?_ ?_ ⟨h1, h2.store k hv, rfl, stored_len _ _ _⟩
  · intro p hp
    rcases List.mem_cons.mp hp with rfl | hp
    · exact n1
    · rcases List.mem_cons.mp hp with rfl | hp
      · exact n2
      · exact n3 p hp
  · intro z hz
    by_cases e2 : z = z₂
    · simp only [e2, if_true]
    · simp only [e2, hz, if_false]
theorem due_e2 {n : Nat} {es : List (Int × Ent)} {u w1 : Option Value} {c₀ c' : DuSt} (hv : DuInv prog w rest n es c') (F : Fr h₀ L h (fun z => if z = z₁ then u else if z = z₂ then c'.u2 else if z = x then w1 else if z = z₁ then c₀.u1 else if z = z₂ then c₀.u2 else m₀ z))
    (N : News h₀ L h ((D, c'.o) :: (I, oI) :: rest)) (n1 : D ≠ I) (n3 : ∀ p ∈ rest, p.1 ≠ I) :
    LPost h₀ L x (fun (c : DuSt) z => if z = z₁ then c.u1 else if z = z₂ then c.u2 else m₀ z) (fun c : DuSt => (D, c.o) :: rest) (DuInv prog w rest n es) I oI s₁ Q .next { s₁ with heap := h, toks := tk } := by
  obtain ⟨a, b, cc, d⟩ := hv
  refine LEnd.intro ⟨c'.o, c'.kvs, c'.es, u, c'.u2⟩ F N (.tail _ (.head _)) ?_ ?_ ?_ ⟨a, b, cc, d⟩
  · intro p hp
    rcases List.mem_cons.mp hp with rfl | hp
    · exact .head _
    · exact .tail _ (.tail _ hp)
  · intro p hp
    rcases List.mem_cons.mp hp with rfl | hp
    · exact n1
    · exact n3 p hp
  · intro z hz
    by_cases e1 : z = z₁
    · simp only [e1, if_true]
    · by_cases e2 : z = z₂
      · simp only [e1, e2, if_false, if_true]
      · simp only [e1, e2, hz, if_false]
end
end
section
theorem rowsLwH1 : True := by
  k_with_none
  k_with "pen_at" => focus (first | with_reducible assumption | (refine' PenAt.head ?_ ?_ ?_; (rotate_right 3; (focus (first | with_reducible assumption | k_ne)); (focus (k_all)); (focus (k_all)))) | (refine' PenAt.tail ?_ ?_ ?_; (rotate_right 1; (focus (walk_at "pen_at"))); (rotate_right 2; (focus (k_ne)); (focus (k_ne)))))
  k_with "room" => focus (first | lia | (dsimp only [ktrTop, Around.deeper]; lia))
  k_with "enterC" => focus ((refine' code_defC ?_ ?_ ?_ ?_ ?_ ?_ ?_ ?_ ?_ ?_ ?_ ?_ ?_ ?_ ?_ ?_ ?_ ?_; (rotate_right 13; (focus (exact rfl)); (focus (exact rfl)); (focus (first | exact rfl | assumption)); rotate_left 10); (rotate_right 15; (focus (k_asm)); (focus (k_asm)); (focus (k_asm)); (focus (k_asm)); (focus (k_asm)); (focus (k_is)); (focus (k_is)); (focus (k_room)); (focus (exact BindsTo.of_eq rfl)); (focus (exact rfl)); (focus (decide +kernel)); rotate_left 4); (rotate_right 3; (focus (exact rfl)); (focus (exact rfl)); (focus (exact rfl))); k_whole; intro g' L' h' tk' cells' FG' F' N' Y' B' X' T' l1; (try k_lt l1); k_cells Y'; (try simp only [List.cons_append, List.nil_append] at N'); (try dsimp only); (try k_lift B'); (try k_fold)))
  k_with "eval Name" => focus ((k_here; (with_reducible show wpAny _ _ (eval (Expr.Name _ _) (compEnvC _ _ _ _)) _ _ _); k_dflt (first | (refine' lcf_cell ?_ ?_ ?_ ?_ ?_ ?_ ?_; (rotate_right 1; (focus (rfl))); (rotate_right 1; (focus (rfl))); (rotate_right 5; (focus (k_asm)); (focus (rfl)); (focus (k_mem)); (focus (k_asm)); rotate_left 1); k_whole) | (refine' lcf_free ?_ ?_ ?_ ?_ ?_ ?_ ?_; (rotate_right 1; (focus (rfl))); (rotate_right 1; (focus (rfl))); (rotate_right 5; (focus (k_asm)); (focus (rfl)); (focus (k_mem)); (focus (k_asm)); rotate_left 1); k_whole) | refine LCgL.ld_global (by k_asm) (by k_asm) (by k_asm) (by k_is) ?_)))
  k_with "exec For Name Name cons nil" => focus ((k_here; (rename Fr _ _ _ _ => lF'); (with_unfolding_all refine' For_invVF lF' ?_ ?_ ?_; (rotate_right 3; (focus (exact rfl)); (focus (exact rfl)); rotate_left 1); k_whole)))
  k_with "exec For Name Call cons nil" => focus ((k_here; (rename Fr _ _ _ _ => lF'); (with_unfolding_all refine' For_invVF lF' ?_ ?_ ?_; (rotate_right 3; (focus (exact rfl)); (focus (exact rfl)); rotate_left 1); k_whole)))
  k_with "call ref" => focus (((with_reducible show wpAny _ _ (call (Value.ref 256) _) _ _ _); k_dflt (refine' draw_ok ?_ ?_ ?_ ?_ ?_ ?_ ?_ ?_ ?_ ?_ ?_; (rotate_right 11; (focus (k_asm)); (focus (k_asm)); (focus (k_asm)); (focus (k_asm)); (focus (k_asm)); (focus (first | exact rfl | assumption)); (focus (walk_at "pen_at")); (focus (first | decide | lia)); (focus (walk_at "room")); (focus (walk_at "room")); rotate_left 1)); intro r9 t9 y9 h' tk9 lo9 hi9 F' N'; (try dsimp only at N'); (try k_sweep)))
  k_with "call ref" => focus (((with_reducible show wpAny _ _ (call (Value.ref 263) _) _ _ _); k_dflt (refine' pick_ok ?_ ?_ ?_ ?_ ?_ ?_ ?_ ?_ ?_ ?_ ?_ ?_ ?_ ?_ ?_; (rotate_right 15; (focus (k_asm)); (focus (k_asm)); (focus (k_asm)); (focus (k_asm)); (focus (k_asm)); (focus (first | exact rfl | assumption)); (focus (walk_at "pen_at")); (focus (k_mem)); (focus (k_ne)); (focus (k_ne)); (focus ((simp only [List.length_cons, List.length_nil]; lia))); (focus ((simp only [List.length_cons, List.length_nil]; lia))); (focus (walk_at "room")); (focus (walk_at "room")); rotate_left 1)); intro v9 y9 h' tk9 m9 F' N'; (try k_dflt (have q9 := pick_str4 m9; obtain ⟨w9, tw9, e9, ow9⟩ := q9; subst e9; clear m9)); (try dsimp only at N'); (try k_sweep)))
  k_with "eval ListComp" => focus ((k_here; first | (with_reducible refine' ListComp_W ?_ ?_ ?_ ?_ ?_ ?_ ?_ ?_; (rotate_right 8; (focus (k_asm)); (focus (with_unfolding_all rfl)); (focus (decide)); (focus (with_unfolding_all rfl)); (focus (decide)); (focus (with_unfolding_all rfl)); rotate_left 2); (rotate_right 1; (focus ((intro _; with_unfolding_all rfl))))) | (with_reducible refine' ListComp_WT ?_ ?_ ?_ ?_ ?_ ?_ ?_ ?_; (rotate_right 8; (focus (k_asm)); (focus (with_unfolding_all rfl)); (focus (decide)); (focus (with_unfolding_all rfl)); (focus (decide)); (focus (with_unfolding_all rfl)); rotate_left 2); (rotate_right 1; (focus ((intro _; with_unfolding_all rfl)))))))
  k_with "exec Assign cons ListComp" => focus ((k_here; k_dflt (first | refine Assign_ListComp_WT (_F₀ := by k_asm) (by rfl) (by with_unfolding_all rfl) (by with_unfolding_all rfl) (by decide) (by rfl) (by decide) (by rfl) (by rfl) (by rfl) ?_ | refine Assign_ListComp_W (_F₀ := by k_asm) (by rfl) (by with_unfolding_all rfl) (by with_unfolding_all rfl) (by decide) (by rfl) (by decide) (by rfl) (by rfl) (by rfl) ?_ | refine wpAny_Assign_Name ?_)))
  k_with "exec Assign cons ListComp" => focus ((k_here; k_dflt (first | (with_reducible refine' Assign_ListComp_W ?_ ?_ ?_ ?_ ?_ ?_ ?_ ?_ ?_ ?_ ?_ ?_; (rotate_right 12; (focus (k_asm)); (focus (with_unfolding_all rfl)); rotate_left 10); (rotate_right 9; (focus (with_unfolding_all rfl)); (focus (decide)); (focus (with_unfolding_all rfl)); (focus (decide)); (focus (with_unfolding_all rfl)); (focus (with_unfolding_all rfl)); (focus (with_unfolding_all rfl)); rotate_left 2); (rotate_right 1; (focus ((intro _; with_unfolding_all rfl)))); (rotate_right 2; (focus (with_unfolding_all rfl)); rotate_left 1)) | (with_reducible refine' Assign_ListComp_WT ?_ ?_ ?_ ?_ ?_ ?_ ?_ ?_ ?_ ?_ ?_ ?_; (rotate_right 12; (focus (k_asm)); (focus (with_unfolding_all rfl)); rotate_left 10); (rotate_right 9; (focus (with_unfolding_all rfl)); (focus (decide)); (focus (with_unfolding_all rfl)); (focus (decide)); (focus (with_unfolding_all rfl)); (focus (with_unfolding_all rfl)); (focus (with_unfolding_all rfl)); rotate_left 2); (rotate_right 1; (focus ((intro _; with_unfolding_all rfl)))); (rotate_right 2; (focus (with_unfolding_all rfl)); rotate_left 1)) | (with_reducible refine wpAny_Assign_Name ?_))))
  k_with "menu_int" => focus (repeat' (first | exact all_nil | (refine all_cons ?_ ?_) | (refine IntTo.mk' ?_ ?_ <;> first | lia | decide +kernel)))
  k_with "call ref" => focus (((with_reducible show wpAny _ _ (call (Value.ref 263) _) _ _ _); k_dflt (refine' pick_ok ?_ ?_ ?_ ?_ ?_ ?_ ?_ ?_ ?_ ?_ ?_ ?_ ?_ ?_ ?_; (rotate_right 15; (focus (k_asm)); (focus (k_asm)); (focus (k_asm)); (focus (k_asm)); (focus (k_asm)); (focus (first | exact rfl | assumption)); (focus (walk_at "pen_at")); (focus (k_mem)); (focus (k_ne)); (focus (k_ne)); (focus ((simp only [List.length_cons, List.length_nil]; lia))); (focus ((simp only [List.length_cons, List.length_nil]; lia))); (focus (walk_at "room")); (focus (walk_at "room")); rotate_left 1)); intro v9 y9 h' tk9 m9 F' N'; (try k_dflt (refine pick_elim (P := IntTo 1000) m9 ?_ ?_; (rotate_right 2; (focus (walk_at "menu_int")); rotate_left 1); intro q9; obtain ⟨i9, ti9, e9, lo9, hi9⟩ := q9; subst e9; clear m9)); (try dsimp only at N'); (try k_sweep)))
  trivial
set_option maxRecDepth 100000 in
set_option maxHeartbeats 8000000 in
theorem st3 {w : World} {mean : ExcName → Option Value} {mg mb : Str → Option Value} {dp un : Nat} {gd : Option (List Code)} {a : Addr} {ccd : Value} {outer : List Env} {A₀ : Around} {base h₀ : Heap} {L : Addr} {m : Str → Option Value} {s : Shared} {E : Value → Shared → Prop} {Q : Flow → Shared → Prop} {o2 : Obj} {rest : List (Addr × Obj)}
    (B : Below A₀ base outer h₀) (X : (Mine.hd.heap_1 w.params).In h₀) (T : Top Mine.hd.view_1 (looseW Mine.hd.view_1 [Str.ofString "PaperError"]) mean mg mb h₀) (hd : dp < 310) (hu : un < 300) (F : Fr h₀ L s.heap m) (N : News h₀ L s.heap ((L + 1 + 1, o2) :: rest)) (d2 : o2.data = .cell none) (hr : ∀ p ∈ rest, p.1 ≠ L + 1 + 1)
    (hnext : ∀ (D : Nat) (o p2 : Obj) h' tk', o.IsDictOf (intKind PySem.Challenge.rw_nn0202_01.row.prog w) [] → (D == sysModules) = false → (∀ p ∈ rest, p.1 ≠ D) → L + 1 + 1 ≠ D → p2.data = .cell (some (.ref D)) →
      Fr h₀ L h' m → News h₀ L h' ((D, o) :: (L + 1 + 1, p2) :: rest) → Q .next { s with heap := h', toks := tk' }) :
    wpAny (model PySem.Challenge.rw_nn0202_01.row.prog w) (ktrTop dp un gd (Str.ofString "law") lawScope L a ccd [(Str.ofString "numbers", L + 1 + 1 + 1), (Str.ofString "due", L + 1 + 1), (Str.ofString "pen", L + 1)] outer) (exec (stm 3) (envX (Str.ofString "law") lawScope L a ccd [(Str.ofString "numbers", L + 1 + 1 + 1), (Str.ofString "due", L + 1 + 1), (Str.ofString "pen", L + 1)])) Q E s := by
  conv in (stm _) => whnf
  conv in lawScope => whnf
  conv in lawScope => whnf
  dsimp only
  revert X
  k_fill
  intro X
  k_steps
  rename News _ _ _ _ => N9
  rename _ ∧ AllLt _ _ => l9
  refine' hnext _ _ _ _ _ ?o ?lo ?a ?b ?c ?F N9; (case o => assumption); (case lo => assumption); (case F => k_asm); (case c => assumption)
  · exact fun p hp => Nat.ne_of_lt (ktn_ltOf l9.2 p hp)
  · exact Nat.ne_of_lt l9.1
theorem rowsLwH2 : True := by
  k_with "call builtin:len" => focus ((k_here; (with_reducible show wpAny _ _ (call (Value.builtin "len") [Value.ref _]) _ _ _); k_dflt (refine' len_led ?_ ?_ ?_ ?_; (rotate_right 4; (focus (k_asm)); (focus (k_mem)); (focus (lia)); rotate_left 1))))
  k_with "exec For Tuple Subscript cons nil" => focus ((k_here; (rename Fr _ _ _ _ => lF'); (with_unfolding_all refine' For_invTF lF' ?_ ?_; (rotate_right 1; (focus (exact fun _ => rfl))); k_whole)))
  k_with "exec For Name Call cons nil" => focus ((k_here; (rename Fr _ _ _ _ => lF'); (with_unfolding_all refine' For_invVF lF' ?_ ?_ ?_ ?_ ?_; (rotate_right 5; (focus (exact rfl)); (focus (exact rfl)); rotate_left 3); (rotate_right 2; (focus (exact fun _ => rfl)); (focus (assumption))); k_whole)))
  k_with "my pyIter ref" => focus ((k_here; (rename IsRange _ _ _ _ _ _ _ _ => R'); k_dflt (refine' due_outer (z₁ := Str.ofString "number") (z₂ := Str.ofString "row") ?_ ?_ ?_ R' ?_ ?_ ?_ ?_ ?_ ?_ ?_ ?_ ?_ ?_; (rotate_right 7; (focus (assumption)); rotate_left 6); (rotate_right 12; (focus (decide)); (focus (decide)); (focus (exact rfl)); rotate_left 9); (rotate_right 4; (focus (k_asm)); (focus (k_asm)); rotate_left 2); (rotate_right 5; (focus (assumption)); (focus (assumption)); (focus (assumption)); rotate_left 2); (rotate_right 4; (focus (lia)); (focus (lia)); rotate_left 2)); (all_goals intros)))
  k_with "subscriptTail" => focus ((k_here; (with_reducible show wpAny _ _ (subscriptTail _ _ (Value.ref _) (Value.int _ _)) _ _ _); k_dflt (refine' item_led ?_ ?_ ?_ ?_ ?_ ?_ ?_; (rotate_right 7; (focus (k_asm)); (focus (k_mem)); (focus (lia)); (focus (lia)); (focus (lia)); rotate_left 2); (rotate_right 1; (focus (with_unfolding_all rfl)))); intro v9 hv9 _; (rename ∀ v, _ → RowsIn _ v _ => hrow); (have hq := hrow v9 (by rw [← hv9]; congr 1; lia)); (obtain ⟨R9, ys9, e9, m9, rel9⟩ := hq); (have hl9 := ListRel.length rel9); subst e9))
  k_with "my pyIter ref" => focus ((k_here; (with_reducible show wpAny _ _ (pyIter (Value.ref _)) (fun it s₂ => LoopAtT _ _ _ _ _ _ _ _ _ it s₂) _ _); k_dflt (refine' due_inner (x := Str.ofString "number") (z₂ := Str.ofString "row") ?_ ?_ ?_ ?_ ?_ ?_ ?_ ?_ ?_ ?_ ?_ ?_; (rotate_right 12; (focus (decide)); (focus (exact rfl)); rotate_left 10); (rotate_right 4; (focus (k_asm)); (focus (k_asm)); rotate_left 2); (rotate_right 7; (focus (assumption)); rotate_left 6); (rotate_right 7; (focus (assumption)); (focus (lia)); (focus (assumption)); (focus (assumption)); (focus (assumption)); rotate_left 2)); (all_goals intros)))
  k_with "setItem ref int" => focus ((k_here; k_dflt (refine' kda_set (knd := intKind _ _) ?_ ?_ ?_ ?_ (intKind_is _ _ _ _) ?_ ?_; (rotate_right 6; (focus (k_asm)); (focus (k_asm)); (focus (k_updF)); (focus (k_asm)); (focus ((rw [sizeLine_eq]; lia))); rotate_left 1)); intro h' o' F' N' hd'; (try dsimp only at N'); (try k_sweep)))
  trivial
set_option maxRecDepth 100000 in
set_option maxHeartbeats 8000000 in
theorem st4 {w : World} {mean : ExcName → Option Value} {mg mb : Str → Option Value} {dp un : Nat} {gd : Option (List Code)} {a : Addr} {ccd : Value} {outer : List Env} {A₀ : Around} {base h₀ : Heap} {L : Addr} {m : Str → Option Value} {s : Shared} {E : Value → Shared → Prop} {Q : Flow → Shared → Prop} {TA nn RA nr D : Nat} {o p2 : Obj} {refs rows : List Value} {tabs : List (List (Int × Ent))} {rest : List (Addr × Obj)}
    (B : Below A₀ base outer h₀) (X : (Mine.hd.heap_1 w.params).In h₀) (T : Top Mine.hd.view_1 (looseW Mine.hd.view_1 [Str.ofString "PaperError"]) mean mg mb h₀) (hd : dp < 310) (hu : un < 300) (F : Fr h₀ L s.heap m) (hm1 : m (Str.ofString "tables") = some (.ref TA)) (hm2 : m (Str.ofString "rows") = some (.ref RA)) (N : News h₀ L s.heap ((D, o) :: rest)) (hT : (TA, listOf refs.toArray nn) ∈ rest) (hR : (RA, listOf rows.toArray nr) ∈ rest) (hc : (L + 1 + 1, p2) ∈ rest) (d2 : p2.data = .cell (some (.ref D)))
    (hlen : refs.length = rows.length) (hn : rows.length ≤ 4) (rel : ListRel (RowsIn rest) rows tabs) (hdo : o.IsDictOf (intKind PySem.Challenge.rw_nn0202_01.row.prog w) []) (hD : ∀ p ∈ rest, p.1 ≠ D) (hts : ∀ t ∈ tabs, t.length ≤ 100)
    (hE : PassesOwn (model PySem.Challenge.rw_nn0202_01.row.prog w) (ktrTop dp un gd (Str.ofString "law") lawScope L a ccd [(Str.ofString "numbers", L + 1 + 1 + 1), (Str.ofString "due", L + 1 + 1), (Str.ofString "pen", L + 1)] outer) (envX (Str.ofString "law") lawScope L a ccd [(Str.ofString "numbers", L + 1 + 1 + 1), (Str.ofString "due", L + 1 + 1), (Str.ofString "pen", L + 1)]) E)
    (hnext : ∀ (c : DuSt) (u : Option Value) h' tk', DuInv PySem.Challenge.rw_nn0202_01.row.prog w rest 10000 (dueOf tabs) c → Fr h₀ L h' (fun z => if z = Str.ofString "at" then u else if z = Str.ofString "number" then c.u1 else if z = Str.ofString "row" then c.u2 else m z) → News h₀ L h' ((D, c.o) :: rest) → Q .next { s with heap := h', toks := tk' }) :
    wpAny (model PySem.Challenge.rw_nn0202_01.row.prog w) (ktrTop dp un gd (Str.ofString "law") lawScope L a ccd [(Str.ofString "numbers", L + 1 + 1 + 1), (Str.ofString "due", L + 1 + 1), (Str.ofString "pen", L + 1)] outer) (exec (stm 4) (envX (Str.ofString "law") lawScope L a ccd [(Str.ofString "numbers", L + 1 + 1 + 1), (Str.ofString "due", L + 1 + 1), (Str.ofString "pen", L + 1)])) Q E s := by
  obtain ⟨m, rfl⟩ := know2 hm1 hm2
  clear hm1 hm2
  conv in (stm _) => whnf
  conv in lawScope => whnf
  conv in lawScope => whnf
  dsimp only
  revert X
  k_fill
  intro X
  k_steps
  all_goals first
    | (refine' due_e1 (x := Str.ofString "number") (z₂ := Str.ofString "row") ?h1 ?h2 ?hv ?F ?N ?n1 ?n2 ?n3; (case h1 => assumption); (case h2 => assumption); (case hv => assumption); (case F => k_asm); (case N => k_asm); (case n1 => assumption); (case n2 => assumption); (case n3 => assumption))
    | (refine' due_e2 (x := Str.ofString "at") (z₁ := Str.ofString "number") (z₂ := Str.ofString "row") ?hv ?F ?N ?n1 ?n3; (case hv => assumption); (case F => k_asm); (case N => k_asm); (case n1 => assumption); (case n3 => assumption))
    | (refine' hnext _ _ _ _ ?hv ?F ?N; (case hv => assumption); (case F => k_asm); (case N => k_asm))
end
section
theorem rowsLwI1 : True := by
  k_with_none
  k_with "pen_at" => focus (first | with_reducible assumption | (refine' PenAt.head ?_ ?_ ?_; (rotate_right 3; (focus (first | with_reducible assumption | k_ne)); (focus (k_all)); (focus (k_all)))) | (refine' PenAt.tail ?_ ?_ ?_; (rotate_right 1; (focus (walk_at "pen_at"))); (rotate_right 2; (focus (k_ne)); (focus (k_ne)))))
  k_with "room" => focus (first | lia | (dsimp only [ktrTop, Around.deeper]; lia))
  k_with "enterC" => focus ((refine' code_defC ?_ ?_ ?_ ?_ ?_ ?_ ?_ ?_ ?_ ?_ ?_ ?_ ?_ ?_ ?_ ?_ ?_ ?_; (rotate_right 13; (focus (exact rfl)); (focus (exact rfl)); (focus (first | exact rfl | assumption)); rotate_left 10); (rotate_right 15; (focus (k_asm)); (focus (k_asm)); (focus (k_asm)); (focus (k_asm)); (focus (k_asm)); (focus (k_is)); (focus (k_is)); (focus (k_room)); (focus (exact BindsTo.of_eq rfl)); (focus (exact rfl)); (focus (decide +kernel)); rotate_left 4); (rotate_right 3; (focus (exact rfl)); (focus (exact rfl)); (focus (exact rfl))); k_whole; intro g' L' h' tk' cells' FG' F' N' Y' B' X' T' l1; (try k_lt l1); k_cells Y'; (try simp only [List.cons_append, List.nil_append] at N'); (try dsimp only); (try k_lift B'); (try k_fold)))
  k_with "eval Name" => focus ((k_here; (with_reducible show wpAny _ _ (eval (Expr.Name _ _) (compEnvC _ _ _ _)) _ _ _); k_dflt (first | (refine' lcf_cell ?_ ?_ ?_ ?_ ?_ ?_ ?_; (rotate_right 1; (focus (rfl))); (rotate_right 1; (focus (rfl))); (rotate_right 5; (focus (k_asm)); (focus (rfl)); (focus (k_mem)); (focus (k_asm)); rotate_left 1); k_whole) | (refine' lcf_free ?_ ?_ ?_ ?_ ?_ ?_ ?_; (rotate_right 1; (focus (rfl))); (rotate_right 1; (focus (rfl))); (rotate_right 5; (focus (k_asm)); (focus (rfl)); (focus (k_mem)); (focus (k_asm)); rotate_left 1); k_whole) | refine LCgL.ld_global (by k_asm) (by k_asm) (by k_asm) (by k_is) ?_)))
  k_with "exec For Name Name cons nil" => focus ((k_here; (rename Fr _ _ _ _ => lF'); (with_unfolding_all refine' For_invVF lF' ?_ ?_ ?_; (rotate_right 3; (focus (exact rfl)); (focus (exact rfl)); rotate_left 1); k_whole)))
  k_with "exec For Name Call cons nil" => focus ((k_here; (rename Fr _ _ _ _ => lF'); (with_unfolding_all refine' For_invVF lF' ?_ ?_ ?_; (rotate_right 3; (focus (exact rfl)); (focus (exact rfl)); rotate_left 1); k_whole)))
  k_with "call ref" => focus (((with_reducible show wpAny _ _ (call (Value.ref 256) _) _ _ _); k_dflt (refine' draw_ok ?_ ?_ ?_ ?_ ?_ ?_ ?_ ?_ ?_ ?_ ?_; (rotate_right 11; (focus (k_asm)); (focus (k_asm)); (focus (k_asm)); (focus (k_asm)); (focus (k_asm)); (focus (first | exact rfl | assumption)); (focus (walk_at "pen_at")); (focus (first | decide | lia)); (focus (walk_at "room")); (focus (walk_at "room")); rotate_left 1)); intro r9 t9 y9 h' tk9 lo9 hi9 F' N'; (try dsimp only at N'); (try k_sweep)))
  k_with "call ref" => focus (((with_reducible show wpAny _ _ (call (Value.ref 263) _) _ _ _); k_dflt (refine' pick_ok ?_ ?_ ?_ ?_ ?_ ?_ ?_ ?_ ?_ ?_ ?_ ?_ ?_ ?_ ?_; (rotate_right 15; (focus (k_asm)); (focus (k_asm)); (focus (k_asm)); (focus (k_asm)); (focus (k_asm)); (focus (first | exact rfl | assumption)); (focus (walk_at "pen_at")); (focus (k_mem)); (focus (k_ne)); (focus (k_ne)); (focus ((simp only [List.length_cons, List.length_nil]; lia))); (focus ((simp only [List.length_cons, List.length_nil]; lia))); (focus (walk_at "room")); (focus (walk_at "room")); rotate_left 1)); intro v9 y9 h' tk9 m9 F' N'; (try k_dflt (have q9 := pick_str4 m9; obtain ⟨w9, tw9, e9, ow9⟩ := q9; subst e9; clear m9)); (try dsimp only at N'); (try k_sweep)))
  k_with "eval ListComp" => focus ((k_here; first | (with_reducible refine' ListComp_W ?_ ?_ ?_ ?_ ?_ ?_ ?_ ?_; (rotate_right 8; (focus (k_asm)); (focus (with_unfolding_all rfl)); (focus (decide)); (focus (with_unfolding_all rfl)); (focus (decide)); (focus (with_unfolding_all rfl)); rotate_left 2); (rotate_right 1; (focus ((intro _; with_unfolding_all rfl))))) | (with_reducible refine' ListComp_WT ?_ ?_ ?_ ?_ ?_ ?_ ?_ ?_; (rotate_right 8; (focus (k_asm)); (focus (with_unfolding_all rfl)); (focus (decide)); (focus (with_unfolding_all rfl)); (focus (decide)); (focus (with_unfolding_all rfl)); rotate_left 2); (rotate_right 1; (focus ((intro _; with_unfolding_all rfl)))))))
  k_with "exec Assign cons ListComp" => focus ((k_here; k_dflt (first | refine Assign_ListComp_WT (_F₀ := by k_asm) (by rfl) (by with_unfolding_all rfl) (by with_unfolding_all rfl) (by decide) (by rfl) (by decide) (by rfl) (by rfl) (by rfl) ?_ | refine Assign_ListComp_W (_F₀ := by k_asm) (by rfl) (by with_unfolding_all rfl) (by with_unfolding_all rfl) (by decide) (by rfl) (by decide) (by rfl) (by rfl) (by rfl) ?_ | refine wpAny_Assign_Name ?_)))
  k_with "exec Assign cons ListComp" => focus ((k_here; k_dflt (first | (with_reducible refine' Assign_ListComp_W ?_ ?_ ?_ ?_ ?_ ?_ ?_ ?_ ?_ ?_ ?_ ?_; (rotate_right 12; (focus (k_asm)); (focus (with_unfolding_all rfl)); rotate_left 10); (rotate_right 9; (focus (with_unfolding_all rfl)); (focus (decide)); (focus (with_unfolding_all rfl)); (focus (decide)); (focus (with_unfolding_all rfl)); (focus (with_unfolding_all rfl)); (focus (with_unfolding_all rfl)); rotate_left 2); (rotate_right 1; (focus ((intro _; with_unfolding_all rfl)))); (rotate_right 2; (focus (with_unfolding_all rfl)); rotate_left 1)) | (with_reducible refine' Assign_ListComp_WT ?_ ?_ ?_ ?_ ?_ ?_ ?_ ?_ ?_ ?_ ?_ ?_; (rotate_right 12; (focus (k_asm)); (focus (with_unfolding_all rfl)); rotate_left 10); (rotate_right 9; (focus (with_unfolding_all rfl)); (focus (decide)); (focus (with_unfolding_all rfl)); (focus (decide)); (focus (with_unfolding_all rfl)); (focus (with_unfolding_all rfl)); (focus (with_unfolding_all rfl)); rotate_left 2); (rotate_right 1; (focus ((intro _; with_unfolding_all rfl)))); (rotate_right 2; (focus (with_unfolding_all rfl)); rotate_left 1)) | (with_reducible refine wpAny_Assign_Name ?_))))
  k_with "menu_int" => focus (repeat' (first | exact all_nil | (refine all_cons ?_ ?_) | (refine IntTo.mk' ?_ ?_ <;> first | lia | decide +kernel)))
  k_with "call ref" => focus (((with_reducible show wpAny _ _ (call (Value.ref 263) _) _ _ _); k_dflt (refine' pick_ok ?_ ?_ ?_ ?_ ?_ ?_ ?_ ?_ ?_ ?_ ?_ ?_ ?_ ?_ ?_; (rotate_right 15; (focus (k_asm)); (focus (k_asm)); (focus (k_asm)); (focus (k_asm)); (focus (k_asm)); (focus (first | exact rfl | assumption)); (focus (walk_at "pen_at")); (focus (k_mem)); (focus (k_ne)); (focus (k_ne)); (focus ((simp only [List.length_cons, List.length_nil]; lia))); (focus ((simp only [List.length_cons, List.length_nil]; lia))); (focus (walk_at "room")); (focus (walk_at "room")); rotate_left 1)); intro v9 y9 h' tk9 m9 F' N'; (try k_dflt (refine pick_elim (P := IntTo 1000) m9 ?_ ?_; (rotate_right 2; (focus (walk_at "menu_int")); rotate_left 1); intro q9; obtain ⟨i9, ti9, e9, lo9, hi9⟩ := q9; subst e9; clear m9)); (try dsimp only at N'); (try k_sweep)))
  trivial
theorem perm_of_mem {α : Type} : ∀ {a b : List α}, a.Nodup → b.Nodup → (∀ x, x ∈ a ↔ x ∈ b) → a.Perm b
  | [], b, _, _, h => by
    have : b = [] := List.eq_nil_iff_forall_not_mem.mpr fun x hx => by have := (h x).mpr hx; cases this
    rw [this]
  | x :: a, b, ha, hb, h => by
    obtain ⟨b1, b2, rfl⟩ := List.append_of_mem ((h x).mp (.head _))
    have hp : (b1 ++ x :: b2).Perm (x :: (b1 ++ b2)) := List.perm_middle
    have hb' := hp.nodup_iff.mp hb
    rw [List.nodup_cons] at ha hb'
    refine (List.Perm.cons x (perm_of_mem ha.2 hb'.2 fun y => ?_)).trans hp.symm
    have hy := h y
    rw [hp.mem_iff, List.mem_cons, List.mem_cons] at hy
    constructor
    · intro q
      rcases hy.mp (.inr q) with e | e
      · subst e; exact absurd q ha.1
      · exact e
    · intro q
      rcases hy.mpr (.inr q) with e | e
      · subst e; exact absurd q hb'.1
      · exact e
theorem nodup_small : ∀ (n : Nat) (l : List Int), l.Nodup → (∀ x ∈ l, 0 ≤ x ∧ x < (n : Int)) → l.length ≤ n
  | 0, l, _, h => by
    have : l = [] := List.eq_nil_iff_forall_not_mem.mpr fun x hx => by have := h x hx; lia
    rw [this]; exact Nat.le_refl _
  | n + 1, l, nd, h => by
    by_cases hm : (n : Int) ∈ l
    · obtain ⟨b1, b2, rfl⟩ := List.append_of_mem hm
      have hp : (b1 ++ (n : Int) :: b2).Perm ((n : Int) :: (b1 ++ b2)) := List.perm_middle
      have nd' := hp.nodup_iff.mp nd
      rw [List.nodup_cons] at nd'
      have := nodup_small n (b1 ++ b2) nd'.2 fun x hx => by
        have h1 := h x (hp.mem_iff.mpr (.tail _ hx))
        have h2 : x ≠ (n : Int) := fun e => nd'.1 (e ▸ hx)
        lia
      rw [hp.length_eq, List.length_cons]
      lia
    · have := nodup_small n l nd fun x hx => by
        have h1 := h x hx
        have h2 : x ≠ (n : Int) := fun e => hm (e ▸ hx)
        lia
      lia
section
variable {β : Type}
theorem lookK_cons (p : Int × β) (es : List (Int × β)) (k : Int) : lookK (p :: es) k = if p.1 = k then some p.2 else lookK es k := by
  unfold lookK
  by_cases h : p.1 = k
  · simp [h]
  · simp [List.find?_cons, h]
theorem lookK_append (a b : List (Int × β)) (k : Int) : lookK (a ++ b) k = (lookK a k).or (lookK b k) := by
  induction a with
  | nil => simp [lookK]
  | cons p a ih =>
    rw [List.cons_append, lookK_cons, lookK_cons, ih]
    split <;> simp
theorem lookK_none {es : List (Int × β)} {k : Int} : lookK es k = none ↔ ∀ p ∈ es, p.1 ≠ k := by
  induction es with
  | nil => simp [lookK]
  | cons p es ih =>
    rw [lookK_cons]
    by_cases h : p.1 = k
    · simp [h]
    · simp [h, ih]
theorem lookK_mem {es : List (Int × β)} {k : Int} {b : β} (h : lookK es k = some b) : (k, b) ∈ es := by
  induction es with
  | nil => simp [lookK] at h
  | cons p es ih =>
    rw [lookK_cons] at h
    split at h
    · rename_i e
      cases h
      rw [← e]
      exact .head _
    · exact .tail _ (ih h)
theorem lookK_of_mem {es : List (Int × β)} (nd : (es.map (·.1)).Nodup) {k : Int} {b : β} (h : (k, b) ∈ es) : lookK es k = some b := by
  induction es with
  | nil => cases h
  | cons p es ih =>
    rw [List.map_cons, List.nodup_cons] at nd
    rw [lookK_cons]
    rcases List.mem_cons.mp h with e | h
    · rw [← e]; simp
    · have hne : p.1 ≠ k := fun e => nd.1 (e ▸ List.mem_map.mpr ⟨_, h, rfl⟩)
      rw [if_neg hne]
      exact ih nd.2 h
theorem lookK_map {es : List (Int × β)} {k k' : Int} {b : β} : lookK (es.map fun p => if p.1 = k then (p.1, b) else p) k' = if k' = k then (lookK es k').map (fun _ => b) else lookK es k' := by
  induction es with
  | nil => simp [lookK]
  | cons p es ih =>
    rw [List.map_cons, lookK_cons, lookK_cons, ih]
    by_cases h : p.1 = k
    · by_cases h2 : p.1 = k'
      · simp [h, h2, ← h2]
      · have h3 : ¬ k = k' := fun e => h2 (h.trans e)
        simp [h, h3, fun e : k' = k => h3 e.symm]
    · by_cases h2 : p.1 = k'
      · have h3 : ¬ k' = k := fun e => h (h2.trans e)
        simp [h2, h3]
      · simp [h, h2]
theorem lookK_putK (es : List (Int × β)) (k k' : Int) (b : β) : lookK (putK es k b) k' = if k' = k then some b else lookK es k' := by
  unfold putK
  split
  · rename_i h
    rw [lookK_map]
    split
    · rename_i e
      subst e
      obtain ⟨p, hp, e⟩ := List.any_eq_true.mp h
      cases hl : lookK es k' with
      | none => exact absurd (of_decide_eq_true e) (lookK_none.mp hl p hp)
      | some b' => rfl
    · rfl
  · rename_i h
    rw [lookK_append, lookK_cons]
    by_cases e : k' = k
    · subst e
      have : lookK es k' = none := lookK_none.mpr fun p hp e => h (List.any_eq_true.mpr ⟨p, hp, decide_eq_true e⟩)
      simp [this]
    · rw [if_neg e, if_neg (fun q => e q.symm)]
      simp [lookK]
theorem perm_of_look {a b : List (Int × β)} (na : (a.map (·.1)).Nodup) (nb : (b.map (·.1)).Nodup) (h : ∀ k, lookK a k = lookK b k) : a.Perm b := by
  have up : ∀ {l : List (Int × β)}, (l.map (·.1)).Nodup → l.Nodup := fun {l} h => (List.pairwise_map.mp h).imp fun q e => q (congrArg (·.1) e)
  refine perm_of_mem (up na) (up nb) fun p => ?_
  obtain ⟨k, e⟩ := p
  exact ⟨fun q => lookK_mem (by rw [← h]; exact lookK_of_mem na q), fun q => lookK_mem (by rw [h]; exact lookK_of_mem nb q)⟩
end
noncomputable def firstIn (tabs : List (List (Int × Ent))) (k : Int) : Option Ent := match tabs with
  | [] => none
  | t :: ts => (lookK t k).or (firstIn ts k)
theorem addNew_look (acc : List (Int × Ent)) (p : Int × Ent) (k : Int) : lookK (addNew acc p) k = (lookK acc k).or (lookK [p] k) := by
  unfold addNew
  rw [lookK_cons]
  cases h : lookK acc p.1 with
  | some e =>
    dsimp only
    by_cases hk : p.1 = k
    · subst hk
      rw [h]
      simp
    · rw [if_neg hk]
      simp [lookK]
  | none =>
    dsimp only
    rw [lookK_putK]
    by_cases hk : p.1 = k
    · subst hk
      rw [if_pos rfl, h]
      simp
    · rw [if_neg (fun e => hk e.symm), if_neg hk]
      simp [lookK]
theorem addAll_look (t : List (Int × Ent)) : ∀ (acc : List (Int × Ent)) (k : Int), lookK (t.foldl addNew acc) k = (lookK acc k).or (lookK t k) := by
  induction t with
  | nil => intro acc k; simp [lookK]
  | cons p t ih =>
    intro acc k
    rw [List.foldl_cons, ih, addNew_look, Option.or_assoc, ← lookK_append]
    rfl
theorem overlay_look (tabs : List (List (Int × Ent))) (k : Int) : lookK (overlay tabs) k = firstIn tabs k := by
  have gen : ∀ (ts : List (List (Int × Ent))) (acc : List (Int × Ent)), lookK (ts.foldl (fun acc t => t.foldl addNew acc) acc) k = (lookK acc k).or (firstIn ts k) := by
    intro ts
    induction ts with
    | nil => intro acc; simp [firstIn]
    | cons t ts ih =>
      intro acc
      rw [List.foldl_cons, ih, addAll_look, Option.or_assoc]
      rfl
  have := gen tabs []
  simpa [overlay, lookK] using this
theorem putAll_look : ∀ (t : List (Int × Ent)) (acc : List (Int × Ent)) (k : Int), (t.map (·.1)).Nodup → lookK (putAll acc t) k = (lookK t k).or (lookK acc k)
  | [], acc, k, _ => by simp [putAll, lookK]
  | p :: t, acc, k, nd => by
    rw [List.map_cons, List.nodup_cons] at nd
    have e : putAll acc (p :: t) = putAll (putK acc p.1 p.2) t := rfl
    rw [e, putAll_look t _ k nd.2, lookK_putK, lookK_cons]
    by_cases hk : k = p.1
    · subst hk
      have hn : lookK t p.1 = none := lookK_none.mpr fun q hq eq => nd.1 (List.mem_map.mpr ⟨q, hq, eq⟩)
      simp [hn]
    · rw [if_neg hk, if_neg (fun q => hk q.symm)]
theorem due_look : ∀ (tabs : List (List (Int × Ent))) (k : Int), (∀ t ∈ tabs, (t.map (·.1)).Nodup) → lookK (dueOf tabs) k = firstIn tabs k
  | [], k, _ => by simp [dueOf, firstIn, lookK]
  | t :: ts, k, h => by
    have e : dueOf (t :: ts) = putAll (dueOf ts) t := by
      unfold dueOf
      rw [List.reverse_cons, List.foldl_append]
      rfl
    rw [e, putAll_look t _ k (h t (.head _)), due_look ts k fun t' ht => h t' (.tail _ ht)]
    rfl
theorem addNew_mem {acc : List (Int × Ent)} {q p : Int × Ent} (h : p ∈ addNew acc q) : p ∈ acc ∨ p = q := by
  unfold addNew at h
  split at h
  · exact .inl h
  · exact putK_mem h
theorem overlay_mem {tabs : List (List (Int × Ent))} {p : Int × Ent} (h : p ∈ overlay tabs) : ∃ t ∈ tabs, p ∈ t := by
  have inner : ∀ (t : List (Int × Ent)) (acc : List (Int × Ent)), p ∈ t.foldl addNew acc → p ∈ acc ∨ p ∈ t := by
    intro t
    induction t with
    | nil => intro acc h; exact .inl h
    | cons q t ih =>
      intro acc h
      rcases ih _ h with h | h
      · rcases addNew_mem h with h | rfl
        · exact .inl h
        · exact .inr (.head _)
      · exact .inr (.tail _ h)
  have gen : ∀ (ts : List (List (Int × Ent))) (acc : List (Int × Ent)), p ∈ ts.foldl (fun acc t => t.foldl addNew acc) acc → p ∈ acc ∨ ∃ t ∈ ts, p ∈ t := by
    intro ts
    induction ts with
    | nil => intro acc h; exact .inl h
    | cons t ts ih =>
      intro acc h
      rcases ih _ h with h | ⟨t', ht, h⟩
      · rcases inner t acc h with h | h
        · exact .inl h
        · exact .inr ⟨t, .head _, h⟩
      · exact .inr ⟨t', .tail _ ht, h⟩
  rcases gen tabs [] h with h | h
  · cases h
  · exact h
theorem overlay_ok {tabs : List (List (Int × Ent))} (h : TabsOk tabs) : ∀ p ∈ overlay tabs, EntOk 8 p := fun p hp => by
  obtain ⟨t, ht, hq⟩ := overlay_mem hp
  exact h t ht p hq
theorem ok_len {es : List (Int × Ent)} (nd : (es.map (·.1)).Nodup) (h : ∀ p ∈ es, EntOk 8 p) : es.length ≤ 8 := by
  have := nodup_small 8 (es.map (·.1)) nd fun x hx => by
    obtain ⟨p, hp, rfl⟩ := List.mem_map.mp hx
    exact (h p hp).1
  simpa using this
end
section
theorem rowsLwJ1 : True := by
  k_with_none
  k_with "pen_at" => focus (first | with_reducible assumption | (refine' PenAt.head ?_ ?_ ?_; (rotate_right 3; (focus (first | with_reducible assumption | k_ne)); (focus (k_all)); (focus (k_all)))) | (refine' PenAt.tail ?_ ?_ ?_; (rotate_right 1; (focus (walk_at "pen_at"))); (rotate_right 2; (focus (k_ne)); (focus (k_ne)))))
  k_with "room" => focus (first | lia | (dsimp only [ktrTop, Around.deeper]; lia))
  k_with "enterC" => focus ((refine' code_defC ?_ ?_ ?_ ?_ ?_ ?_ ?_ ?_ ?_ ?_ ?_ ?_ ?_ ?_ ?_ ?_ ?_ ?_; (rotate_right 13; (focus (exact rfl)); (focus (exact rfl)); (focus (first | exact rfl | assumption)); rotate_left 10); (rotate_right 15; (focus (k_asm)); (focus (k_asm)); (focus (k_asm)); (focus (k_asm)); (focus (k_asm)); (focus (k_is)); (focus (k_is)); (focus (k_room)); (focus (exact BindsTo.of_eq rfl)); (focus (exact rfl)); (focus (decide +kernel)); rotate_left 4); (rotate_right 3; (focus (exact rfl)); (focus (exact rfl)); (focus (exact rfl))); k_whole; intro g' L' h' tk' cells' FG' F' N' Y' B' X' T' l1; (try k_lt l1); k_cells Y'; (try simp only [List.cons_append, List.nil_append] at N'); (try dsimp only); (try k_lift B'); (try k_fold)))
  k_with "eval Name" => focus ((k_here; (with_reducible show wpAny _ _ (eval (Expr.Name _ _) (compEnvC _ _ _ _)) _ _ _); k_dflt (first | (refine' lcf_cell ?_ ?_ ?_ ?_ ?_ ?_ ?_; (rotate_right 1; (focus (rfl))); (rotate_right 1; (focus (rfl))); (rotate_right 5; (focus (k_asm)); (focus (rfl)); (focus (k_mem)); (focus (k_asm)); rotate_left 1); k_whole) | (refine' lcf_free ?_ ?_ ?_ ?_ ?_ ?_ ?_; (rotate_right 1; (focus (rfl))); (rotate_right 1; (focus (rfl))); (rotate_right 5; (focus (k_asm)); (focus (rfl)); (focus (k_mem)); (focus (k_asm)); rotate_left 1); k_whole) | refine LCgL.ld_global (by k_asm) (by k_asm) (by k_asm) (by k_is) ?_)))
  k_with "exec For Name Name cons nil" => focus ((k_here; (rename Fr _ _ _ _ => lF'); (with_unfolding_all refine' For_invVF lF' ?_ ?_ ?_; (rotate_right 3; (focus (exact rfl)); (focus (exact rfl)); rotate_left 1); k_whole)))
  k_with "exec For Name Call cons nil" => focus ((k_here; (rename Fr _ _ _ _ => lF'); (with_unfolding_all refine' For_invVF lF' ?_ ?_ ?_; (rotate_right 3; (focus (exact rfl)); (focus (exact rfl)); rotate_left 1); k_whole)))
  k_with "call ref" => focus (((with_reducible show wpAny _ _ (call (Value.ref 256) _) _ _ _); k_dflt (refine' draw_ok ?_ ?_ ?_ ?_ ?_ ?_ ?_ ?_ ?_ ?_ ?_; (rotate_right 11; (focus (k_asm)); (focus (k_asm)); (focus (k_asm)); (focus (k_asm)); (focus (k_asm)); (focus (first | exact rfl | assumption)); (focus (walk_at "pen_at")); (focus (first | decide | lia)); (focus (walk_at "room")); (focus (walk_at "room")); rotate_left 1)); intro r9 t9 y9 h' tk9 lo9 hi9 F' N'; (try dsimp only at N'); (try k_sweep)))
  k_with "call ref" => focus (((with_reducible show wpAny _ _ (call (Value.ref 263) _) _ _ _); k_dflt (refine' pick_ok ?_ ?_ ?_ ?_ ?_ ?_ ?_ ?_ ?_ ?_ ?_ ?_ ?_ ?_ ?_; (rotate_right 15; (focus (k_asm)); (focus (k_asm)); (focus (k_asm)); (focus (k_asm)); (focus (k_asm)); (focus (first | exact rfl | assumption)); (focus (walk_at "pen_at")); (focus (k_mem)); (focus (k_ne)); (focus (k_ne)); (focus ((simp only [List.length_cons, List.length_nil]; lia))); (focus ((simp only [List.length_cons, List.length_nil]; lia))); (focus (walk_at "room")); (focus (walk_at "room")); rotate_left 1)); intro v9 y9 h' tk9 m9 F' N'; (try k_dflt (have q9 := pick_str4 m9; obtain ⟨w9, tw9, e9, ow9⟩ := q9; subst e9; clear m9)); (try dsimp only at N'); (try k_sweep)))
  k_with "eval ListComp" => focus ((k_here; first | (with_reducible refine' ListComp_W ?_ ?_ ?_ ?_ ?_ ?_ ?_ ?_; (rotate_right 8; (focus (k_asm)); (focus (with_unfolding_all rfl)); (focus (decide)); (focus (with_unfolding_all rfl)); (focus (decide)); (focus (with_unfolding_all rfl)); rotate_left 2); (rotate_right 1; (focus ((intro _; with_unfolding_all rfl))))) | (with_reducible refine' ListComp_WT ?_ ?_ ?_ ?_ ?_ ?_ ?_ ?_; (rotate_right 8; (focus (k_asm)); (focus (with_unfolding_all rfl)); (focus (decide)); (focus (with_unfolding_all rfl)); (focus (decide)); (focus (with_unfolding_all rfl)); rotate_left 2); (rotate_right 1; (focus ((intro _; with_unfolding_all rfl)))))))
  k_with "exec Assign cons ListComp" => focus ((k_here; k_dflt (first | refine Assign_ListComp_WT (_F₀ := by k_asm) (by rfl) (by with_unfolding_all rfl) (by with_unfolding_all rfl) (by decide) (by rfl) (by decide) (by rfl) (by rfl) (by rfl) ?_ | refine Assign_ListComp_W (_F₀ := by k_asm) (by rfl) (by with_unfolding_all rfl) (by with_unfolding_all rfl) (by decide) (by rfl) (by decide) (by rfl) (by rfl) (by rfl) ?_ | refine wpAny_Assign_Name ?_)))
  k_with "exec Assign cons ListComp" => focus ((k_here; k_dflt (first | (with_reducible refine' Assign_ListComp_W ?_ ?_ ?_ ?_ ?_ ?_ ?_ ?_ ?_ ?_ ?_ ?_; (rotate_right 12; (focus (k_asm)); (focus (with_unfolding_all rfl)); rotate_left 10); (rotate_right 9; (focus (with_unfolding_all rfl)); (focus (decide)); (focus (with_unfolding_all rfl)); (focus (decide)); (focus (with_unfolding_all rfl)); (focus (with_unfolding_all rfl)); (focus (with_unfolding_all rfl)); rotate_left 2); (rotate_right 1; (focus ((intro _; with_unfolding_all rfl)))); (rotate_right 2; (focus (with_unfolding_all rfl)); rotate_left 1)) | (with_reducible refine' Assign_ListComp_WT ?_ ?_ ?_ ?_ ?_ ?_ ?_ ?_ ?_ ?_ ?_ ?_; (rotate_right 12; (focus (k_asm)); (focus (with_unfolding_all rfl)); rotate_left 10); (rotate_right 9; (focus (with_unfolding_all rfl)); (focus (decide)); (focus (with_unfolding_all rfl)); (focus (decide)); (focus (with_unfolding_all rfl)); (focus (with_unfolding_all rfl)); (focus (with_unfolding_all rfl)); rotate_left 2); (rotate_right 1; (focus ((intro _; with_unfolding_all rfl)))); (rotate_right 2; (focus (with_unfolding_all rfl)); rotate_left 1)) | (with_reducible refine wpAny_Assign_Name ?_))))
  k_with "menu_int" => focus (repeat' (first | exact all_nil | (refine all_cons ?_ ?_) | (refine IntTo.mk' ?_ ?_ <;> first | lia | decide +kernel)))
  k_with "call ref" => focus (((with_reducible show wpAny _ _ (call (Value.ref 263) _) _ _ _); k_dflt (refine' pick_ok ?_ ?_ ?_ ?_ ?_ ?_ ?_ ?_ ?_ ?_ ?_ ?_ ?_ ?_ ?_; (rotate_right 15; (focus (k_asm)); (focus (k_asm)); (focus (k_asm)); (focus (k_asm)); (focus (k_asm)); (focus (first | exact rfl | assumption)); (focus (walk_at "pen_at")); (focus (k_mem)); (focus (k_ne)); (focus (k_ne)); (focus ((simp only [List.length_cons, List.length_nil]; lia))); (focus ((simp only [List.length_cons, List.length_nil]; lia))); (focus (walk_at "room")); (focus (walk_at "room")); rotate_left 1)); intro v9 y9 h' tk9 m9 F' N'; (try k_dflt (refine pick_elim (P := IntTo 1000) m9 ?_ ?_; (rotate_right 2; (focus (walk_at "menu_int")); rotate_left 1); intro q9; obtain ⟨i9, ti9, e9, lo9, hi9⟩ := q9; subst e9; clear m9)); (try dsimp only at N'); (try k_sweep)))
  trivial
noncomputable def datE (e : Ent) : Dat := .tuple [.str e.way, .int e.one, .int e.two]
noncomputable def datR (p : Int × Ent) : Dat := .tuple [.int p.1, datE p.2]
noncomputable def datT (t : List (Int × Ent)) : Dat := .list (t.map datR)
theorem way_ok {p : Int × Ent} (h : EntOk 8 p) : PyData.strOk p.2.way = true := by
  rcases h.2.2 with e | e | e | e <;> (rw [e]; decide +kernel)
theorem datE_ok {p : Int × Ent} (h : EntOk 8 p) (n : Nat) : kqdOk (n + 1) (datE p.2) = true := by
  have := way_ok h
  cases n <;> simp [datE, kqdOk, this]
theorem datR_ok {p : Int × Ent} (h : EntOk 8 p) : kqdOk 7 (datR p) = true := by
  have := datE_ok h 5
  simp [datR, kqdOk, this]
theorem datT_ok {t : List (Int × Ent)} (h : ∀ p ∈ t, EntOk 8 p) : kqdOk 8 (datT t) = true := by
  simp only [datT, kqdOk, List.all_eq_true]
  intro d hd
  obtain ⟨p, hp, rfl⟩ := List.mem_map.mp hd
  exact datR_ok (h p hp)
section
variable {l : List (Addr × Obj)}
theorem tup_dat {v : Value} {e : Ent} (h : TupIn l v e) : DatIn l v (datE e) := by
  obtain ⟨ta, t1, t2, t3, rfl, hm⟩ := h
  exact .tuple hm (.cons (.str _ _) (.cons (.int _ _) (.cons (.int _ _) .nil)))
theorem row_dat {v : Value} {p : Int × Ent} (h : RowIn l v p) : DatIn l v (datR p) := by
  obtain ⟨ra, t0, u, rfl, hm, hu⟩ := h
  exact .tuple hm (.cons (.int _ _) (.cons (tup_dat hu) .nil))
theorem row_dats {vs : List Value} {t : List (Int × Ent)} (h : ListRel (RowIn l) vs t) : DatAll l vs (t.map datR) := by
  induction h with
  | nil => exact .nil
  | cons r _ ih => exact .cons (row_dat r) ih
theorem rows_dat {vs : List Value} {tabs : List (List (Int × Ent))} (h : ListRel (RowsIn l) vs tabs) : DatAll l vs (tabs.map datT) := by
  induction h with
  | nil => exact .nil
  | cons r _ ih =>
    obtain ⟨R, ys, rfl, hm, hr⟩ := r
    exact .cons (.list hm (row_dats hr)) ih
end
section
variable {prog : Program} {w : World} {A : Around} {E : Value → Shared → Prop} {s : Shared} {h₀ : Heap} {L : Addr} {news l1 l2 : List (Addr × Obj)} {Q : Value → Shared → Prop}
theorem rows_ne {a b na nb : Nat} {xs ys : List Value} {tabs : List (List (Int × Ent))} (N : News h₀ L s.heap news) (ma : (a, listOf xs.toArray na) ∈ news) (mb : (b, listOf ys.toArray nb) ∈ news) (ra : ListRel (RowsIn l1) xs tabs) (s1 : ∀ p ∈ l1, p ∈ news) (rb : ListRel (RowsIn l2) ys tabs) (s2 : ∀ p ∈ l2, p ∈ news)
    (ok : TabsOk tabs) (hu : A.units + 64 < cLine) (h : Q (.bool false) s) : wpAny (model prog w) A (compareOp .NotEq (.ref a) (.ref b)) Q E s := by
  have hk : ∀ d ∈ tabs.map datT, kqdOk 8 d = true := by
    intro d hd
    obtain ⟨t, ht, rfl⟩ := List.mem_map.mp hd
    exact datT_ok (ok t ht)
  refine kqd_ne N ma rfl rfl (rows_dat ra) s1 mb rfl rfl (rows_dat rb) s2 hk hk hu ?_
  simpa using h
theorem tup_eq {v y : Value} {p : Int × Ent} (N : News h₀ L s.heap news) (h1 : TupIn news v p.2) (h2 : TupIn news y p.2) (ok : EntOk 8 p) (hu : A.in1.units + 64 < cLine) : SeqAt.EqAt A.in1 s v y true := by
  have hk := datE_ok ok 7
  obtain ⟨as, ra⟩ := kqd_in N 8 (tup_dat h1) hk
  obtain ⟨bs, rb⟩ := kqd_in N 8 (tup_dat h2) hk
  have hl := kqd_lay 8 (datE p.2) hk
  have hs : SeqAt.shaped (kqdP (datE p.2)) = true := by
    unfold SeqAt.shaped
    rw [hl.1, Bool.true_and]
    exact decide_eq_true (Nat.le_trans hl.2 (by decide))
  have := keq_at (A := A) ra rb hs hs hu
  rw [(kqd_eqv 8 _ _ 8 hk hk).mpr rfl] at this
  exact this
theorem due_hits {kb : List (Int × Value)} {es' : List (Int × Ent)} (N : News h₀ L s.heap news) (rb : TabRel (TupIn news) kb es') (hu : A.in1.units + 64 < cLine) : ∀ {ka : List (Int × Value)} {es : List (Int × Ent)}, TabRel (TupIn news) ka es → (∀ p ∈ es, EntOk 8 p) → (∀ p ∈ es, lookK es' p.1 = some p.2) → KeqHits A.in1 s kb ka true
  | _, _, .nil, _, _ => .nil
  | _, _, .cons (k := k) (v := v) (b := e) r rr, ok, hl => by
    have he := hl (k, e) (.head _)
    rcases rb.look k with ⟨_, q⟩ | ⟨y, b, h1, h2, h3⟩
    · rw [q] at he; cases he
    · rw [h2] at he
      cases he
      have hr := due_hits N rb hu rr (fun p hp => ok p (.tail _ hp)) (fun p hp => hl p (.tail _ hp))
      exact KeqHits.hit (b := true) h1 (tup_eq (p := (k, e)) N r h3 (ok _ (.head _)) hu) hr
theorem due_ne {a b : Nat} {oa ob : Obj} {ka kb : List (Int × Value)} {es es' : List (Int × Ent)} (N : News h₀ L s.heap news) (ma : (a, oa) ∈ news) (mb : (b, ob) ∈ news) (da : oa.IsDictOf (intKind prog w) ka) (db : ob.IsDictOf (intKind prog w) kb) (la : (a == sysModules) = false) (lb : (b == sysModules) = false)
    (ra : TabRel (TupIn news) ka es) (rb : TabRel (TupIn news) kb es') (ok : ∀ p ∈ es, EntOk 8 p) (hp : es.Perm es') (hu : A.units + 100 < cLine) (h : Q (.bool false) s) : wpAny (model prog w) A (compareOp .NotEq (.ref a) (.ref b)) Q E s := by
  have nb : (es'.map (·.1)).Nodup := by
    rw [← rb.keys]
    obtain ⟨_, _, _, _, _, _, hn⟩ := db
    exact hn
  have hl : ka.length = kb.length := by rw [ra.length, rb.length, hp.length_eq]
  refine keq_ne (knd := intKind prog w) (r := true) la lb (Heap.dictOf_iff.mpr ⟨oa, (N _ ma).1, da⟩) (Heap.dictOf_iff.mpr ⟨ob, (N _ mb).1, db⟩) (by lia) (fun _ => due_hits N rb ?_ ra ok fun p hm => lookK_of_mem nb (hp.mem_iff.mp hm)) ?_
  · simp only [units_in1]
    lia
  · rw [hl]
    simpa using h
theorem rows_pairs {ys : List Value} {t : List (Int × Ent)} (h : ListRel (RowIn news) ys t) : ∃ ps : List (Int × Value), TabRel (TupIn news) ps t ∧ ys.length = ps.length ∧ ∀ (j : Nat) (v : Value), ys[j]? = some v → ∃ (ta : Nat) (t0 : Tok) (x : Value) (k : Int), v = .ref ta ∧ (ta, tupO [.int k t0, x]) ∈ news ∧ ps[j]? = some (k, x) := by
  induction h with
  | nil => exact ⟨[], .nil, rfl, fun j v h => by simp at h⟩
  | @cons v p vs bs r _ ih =>
    obtain ⟨k, e⟩ := p
    obtain ⟨ra, t0, u, rfl, hm, hu⟩ := r
    obtain ⟨ps, h1, h2, h3⟩ := ih
    refine ⟨(k, u) :: ps, .cons hu h1, by simp [h2], fun j v hv => ?_⟩
    cases j with
    | zero =>
      simp only [List.getElem?_cons_zero, Option.some.injEq] at hv
      exact ⟨ra, t0, u, k, hv.symm, hm, rfl⟩
    | succ j =>
      simp only [List.getElem?_cons_succ] at hv
      exact h3 j v hv
theorem dict_rows {l n : Nat} {ys : List Value} {t : List (Int × Ent)} {m : Str → Option Value} (hh : A.handled = none) (F : Fr h₀ L s.heap m) (N : News h₀ L s.heap news) (ml : (l, listOf ys.toArray n) ∈ news) (r : ListRel (RowIn news) ys t) (nd : (t.map (·.1)).Nodup) (hz : t.length ≤ 1000) (hbig : sysModules < h₀.objs.size)
    (h : ∀ (D : Nat) (o : Obj) (kvs : List (Int × Value)) h' tk, o.IsDictOf (intKind prog w) kvs → TabRel (TupIn news) kvs t → (D == sysModules) = false → (∀ p ∈ news, p.1 < D) → Fr h₀ L h' m → News h₀ L h' ((D, o) :: news) → Q (.ref D) { s with heap := h', toks := tk }) :
    wpAny (model prog w) A (call (.type "dict") [.ref l]) Q E s := by
  obtain ⟨ps, h1, h2, h3⟩ := rows_pairs r
  refine dict_pairs (items := ys.toArray) (n := n) (ps := ps) hh (by rw [h1.keys]; exact nd) (N _ ml).1 (by rw [h1.length]; lia) ⟨by rw [List.size_toArray, h2], fun j v e => ?_⟩ fun h' tk hk hD => ?_
  · obtain ⟨ta, t0, x, k, e1, hm, hp⟩ := h3 j v (by simpa using e)
    exact ⟨ta, t0, x, k, e1, (N _ hm).1, hp⟩
  · obtain ⟨o, ho, hd⟩ := Heap.dictOf_iff.mp hD
    exact h _ o ps h' tk hd h1 (F.notModules hbig) (fun p hp => Heap.lt_size (N p hp).1) (F.kept hk) (N.kept_cons F hk (Nat.le_refl _) ho)
end
end
section
theorem rowsLwK1 : True := by
  k_with_none
  k_with "pen_at" => focus (first | with_reducible assumption | (refine' PenAt.head ?_ ?_ ?_; (rotate_right 3; (focus (first | with_reducible assumption | k_ne)); (focus (k_all)); (focus (k_all)))) | (refine' PenAt.tail ?_ ?_ ?_; (rotate_right 1; (focus (walk_at "pen_at"))); (rotate_right 2; (focus (k_ne)); (focus (k_ne)))))
  k_with "room" => focus (first | lia | (dsimp only [ktrTop, Around.deeper]; lia))
  k_with "enterC" => focus ((refine' code_defC ?_ ?_ ?_ ?_ ?_ ?_ ?_ ?_ ?_ ?_ ?_ ?_ ?_ ?_ ?_ ?_ ?_ ?_; (rotate_right 13; (focus (exact rfl)); (focus (exact rfl)); (focus (first | exact rfl | assumption)); rotate_left 10); (rotate_right 15; (focus (k_asm)); (focus (k_asm)); (focus (k_asm)); (focus (k_asm)); (focus (k_asm)); (focus (k_is)); (focus (k_is)); (focus (k_room)); (focus (exact BindsTo.of_eq rfl)); (focus (exact rfl)); (focus (decide +kernel)); rotate_left 4); (rotate_right 3; (focus (exact rfl)); (focus (exact rfl)); (focus (exact rfl))); k_whole; intro g' L' h' tk' cells' FG' F' N' Y' B' X' T' l1; (try k_lt l1); k_cells Y'; (try simp only [List.cons_append, List.nil_append] at N'); (try dsimp only); (try k_lift B'); (try k_fold)))
  k_with "eval Name" => focus ((k_here; (with_reducible show wpAny _ _ (eval (Expr.Name _ _) (compEnvC _ _ _ _)) _ _ _); k_dflt (first | (refine' lcf_cell ?_ ?_ ?_ ?_ ?_ ?_ ?_; (rotate_right 1; (focus (rfl))); (rotate_right 1; (focus (rfl))); (rotate_right 5; (focus (k_asm)); (focus (rfl)); (focus (k_mem)); (focus (k_asm)); rotate_left 1); k_whole) | (refine' lcf_free ?_ ?_ ?_ ?_ ?_ ?_ ?_; (rotate_right 1; (focus (rfl))); (rotate_right 1; (focus (rfl))); (rotate_right 5; (focus (k_asm)); (focus (rfl)); (focus (k_mem)); (focus (k_asm)); rotate_left 1); k_whole) | refine LCgL.ld_global (by k_asm) (by k_asm) (by k_asm) (by k_is) ?_)))
  k_with "exec For Name Name cons nil" => focus ((k_here; (rename Fr _ _ _ _ => lF'); (with_unfolding_all refine' For_invVF lF' ?_ ?_ ?_; (rotate_right 3; (focus (exact rfl)); (focus (exact rfl)); rotate_left 1); k_whole)))
  k_with "exec For Name Call cons nil" => focus ((k_here; (rename Fr _ _ _ _ => lF'); (with_unfolding_all refine' For_invVF lF' ?_ ?_ ?_; (rotate_right 3; (focus (exact rfl)); (focus (exact rfl)); rotate_left 1); k_whole)))
  k_with "call ref" => focus (((with_reducible show wpAny _ _ (call (Value.ref 256) _) _ _ _); k_dflt (refine' draw_ok ?_ ?_ ?_ ?_ ?_ ?_ ?_ ?_ ?_ ?_ ?_; (rotate_right 11; (focus (k_asm)); (focus (k_asm)); (focus (k_asm)); (focus (k_asm)); (focus (k_asm)); (focus (first | exact rfl | assumption)); (focus (walk_at "pen_at")); (focus (first | decide | lia)); (focus (walk_at "room")); (focus (walk_at "room")); rotate_left 1)); intro r9 t9 y9 h' tk9 lo9 hi9 F' N'; (try dsimp only at N'); (try k_sweep)))
  k_with "call ref" => focus (((with_reducible show wpAny _ _ (call (Value.ref 263) _) _ _ _); k_dflt (refine' pick_ok ?_ ?_ ?_ ?_ ?_ ?_ ?_ ?_ ?_ ?_ ?_ ?_ ?_ ?_ ?_; (rotate_right 15; (focus (k_asm)); (focus (k_asm)); (focus (k_asm)); (focus (k_asm)); (focus (k_asm)); (focus (first | exact rfl | assumption)); (focus (walk_at "pen_at")); (focus (k_mem)); (focus (k_ne)); (focus (k_ne)); (focus ((simp only [List.length_cons, List.length_nil]; lia))); (focus ((simp only [List.length_cons, List.length_nil]; lia))); (focus (walk_at "room")); (focus (walk_at "room")); rotate_left 1)); intro v9 y9 h' tk9 m9 F' N'; (try k_dflt (have q9 := pick_str4 m9; obtain ⟨w9, tw9, e9, ow9⟩ := q9; subst e9; clear m9)); (try dsimp only at N'); (try k_sweep)))
  k_with "eval ListComp" => focus ((k_here; first | (with_reducible refine' ListComp_W ?_ ?_ ?_ ?_ ?_ ?_ ?_ ?_; (rotate_right 8; (focus (k_asm)); (focus (with_unfolding_all rfl)); (focus (decide)); (focus (with_unfolding_all rfl)); (focus (decide)); (focus (with_unfolding_all rfl)); rotate_left 2); (rotate_right 1; (focus ((intro _; with_unfolding_all rfl))))) | (with_reducible refine' ListComp_WT ?_ ?_ ?_ ?_ ?_ ?_ ?_ ?_; (rotate_right 8; (focus (k_asm)); (focus (with_unfolding_all rfl)); (focus (decide)); (focus (with_unfolding_all rfl)); (focus (decide)); (focus (with_unfolding_all rfl)); rotate_left 2); (rotate_right 1; (focus ((intro _; with_unfolding_all rfl)))))))
  k_with "exec Assign cons ListComp" => focus ((k_here; k_dflt (first | refine Assign_ListComp_WT (_F₀ := by k_asm) (by rfl) (by with_unfolding_all rfl) (by with_unfolding_all rfl) (by decide) (by rfl) (by decide) (by rfl) (by rfl) (by rfl) ?_ | refine Assign_ListComp_W (_F₀ := by k_asm) (by rfl) (by with_unfolding_all rfl) (by with_unfolding_all rfl) (by decide) (by rfl) (by decide) (by rfl) (by rfl) (by rfl) ?_ | refine wpAny_Assign_Name ?_)))
  k_with "exec Assign cons ListComp" => focus ((k_here; k_dflt (first | (with_reducible refine' Assign_ListComp_W ?_ ?_ ?_ ?_ ?_ ?_ ?_ ?_ ?_ ?_ ?_ ?_; (rotate_right 12; (focus (k_asm)); (focus (with_unfolding_all rfl)); rotate_left 10); (rotate_right 9; (focus (with_unfolding_all rfl)); (focus (decide)); (focus (with_unfolding_all rfl)); (focus (decide)); (focus (with_unfolding_all rfl)); (focus (with_unfolding_all rfl)); (focus (with_unfolding_all rfl)); rotate_left 2); (rotate_right 1; (focus ((intro _; with_unfolding_all rfl)))); (rotate_right 2; (focus (with_unfolding_all rfl)); rotate_left 1)) | (with_reducible refine' Assign_ListComp_WT ?_ ?_ ?_ ?_ ?_ ?_ ?_ ?_ ?_ ?_ ?_ ?_; (rotate_right 12; (focus (k_asm)); (focus (with_unfolding_all rfl)); rotate_left 10); (rotate_right 9; (focus (with_unfolding_all rfl)); (focus (decide)); (focus (with_unfolding_all rfl)); (focus (decide)); (focus (with_unfolding_all rfl)); (focus (with_unfolding_all rfl)); (focus (with_unfolding_all rfl)); rotate_left 2); (rotate_right 1; (focus ((intro _; with_unfolding_all rfl)))); (rotate_right 2; (focus (with_unfolding_all rfl)); rotate_left 1)) | (with_reducible refine wpAny_Assign_Name ?_))))
  k_with "menu_int" => focus (repeat' (first | exact all_nil | (refine all_cons ?_ ?_) | (refine IntTo.mk' ?_ ?_ <;> first | lia | decide +kernel)))
  k_with "call ref" => focus (((with_reducible show wpAny _ _ (call (Value.ref 263) _) _ _ _); k_dflt (refine' pick_ok ?_ ?_ ?_ ?_ ?_ ?_ ?_ ?_ ?_ ?_ ?_ ?_ ?_ ?_ ?_; (rotate_right 15; (focus (k_asm)); (focus (k_asm)); (focus (k_asm)); (focus (k_asm)); (focus (k_asm)); (focus (first | exact rfl | assumption)); (focus (walk_at "pen_at")); (focus (k_mem)); (focus (k_ne)); (focus (k_ne)); (focus ((simp only [List.length_cons, List.length_nil]; lia))); (focus ((simp only [List.length_cons, List.length_nil]; lia))); (focus (walk_at "room")); (focus (walk_at "room")); rotate_left 1)); intro v9 y9 h' tk9 m9 F' N'; (try k_dflt (refine pick_elim (P := IntTo 1000) m9 ?_ ?_; (rotate_right 2; (focus (walk_at "menu_int")); rotate_left 1); intro q9; obtain ⟨i9, ti9, e9, lo9, hi9⟩ := q9; subst e9; clear m9)); (try dsimp only at N'); (try k_sweep)))
  k_with "call ref" => focus (((with_reducible show wpAny _ _ (call (Value.ref 218) _) _ _ _); k_dflt (refine' over_ok ?_ ?_ ?_ ?_ ?_ ?_ ?_ ?_ ?_ ?_ ?_ ?_; (rotate_right 12; (focus (k_asm)); (focus (k_asm)); (focus (k_asm)); (focus (k_asm)); (focus (k_asm)); (focus (first | exact rfl | assumption)); (focus (assumption)); (focus (assumption)); (focus (lia)); (focus (walk_at "room")); (focus (walk_at "room")); rotate_left 1)); intro D9 o9 kvs9 h' tk9 d9 z9 r9 lo9 l9 F' N'))
  trivial
set_option maxRecDepth 100000 in
set_option maxHeartbeats 8000000 in
theorem st5 {w : World} {mean : ExcName → Option Value} {mg mb : Str → Option Value} {dp un : Nat} {gd : Option (List Code)} {a : Addr} {ccd : Value} {outer : List Env} {A₀ : Around} {base h₀ : Heap} {L : Addr} {m : Str → Option Value} {s : Shared} {E : Value → Shared → Prop} {Q : Flow → Shared → Prop} {TA nn : Nat} {refs : List Value} {tabs : List (List (Int × Ent))} {news : List (Addr × Obj)}
    (B : Below A₀ base outer h₀) (X : (Mine.hd.heap_1 w.params).In h₀) (T : Top Mine.hd.view_1 (looseW Mine.hd.view_1 [Str.ofString "PaperError"]) mean mg mb h₀) (hd : dp < 310) (hu : un < 300) (F : Fr h₀ L s.heap m) (hm : m (Str.ofString "tables") = some (.ref TA)) (N : News h₀ L s.heap news) (hT : (TA, listOf refs.toArray nn) ∈ news) (relT : ListRel (TableIn PySem.Challenge.rw_nn0202_01.row.prog w news) refs tabs) (hn : refs.length ≤ 4)
    (hnext : ∀ (D : Nat) (o : Obj) (kvs : List (Int × Value)) h' tk', o.IsDictOf (intKind PySem.Challenge.rw_nn0202_01.row.prog w) kvs → TabRel (EntIn w news) kvs (overlay tabs) → (D == sysModules) = false → (∀ p ∈ news, p.1 < D) →
      Fr h₀ L h' (fun z => if z = Str.ofString "found" then some (.ref D) else m z) → News h₀ L h' ((D, o) :: news) → Q .next { s with heap := h', toks := tk' }) :
    wpAny (model PySem.Challenge.rw_nn0202_01.row.prog w) (ktrTop dp un gd (Str.ofString "law") lawScope L a ccd [(Str.ofString "numbers", L + 1 + 1 + 1), (Str.ofString "due", L + 1 + 1), (Str.ofString "pen", L + 1)] outer) (exec (stm 5) (envX (Str.ofString "law") lawScope L a ccd [(Str.ofString "numbers", L + 1 + 1 + 1), (Str.ofString "due", L + 1 + 1), (Str.ofString "pen", L + 1)])) Q E s := by
  obtain ⟨m, rfl⟩ := know1 hm
  clear hm
  conv in (stm _) => whnf
  conv in lawScope => whnf
  conv in lawScope => whnf
  dsimp only
  revert X
  k_fill
  intro X
  k_steps
  refine' hnext _ _ _ _ _ ?o ?r ?lo ?l ?F ?N; (case N => k_asm); (case F => k_asm); (case o => assumption); (case r => assumption); (case lo => assumption); (case l => assumption)
theorem rowsLwK2 : True := by
  k_with "call ref" => focus (((with_reducible show wpAny _ _ (call (Value.ref 275) _) _ _ _); k_dflt (refine' told_ok ?_ ?_ ?_ ?_ ?_ ?_ ?_ ?_ ?_ ?_ ?_ ?_ ?_ ?_; (rotate_right 14; (focus (k_asm)); (focus (k_asm)); (focus (k_asm)); (focus (k_asm)); (focus (k_asm)); (focus (first | exact rfl | assumption)); (focus (assumption)); (focus (assumption)); (focus (assumption)); (focus (lia)); (focus (assumption)); (focus (walk_at "room")); (focus (walk_at "room")); rotate_left 1)); intro R9 ys9 tl9 h' tk9 r9 a9 F' N'))
  k_with "call type:dict" => focus ((k_here; (with_reducible show wpAny _ _ (call (Value.type "dict") [Value.ref _]) _ _ _); k_dflt (refine' dict_rows ?_ ?_ ?_ ?_ ?_ ?_ ?_ ?_ ?_; (rotate_right 9; (focus (exact rfl)); (focus (k_asm)); (focus (k_asm)); (focus (k_mem)); (focus (exact ListRel.mono (by assumption) (RowIn.mono (fun p hp => List.mem_cons_of_mem _ (List.mem_append_left _ hp))))); (focus (assumption)); (focus (lia)); (focus (exact modules_low (Top.nolimit (by k_asm)))); rotate_left 1)); intro D9 o9 kvs9 h' tk9 d9 r9 lo9 l9 F' N'))
  k_with "compareOp NotEq ref ref" => focus ((k_here; k_dflt (refine' rows_ne ?_ ?_ ?_ ?_ ?_ ?_ ?_ ?_ ?_ ?_; (rotate_right 10; (focus (k_asm)); (focus (k_mem)); (focus (k_mem)); (focus (assumption)); (focus (kcj_all)); (focus (assumption)); (focus (kcj_all)); (focus (assumption)); (focus (ke_room)); rotate_left 1))))
  k_with "compareOp NotEq ref ref" => focus ((k_here; k_dflt (refine' due_ne ?_ ?_ ?_ ?_ ?_ ?_ ?_ ?_ ?_ ?_ ?_ ?_ ?_; (rotate_right 13; (focus (k_asm)); (focus (k_mem)); (focus (k_mem)); (focus (assumption)); (focus (assumption)); (focus (assumption)); (focus (assumption)); (focus (exact TabRel.mono (by assumption) (TupIn.mono fun p hp => List.mem_cons_of_mem _ hp))); (focus (exact TabRel.mono (by assumption) (TupIn.mono fun p hp => List.mem_cons_of_mem _ (List.mem_cons_of_mem _ (List.mem_append_right _ hp))))); (focus (assumption)); (focus (assumption)); (focus (ke_room)); rotate_left 1))))
  trivial
set_option maxRecDepth 100000 in
set_option maxHeartbeats 8000000 in
theorem st6 {w : World} {mean : ExcName → Option Value} {mg mb : Str → Option Value} {dp un : Nat} {gd : Option (List Code)} {a : Addr} {ccd : Value} {outer : List Env} {A₀ : Around} {base h₀ : Heap} {L : Addr} {m : Str → Option Value} {s : Shared} {E : Value → Shared → Prop} {Q : Flow → Shared → Prop} {TA nn RA nr Fd D : Nat} {of od p2 : Obj} {refs rows : List Value} {kvs kvd : List (Int × Value)} {es es' : List (Int × Ent)} {tabs : List (List (Int × Ent))} {news : List (Addr × Obj)}
    (B : Below A₀ base outer h₀) (X : (Mine.hd.heap_1 w.params).In h₀) (T : Top Mine.hd.view_1 (looseW Mine.hd.view_1 [Str.ofString "PaperError"]) mean mg mb h₀) (hd : dp < 310) (hu : un < 300) (F : Fr h₀ L s.heap m) (hm1 : m (Str.ofString "found") = some (.ref Fd)) (hm2 : m (Str.ofString "tables") = some (.ref TA)) (hm3 : m (Str.ofString "rows") = some (.ref RA)) (N : News h₀ L s.heap news) (hT : (TA, listOf refs.toArray nn) ∈ news) (relT : ListRel (TableIn PySem.Challenge.rw_nn0202_01.row.prog w news) refs tabs) (hn : refs.length ≤ 4)
    (hR : (RA, listOf rows.toArray nr) ∈ news) (relR : ListRel (RowsIn news) rows tabs) (hF : (Fd, of) ∈ news) (hof : of.IsDictOf (intKind PySem.Challenge.rw_nn0202_01.row.prog w) kvs) (lof : (Fd == sysModules) = false) (relF : TabRel (EntIn w news) kvs es) (ndF : (es.map (·.1)).Nodup) (lenF : es.length ≤ 8)
    (hc : (L + 1 + 1, p2) ∈ news) (d2 : p2.data = .cell (some (.ref D))) (hD : (D, od) ∈ news) (hod : od.IsDictOf (intKind PySem.Challenge.rw_nn0202_01.row.prog w) kvd) (lod : (D == sysModules) = false) (relD : TabRel (TupIn news) kvd es') (hp : es.Perm es') (okF : ∀ p ∈ es, EntOk 8 p) (okT : TabsOk tabs)
    (hnext : ∀ h' tk', Fr h₀ L h' m → News h₀ L h' news → Q .next { s with heap := h', toks := tk' }) :
    wpAny (model PySem.Challenge.rw_nn0202_01.row.prog w) (ktrTop dp un gd (Str.ofString "law") lawScope L a ccd [(Str.ofString "numbers", L + 1 + 1 + 1), (Str.ofString "due", L + 1 + 1), (Str.ofString "pen", L + 1)] outer) (exec (stm 6) (envX (Str.ofString "law") lawScope L a ccd [(Str.ofString "numbers", L + 1 + 1 + 1), (Str.ofString "due", L + 1 + 1), (Str.ofString "pen", L + 1)])) Q E s := by
  obtain ⟨m, rfl⟩ := know3 hm1 hm2 hm3
  clear hm1 hm2 hm3
  have hkl : kvs.length ≤ 8 := by rw [relF.length]; exact lenF
  conv in (stm _) => whnf
  conv in lawScope => whnf
  conv in lawScope => whnf
  dsimp only
  revert X
  k_fill
  intro X
  k_steps
  refine' rows_src ?hh ?F ?N hT relT (by lia) ?turn ?done
  case hh => exact rfl
  case F => k_asm
  case N => exact cb_drop (by assumption) (fun p hp => .tail _ (.tail _ (List.mem_append_right _ hp)))
  case turn =>
    intro D o kvs es tl ys I oI C oC R m₂ h tk E' h1 h2 h3 h4 h5 hC hx F' N'
    have hD : (D, o) ∈ (I, oI) :: (C, oC) :: (R, LCg.lst ys) :: (tl ++ news) := .tail _ (.tail _ (.tail _ (List.mem_append_right _ h1)))
    have hrel : TabRel (EntIn w ((I, oI) :: (C, oC) :: (R, LCg.lst ys) :: (tl ++ news))) kvs es := h5.mono (EntIn.mono fun p hp => .tail _ (.tail _ (.tail _ (List.mem_append_right _ hp))))
    k_steps
    exact ⟨_, _, _, _, _, rfl, rfl, by assumption, by assumption, by assumption, by assumption⟩
  case done =>
    intro ys tl hg hr hap D' h' tk' F' N' o1'
    k_steps
    exact hnext _ _ F' (cb_drop N' fun p hp => .tail _ (List.mem_append_right _ hp))
end
section
theorem rowsLwL1 : True := by
  k_with_none
  k_with "pen_at" => focus (first | with_reducible assumption | (refine' PenAt.head ?_ ?_ ?_; (rotate_right 3; (focus (first | with_reducible assumption | k_ne)); (focus (k_all)); (focus (k_all)))) | (refine' PenAt.tail ?_ ?_ ?_; (rotate_right 1; (focus (walk_at "pen_at"))); (rotate_right 2; (focus (k_ne)); (focus (k_ne)))))
  k_with "room" => focus (first | lia | (dsimp only [ktrTop, Around.deeper]; lia))
  k_with "enterC" => focus ((refine' code_defC ?_ ?_ ?_ ?_ ?_ ?_ ?_ ?_ ?_ ?_ ?_ ?_ ?_ ?_ ?_ ?_ ?_ ?_; (rotate_right 13; (focus (exact rfl)); (focus (exact rfl)); (focus (first | exact rfl | assumption)); rotate_left 10); (rotate_right 15; (focus (k_asm)); (focus (k_asm)); (focus (k_asm)); (focus (k_asm)); (focus (k_asm)); (focus (k_is)); (focus (k_is)); (focus (k_room)); (focus (exact BindsTo.of_eq rfl)); (focus (exact rfl)); (focus (decide +kernel)); rotate_left 4); (rotate_right 3; (focus (exact rfl)); (focus (exact rfl)); (focus (exact rfl))); k_whole; intro g' L' h' tk' cells' FG' F' N' Y' B' X' T' l1; (try k_lt l1); k_cells Y'; (try simp only [List.cons_append, List.nil_append] at N'); (try dsimp only); (try k_lift B'); (try k_fold)))
  k_with "eval Name" => focus ((k_here; (with_reducible show wpAny _ _ (eval (Expr.Name _ _) (compEnvC _ _ _ _)) _ _ _); k_dflt (first | (refine' lcf_cell ?_ ?_ ?_ ?_ ?_ ?_ ?_; (rotate_right 1; (focus (rfl))); (rotate_right 1; (focus (rfl))); (rotate_right 5; (focus (k_asm)); (focus (rfl)); (focus (k_mem)); (focus (k_asm)); rotate_left 1); k_whole) | (refine' lcf_free ?_ ?_ ?_ ?_ ?_ ?_ ?_; (rotate_right 1; (focus (rfl))); (rotate_right 1; (focus (rfl))); (rotate_right 5; (focus (k_asm)); (focus (rfl)); (focus (k_mem)); (focus (k_asm)); rotate_left 1); k_whole) | refine LCgL.ld_global (by k_asm) (by k_asm) (by k_asm) (by k_is) ?_)))
  k_with "exec For Name Name cons nil" => focus ((k_here; (rename Fr _ _ _ _ => lF'); (with_unfolding_all refine' For_invVF lF' ?_ ?_ ?_; (rotate_right 3; (focus (exact rfl)); (focus (exact rfl)); rotate_left 1); k_whole)))
  k_with "exec For Name Call cons nil" => focus ((k_here; (rename Fr _ _ _ _ => lF'); (with_unfolding_all refine' For_invVF lF' ?_ ?_ ?_; (rotate_right 3; (focus (exact rfl)); (focus (exact rfl)); rotate_left 1); k_whole)))
  k_with "call ref" => focus (((with_reducible show wpAny _ _ (call (Value.ref 256) _) _ _ _); k_dflt (refine' draw_ok ?_ ?_ ?_ ?_ ?_ ?_ ?_ ?_ ?_ ?_ ?_; (rotate_right 11; (focus (k_asm)); (focus (k_asm)); (focus (k_asm)); (focus (k_asm)); (focus (k_asm)); (focus (first | exact rfl | assumption)); (focus (walk_at "pen_at")); (focus (first | decide | lia)); (focus (walk_at "room")); (focus (walk_at "room")); rotate_left 1)); intro r9 t9 y9 h' tk9 lo9 hi9 F' N'; (try dsimp only at N'); (try k_sweep)))
  k_with "call ref" => focus (((with_reducible show wpAny _ _ (call (Value.ref 263) _) _ _ _); k_dflt (refine' pick_ok ?_ ?_ ?_ ?_ ?_ ?_ ?_ ?_ ?_ ?_ ?_ ?_ ?_ ?_ ?_; (rotate_right 15; (focus (k_asm)); (focus (k_asm)); (focus (k_asm)); (focus (k_asm)); (focus (k_asm)); (focus (first | exact rfl | assumption)); (focus (walk_at "pen_at")); (focus (k_mem)); (focus (k_ne)); (focus (k_ne)); (focus ((simp only [List.length_cons, List.length_nil]; lia))); (focus ((simp only [List.length_cons, List.length_nil]; lia))); (focus (walk_at "room")); (focus (walk_at "room")); rotate_left 1)); intro v9 y9 h' tk9 m9 F' N'; (try k_dflt (have q9 := pick_str4 m9; obtain ⟨w9, tw9, e9, ow9⟩ := q9; subst e9; clear m9)); (try dsimp only at N'); (try k_sweep)))
  k_with "eval ListComp" => focus ((k_here; first | (with_reducible refine' ListComp_W ?_ ?_ ?_ ?_ ?_ ?_ ?_ ?_; (rotate_right 8; (focus (k_asm)); (focus (with_unfolding_all rfl)); (focus (decide)); (focus (with_unfolding_all rfl)); (focus (decide)); (focus (with_unfolding_all rfl)); rotate_left 2); (rotate_right 1; (focus ((intro _; with_unfolding_all rfl))))) | (with_reducible refine' ListComp_WT ?_ ?_ ?_ ?_ ?_ ?_ ?_ ?_; (rotate_right 8; (focus (k_asm)); (focus (with_unfolding_all rfl)); (focus (decide)); (focus (with_unfolding_all rfl)); (focus (decide)); (focus (with_unfolding_all rfl)); rotate_left 2); (rotate_right 1; (focus ((intro _; with_unfolding_all rfl)))))))
  k_with "exec Assign cons ListComp" => focus ((k_here; k_dflt (first | refine Assign_ListComp_WT (_F₀ := by k_asm) (by rfl) (by with_unfolding_all rfl) (by with_unfolding_all rfl) (by decide) (by rfl) (by decide) (by rfl) (by rfl) (by rfl) ?_ | refine Assign_ListComp_W (_F₀ := by k_asm) (by rfl) (by with_unfolding_all rfl) (by with_unfolding_all rfl) (by decide) (by rfl) (by decide) (by rfl) (by rfl) (by rfl) ?_ | refine wpAny_Assign_Name ?_)))
  k_with "exec Assign cons ListComp" => focus ((k_here; k_dflt (first | (with_reducible refine' Assign_ListComp_W ?_ ?_ ?_ ?_ ?_ ?_ ?_ ?_ ?_ ?_ ?_ ?_; (rotate_right 12; (focus (k_asm)); (focus (with_unfolding_all rfl)); rotate_left 10); (rotate_right 9; (focus (with_unfolding_all rfl)); (focus (decide)); (focus (with_unfolding_all rfl)); (focus (decide)); (focus (with_unfolding_all rfl)); (focus (with_unfolding_all rfl)); (focus (with_unfolding_all rfl)); rotate_left 2); (rotate_right 1; (focus ((intro _; with_unfolding_all rfl)))); (rotate_right 2; (focus (with_unfolding_all rfl)); rotate_left 1)) | (with_reducible refine' Assign_ListComp_WT ?_ ?_ ?_ ?_ ?_ ?_ ?_ ?_ ?_ ?_ ?_ ?_; (rotate_right 12; (focus (k_asm)); (focus (with_unfolding_all rfl)); rotate_left 10); (rotate_right 9; (focus (with_unfolding_all rfl)); (focus (decide)); (focus (with_unfolding_all rfl)); (focus (decide)); (focus (with_unfolding_all rfl)); (focus (with_unfolding_all rfl)); (focus (with_unfolding_all rfl)); rotate_left 2); (rotate_right 1; (focus ((intro _; with_unfolding_all rfl)))); (rotate_right 2; (focus (with_unfolding_all rfl)); rotate_left 1)) | (with_reducible refine wpAny_Assign_Name ?_))))
  k_with "menu_int" => focus (repeat' (first | exact all_nil | (refine all_cons ?_ ?_) | (refine IntTo.mk' ?_ ?_ <;> first | lia | decide +kernel)))
  k_with "call ref" => focus (((with_reducible show wpAny _ _ (call (Value.ref 263) _) _ _ _); k_dflt (refine' pick_ok ?_ ?_ ?_ ?_ ?_ ?_ ?_ ?_ ?_ ?_ ?_ ?_ ?_ ?_ ?_; (rotate_right 15; (focus (k_asm)); (focus (k_asm)); (focus (k_asm)); (focus (k_asm)); (focus (k_asm)); (focus (first | exact rfl | assumption)); (focus (walk_at "pen_at")); (focus (k_mem)); (focus (k_ne)); (focus (k_ne)); (focus ((simp only [List.length_cons, List.length_nil]; lia))); (focus ((simp only [List.length_cons, List.length_nil]; lia))); (focus (walk_at "room")); (focus (walk_at "room")); rotate_left 1)); intro v9 y9 h' tk9 m9 F' N'; (try k_dflt (refine pick_elim (P := IntTo 1000) m9 ?_ ?_; (rotate_right 2; (focus (walk_at "menu_int")); rotate_left 1); intro q9; obtain ⟨i9, ti9, e9, lo9, hi9⟩ := q9; subst e9; clear m9)); (try dsimp only at N'); (try k_sweep)))
  trivial
theorem size_max {ks ks' : List Int} {r M : Int} (h : SizeIs ks r) (h0 : ∀ k ∈ ks, 0 ≤ k) (hm : M ∈ ks'.map (· + 1) ++ [0]) (hM : ∀ a ∈ ks'.map (· + 1) ++ [0], a ≤ M) (hk : ∀ x, x ∈ ks ↔ x ∈ ks') : r = M := by
  rcases h with ⟨rfl, rfl⟩ | ⟨h1, h2⟩
  · have : ks' = [] := List.eq_nil_iff_forall_not_mem.mpr fun x hx => by have := (hk x).mpr hx; cases this
    subst this
    have : M = 0 := by simpa using hm
    exact this.symm
  · have a1 := hM r (List.mem_append_left _ (List.mem_map.mpr ⟨r - 1, (hk _).mp h1, by lia⟩))
    have a2 := h0 _ h1
    rcases List.mem_append.mp hm with hm | hm
    · obtain ⟨k, hk', rfl⟩ := List.mem_map.mp hm
      have := h2 k ((hk k).mpr hk')
      lia
    · have := List.mem_singleton.mp hm
      lia
noncomputable def keyUp (kvs : List (Int × Value)) (i : Nat) : Int := (kvs.getD i (0, .none)).1 + 1
theorem keyUp_at {kvs : List (Int × Value)} {i : Nat} {k : Int} {y : Value} (h : kvs[i]? = some (k, y)) : keyUp kvs i = k + 1 := by
  unfold keyUp
  rw [List.getD_eq_getElem?_getD, h]
  rfl
theorem keyUp_all (kvs : List (Int × Value)) : (List.range kvs.length).map (keyUp kvs) = (kvs.map (·.1)).map (· + 1) := by
  refine List.ext_getElem (by simp) fun i h1 h2 => ?_
  simp only [List.length_map, List.length_range] at h1
  rw [List.getElem_map, List.getElem_range, List.getElem_map, List.getElem_map]
  exact keyUp_at (y := kvs[i].2) (List.getElem?_eq_getElem h1)
theorem rowsLwL2 : True := by
  k_with "call ref" => focus (((with_reducible show wpAny _ _ (call (Value.ref 225) _) _ _ _); k_dflt (refine' size_ok ?_ ?_ ?_ ?_ ?_ ?_ ?_ ?_ ?_ ?_ ?_ ?_ ?_; (rotate_right 13; (focus (k_asm)); (focus (k_asm)); (focus (k_asm)); (focus (k_asm)); (focus (k_asm)); (focus (first | exact rfl | assumption)); (focus (assumption)); (focus (assumption)); rotate_left 5); (rotate_right 4; (focus (assumption)); rotate_left 3); (rotate_right 4; (focus (lia)); (focus (walk_at "room")); (focus (walk_at "room")); rotate_left 1)); intro r9 t9 h' tk9 z9 F' N'))
  trivial
set_option maxRecDepth 100000 in
set_option maxHeartbeats 8000000 in
theorem st7 {w : World} {mean : ExcName → Option Value} {mg mb : Str → Option Value} {dp un : Nat} {gd : Option (List Code)} {a : Addr} {ccd : Value} {outer : List Env} {A₀ : Around} {base h₀ : Heap} {L : Addr} {m : Str → Option Value} {s : Shared} {E : Value → Shared → Prop} {Q : Flow → Shared → Prop} {Fd D : Nat} {of od p2 : Obj} {kvs kvd : List (Int × Value)} {news : List (Addr × Obj)}
    (B : Below A₀ base outer h₀) (X : (Mine.hd.heap_1 w.params).In h₀) (T : Top Mine.hd.view_1 (looseW Mine.hd.view_1 [Str.ofString "PaperError"]) mean mg mb h₀) (hd : dp < 310) (hu : un < 300) (F : Fr h₀ L s.heap m) (hm1 : m (Str.ofString "found") = some (.ref Fd)) (N : News h₀ L s.heap news) (hF : (Fd, of) ∈ news) (hof : of.IsDictOf (intKind PySem.Challenge.rw_nn0202_01.row.prog w) kvs) (lof : (Fd == sysModules) = false) (lenF : kvs.length ≤ 8)
    (hc : (L + 1 + 1, p2) ∈ news) (d2 : p2.data = .cell (some (.ref D))) (hD : (D, od) ∈ news) (hod : od.IsDictOf (intKind PySem.Challenge.rw_nn0202_01.row.prog w) kvd) (lod : (D == sysModules) = false) (lenD : kvd.length ≤ 8) (hk : ∀ x, x ∈ kvs.map (·.1) ↔ x ∈ kvd.map (·.1)) (h0 : ∀ k ∈ kvs.map (·.1), 0 ≤ k)
    (hnext : ∀ h' tk', Fr h₀ L h' m → News h₀ L h' news → Q .next { s with heap := h', toks := tk' }) :
    wpAny (model PySem.Challenge.rw_nn0202_01.row.prog w) (ktrTop dp un gd (Str.ofString "law") lawScope L a ccd [(Str.ofString "numbers", L + 1 + 1 + 1), (Str.ofString "due", L + 1 + 1), (Str.ofString "pen", L + 1)] outer) (exec (stm 7) (envX (Str.ofString "law") lawScope L a ccd [(Str.ofString "numbers", L + 1 + 1 + 1), (Str.ofString "due", L + 1 + 1), (Str.ofString "pen", L + 1)])) Q E s := by
  obtain ⟨m, rfl⟩ := know1 hm1
  clear hm1
  conv in (stm _) => whnf
  conv in lawScope => whnf
  conv in lawScope => whnf
  dsimp only
  revert X
  k_fill
  intro X
  k_steps
  refine' comp_ints (IterW.dict ?hh lod ?N hD hod) ?hle ?F ?N2 hD (keyUp kvd) ?turn ?done
  case hh => exact rfl
  case N => assumption
  case N2 => assumption
  case hle => lia
  case F => k_asm
  case turn =>
    intro i v ys I oI C oC R m₂ h tk E' hi hv hC hx off n1 n2 n3 F' N'
    obtain ⟨k, y, t, hk1, rfl⟩ := hv
    k_steps
    refine' ⟨_, _, _, _, rfl, ?F, ?N, ?sub, ?v⟩
    case F => k_asm
    case N => k_asm
    case sub => exact fun p hp => hp
    case v => rw [keyUp_at hk1]
  case done =>
    intro ys hg hI D' h' tk' F' N' o1'
    change IntsAre ys ((List.range kvd.length).map (keyUp kvd)) at hI
    rw [keyUp_all] at hI
    k_steps
    · exact absurd (size_max (by assumption) h0 (by assumption) (by assumption) hk) (by assumption)
    · refine' hnext _ _ ?F ?N; (case F => k_asm); (case N => exact cb_drop (by assumption) (fun p hp => .tail _ (.tail _ (.tail _ hp))))
end
section
theorem rowsLwM1 : True := by
  k_with_none
  k_with "pen_at" => focus (first | with_reducible assumption | (refine' PenAt.head ?_ ?_ ?_; (rotate_right 3; (focus (first | with_reducible assumption | k_ne)); (focus (k_all)); (focus (k_all)))) | (refine' PenAt.tail ?_ ?_ ?_; (rotate_right 1; (focus (walk_at "pen_at"))); (rotate_right 2; (focus (k_ne)); (focus (k_ne)))))
  k_with "room" => focus (first | lia | (dsimp only [ktrTop, Around.deeper]; lia))
  k_with "enterC" => focus ((refine' code_defC ?_ ?_ ?_ ?_ ?_ ?_ ?_ ?_ ?_ ?_ ?_ ?_ ?_ ?_ ?_ ?_ ?_ ?_; (rotate_right 13; (focus (exact rfl)); (focus (exact rfl)); (focus (first | exact rfl | assumption)); rotate_left 10); (rotate_right 15; (focus (k_asm)); (focus (k_asm)); (focus (k_asm)); (focus (k_asm)); (focus (k_asm)); (focus (k_is)); (focus (k_is)); (focus (k_room)); (focus (exact BindsTo.of_eq rfl)); (focus (exact rfl)); (focus (decide +kernel)); rotate_left 4); (rotate_right 3; (focus (exact rfl)); (focus (exact rfl)); (focus (exact rfl))); k_whole; intro g' L' h' tk' cells' FG' F' N' Y' B' X' T' l1; (try k_lt l1); k_cells Y'; (try simp only [List.cons_append, List.nil_append] at N'); (try dsimp only); (try k_lift B'); (try k_fold)))
  k_with "eval Name" => focus ((k_here; (with_reducible show wpAny _ _ (eval (Expr.Name _ _) (compEnvC _ _ _ _)) _ _ _); k_dflt (first | (refine' lcf_cell ?_ ?_ ?_ ?_ ?_ ?_ ?_; (rotate_right 1; (focus (rfl))); (rotate_right 1; (focus (rfl))); (rotate_right 5; (focus (k_asm)); (focus (rfl)); (focus (k_mem)); (focus (k_asm)); rotate_left 1); k_whole) | (refine' lcf_free ?_ ?_ ?_ ?_ ?_ ?_ ?_; (rotate_right 1; (focus (rfl))); (rotate_right 1; (focus (rfl))); (rotate_right 5; (focus (k_asm)); (focus (rfl)); (focus (k_mem)); (focus (k_asm)); rotate_left 1); k_whole) | refine LCgL.ld_global (by k_asm) (by k_asm) (by k_asm) (by k_is) ?_)))
  k_with "exec For Name Name cons nil" => focus ((k_here; (rename Fr _ _ _ _ => lF'); (with_unfolding_all refine' For_invVF lF' ?_ ?_ ?_; (rotate_right 3; (focus (exact rfl)); (focus (exact rfl)); rotate_left 1); k_whole)))
  k_with "exec For Name Call cons nil" => focus ((k_here; (rename Fr _ _ _ _ => lF'); (with_unfolding_all refine' For_invVF lF' ?_ ?_ ?_; (rotate_right 3; (focus (exact rfl)); (focus (exact rfl)); rotate_left 1); k_whole)))
  k_with "call ref" => focus (((with_reducible show wpAny _ _ (call (Value.ref 256) _) _ _ _); k_dflt (refine' draw_ok ?_ ?_ ?_ ?_ ?_ ?_ ?_ ?_ ?_ ?_ ?_; (rotate_right 11; (focus (k_asm)); (focus (k_asm)); (focus (k_asm)); (focus (k_asm)); (focus (k_asm)); (focus (first | exact rfl | assumption)); (focus (walk_at "pen_at")); (focus (first | decide | lia)); (focus (walk_at "room")); (focus (walk_at "room")); rotate_left 1)); intro r9 t9 y9 h' tk9 lo9 hi9 F' N'; (try dsimp only at N'); (try k_sweep)))
  k_with "call ref" => focus (((with_reducible show wpAny _ _ (call (Value.ref 263) _) _ _ _); k_dflt (refine' pick_ok ?_ ?_ ?_ ?_ ?_ ?_ ?_ ?_ ?_ ?_ ?_ ?_ ?_ ?_ ?_; (rotate_right 15; (focus (k_asm)); (focus (k_asm)); (focus (k_asm)); (focus (k_asm)); (focus (k_asm)); (focus (first | exact rfl | assumption)); (focus (walk_at "pen_at")); (focus (k_mem)); (focus (k_ne)); (focus (k_ne)); (focus ((simp only [List.length_cons, List.length_nil]; lia))); (focus ((simp only [List.length_cons, List.length_nil]; lia))); (focus (walk_at "room")); (focus (walk_at "room")); rotate_left 1)); intro v9 y9 h' tk9 m9 F' N'; (try k_dflt (have q9 := pick_str4 m9; obtain ⟨w9, tw9, e9, ow9⟩ := q9; subst e9; clear m9)); (try dsimp only at N'); (try k_sweep)))
  k_with "eval ListComp" => focus ((k_here; first | (with_reducible refine' ListComp_W ?_ ?_ ?_ ?_ ?_ ?_ ?_ ?_; (rotate_right 8; (focus (k_asm)); (focus (with_unfolding_all rfl)); (focus (decide)); (focus (with_unfolding_all rfl)); (focus (decide)); (focus (with_unfolding_all rfl)); rotate_left 2); (rotate_right 1; (focus ((intro _; with_unfolding_all rfl))))) | (with_reducible refine' ListComp_WT ?_ ?_ ?_ ?_ ?_ ?_ ?_ ?_; (rotate_right 8; (focus (k_asm)); (focus (with_unfolding_all rfl)); (focus (decide)); (focus (with_unfolding_all rfl)); (focus (decide)); (focus (with_unfolding_all rfl)); rotate_left 2); (rotate_right 1; (focus ((intro _; with_unfolding_all rfl)))))))
  k_with "exec Assign cons ListComp" => focus ((k_here; k_dflt (first | refine Assign_ListComp_WT (_F₀ := by k_asm) (by rfl) (by with_unfolding_all rfl) (by with_unfolding_all rfl) (by decide) (by rfl) (by decide) (by rfl) (by rfl) (by rfl) ?_ | refine Assign_ListComp_W (_F₀ := by k_asm) (by rfl) (by with_unfolding_all rfl) (by with_unfolding_all rfl) (by decide) (by rfl) (by decide) (by rfl) (by rfl) (by rfl) ?_ | refine wpAny_Assign_Name ?_)))
  k_with "exec Assign cons ListComp" => focus ((k_here; k_dflt (first | (with_reducible refine' Assign_ListComp_W ?_ ?_ ?_ ?_ ?_ ?_ ?_ ?_ ?_ ?_ ?_ ?_; (rotate_right 12; (focus (k_asm)); (focus (with_unfolding_all rfl)); rotate_left 10); (rotate_right 9; (focus (with_unfolding_all rfl)); (focus (decide)); (focus (with_unfolding_all rfl)); (focus (decide)); (focus (with_unfolding_all rfl)); (focus (with_unfolding_all rfl)); (focus (with_unfolding_all rfl)); rotate_left 2); (rotate_right 1; (focus ((intro _; with_unfolding_all rfl)))); (rotate_right 2; (focus (with_unfolding_all rfl)); rotate_left 1)) | (with_reducible refine' Assign_ListComp_WT ?_ ?_ ?_ ?_ ?_ ?_ ?_ ?_ ?_ ?_ ?_ ?_; (rotate_right 12; (focus (k_asm)); (focus (with_unfolding_all rfl)); rotate_left 10); (rotate_right 9; (focus (with_unfolding_all rfl)); (focus (decide)); (focus (with_unfolding_all rfl)); (focus (decide)); (focus (with_unfolding_all rfl)); (focus (with_unfolding_all rfl)); (focus (with_unfolding_all rfl)); rotate_left 2); (rotate_right 1; (focus ((intro _; with_unfolding_all rfl)))); (rotate_right 2; (focus (with_unfolding_all rfl)); rotate_left 1)) | (with_reducible refine wpAny_Assign_Name ?_))))
  k_with "menu_int" => focus (repeat' (first | exact all_nil | (refine all_cons ?_ ?_) | (refine IntTo.mk' ?_ ?_ <;> first | lia | decide +kernel)))
  k_with "call ref" => focus (((with_reducible show wpAny _ _ (call (Value.ref 263) _) _ _ _); k_dflt (refine' pick_ok ?_ ?_ ?_ ?_ ?_ ?_ ?_ ?_ ?_ ?_ ?_ ?_ ?_ ?_ ?_; (rotate_right 15; (focus (k_asm)); (focus (k_asm)); (focus (k_asm)); (focus (k_asm)); (focus (k_asm)); (focus (first | exact rfl | assumption)); (focus (walk_at "pen_at")); (focus (k_mem)); (focus (k_ne)); (focus (k_ne)); (focus ((simp only [List.length_cons, List.length_nil]; lia))); (focus ((simp only [List.length_cons, List.length_nil]; lia))); (focus (walk_at "room")); (focus (walk_at "room")); rotate_left 1)); intro v9 y9 h' tk9 m9 F' N'; (try k_dflt (refine pick_elim (P := IntTo 1000) m9 ?_ ?_; (rotate_right 2; (focus (walk_at "menu_int")); rotate_left 1); intro q9; obtain ⟨i9, ti9, e9, lo9, hi9⟩ := q9; subst e9; clear m9)); (try dsimp only at N'); (try k_sweep)))
  k_with "subscriptTail Name Name ref int" => focus ((k_here; k_dflt (refine' kda_item (knd := intKind _ _) ?_ ?_ ?_ (intKind_is _ _ _ _) ?_ ?_; (rotate_right 5; (focus (k_asm)); (focus (k_mem)); (focus (k_asm)); (focus (k_asm)); rotate_left 1))))
  trivial
set_option maxRecDepth 100000 in
set_option maxHeartbeats 8000000 in
theorem st8 {w : World} {mean : ExcName → Option Value} {mg mb : Str → Option Value} {dp un : Nat} {gd : Option (List Code)} {a : Addr} {ccd : Value} {outer : List Env} {A₀ : Around} {base h₀ : Heap} {L : Addr} {m : Str → Option Value} {s : Shared} {E : Value → Shared → Prop} {Q : Flow → Shared → Prop} {D : Nat} {od p2 : Obj} {kvd : List (Int × Value)} {es : List (Int × Ent)} {news : List (Addr × Obj)}
    (B : Below A₀ base outer h₀) (X : (Mine.hd.heap_1 w.params).In h₀) (T : Top Mine.hd.view_1 (looseW Mine.hd.view_1 [Str.ofString "PaperError"]) mean mg mb h₀) (hd : dp < 310) (hu : un < 300) (F : Fr h₀ L s.heap m) (N : News h₀ L s.heap news)
    (hc : (L + 1 + 1, p2) ∈ news) (d2 : p2.data = .cell (some (.ref D))) (hD : (D, od) ∈ news) (hod : od.IsDictOf (intKind PySem.Challenge.rw_nn0202_01.row.prog w) kvd) (lod : (D == sysModules) = false) (rel : TabRel (TupIn news) kvd es) (lenD : es.length ≤ 8) (hsm : ∀ p ∈ es, Small (p.2.one, p.1))
    (hnext : ∀ (R : Nat) (vs : List Value) (ps : List (Int × Int)) (nn : Nat) (tl : List (Addr × Obj)) h' tk', ListRel (PairIn tl) vs ps → ps.Perm (offPs es) → ps.Pairwise (fun a b => code a < code b) →
      Fr h₀ L h' (fun z => if z = Str.ofString "used" then some (.ref R) else m z) → News h₀ L h' ((R, listOf vs.toArray nn) :: (tl ++ news)) → Q .next { s with heap := h', toks := tk' }) :
    wpAny (model PySem.Challenge.rw_nn0202_01.row.prog w) (ktrTop dp un gd (Str.ofString "law") lawScope L a ccd [(Str.ofString "numbers", L + 1 + 1 + 1), (Str.ofString "due", L + 1 + 1), (Str.ofString "pen", L + 1)] outer) (exec (stm 8) (envX (Str.ofString "law") lawScope L a ccd [(Str.ofString "numbers", L + 1 + 1 + 1), (Str.ofString "due", L + 1 + 1), (Str.ofString "pen", L + 1)])) Q E s := by
  conv in (stm _) => whnf
  conv in lawScope => whnf
  conv in lawScope => whnf
  dsimp only
  revert X
  k_fill
  intro X
  k_steps
  have nd : (kvd.map (·.1)).Nodup := by
    obtain ⟨_, _, _, _, _, _, hn⟩ := hod
    exact hn
  have hkl := rel.length
  refine' comp_pairsT (IterW.dict ?hh lod ?Nd ?mem hod) ?hle ?F ?N2 ?hS (offF es) (offG es) ?turn ?done
  case hh => exact rfl
  case Nd => k_asm
  case mem => exact hD
  case hle => lia
  case F => k_asm
  case N2 => k_asm
  case hS => exact fun tl => List.mem_append_right _ hD
  case turn =>
    intro i v ys tl I oI C oC R m₂ h tk E' hi hv hC hx n1 n2 n3 F' N'
    obtain ⟨k, y, t, hky, rfl⟩ := hv
    obtain ⟨e, he, ta, t1, t2, t3, rfl, hm1⟩ := rel.get hky
    have hva := valueAt_of_mem nd (List.mem_of_getElem? hky)
    rw [offF_at he, offG_at he]
    have N9 : News _ _ h ((ta, tupO [.str e.way t1, .int e.one t2, .int e.two t3]) :: (D, od) :: (L + 1 + 1, p2) :: (I, oI) :: (C, oC) :: (R, LCg.lst ys) :: (tl ++ news)) := cb_drop N' (fun p hp => by
      simp only [List.mem_cons, List.mem_append] at hp ⊢
      rcases hp with rfl | rfl | rfl | hp
      · exact .inr (.inr (.inr (.inr hm1)))
      · exact .inr (.inr (.inr (.inr hD)))
      · exact .inr (.inr (.inr (.inr hc)))
      · exact hp)
    clear N'
    k_steps
    · rename (_ < _ ∧ _ < _ ∧ _ < _ ∧ _ ∧ _) => l9
      refine' ⟨by assumption, _, _, _, _, _, rfl, ?F, ?N, rfl, l9.2.2.2⟩
      case F => k_asm
      case N => exact cb_drop (by assumption) (by kcj_all)
    · refine' ⟨by assumption, _, _, _, rfl, ?F, ?N, fun p hp => hp⟩
      case F => k_asm
      case N => exact cb_drop N9 (by kcj_all)
  case done =>
    intro ys tl hg hI
    intro D' h' tk' F' N' o1'
    rw [hkl, offPs_all] at hI
    have hle := offPs_len es
    k_steps
    refine sorted_ps F' N' (.head _) hI (fun p hp => .tail _ (List.mem_append_left _ hp)) (offPs_small hsm) (offPs_nodup (by rw [← rel.keys]; exact nd)) (by lia) fun D2 vs2 ps2 c2 h2 F2 N2 l2 r2 p2 s2 => ?_
    k_steps
    refine' hnext _ _ _ _ _ _ _ r2 p2 s2 ?zF ?zN
    case zF => k_asm
    case zN => exact cb_drop (by assumption) (by kcj_all)
theorem rowsLwM2 : True := by
  k_with "call ref" => focus (((with_reducible show wpAny _ _ (call (Value.ref 230) _) _ _ _); k_dflt (refine' offs_ok ?_ ?_ ?_ ?_ ?_ ?_ ?_ ?_ ?_ ?_ ?_ ?_ ?_ ?_ ?_; (rotate_right 15; (focus (k_asm)); (focus (k_asm)); (focus (k_asm)); (focus (k_asm)); (focus (k_asm)); (focus (first | exact rfl | assumption)); (focus (assumption)); (focus (assumption)); (focus (assumption)); (focus (lia)); (focus (assumption)); (focus (assumption)); (focus (walk_at "room")); (focus (walk_at "room")); rotate_left 1)); intro R9 vs9 ps9 nn9 tl9 h' tk9 r9 q9 w9 l9 F' N'))
  trivial
theorem pairs_ne {prog : Program} {w : World} {A : Around} {E : Value → Shared → Prop} {s : Shared} {h₀ : Heap} {L : Addr} {news l1 l2 : List (Addr × Obj)} {Q : Value → Shared → Prop} {a b na nb : Nat} {xs ys : List Value} {ps qs : List (Int × Int)} (N : News h₀ L s.heap news) (ma : (a, listOf xs.toArray na) ∈ news) (mb : (b, listOf ys.toArray nb) ∈ news) (ra : ListRel (PairIn l1) xs ps) (s1 : ∀ p ∈ l1, p ∈ news) (rb : ListRel (PairIn l2) ys qs) (s2 : ∀ p ∈ l2, p ∈ news)
    (e : ps = qs) (hu : A.units + 64 < cLine) (h : Q (.bool false) s) : wpAny (model prog w) A (compareOp .NotEq (.ref a) (.ref b)) Q E s := by
  subst e
  refine kqd_ne N ma rfl rfl (pairs_dat ra) s1 mb rfl rfl (pairs_dat rb) s2 (pairs_ok ps) (pairs_ok ps) hu ?_
  simpa using h
theorem offPs_perm {es es' : List (Int × Ent)} (h : es.Perm es') : (offPs es).Perm (offPs es') := by
  unfold offPs
  exact (h.filter _).map _
theorem rowsLwM3 : True := by
  k_with "compareOp NotEq ref ref" => focus ((k_here; k_dflt (refine' pairs_ne ?_ ?_ ?_ ?_ ?_ ?_ ?_ ?_ ?_ ?_; (rotate_right 10; (focus (k_asm)); (focus (k_mem)); (focus (k_mem)); (focus (assumption)); (focus (kcj_all)); (focus (assumption)); (focus (kcj_all)); (focus (exact sorted_uniq (List.Perm.trans (by assumption) (List.Perm.trans (by assumption) (List.Perm.symm (by assumption)))) (by assumption) (by assumption))); (focus (ke_room)); rotate_left 1))))
  trivial
set_option maxRecDepth 100000 in
set_option maxHeartbeats 8000000 in
theorem st9 {w : World} {mean : ExcName → Option Value} {mg mb : Str → Option Value} {dp un : Nat} {gd : Option (List Code)} {a : Addr} {ccd : Value} {outer : List Env} {A₀ : Around} {base h₀ : Heap} {L : Addr} {m : Str → Option Value} {s : Shared} {E : Value → Shared → Prop} {Q : Flow → Shared → Prop} {Fd U nu : Nat} {of : Obj} {vs : List Value} {kvs : List (Int × Value)} {es es' : List (Int × Ent)} {ps : List (Int × Int)} {tl news : List (Addr × Obj)}
    (B : Below A₀ base outer h₀) (X : (Mine.hd.heap_1 w.params).In h₀) (T : Top Mine.hd.view_1 (looseW Mine.hd.view_1 [Str.ofString "PaperError"]) mean mg mb h₀) (hd : dp < 310) (hu : un < 300) (F : Fr h₀ L s.heap m) (hm1 : m (Str.ofString "found") = some (.ref Fd)) (hm2 : m (Str.ofString "used") = some (.ref U)) (N : News h₀ L s.heap ((U, listOf vs.toArray nu) :: (tl ++ news))) (hF : (Fd, of) ∈ (U, listOf vs.toArray nu) :: (tl ++ news)) (hof : of.IsDictOf (intKind PySem.Challenge.rw_nn0202_01.row.prog w) kvs) (lof : (Fd == sysModules) = false) (relF : TabRel (EntIn w ((U, listOf vs.toArray nu) :: (tl ++ news))) kvs es) (lenF : kvs.length ≤ 8) (hsm : ∀ p ∈ es, Small (p.2.one, p.1))
    (r : ListRel (PairIn tl) vs ps) (hpp : ps.Perm (offPs es')) (hq : (offPs es).Perm (offPs es')) (hs : ps.Pairwise (fun a b => code a < code b))
    (hnext : ∀ h' tk', Fr h₀ L h' m → News h₀ L h' news → Q .next { s with heap := h', toks := tk' }) :
    wpAny (model PySem.Challenge.rw_nn0202_01.row.prog w) (ktrTop dp un gd (Str.ofString "law") lawScope L a ccd [(Str.ofString "numbers", L + 1 + 1 + 1), (Str.ofString "due", L + 1 + 1), (Str.ofString "pen", L + 1)] outer) (exec (stm 9) (envX (Str.ofString "law") lawScope L a ccd [(Str.ofString "numbers", L + 1 + 1 + 1), (Str.ofString "due", L + 1 + 1), (Str.ofString "pen", L + 1)])) Q E s := by
  obtain ⟨m, rfl⟩ := know2 hm1 hm2
  clear hm1 hm2
  have hU : (U, listOf vs.toArray nu) ∈ (U, listOf vs.toArray nu) :: (tl ++ news) := .head _
  conv in (stm _) => whnf
  conv in lawScope => whnf
  conv in lawScope => whnf
  dsimp only
  revert X
  k_fill
  intro X
  k_steps
  refine' hnext _ _ ?F ?N; (case F => k_asm); (case N => exact cb_drop (by assumption) (fun p hp => .tail _ (List.mem_append_right _ (.tail _ (List.mem_append_right _ hp)))))
end
section
theorem rowsLwN1 : True := by
  k_with_none
  k_with "pen_at" => focus (first | with_reducible assumption | (refine' PenAt.head ?_ ?_ ?_; (rotate_right 3; (focus (first | with_reducible assumption | k_ne)); (focus (k_all)); (focus (k_all)))) | (refine' PenAt.tail ?_ ?_ ?_; (rotate_right 1; (focus (walk_at "pen_at"))); (rotate_right 2; (focus (k_ne)); (focus (k_ne)))))
  k_with "room" => focus (first | lia | (dsimp only [ktrTop, Around.deeper]; lia))
  k_with "enterC" => focus ((refine' code_defC ?_ ?_ ?_ ?_ ?_ ?_ ?_ ?_ ?_ ?_ ?_ ?_ ?_ ?_ ?_ ?_ ?_ ?_; (rotate_right 13; (focus (exact rfl)); (focus (exact rfl)); (focus (first | exact rfl | assumption)); rotate_left 10); (rotate_right 15; (focus (k_asm)); (focus (k_asm)); (focus (k_asm)); (focus (k_asm)); (focus (k_asm)); (focus (k_is)); (focus (k_is)); (focus (k_room)); (focus (exact BindsTo.of_eq rfl)); (focus (exact rfl)); (focus (decide +kernel)); rotate_left 4); (rotate_right 3; (focus (exact rfl)); (focus (exact rfl)); (focus (exact rfl))); k_whole; intro g' L' h' tk' cells' FG' F' N' Y' B' X' T' l1; (try k_lt l1); k_cells Y'; (try simp only [List.cons_append, List.nil_append] at N'); (try dsimp only); (try k_lift B'); (try k_fold)))
  k_with "eval Name" => focus ((k_here; (with_reducible show wpAny _ _ (eval (Expr.Name _ _) (compEnvC _ _ _ _)) _ _ _); k_dflt (first | (refine' lcf_cell ?_ ?_ ?_ ?_ ?_ ?_ ?_; (rotate_right 1; (focus (rfl))); (rotate_right 1; (focus (rfl))); (rotate_right 5; (focus (k_asm)); (focus (rfl)); (focus (k_mem)); (focus (k_asm)); rotate_left 1); k_whole) | (refine' lcf_free ?_ ?_ ?_ ?_ ?_ ?_ ?_; (rotate_right 1; (focus (rfl))); (rotate_right 1; (focus (rfl))); (rotate_right 5; (focus (k_asm)); (focus (rfl)); (focus (k_mem)); (focus (k_asm)); rotate_left 1); k_whole) | refine LCgL.ld_global (by k_asm) (by k_asm) (by k_asm) (by k_is) ?_)))
  k_with "exec For Name Name cons nil" => focus ((k_here; (rename Fr _ _ _ _ => lF'); (with_unfolding_all refine' For_invVF lF' ?_ ?_ ?_; (rotate_right 3; (focus (exact rfl)); (focus (exact rfl)); rotate_left 1); k_whole)))
  k_with "exec For Name Call cons nil" => focus ((k_here; (rename Fr _ _ _ _ => lF'); (with_unfolding_all refine' For_invVF lF' ?_ ?_ ?_; (rotate_right 3; (focus (exact rfl)); (focus (exact rfl)); rotate_left 1); k_whole)))
  k_with "call ref" => focus (((with_reducible show wpAny _ _ (call (Value.ref 256) _) _ _ _); k_dflt (refine' draw_ok ?_ ?_ ?_ ?_ ?_ ?_ ?_ ?_ ?_ ?_ ?_; (rotate_right 11; (focus (k_asm)); (focus (k_asm)); (focus (k_asm)); (focus (k_asm)); (focus (k_asm)); (focus (first | exact rfl | assumption)); (focus (walk_at "pen_at")); (focus (first | decide | lia)); (focus (walk_at "room")); (focus (walk_at "room")); rotate_left 1)); intro r9 t9 y9 h' tk9 lo9 hi9 F' N'; (try dsimp only at N'); (try k_sweep)))
  k_with "call ref" => focus (((with_reducible show wpAny _ _ (call (Value.ref 263) _) _ _ _); k_dflt (refine' pick_ok ?_ ?_ ?_ ?_ ?_ ?_ ?_ ?_ ?_ ?_ ?_ ?_ ?_ ?_ ?_; (rotate_right 15; (focus (k_asm)); (focus (k_asm)); (focus (k_asm)); (focus (k_asm)); (focus (k_asm)); (focus (first | exact rfl | assumption)); (focus (walk_at "pen_at")); (focus (k_mem)); (focus (k_ne)); (focus (k_ne)); (focus ((simp only [List.length_cons, List.length_nil]; lia))); (focus ((simp only [List.length_cons, List.length_nil]; lia))); (focus (walk_at "room")); (focus (walk_at "room")); rotate_left 1)); intro v9 y9 h' tk9 m9 F' N'; (try k_dflt (have q9 := pick_str4 m9; obtain ⟨w9, tw9, e9, ow9⟩ := q9; subst e9; clear m9)); (try dsimp only at N'); (try k_sweep)))
  k_with "eval ListComp" => focus ((k_here; first | (with_reducible refine' ListComp_W ?_ ?_ ?_ ?_ ?_ ?_ ?_ ?_; (rotate_right 8; (focus (k_asm)); (focus (with_unfolding_all rfl)); (focus (decide)); (focus (with_unfolding_all rfl)); (focus (decide)); (focus (with_unfolding_all rfl)); rotate_left 2); (rotate_right 1; (focus ((intro _; with_unfolding_all rfl))))) | (with_reducible refine' ListComp_WT ?_ ?_ ?_ ?_ ?_ ?_ ?_ ?_; (rotate_right 8; (focus (k_asm)); (focus (with_unfolding_all rfl)); (focus (decide)); (focus (with_unfolding_all rfl)); (focus (decide)); (focus (with_unfolding_all rfl)); rotate_left 2); (rotate_right 1; (focus ((intro _; with_unfolding_all rfl)))))))
  k_with "exec Assign cons ListComp" => focus ((k_here; k_dflt (first | refine Assign_ListComp_WT (_F₀ := by k_asm) (by rfl) (by with_unfolding_all rfl) (by with_unfolding_all rfl) (by decide) (by rfl) (by decide) (by rfl) (by rfl) (by rfl) ?_ | refine Assign_ListComp_W (_F₀ := by k_asm) (by rfl) (by with_unfolding_all rfl) (by with_unfolding_all rfl) (by decide) (by rfl) (by decide) (by rfl) (by rfl) (by rfl) ?_ | refine wpAny_Assign_Name ?_)))
  k_with "exec Assign cons ListComp" => focus ((k_here; k_dflt (first | (with_reducible refine' Assign_ListComp_W ?_ ?_ ?_ ?_ ?_ ?_ ?_ ?_ ?_ ?_ ?_ ?_; (rotate_right 12; (focus (k_asm)); (focus (with_unfolding_all rfl)); rotate_left 10); (rotate_right 9; (focus (with_unfolding_all rfl)); (focus (decide)); (focus (with_unfolding_all rfl)); (focus (decide)); (focus (with_unfolding_all rfl)); (focus (with_unfolding_all rfl)); (focus (with_unfolding_all rfl)); rotate_left 2); (rotate_right 1; (focus ((intro _; with_unfolding_all rfl)))); (rotate_right 2; (focus (with_unfolding_all rfl)); rotate_left 1)) | (with_reducible refine' Assign_ListComp_WT ?_ ?_ ?_ ?_ ?_ ?_ ?_ ?_ ?_ ?_ ?_ ?_; (rotate_right 12; (focus (k_asm)); (focus (with_unfolding_all rfl)); rotate_left 10); (rotate_right 9; (focus (with_unfolding_all rfl)); (focus (decide)); (focus (with_unfolding_all rfl)); (focus (decide)); (focus (with_unfolding_all rfl)); (focus (with_unfolding_all rfl)); (focus (with_unfolding_all rfl)); rotate_left 2); (rotate_right 1; (focus ((intro _; with_unfolding_all rfl)))); (rotate_right 2; (focus (with_unfolding_all rfl)); rotate_left 1)) | (with_reducible refine wpAny_Assign_Name ?_))))
  k_with "menu_int" => focus (repeat' (first | exact all_nil | (refine all_cons ?_ ?_) | (refine IntTo.mk' ?_ ?_ <;> first | lia | decide +kernel)))
  k_with "call ref" => focus (((with_reducible show wpAny _ _ (call (Value.ref 263) _) _ _ _); k_dflt (refine' pick_ok ?_ ?_ ?_ ?_ ?_ ?_ ?_ ?_ ?_ ?_ ?_ ?_ ?_ ?_ ?_; (rotate_right 15; (focus (k_asm)); (focus (k_asm)); (focus (k_asm)); (focus (k_asm)); (focus (k_asm)); (focus (first | exact rfl | assumption)); (focus (walk_at "pen_at")); (focus (k_mem)); (focus (k_ne)); (focus (k_ne)); (focus ((simp only [List.length_cons, List.length_nil]; lia))); (focus ((simp only [List.length_cons, List.length_nil]; lia))); (focus (walk_at "room")); (focus (walk_at "room")); rotate_left 1)); intro v9 y9 h' tk9 m9 F' N'; (try k_dflt (refine pick_elim (P := IntTo 1000) m9 ?_ ?_; (rotate_right 2; (focus (walk_at "menu_int")); rotate_left 1); intro q9; obtain ⟨i9, ti9, e9, lo9, hi9⟩ := q9; subst e9; clear m9)); (try dsimp only at N'); (try k_sweep)))
  trivial
noncomputable def NewInt (h₀ : Heap) (L : Addr) (m : Str → Option Value) (s₁ : Shared) (pa la : Nat) (led : List (Addr × Obj)) (v : Value) (s₂ : Shared) : Prop :=
  ∃ (k : Int) (t : Tok) (y : PenSt) (h' : Heap) (tk' : Nat), s₂ = { s₁ with heap := h', toks := tk' } ∧ v = .int k t ∧ 0 ≤ k ∧ k < 14 ∧ Fr h₀ L h' m ∧ News h₀ L h' ((pa, penA la y) :: (la, penB y) :: led)
theorem draws_src {prog : Program} {w : World} {A : Around} {h₀ : Heap} {L : Addr} {m : Str → Option Value} {env : Env} {elt : Expr} {x : Str} {scope : Scope} {cl : List (Str × Addr)} {Fin : Shared → List Value → List (Addr × Obj) → Prop} {S : List (Addr × Obj) → Prop} {n : Nat} {P : Nat → Value → Prop} {xv : Value} {s₁ : Shared} {pa la : Nat} {y : PenSt} {imm : List (Addr × Obj)}
    (I₀ : IterW prog w A xv s₁ S n P) (hS : ∀ l, S l) (hn : n ≤ 1000) (F : Fr h₀ L s₁.heap m) (N : News h₀ L s₁.heap ((pa, penA la y) :: (la, penB y) :: imm))
    (turn : ∀ (y' : PenSt) (ys : List Value) (I : Nat) (oI : Obj) (C : Nat) (oC : Obj) (R : Nat) m₂ h tk (E' : Value → Shared → Prop), LCg.NsObj oC m₂ → (∀ p ∈ [(I, oI), (C, oC), (R, LCg.lst ys)], p.1 ≠ pa) → (∀ p ∈ [(I, oI), (C, oC), (R, LCg.lst ys)], p.1 ≠ la) →
      Fr h₀ L h m → News h₀ L h ((pa, penA la y') :: (la, penB y') :: (I, oI) :: (C, oC) :: (R, LCg.lst ys) :: imm) → wpAny (model prog w) A (eval elt (compEnvC scope cl C env)) (fun v s₂ => Halt (NewInt h₀ L m s₁ pa la ((I, oI) :: (C, oC) :: (R, LCg.lst ys) :: imm) v s₂)) E' { s₁ with heap := h, toks := tk })
    (done : ∀ (ys : List Value) (ns : List Int) (y' : PenSt) hg, IntsAre ys ns → ns.length = n → (∀ k ∈ ns, 0 ≤ k ∧ k < 14) → Fin { s₁ with heap := hg } ys ((pa, penA la y') :: (la, penB y') :: imm)) :
    SrcW prog w A h₀ L m env elt x scope cl Fin xv s₁ := by
  refine ⟨_, S, n, P, I₀, by rw [sizeLine_eq]; lia, F, N, hS _, ?_⟩
  rintro s₂ ⟨hg, rfl⟩
  refine comp_inv (fun i ys nw => ∃ ns y', nw = (pa, penA la y') :: (la, penB y') :: imm ∧ IntsAre ys ns ∧ ns.length = i ∧ ∀ k ∈ ns, 0 ≤ k ∧ k < 14) ?_ ?_ n 0 [] _ (Nat.zero_add _) ⟨[], y, rfl, .nil, rfl, fun _ h => nomatch h⟩
  · rintro i ys nw v I oI C oC R m₂ h tk E' hi hP ⟨ns, y', rfl, hr, hlen, hok⟩ hC hx F' N' off ne
    have offm := off.mem
    have o1 : ∀ p ∈ [(I, oI), (C, oC), (R, LCg.lst ys)], p.1 ≠ pa := fun p hp => by
      obtain ⟨q1, q2, q3⟩ := offm _ (.head _)
      simp only [List.mem_cons, List.not_mem_nil, or_false] at hp
      rcases hp with rfl | rfl | rfl
      · exact Ne.symm q1
      · exact Ne.symm q2
      · exact Ne.symm q3
    have o2 : ∀ p ∈ [(I, oI), (C, oC), (R, LCg.lst ys)], p.1 ≠ la := fun p hp => by
      obtain ⟨q1, q2, q3⟩ := offm _ (.tail _ (.head _))
      simp only [List.mem_cons, List.not_mem_nil, or_false] at hp
      rcases hp with rfl | rfl | rfl
      · exact Ne.symm q1
      · exact Ne.symm q2
      · exact Ne.symm q3
    have N2 : News h₀ L h ((pa, penA la y') :: (la, penB y') :: (I, oI) :: (C, oC) :: (R, LCg.lst ys) :: imm) := cb_drop N' (by
      intro p hp
      simp only [List.mem_cons] at hp ⊢
      rcases hp with hp | hp | hp | hp | hp | hp <;> simp [hp])
    refine wpAny_mono (turn y' ys I oI C oC R m₂ h tk E' hC o1 o2 F' N2) (fun v s₃ q => ?_) fun _ _ q => q
    obtain ⟨k, t, y2, h', tk', rfl, rfl, k0, k1, F3, N3⟩ := q
    refine LCg.CompEnd.intro F3 N3 ((pa, penA la y2) :: (la, penB y2) :: imm) ?_ (LCg.Off3.of ?_) (hS _) ⟨ns ++ [k], y2, rfl, ints_snoc hr _ _, by rw [List.length_append, hlen]; rfl, ?_⟩
    · intro p hp
      simp only [List.mem_cons] at hp ⊢
      rcases hp with h | h | h | h | h | h <;> simp [h]
    · intro p hp
      simp only [List.mem_cons] at hp
      rcases hp with rfl | rfl | hp
      · exact offm (pa, penA la y') (.head _)
      · exact offm (la, penB y') (.tail _ (.head _))
      · exact offm p (.tail _ (.tail _ hp))
    · intro q hq
      rcases List.mem_append.mp hq with hq | hq
      · exact hok q hq
      · rw [List.mem_singleton.mp hq]; exact ⟨k0, k1⟩
  · rintro ys nw ⟨ns, y', rfl, hr, hlen, hok⟩
    exact done ys ns y' hg hr hlen hok
theorem rowsLwN2 : True := by
  k_with "exec Assign cons ListComp" => focus ((k_here; k_dflt (refine wpAny_Assign_Name ?_)))
  trivial
set_option maxRecDepth 100000 in
set_option maxHeartbeats 8000000 in
theorem st10 {w : World} {mean : ExcName → Option Value} {mg mb : Str → Option Value} {dp un : Nat} {gd : Option (List Code)} {a : Addr} {ccd : Value} {outer : List Env} {A₀ : Around} {base h₀ : Heap} {L : Addr} {m : Str → Option Value} {s : Shared} {E : Value → Shared → Prop} {Q : Flow → Shared → Prop} {pa la : Nat} {y : PenSt} {o3 p1 : Obj} {imm : List (Addr × Obj)}
    (B : Below A₀ base outer h₀) (X : (Mine.hd.heap_1 w.params).In h₀) (T : Top Mine.hd.view_1 (looseW Mine.hd.view_1 [Str.ofString "PaperError"]) mean mg mb h₀) (hd : dp < 310) (hu : un < 300) (F : Fr h₀ L s.heap m) (hpl : pa ≠ la) (hop : ∀ p ∈ (L + 1 + 1 + 1, o3) :: (L + 1, p1) :: imm, p.1 ≠ pa) (hol : ∀ p ∈ (L + 1 + 1 + 1, o3) :: (L + 1, p1) :: imm, p.1 ≠ la) (ho3 : ∀ p ∈ imm, p.1 ≠ L + 1 + 1 + 1) (d1 : p1.data = .cell (some (.ref pa))) (d3 : o3.data = .cell none)
    (N : News h₀ L s.heap ((pa, penA la y) :: (la, penB y) :: (L + 1 + 1 + 1, o3) :: (L + 1, p1) :: imm))
    (hnext : ∀ (R : Nat) (ys : List Value) (ns : List Int) (y' : PenSt) (p3 : Obj) h' tk', IntsAre ys ns → ns.length ≤ 9 → (∀ k ∈ ns, 0 ≤ k ∧ k < 14) → p3.data = .cell (some (.ref R)) → LCg.Off1 R ((pa, penA la y') :: (la, penB y') :: (L + 1 + 1 + 1, o3) :: (L + 1, p1) :: imm) →
      Fr h₀ L h' m → News h₀ L h' ((R, LCg.lst ys) :: (pa, penA la y') :: (la, penB y') :: (L + 1 + 1 + 1, p3) :: (L + 1, p1) :: imm) → Q .next { s with heap := h', toks := tk' }) :
    wpAny (model PySem.Challenge.rw_nn0202_01.row.prog w) (ktrTop dp un gd (Str.ofString "law") lawScope L a ccd [(Str.ofString "numbers", L + 1 + 1 + 1), (Str.ofString "due", L + 1 + 1), (Str.ofString "pen", L + 1)] outer) (exec (stm 10) (envX (Str.ofString "law") lawScope L a ccd [(Str.ofString "numbers", L + 1 + 1 + 1), (Str.ofString "due", L + 1 + 1), (Str.ofString "pen", L + 1)])) Q E s := by
  conv in (stm _) => whnf
  conv in lawScope => whnf
  conv in lawScope => whnf
  dsimp only
  revert X
  k_fill
  intro X
  k_steps
  rename IsRange _ _ _ _ _ _ _ _ => R'
  refine' draws_src (iter_range ?hh R' (by assumption) (by lia)) (fun _ => trivial) ?hle ?F ?N ?turn ?done
  case hh => exact rfl
  case hle => lia
  case F => k_asm
  case N => assumption
  case turn =>
    intro y' ys I oI C oC R m₂ h tk E' hC z1 z2 F' N'
    have zp1 := hop _ (.tail _ (.head _))
    have zp2 := hol _ (.tail _ (.head _))
    have N9 : News _ _ h ((pa, penA la y') :: (la, penB y') :: (L + 1, p1) :: (I, oI) :: (C, oC) :: (R, LCg.lst ys) :: (L + 1 + 1 + 1, o3) :: imm) := cb_drop N' (by kcj_all)
    have z3 : ∀ p ∈ (L + 1, p1) :: (I, oI) :: (C, oC) :: (R, LCg.lst ys) :: (L + 1 + 1 + 1, o3) :: imm, p.1 ≠ pa := fun p hp => by
      simp only [List.mem_cons] at hp
      rcases hp with rfl | rfl | rfl | rfl | hp
      · exact zp1
      · exact z1 (I, oI) (.head _)
      · exact z1 (C, oC) (.tail _ (.head _))
      · exact z1 (R, LCg.lst ys) (.tail _ (.tail _ (.head _)))
      · rcases hp with rfl | hp
        · exact hop _ (.head _)
        · exact hop _ (.tail _ (.tail _ hp))
    have z4 : ∀ p ∈ (L + 1, p1) :: (I, oI) :: (C, oC) :: (R, LCg.lst ys) :: (L + 1 + 1 + 1, o3) :: imm, p.1 ≠ la := fun p hp => by
      simp only [List.mem_cons] at hp
      rcases hp with rfl | rfl | rfl | rfl | hp
      · exact zp2
      · exact z2 (I, oI) (.head _)
      · exact z2 (C, oC) (.tail _ (.head _))
      · exact z2 (R, LCg.lst ys) (.tail _ (.tail _ (.head _)))
      · rcases hp with rfl | hp
        · exact hol _ (.head _)
        · exact hol _ (.tail _ (.tail _ hp))
    clear N' hop hol
    k_steps
    refine' ⟨_, _, _, _, _, rfl, rfl, by assumption, by assumption, ?F, ?N⟩
    case F => k_asm
    case N => exact cb_drop (by assumption) (by kcj_all)
  case done =>
    intro ys ns y' hg hi hlen hok D' h' tk' F' N' o1'
    have q3 : L + 1 + 1 + 1 ≠ D' := o1'.2.2.1
    have q4 : L + 1 + 1 + 1 ≠ pa := hop _ (.head _)
    have q5 : L + 1 + 1 + 1 ≠ la := hol _ (.head _)
    have q6 : ∀ p ∈ (L + 1, p1) :: imm, p.1 ≠ L + 1 + 1 + 1 := fun p hp => by
      rcases List.mem_cons.mp hp with rfl | hp
      · exact Nat.ne_of_lt (Nat.lt_succ_of_lt (Nat.lt_succ_self _))
      · exact ho3 p hp
    refine' storeX_C F' N' ?c (.tail (Ne.symm q3) (.tail (Ne.symm q4) (.tail (Ne.symm q5) (.head q6)))) d3 ?_ ?a ?b
    case c => rfl
    case a => rfl
    case b => rfl
    intro h' o' F' N' d'
    exact hnext _ _ _ _ _ _ _ hi (by lia) hok d' o1' F' N'
end
section
theorem rowsLwO1 : True := by
  k_with_none
  k_with "pen_at" => focus (first | with_reducible assumption | (refine' PenAt.head ?_ ?_ ?_; (rotate_right 3; (focus (first | with_reducible assumption | k_ne)); (focus (k_all)); (focus (k_all)))) | (refine' PenAt.tail ?_ ?_ ?_; (rotate_right 1; (focus (walk_at "pen_at"))); (rotate_right 2; (focus (k_ne)); (focus (k_ne)))))
  k_with "room" => focus (first | lia | (dsimp only [ktrTop, Around.deeper]; lia))
  k_with "enterC" => focus ((refine' code_defC ?_ ?_ ?_ ?_ ?_ ?_ ?_ ?_ ?_ ?_ ?_ ?_ ?_ ?_ ?_ ?_ ?_ ?_; (rotate_right 13; (focus (exact rfl)); (focus (exact rfl)); (focus (first | exact rfl | assumption)); rotate_left 10); (rotate_right 15; (focus (k_asm)); (focus (k_asm)); (focus (k_asm)); (focus (k_asm)); (focus (k_asm)); (focus (k_is)); (focus (k_is)); (focus (k_room)); (focus (exact BindsTo.of_eq rfl)); (focus (exact rfl)); (focus (decide +kernel)); rotate_left 4); (rotate_right 3; (focus (exact rfl)); (focus (exact rfl)); (focus (exact rfl))); k_whole; intro g' L' h' tk' cells' FG' F' N' Y' B' X' T' l1; (try k_lt l1); k_cells Y'; (try simp only [List.cons_append, List.nil_append] at N'); (try dsimp only); (try k_lift B'); (try k_fold)))
  k_with "eval Name" => focus ((k_here; (with_reducible show wpAny _ _ (eval (Expr.Name _ _) (compEnvC _ _ _ _)) _ _ _); k_dflt (first | (refine' lcf_cell ?_ ?_ ?_ ?_ ?_ ?_ ?_; (rotate_right 1; (focus (rfl))); (rotate_right 1; (focus (rfl))); (rotate_right 5; (focus (k_asm)); (focus (rfl)); (focus (k_mem)); (focus (k_asm)); rotate_left 1); k_whole) | (refine' lcf_free ?_ ?_ ?_ ?_ ?_ ?_ ?_; (rotate_right 1; (focus (rfl))); (rotate_right 1; (focus (rfl))); (rotate_right 5; (focus (k_asm)); (focus (rfl)); (focus (k_mem)); (focus (k_asm)); rotate_left 1); k_whole) | refine LCgL.ld_global (by k_asm) (by k_asm) (by k_asm) (by k_is) ?_)))
  k_with "exec For Name Name cons nil" => focus ((k_here; (rename Fr _ _ _ _ => lF'); (with_unfolding_all refine' For_invVF lF' ?_ ?_ ?_; (rotate_right 3; (focus (exact rfl)); (focus (exact rfl)); rotate_left 1); k_whole)))
  k_with "exec For Name Call cons nil" => focus ((k_here; (rename Fr _ _ _ _ => lF'); (with_unfolding_all refine' For_invVF lF' ?_ ?_ ?_; (rotate_right 3; (focus (exact rfl)); (focus (exact rfl)); rotate_left 1); k_whole)))
  k_with "call ref" => focus (((with_reducible show wpAny _ _ (call (Value.ref 256) _) _ _ _); k_dflt (refine' draw_ok ?_ ?_ ?_ ?_ ?_ ?_ ?_ ?_ ?_ ?_ ?_; (rotate_right 11; (focus (k_asm)); (focus (k_asm)); (focus (k_asm)); (focus (k_asm)); (focus (k_asm)); (focus (first | exact rfl | assumption)); (focus (walk_at "pen_at")); (focus (first | decide | lia)); (focus (walk_at "room")); (focus (walk_at "room")); rotate_left 1)); intro r9 t9 y9 h' tk9 lo9 hi9 F' N'; (try dsimp only at N'); (try k_sweep)))
  k_with "call ref" => focus (((with_reducible show wpAny _ _ (call (Value.ref 263) _) _ _ _); k_dflt (refine' pick_ok ?_ ?_ ?_ ?_ ?_ ?_ ?_ ?_ ?_ ?_ ?_ ?_ ?_ ?_ ?_; (rotate_right 15; (focus (k_asm)); (focus (k_asm)); (focus (k_asm)); (focus (k_asm)); (focus (k_asm)); (focus (first | exact rfl | assumption)); (focus (walk_at "pen_at")); (focus (k_mem)); (focus (k_ne)); (focus (k_ne)); (focus ((simp only [List.length_cons, List.length_nil]; lia))); (focus ((simp only [List.length_cons, List.length_nil]; lia))); (focus (walk_at "room")); (focus (walk_at "room")); rotate_left 1)); intro v9 y9 h' tk9 m9 F' N'; (try k_dflt (have q9 := pick_str4 m9; obtain ⟨w9, tw9, e9, ow9⟩ := q9; subst e9; clear m9)); (try dsimp only at N'); (try k_sweep)))
  k_with "eval ListComp" => focus ((k_here; first | (with_reducible refine' ListComp_W ?_ ?_ ?_ ?_ ?_ ?_ ?_ ?_; (rotate_right 8; (focus (k_asm)); (focus (with_unfolding_all rfl)); (focus (decide)); (focus (with_unfolding_all rfl)); (focus (decide)); (focus (with_unfolding_all rfl)); rotate_left 2); (rotate_right 1; (focus ((intro _; with_unfolding_all rfl))))) | (with_reducible refine' ListComp_WT ?_ ?_ ?_ ?_ ?_ ?_ ?_ ?_; (rotate_right 8; (focus (k_asm)); (focus (with_unfolding_all rfl)); (focus (decide)); (focus (with_unfolding_all rfl)); (focus (decide)); (focus (with_unfolding_all rfl)); rotate_left 2); (rotate_right 1; (focus ((intro _; with_unfolding_all rfl)))))))
  k_with "exec Assign cons ListComp" => focus ((k_here; k_dflt (first | refine Assign_ListComp_WT (_F₀ := by k_asm) (by rfl) (by with_unfolding_all rfl) (by with_unfolding_all rfl) (by decide) (by rfl) (by decide) (by rfl) (by rfl) (by rfl) ?_ | refine Assign_ListComp_W (_F₀ := by k_asm) (by rfl) (by with_unfolding_all rfl) (by with_unfolding_all rfl) (by decide) (by rfl) (by decide) (by rfl) (by rfl) (by rfl) ?_ | refine wpAny_Assign_Name ?_)))
  k_with "exec Assign cons ListComp" => focus ((k_here; k_dflt (first | (with_reducible refine' Assign_ListComp_W ?_ ?_ ?_ ?_ ?_ ?_ ?_ ?_ ?_ ?_ ?_ ?_; (rotate_right 12; (focus (k_asm)); (focus (with_unfolding_all rfl)); rotate_left 10); (rotate_right 9; (focus (with_unfolding_all rfl)); (focus (decide)); (focus (with_unfolding_all rfl)); (focus (decide)); (focus (with_unfolding_all rfl)); (focus (with_unfolding_all rfl)); (focus (with_unfolding_all rfl)); rotate_left 2); (rotate_right 1; (focus ((intro _; with_unfolding_all rfl)))); (rotate_right 2; (focus (with_unfolding_all rfl)); rotate_left 1)) | (with_reducible refine' Assign_ListComp_WT ?_ ?_ ?_ ?_ ?_ ?_ ?_ ?_ ?_ ?_ ?_ ?_; (rotate_right 12; (focus (k_asm)); (focus (with_unfolding_all rfl)); rotate_left 10); (rotate_right 9; (focus (with_unfolding_all rfl)); (focus (decide)); (focus (with_unfolding_all rfl)); (focus (decide)); (focus (with_unfolding_all rfl)); (focus (with_unfolding_all rfl)); (focus (with_unfolding_all rfl)); rotate_left 2); (rotate_right 1; (focus ((intro _; with_unfolding_all rfl)))); (rotate_right 2; (focus (with_unfolding_all rfl)); rotate_left 1)) | (with_reducible refine wpAny_Assign_Name ?_))))
  k_with "menu_int" => focus (repeat' (first | exact all_nil | (refine all_cons ?_ ?_) | (refine IntTo.mk' ?_ ?_ <;> first | lia | decide +kernel)))
  k_with "call ref" => focus (((with_reducible show wpAny _ _ (call (Value.ref 263) _) _ _ _); k_dflt (refine' pick_ok ?_ ?_ ?_ ?_ ?_ ?_ ?_ ?_ ?_ ?_ ?_ ?_ ?_ ?_ ?_; (rotate_right 15; (focus (k_asm)); (focus (k_asm)); (focus (k_asm)); (focus (k_asm)); (focus (k_asm)); (focus (first | exact rfl | assumption)); (focus (walk_at "pen_at")); (focus (k_mem)); (focus (k_ne)); (focus (k_ne)); (focus ((simp only [List.length_cons, List.length_nil]; lia))); (focus ((simp only [List.length_cons, List.length_nil]; lia))); (focus (walk_at "room")); (focus (walk_at "room")); rotate_left 1)); intro v9 y9 h' tk9 m9 F' N'; (try k_dflt (refine pick_elim (P := IntTo 1000) m9 ?_ ?_; (rotate_right 2; (focus (walk_at "menu_int")); rotate_left 1); intro q9; obtain ⟨i9, ti9, e9, lo9, hi9⟩ := q9; subst e9; clear m9)); (try dsimp only at N'); (try k_sweep)))
  k_with "WIf" => focus (first | (refine WIf.yes rfl ?_) | (refine WIf.no rfl ?_) | (refine WIf.dec ?_ ?_ <;> intro))
  trivial
theorem pw_cases {α : Type} {R : α → α → Prop} {l : List α} (h : l.Pairwise R) {a b : α} (ha : a ∈ l) (hb : b ∈ l) : a = b ∨ R a b ∨ R b a := by
  induction h with
  | nil => cases ha
  | cons hx _ ih =>
    rcases List.mem_cons.mp ha with e1 | ha
    · rcases List.mem_cons.mp hb with e2 | hb
      · exact .inl (e1.trans e2.symm)
      · exact .inr (.inl (e1 ▸ hx _ hb))
    · rcases List.mem_cons.mp hb with e2 | hb
      · exact .inr (.inr (e2 ▸ hx _ ha))
      · exact ih ha hb
theorem strict_uniq : ∀ {a b : List Int}, a.Pairwise (· < ·) → b.Pairwise (· < ·) → (∀ x, x ∈ a ↔ x ∈ b) → a = b
  | [], b, _, _, h => by
    have : b = [] := List.eq_nil_iff_forall_not_mem.mpr fun x hx => by have := (h x).mpr hx; cases this
    rw [this]
  | x :: a, [], _, _, h => by have := (h x).mp (.head _); cases this
  | x :: a, y :: b, ha, hb, h => by
    have ha' := List.pairwise_cons.mp ha
    have hb' := List.pairwise_cons.mp hb
    have e : x = y := by
      rcases List.mem_cons.mp ((h x).mp (.head _)) with e | hx
      · exact e
      · rcases List.mem_cons.mp ((h y).mpr (.head _)) with e | hy
        · exact e.symm
        · have q1 := ha'.1 y hy
          have q2 := hb'.1 x hx
          lia
    subst e
    rw [strict_uniq ha'.2 hb'.2 fun z => ?_]
    constructor
    · intro hz
      rcases List.mem_cons.mp ((h z).mp (.tail _ hz)) with e | q
      · have := ha'.1 z hz; lia
      · exact q
    · intro hz
      rcases List.mem_cons.mp ((h z).mpr (.tail _ hz)) with e | q
      · have := hb'.1 z hz; lia
      · exact q
structure RunsGood (l : List (Int × Int)) (p : List Int) : Prop where
  pos : ∀ q ∈ l, 1 ≤ q.2
  gap : l.Pairwise fun q r => q.1 + q.2 < r.1
  mem : ∀ x, x ∈ p ↔ ∃ q ∈ l, q.1 ≤ x ∧ x < q.1 + q.2
theorem good_step {l : List (Int × Int)} {p : List Int} {x : Int} (g : RunsGood l p) (h : ∀ y ∈ p, y ≤ x) : RunsGood (runStep l x) (p ++ [x]) := by
  rcases List.eq_nil_or_concat l with rfl | ⟨l0, ⟨b, k⟩, rfl⟩
  · rw [runStep_nil]
    have hp : p = [] := List.eq_nil_iff_forall_not_mem.mpr fun y hy => by
      obtain ⟨q, hq, _⟩ := (g.mem y).mp hy
      cases hq
    subst hp
    refine ⟨fun q hq => by rw [List.mem_singleton.mp hq]; exact Int.le_refl _, List.pairwise_singleton _ _, fun y => ?_⟩
    simp only [List.nil_append, List.mem_singleton, exists_eq_left]
    lia
  · rw [List.concat_eq_append] at g ⊢
    have hk : 1 ≤ k := g.pos (b, k) (List.mem_append_right _ (.head _))
    have hlast : b + k - 1 ≤ x := h _ ((g.mem _).mpr ⟨(b, k), List.mem_append_right _ (.head _), by lia, by simp only; lia⟩)
    obtain ⟨g1, g2, g3⟩ := List.pairwise_append.mp g.gap
    have g4 : ∀ q ∈ l0, q.1 + q.2 < b := fun q hq => g3 q hq (b, k) (.head _)
    by_cases e1 : x = b + k
    · rw [runStep_on e1]
      refine ⟨fun q hq => ?_, List.pairwise_append.mpr ⟨g1, List.pairwise_singleton _ _, fun q hq r hr => ?_⟩, fun y => ?_⟩
      · rcases List.mem_append.mp hq with hq | hq
        · exact g.pos q (List.mem_append_left _ hq)
        · rw [List.mem_singleton.mp hq]; simp only; lia
      · rw [List.mem_singleton.mp hr]; exact g4 q hq
      · rw [List.mem_append, g.mem y]
        constructor
        · rintro (⟨q, hq, h1, h2⟩ | hy)
          · rcases List.mem_append.mp hq with hq | hq
            · exact ⟨q, List.mem_append_left _ hq, h1, h2⟩
            · rw [List.mem_singleton.mp hq] at h1 h2
              exact ⟨(b, k + 1), List.mem_append_right _ (.head _), h1, by simp only at h2 ⊢; lia⟩
          · rw [List.mem_singleton.mp hy]
            exact ⟨(b, k + 1), List.mem_append_right _ (.head _), by simp only; lia, by simp only; lia⟩
        · rintro ⟨q, hq, h1, h2⟩
          rcases List.mem_append.mp hq with hq | hq
          · exact .inl ⟨q, List.mem_append_left _ hq, h1, h2⟩
          · rw [List.mem_singleton.mp hq] at h1 h2
            simp only at h1 h2
            by_cases e : y = x
            · exact .inr (List.mem_singleton.mpr e)
            · exact .inl ⟨(b, k), List.mem_append_right _ (.head _), h1, by simp only; lia⟩
    · by_cases e2 : b + k < x
      · rw [runStep_new e1 e2]
        refine ⟨fun q hq => ?_, List.pairwise_append.mpr ⟨g.gap, List.pairwise_singleton _ _, fun q hq r hr => ?_⟩, fun y => ?_⟩
        · rcases List.mem_append.mp hq with hq | hq
          · exact g.pos q hq
          · rw [List.mem_singleton.mp hq]; exact Int.le_refl _
        · rw [List.mem_singleton.mp hr]
          rcases List.mem_append.mp hq with hq | hq
          · have := g4 q hq; simp only; lia
          · rw [List.mem_singleton.mp hq]; exact e2
        · rw [List.mem_append, g.mem y]
          constructor
          · rintro (⟨q, hq, h1, h2⟩ | hy)
            · exact ⟨q, List.mem_append_left _ hq, h1, h2⟩
            · rw [List.mem_singleton.mp hy]
              exact ⟨(x, 1), List.mem_append_right _ (.head _), Int.le_refl _, by simp only; lia⟩
          · rintro ⟨q, hq, h1, h2⟩
            rcases List.mem_append.mp hq with hq | hq
            · exact .inl ⟨q, hq, h1, h2⟩
            · rw [List.mem_singleton.mp hq] at h1 h2
              simp only at h1 h2
              exact .inr (List.mem_singleton.mpr (by lia))
      · rw [runStep_old e1 e2]
        refine ⟨g.pos, g.gap, fun y => ?_⟩
        rw [List.mem_append, g.mem y]
        constructor
        · rintro (hy | hy)
          · exact hy
          · rw [List.mem_singleton.mp hy]
            exact ⟨(b, k), List.mem_append_right _ (.head _), by simp only; lia, by simp only; lia⟩
        · exact .inl
theorem runs_good {ns : List Int} (hs : ns.Pairwise (· ≤ ·)) : RunsGood (runsOf ns) ns := by
  have gen : ∀ (r p : List Int) (l : List (Int × Int)), (p ++ r).Pairwise (· ≤ ·) → RunsGood l p → RunsGood (r.foldl runStep l) (p ++ r) := by
    intro r
    induction r with
    | nil => intro p l _ g; simpa using g
    | cons x r ih =>
      intro p l hp g
      have e : p ++ x :: r = (p ++ [x]) ++ r := by simp
      rw [e] at hp ⊢
      exact ih _ _ hp (good_step g fun y hy => (List.pairwise_append.mp (List.pairwise_append.mp hp).1).2.2 y hy x (.head _))
  have := gen ns [] [] (by simpa using hs) ⟨(fun _ h => nomatch h), List.Pairwise.nil, fun x => by simp⟩
  simpa [runsOf] using this
noncomputable def flatR (l : List (Int × Int)) : List Int := l.flatMap fun p => (List.range p.2.toNat).map fun (i : Nat) => p.1 + (i : Int)
theorem flat_mem {l : List (Int × Int)} {x : Int} : x ∈ flatR l ↔ ∃ q ∈ l, q.1 ≤ x ∧ x < q.1 + q.2 := by
  unfold flatR
  rw [List.mem_flatMap]
  constructor
  · rintro ⟨q, hq, hx⟩
    obtain ⟨i, hi, rfl⟩ := List.mem_map.mp hx
    have := List.mem_range.mp hi
    exact ⟨q, hq, by lia, by lia⟩
  · rintro ⟨q, hq, h1, h2⟩
    exact ⟨q, hq, List.mem_map.mpr ⟨(x - q.1).toNat, List.mem_range.mpr (by lia), by lia⟩⟩
theorem flat_strict : ∀ {l : List (Int × Int)}, l.Pairwise (fun q r => q.1 + q.2 < r.1) → (∀ q ∈ l, 1 ≤ q.2) → (flatR l).Pairwise (· < ·)
  | [], _, _ => List.Pairwise.nil
  | q :: l, h, hp => by
    have h' := List.pairwise_cons.mp h
    have e : flatR (q :: l) = ((List.range q.2.toNat).map fun (i : Nat) => q.1 + (i : Int)) ++ flatR l := by simp [flatR]
    rw [e]
    refine List.pairwise_append.mpr ⟨?_, flat_strict h'.2 fun r hr => hp r (.tail _ hr), fun x hx y hy => ?_⟩
    · rw [List.pairwise_map]
      exact List.pairwise_lt_range.imp fun hab => by lia
    · obtain ⟨i, hi, rfl⟩ := List.mem_map.mp hx
      have hi' := List.mem_range.mp hi
      obtain ⟨r, hr, h1, h2⟩ := flat_mem.mp hy
      have := h'.1 r hr
      lia
theorem runs_apart {ns : List Int} (hs : ns.Pairwise (· ≤ ·)) {q : Int × Int} (hq : q ∈ runsOf ns) : 1 ≤ q.2 ∧ q.1 + q.2 ∉ ns ∧ q.1 - 1 ∉ ns := by
  have g := runs_good hs
  have hk := g.pos q hq
  refine ⟨hk, fun h => ?_, fun h => ?_⟩
  · obtain ⟨r, hr, h1, h2⟩ := (g.mem _).mp h
    rcases pw_cases g.gap hq hr with e | e | e
    · subst e; lia
    · lia
    · lia
  · obtain ⟨r, hr, h1, h2⟩ := (g.mem _).mp h
    have := g.pos r hr
    rcases pw_cases g.gap hq hr with e | e | e
    · subst e; lia
    · lia
    · lia
theorem met_nodup (val : Nat → Int) : ∀ i, (PyProof.Rows.firstMet val i).Nodup
  | 0 => List.Pairwise.nil
  | i + 1 => by
    rw [PyProof.Rows.firstMet_succ]
    unfold PyProof.Rows.step_dedup
    have ih := met_nodup val i
    split
    · exact ih
    · rename_i h
      refine List.nodup_append.mpr ⟨ih, by simp, fun a ha b hb e => h ?_⟩
      rw [List.mem_singleton.mp hb] at e
      subst e
      exact List.any_eq_true.mpr ⟨_, ha, beq_self_eq_true _⟩
theorem met_mem (ns : List Int) (x : Int) : x ∈ PyProof.Rows.firstMet (fun i => ns.getD i 0) ns.length ↔ x ∈ ns := by
  have e : (List.range ns.length).map (fun i => ns.getD i 0) = ns := by
    refine List.ext_getElem (by simp) fun i h1 h2 => ?_
    simp [List.getD_eq_getElem?_getD, h2]
  have h := PyProof.Rows.firstMet_any (fun i => ns.getD i 0) ns.length x
  rw [e] at h
  constructor
  · intro hx
    have : ns.any (· == x) = true := by rw [← h]; exact List.any_eq_true.mpr ⟨x, hx, beq_self_eq_true x⟩
    obtain ⟨y, hy, q⟩ := List.any_eq_true.mp this
    rw [← beq_iff_eq.mp q]; exact hy
  · intro hx
    have : (PyProof.Rows.firstMet (fun i => ns.getD i 0) ns.length).any (· == x) = true := by rw [h]; exact List.any_eq_true.mpr ⟨x, hx, beq_self_eq_true x⟩
    obtain ⟨y, hy, q⟩ := List.any_eq_true.mp this
    rw [← beq_iff_eq.mp q]; exact hy
theorem held_eq {ns ns' ms : List Int} (hp : ns'.Perm ns) (hs : ns'.Pairwise (· ≤ ·)) (hm : ms.Perm (PyProof.Rows.firstMet (fun i => ns.getD i 0) ns.length)) (hms : ms.Pairwise (· ≤ ·)) : flatR (runsOf ns') = ms := by
  have g := runs_good hs
  have nd : ms.Nodup := hm.nodup_iff.mpr (met_nodup _ _)
  refine strict_uniq (flat_strict g.gap g.pos) ?_ fun x => ?_
  · exact (List.Pairwise.and hms nd).imp fun ⟨h1, h2⟩ => by lia
  · rw [flat_mem, ← g.mem, hp.mem_iff, hm.mem_iff, met_mem]
end
section
theorem rowsLwP1 : True := by
  k_with_none
  k_with "pen_at" => focus (first | with_reducible assumption | (refine' PenAt.head ?_ ?_ ?_; (rotate_right 3; (focus (first | with_reducible assumption | k_ne)); (focus (k_all)); (focus (k_all)))) | (refine' PenAt.tail ?_ ?_ ?_; (rotate_right 1; (focus (walk_at "pen_at"))); (rotate_right 2; (focus (k_ne)); (focus (k_ne)))))
  k_with "room" => focus (first | lia | (dsimp only [ktrTop, Around.deeper]; lia))
  k_with "enterC" => focus ((refine' code_defC ?_ ?_ ?_ ?_ ?_ ?_ ?_ ?_ ?_ ?_ ?_ ?_ ?_ ?_ ?_ ?_ ?_ ?_; (rotate_right 13; (focus (exact rfl)); (focus (exact rfl)); (focus (first | exact rfl | assumption)); rotate_left 10); (rotate_right 15; (focus (k_asm)); (focus (k_asm)); (focus (k_asm)); (focus (k_asm)); (focus (k_asm)); (focus (k_is)); (focus (k_is)); (focus (k_room)); (focus (exact BindsTo.of_eq rfl)); (focus (exact rfl)); (focus (decide +kernel)); rotate_left 4); (rotate_right 3; (focus (exact rfl)); (focus (exact rfl)); (focus (exact rfl))); k_whole; intro g' L' h' tk' cells' FG' F' N' Y' B' X' T' l1; (try k_lt l1); k_cells Y'; (try simp only [List.cons_append, List.nil_append] at N'); (try dsimp only); (try k_lift B'); (try k_fold)))
  k_with "eval Name" => focus ((k_here; (with_reducible show wpAny _ _ (eval (Expr.Name _ _) (compEnvC _ _ _ _)) _ _ _); k_dflt (first | (refine' lcf_cell ?_ ?_ ?_ ?_ ?_ ?_ ?_; (rotate_right 1; (focus (rfl))); (rotate_right 1; (focus (rfl))); (rotate_right 5; (focus (k_asm)); (focus (rfl)); (focus (k_mem)); (focus (k_asm)); rotate_left 1); k_whole) | (refine' lcf_free ?_ ?_ ?_ ?_ ?_ ?_ ?_; (rotate_right 1; (focus (rfl))); (rotate_right 1; (focus (rfl))); (rotate_right 5; (focus (k_asm)); (focus (rfl)); (focus (k_mem)); (focus (k_asm)); rotate_left 1); k_whole) | refine LCgL.ld_global (by k_asm) (by k_asm) (by k_asm) (by k_is) ?_)))
  k_with "exec For Name Name cons nil" => focus ((k_here; (rename Fr _ _ _ _ => lF'); (with_unfolding_all refine' For_invVF lF' ?_ ?_ ?_; (rotate_right 3; (focus (exact rfl)); (focus (exact rfl)); rotate_left 1); k_whole)))
  k_with "exec For Name Call cons nil" => focus ((k_here; (rename Fr _ _ _ _ => lF'); (with_unfolding_all refine' For_invVF lF' ?_ ?_ ?_; (rotate_right 3; (focus (exact rfl)); (focus (exact rfl)); rotate_left 1); k_whole)))
  k_with "call ref" => focus (((with_reducible show wpAny _ _ (call (Value.ref 256) _) _ _ _); k_dflt (refine' draw_ok ?_ ?_ ?_ ?_ ?_ ?_ ?_ ?_ ?_ ?_ ?_; (rotate_right 11; (focus (k_asm)); (focus (k_asm)); (focus (k_asm)); (focus (k_asm)); (focus (k_asm)); (focus (first | exact rfl | assumption)); (focus (walk_at "pen_at")); (focus (first | decide | lia)); (focus (walk_at "room")); (focus (walk_at "room")); rotate_left 1)); intro r9 t9 y9 h' tk9 lo9 hi9 F' N'; (try dsimp only at N'); (try k_sweep)))
  k_with "call ref" => focus (((with_reducible show wpAny _ _ (call (Value.ref 263) _) _ _ _); k_dflt (refine' pick_ok ?_ ?_ ?_ ?_ ?_ ?_ ?_ ?_ ?_ ?_ ?_ ?_ ?_ ?_ ?_; (rotate_right 15; (focus (k_asm)); (focus (k_asm)); (focus (k_asm)); (focus (k_asm)); (focus (k_asm)); (focus (first | exact rfl | assumption)); (focus (walk_at "pen_at")); (focus (k_mem)); (focus (k_ne)); (focus (k_ne)); (focus ((simp only [List.length_cons, List.length_nil]; lia))); (focus ((simp only [List.length_cons, List.length_nil]; lia))); (focus (walk_at "room")); (focus (walk_at "room")); rotate_left 1)); intro v9 y9 h' tk9 m9 F' N'; (try k_dflt (have q9 := pick_str4 m9; obtain ⟨w9, tw9, e9, ow9⟩ := q9; subst e9; clear m9)); (try dsimp only at N'); (try k_sweep)))
  k_with "eval ListComp" => focus ((k_here; first | (with_reducible refine' ListComp_W ?_ ?_ ?_ ?_ ?_ ?_ ?_ ?_; (rotate_right 8; (focus (k_asm)); (focus (with_unfolding_all rfl)); (focus (decide)); (focus (with_unfolding_all rfl)); (focus (decide)); (focus (with_unfolding_all rfl)); rotate_left 2); (rotate_right 1; (focus ((intro _; with_unfolding_all rfl))))) | (with_reducible refine' ListComp_WT ?_ ?_ ?_ ?_ ?_ ?_ ?_ ?_; (rotate_right 8; (focus (k_asm)); (focus (with_unfolding_all rfl)); (focus (decide)); (focus (with_unfolding_all rfl)); (focus (decide)); (focus (with_unfolding_all rfl)); rotate_left 2); (rotate_right 1; (focus ((intro _; with_unfolding_all rfl)))))))
  k_with "exec Assign cons ListComp" => focus ((k_here; k_dflt (first | refine Assign_ListComp_WT (_F₀ := by k_asm) (by rfl) (by with_unfolding_all rfl) (by with_unfolding_all rfl) (by decide) (by rfl) (by decide) (by rfl) (by rfl) (by rfl) ?_ | refine Assign_ListComp_W (_F₀ := by k_asm) (by rfl) (by with_unfolding_all rfl) (by with_unfolding_all rfl) (by decide) (by rfl) (by decide) (by rfl) (by rfl) (by rfl) ?_ | refine wpAny_Assign_Name ?_)))
  k_with "exec Assign cons ListComp" => focus ((k_here; k_dflt (first | (with_reducible refine' Assign_ListComp_W ?_ ?_ ?_ ?_ ?_ ?_ ?_ ?_ ?_ ?_ ?_ ?_; (rotate_right 12; (focus (k_asm)); (focus (with_unfolding_all rfl)); rotate_left 10); (rotate_right 9; (focus (with_unfolding_all rfl)); (focus (decide)); (focus (with_unfolding_all rfl)); (focus (decide)); (focus (with_unfolding_all rfl)); (focus (with_unfolding_all rfl)); (focus (with_unfolding_all rfl)); rotate_left 2); (rotate_right 1; (focus ((intro _; with_unfolding_all rfl)))); (rotate_right 2; (focus (with_unfolding_all rfl)); rotate_left 1)) | (with_reducible refine' Assign_ListComp_WT ?_ ?_ ?_ ?_ ?_ ?_ ?_ ?_ ?_ ?_ ?_ ?_; (rotate_right 12; (focus (k_asm)); (focus (with_unfolding_all rfl)); rotate_left 10); (rotate_right 9; (focus (with_unfolding_all rfl)); (focus (decide)); (focus (with_unfolding_all rfl)); (focus (decide)); (focus (with_unfolding_all rfl)); (focus (with_unfolding_all rfl)); (focus (with_unfolding_all rfl)); rotate_left 2); (rotate_right 1; (focus ((intro _; with_unfolding_all rfl)))); (rotate_right 2; (focus (with_unfolding_all rfl)); rotate_left 1)) | (with_reducible refine wpAny_Assign_Name ?_))))
  k_with "menu_int" => focus (repeat' (first | exact all_nil | (refine all_cons ?_ ?_) | (refine IntTo.mk' ?_ ?_ <;> first | lia | decide +kernel)))
  k_with "call ref" => focus (((with_reducible show wpAny _ _ (call (Value.ref 263) _) _ _ _); k_dflt (refine' pick_ok ?_ ?_ ?_ ?_ ?_ ?_ ?_ ?_ ?_ ?_ ?_ ?_ ?_ ?_ ?_; (rotate_right 15; (focus (k_asm)); (focus (k_asm)); (focus (k_asm)); (focus (k_asm)); (focus (k_asm)); (focus (first | exact rfl | assumption)); (focus (walk_at "pen_at")); (focus (k_mem)); (focus (k_ne)); (focus (k_ne)); (focus ((simp only [List.length_cons, List.length_nil]; lia))); (focus ((simp only [List.length_cons, List.length_nil]; lia))); (focus (walk_at "room")); (focus (walk_at "room")); rotate_left 1)); intro v9 y9 h' tk9 m9 F' N'; (try k_dflt (refine pick_elim (P := IntTo 1000) m9 ?_ ?_; (rotate_right 2; (focus (walk_at "menu_int")); rotate_left 1); intro q9; obtain ⟨i9, ti9, e9, lo9, hi9⟩ := q9; subst e9; clear m9)); (try dsimp only at N'); (try k_sweep)))
  k_with "WIf" => focus (first | (refine WIf.yes rfl ?_) | (refine WIf.no rfl ?_) | (refine WIf.dec ?_ ?_ <;> intro))
  k_with "call ref" => focus (((with_reducible show wpAny _ _ (call (Value.ref 211) _) _ _ _); k_dflt (refine' runs_ok ?_ ?_ ?_ ?_ ?_ ?_ ?_ ?_ ?_ ?_ ?_ ?_; (rotate_right 12; (focus (k_asm)); (focus (k_asm)); (focus (k_asm)); (focus (k_asm)); (focus (k_asm)); (focus (first | exact rfl | assumption)); (focus (assumption)); (focus (assumption)); (focus (lia)); (focus (walk_at "room")); (focus (walk_at "room")); rotate_left 1)); intro R9 refs9 nn9 ns9 tl9 h' tk9 p9 s9 r9 l9 t9 F' N'))
  trivial
set_option maxRecDepth 100000 in
set_option maxHeartbeats 8000000 in
theorem st11 {w : World} {mean : ExcName → Option Value} {mg mb : Str → Option Value} {dp un : Nat} {gd : Option (List Code)} {a : Addr} {ccd : Value} {outer : List Env} {A₀ : Around} {base h₀ : Heap} {L : Addr} {m : Str → Option Value} {s : Shared} {E : Value → Shared → Prop} {Q : Flow → Shared → Prop} {R nn : Nat} {p3 : Obj} {vs : List Value} {ns : List Int} {news : List (Addr × Obj)}
    (B : Below A₀ base outer h₀) (X : (Mine.hd.heap_1 w.params).In h₀) (T : Top Mine.hd.view_1 (looseW Mine.hd.view_1 [Str.ofString "PaperError"]) mean mg mb h₀) (hd : dp < 310) (hu : un < 300) (F : Fr h₀ L s.heap m) (N : News h₀ L s.heap news) (hc : (L + 1 + 1 + 1, p3) ∈ news) (d3 : p3.data = .cell (some (.ref R))) (hR : (R, listOf vs.toArray nn) ∈ news) (hi : IntsAre vs ns) (hl : ns.length ≤ 9)
    (hnext : ∀ (RR : Nat) (refs : List Value) (nn' : Nat) (ns' : List Int) (tl : List (Addr × Obj)) h' tk', ns'.Perm ns → ns'.Pairwise (· ≤ ·) → ListRel (PairIn tl) refs (runsOf ns') → AllLt RR news → (∀ p ∈ tl, RR < p.1) →
      Fr h₀ L h' (fun z => if z = Str.ofString "runs" then some (.ref RR) else m z) → News h₀ L h' ((RR, listOf refs.toArray nn') :: (tl ++ news)) → Q .next { s with heap := h', toks := tk' }) :
    wpAny (model PySem.Challenge.rw_nn0202_01.row.prog w) (ktrTop dp un gd (Str.ofString "law") lawScope L a ccd [(Str.ofString "numbers", L + 1 + 1 + 1), (Str.ofString "due", L + 1 + 1), (Str.ofString "pen", L + 1)] outer) (exec (stm 11) (envX (Str.ofString "law") lawScope L a ccd [(Str.ofString "numbers", L + 1 + 1 + 1), (Str.ofString "due", L + 1 + 1), (Str.ofString "pen", L + 1)])) Q E s := by
  conv in (stm _) => whnf
  conv in lawScope => whnf
  conv in lawScope => whnf
  dsimp only
  revert X
  k_fill
  intro X
  k_steps
  refine' hnext _ _ _ _ _ _ _ ?zp ?zs ?zr ?zl ?zt ?zF ?zN; (case zN => k_asm); (case zF => k_asm); (case zp => assumption); (case zs => assumption); (case zr => assumption); (case zl => assumption); (case zt => assumption)
set_option maxRecDepth 100000 in
set_option maxHeartbeats 8000000 in
theorem st12 {w : World} {mean : ExcName → Option Value} {mg mb : Str → Option Value} {dp un : Nat} {gd : Option (List Code)} {a : Addr} {ccd : Value} {outer : List Env} {A₀ : Around} {base h₀ : Heap} {L : Addr} {m : Str → Option Value} {s : Shared} {E : Value → Shared → Prop} {Q : Flow → Shared → Prop} {news : List (Addr × Obj)}
    (B : Below A₀ base outer h₀) (X : (Mine.hd.heap_1 w.params).In h₀) (T : Top Mine.hd.view_1 (looseW Mine.hd.view_1 [Str.ofString "PaperError"]) mean mg mb h₀) (hd : dp < 310) (hu : un < 300) (F : Fr h₀ L s.heap m) (N : News h₀ L s.heap news)
    (hnext : ∀ (H nn : Nat) h' tk', (∀ p ∈ news, p.1 < H) → Fr h₀ L h' (fun z => if z = Str.ofString "held" then some (.ref H) else m z) → News h₀ L h' ((H, listOf #[] nn) :: news) → Q .next { s with heap := h', toks := tk' }) :
    wpAny (model PySem.Challenge.rw_nn0202_01.row.prog w) (ktrTop dp un gd (Str.ofString "law") lawScope L a ccd [(Str.ofString "numbers", L + 1 + 1 + 1), (Str.ofString "due", L + 1 + 1), (Str.ofString "pen", L + 1)] outer) (exec (stm 12) (envX (Str.ofString "law") lawScope L a ccd [(Str.ofString "numbers", L + 1 + 1 + 1), (Str.ofString "due", L + 1 + 1), (Str.ofString "pen", L + 1)])) Q E s := by
  conv in (stm _) => whnf
  conv in lawScope => whnf
  conv in lawScope => whnf
  dsimp only
  revert X
  k_fill
  intro X
  k_steps
  refine' hnext _ _ _ _ ?zl ?zF ?zN; (case zN => k_asm); (case zF => k_asm); (case zl => assumption)
structure HeSt where
  H : Nat
  n : Nat
  ws : List Value
  hs : List Int
  u2 : Option Value
theorem flat_snoc (l : List (Int × Int)) (q : Int × Int) : flatR (l ++ [q]) = flatR l ++ (List.range q.2.toNat).map fun (i : Nat) => q.1 + (i : Int) := by
  unfold flatR
  rw [List.flatMap_append]
  simp
theorem held_loop {prog : Program} {w : World} {A : Around} {E : Value → Shared → Prop} {s : Shared} {env : Env} {h₀ : Heap} {x z₁ z₂ : Str} {target : Expr} {body : List Stmt} {Q : Flow → Shared → Prop} {RA nn H n0 : Nat} {refs : List Value} {prs : List (Int × Int)} {m₀ : Str → Option Value} {rest : List (Addr × Obj)}
    (hm0 : m₀ z₁ = some (.ref H)) (hh : A.handled = none) (hR : (RA, listOf refs.toArray nn) ∈ rest) (rel : ListRel (PairIn rest) refs prs) (hb : ∀ q ∈ prs, 0 ≤ q.1 ∧ 1 ≤ q.2 ∧ q.1 + q.2 ≤ 14) (hl : ∀ i, (flatR (prs.take i)).length ≤ 14)
    (F : Fr h₀ env.locals s.heap m₀) (N : News h₀ env.locals s.heap ((H, listOf #[] n0) :: rest))
    (turn : ∀ (b k : Int) (R : Nat) (t1 t2 : Tok) (c : HeSt) (u : Option Value) I (s₁ : Shared) oI, (R, tupO [.int b t1, .int k t2]) ∈ rest → 0 ≤ b → 1 ≤ k → b + k ≤ 14 → IntsAre c.ws c.hs → c.hs.length ≤ 14 → c.H ≠ I → (∀ p ∈ rest, p.1 ≠ I) →
      Fr h₀ env.locals s₁.heap (fun z => if z = x then u else if z = z₁ then some (.ref c.H) else if z = z₂ then c.u2 else m₀ z) → News h₀ env.locals s₁.heap ((I, oI) :: (c.H, listOf c.ws.toArray c.n) :: rest) →
      wpAny (model prog w) A (assign target env (.ref R)) (fun _ s₃ => wpAny (model prog w) A (execs body env) (fun f s₂ => f = .next ∧ LEnd h₀ env.locals x (fun (c : HeSt) z => if z = z₁ then some (.ref c.H) else if z = z₂ then c.u2 else m₀ z) (fun c : HeSt => (c.H, listOf c.ws.toArray c.n) :: rest) (fun c' => IntsAre c'.ws c'.hs ∧ c'.hs = c.hs ++ (List.range k.toNat).map fun (i : Nat) => b + (i : Int)) I oI s₁ s₂) E s₃) E s₁)
    (done : ∀ (c : HeSt) (u : Option Value) h tk, IntsAre c.ws (flatR prs) → Fr h₀ env.locals h (fun z => if z = x then u else if z = z₁ then some (.ref c.H) else if z = z₂ then c.u2 else m₀ z) → News h₀ env.locals h ((c.H, listOf c.ws.toArray c.n) :: rest) → Q .next { s with heap := h, toks := tk }) :
    wpAny (model prog w) A (pyIter (.ref RA)) (fun it s₂ => LoopAtT prog w A h₀ env target body Q E it s₂) E s := by
  refine lp_listT (x := x) (fun (c : HeSt) z => if z = z₁ then some (.ref c.H) else if z = z₂ then c.u2 else m₀ z) (fun c : HeSt => (c.H, listOf c.ws.toArray c.n) :: rest) (fun i c => IntsAre c.ws c.hs ∧ c.hs = flatR (prs.take i)) ⟨H, n0, [], [], m₀ z₂⟩ hh F N (.tail _ hR) (fun i c _ => .tail _ hR) ?_ (fun p hp => hp) ⟨.nil, rfl⟩ ?_ ?_
  · intro z _
    by_cases e : z = z₁
    · simp only [e, if_true, hm0]
    · by_cases e2 : z = z₂
      · simp only [e2, if_true]
        split
        · rename_i e3; rw [e3, hm0]
        · rfl
      · simp only [e, e2, if_false]
  · rintro i v c u I s₁ oI hv ⟨c1, c2⟩ ho F' N'
    obtain ⟨⟨b, k⟩, he, R, t1, t2, rfl, hm⟩ := rel.get hv
    obtain ⟨b0, b1, b2⟩ := hb _ (List.mem_of_getElem? he)
    refine wpAny_mono (turn b k R t1 t2 c u I s₁ oI hm b0 b1 b2 c1 (by rw [c2]; exact hl i) (ho _ (.head _)) (fun p hp => ho p (.tail _ hp)) F' N') (fun _ s₃ q => wpAny_mono q (fun f s₂ p => ?_) fun _ _ e => e) fun _ _ e => e
    obtain ⟨hf, c', h', tk, m', news', q1, q2, q3, q4, q5, q6, q7, d1, d2⟩ := p
    refine ⟨hf, c', h', tk, m', news', q1, q2, q3, q4, q5, q6, q7, d1, ?_⟩
    rw [d2, c2, take_snoc he, flat_snoc]
  · rintro c u h tk ⟨c1, c2⟩ F' N'
    have ht : prs.take refs.length = prs := by rw [rel.length]; exact List.take_length
    rw [ht] at c2
    exact done c u h tk (c2 ▸ c1) F' N'
theorem rangeKs_eq (b k : Int) : rangeKs b (b + k - b).toNat = (List.range k.toNat).map fun (i : Nat) => b + (i : Int) := by
  have e : b + k - b = k := by lia
  rw [e]
  rfl
theorem he_e1 {h₀ h : Heap} {L : Addr} {m₀ : Str → Option Value} {x z₁ z₂ : Str} {rest : List (Addr × Obj)} {I D1 D2 n1 n2 : Nat} {oI : Obj} {c : HeSt} {vs ws : List Value} {b k : Int} {tk : Nat} {s₁ : Shared} {w1 w2 u u1 u2 : Option Value}
    (hI : IntsAre ws (c.hs ++ rangeKs b (b + k - b).toNat)) (F : Fr h₀ L h (fun y => if y = z₁ then some (.ref D2) else if y = z₂ then w2 else if y = x then w1 else if y = x then u else if y = z₁ then u1 else if y = z₂ then u2 else m₀ y))
    (N : News h₀ L h ((D2, listOf ws.toArray n2) :: (D1, listOf vs.toArray n1) :: (I, oI) :: (c.H, listOf c.ws.toArray c.n) :: rest)) (n1' : I < D2) (n3 : ∀ p ∈ rest, p.1 ≠ I) :
    LEnd h₀ L x (fun (c : HeSt) z => if z = z₁ then some (.ref c.H) else if z = z₂ then c.u2 else m₀ z) (fun c : HeSt => (c.H, listOf c.ws.toArray c.n) :: rest) (fun c' => IntsAre c'.ws c'.hs ∧ c'.hs = c.hs ++ (List.range k.toNat).map fun (i : Nat) => b + (i : Int)) I oI s₁ { s₁ with heap := h, toks := tk } := by
  rw [rangeKs_eq] at hI
  refine LEnd.intro ⟨D2, n2, ws, _, w2⟩ F N (.tail _ (.tail _ (.head _))) ?_ ?_ ?_ ⟨hI, rfl⟩
  · intro p hp
    rcases List.mem_cons.mp hp with rfl | hp
    · exact .head _
    · exact .tail _ (.tail _ (.tail _ (.tail _ hp)))
  · intro p hp
    rcases List.mem_cons.mp hp with rfl | hp
    · exact Nat.ne_of_gt n1'
    · exact n3 p hp
  · intro z hz
    by_cases e1 : z = z₁
    · simp only [e1, if_true]
    · by_cases e2 : z = z₂
      · simp only [e1, e2, if_false, if_true]
      · simp only [e1, e2, hz, if_false]
theorem rowsLwP2 : True := by
  k_with "exec For Tuple Name cons nil" => focus ((k_here; (rename Fr _ _ _ _ => lF'); (with_unfolding_all refine' For_invTF lF' ?_ ?_ ?_; (rotate_right 2; (focus (exact fun _ => rfl)); (focus (assumption))); k_whole)))
  k_with "my pyIter ref" => focus ((k_here; (with_reducible show wpAny _ _ (pyIter (Value.ref _)) (fun it s₂ => LoopAtT _ _ _ _ _ _ _ _ _ it s₂) _ _); k_dflt (refine' held_loop (x := Str.ofString "begun") (z₁ := Str.ofString "held") (z₂ := Str.ofString "many") ?_ ?_ ?_ ?_ ?_ ?_ ?_ ?_ ?_ ?_; (rotate_right 4; (focus (k_asm)); rotate_left 3); (rotate_right 9; (focus (with_unfolding_all rfl)); (focus (exact rfl)); rotate_left 7); (rotate_right 3; (focus (k_asm)); rotate_left 2); (rotate_right 5; (focus (assumption)); rotate_left 4); (rotate_right 5; (focus (assumption)); (focus (assumption)); (focus (assumption)); rotate_left 2)); (all_goals intros)))
  trivial
set_option maxRecDepth 100000 in
set_option maxHeartbeats 8000000 in
theorem st13 {w : World} {mean : ExcName → Option Value} {mg mb : Str → Option Value} {dp un : Nat} {gd : Option (List Code)} {a : Addr} {ccd : Value} {outer : List Env} {A₀ : Around} {base h₀ : Heap} {L : Addr} {m : Str → Option Value} {s : Shared} {E : Value → Shared → Prop} {Q : Flow → Shared → Prop} {RA nn H n0 : Nat} {refs : List Value} {prs : List (Int × Int)} {rest : List (Addr × Obj)}
    (B : Below A₀ base outer h₀) (X : (Mine.hd.heap_1 w.params).In h₀) (T : Top Mine.hd.view_1 (looseW Mine.hd.view_1 [Str.ofString "PaperError"]) mean mg mb h₀) (hd : dp < 310) (hu : un < 300) (F : Fr h₀ L s.heap m) (hE : PassesOwn (model PySem.Challenge.rw_nn0202_01.row.prog w) (ktrTop dp un gd (Str.ofString "law") lawScope L a ccd [(Str.ofString "numbers", L + 1 + 1 + 1), (Str.ofString "due", L + 1 + 1), (Str.ofString "pen", L + 1)] outer) (envX (Str.ofString "law") lawScope L a ccd [(Str.ofString "numbers", L + 1 + 1 + 1), (Str.ofString "due", L + 1 + 1), (Str.ofString "pen", L + 1)]) E) (hm1 : m (Str.ofString "held") = some (.ref H)) (hm2 : m (Str.ofString "runs") = some (.ref RA)) (N : News h₀ L s.heap ((H, listOf #[] n0) :: rest)) (hR : (RA, listOf refs.toArray nn) ∈ rest) (rel : ListRel (PairIn rest) refs prs) (hb : ∀ q ∈ prs, 0 ≤ q.1 ∧ 1 ≤ q.2 ∧ q.1 + q.2 ≤ 14) (hl : ∀ i, (flatR (prs.take i)).length ≤ 14)
    (hnext : ∀ (c : HeSt) (u : Option Value) h' tk', IntsAre c.ws (flatR prs) → Fr h₀ L h' (fun z => if z = Str.ofString "begun" then u else if z = Str.ofString "held" then some (.ref c.H) else if z = Str.ofString "many" then c.u2 else m z) → News h₀ L h' ((c.H, listOf c.ws.toArray c.n) :: rest) → Q .next { s with heap := h', toks := tk' }) :
    wpAny (model PySem.Challenge.rw_nn0202_01.row.prog w) (ktrTop dp un gd (Str.ofString "law") lawScope L a ccd [(Str.ofString "numbers", L + 1 + 1 + 1), (Str.ofString "due", L + 1 + 1), (Str.ofString "pen", L + 1)] outer) (exec (stm 13) (envX (Str.ofString "law") lawScope L a ccd [(Str.ofString "numbers", L + 1 + 1 + 1), (Str.ofString "due", L + 1 + 1), (Str.ofString "pen", L + 1)])) Q E s := by
  obtain ⟨m, rfl⟩ := know2 hm1 hm2
  clear hm1 hm2
  conv in (stm _) => whnf
  conv in lawScope => whnf
  conv in lawScope => whnf
  dsimp only
  revert X
  k_fill
  intro X
  k_steps
  all_goals first
    | (refine' he_e1 (x := Str.ofString "begun") (z₁ := Str.ofString "held") (z₂ := Str.ofString "many") ?zi ?zF ?zN ?z1 ?z3; (case zN => k_asm); (case zF => k_asm); (case zi => assumption); (case z3 => assumption); (case z1 => lia))
    | (refine' hnext _ _ _ _ ?zi ?zF ?zN; (case zN => k_asm); (case zF => k_asm); (case zi => assumption))
end
section
theorem rowsLwQ1 : True := by
  k_with_none
  k_with "pen_at" => focus (first | with_reducible assumption | (refine' PenAt.head ?_ ?_ ?_; (rotate_right 3; (focus (first | with_reducible assumption | k_ne)); (focus (k_all)); (focus (k_all)))) | (refine' PenAt.tail ?_ ?_ ?_; (rotate_right 1; (focus (walk_at "pen_at"))); (rotate_right 2; (focus (k_ne)); (focus (k_ne)))))
  k_with "room" => focus (first | lia | (dsimp only [ktrTop, Around.deeper]; lia))
  k_with "enterC" => focus ((refine' code_defC ?_ ?_ ?_ ?_ ?_ ?_ ?_ ?_ ?_ ?_ ?_ ?_ ?_ ?_ ?_ ?_ ?_ ?_; (rotate_right 13; (focus (exact rfl)); (focus (exact rfl)); (focus (first | exact rfl | assumption)); rotate_left 10); (rotate_right 15; (focus (k_asm)); (focus (k_asm)); (focus (k_asm)); (focus (k_asm)); (focus (k_asm)); (focus (k_is)); (focus (k_is)); (focus (k_room)); (focus (exact BindsTo.of_eq rfl)); (focus (exact rfl)); (focus (decide +kernel)); rotate_left 4); (rotate_right 3; (focus (exact rfl)); (focus (exact rfl)); (focus (exact rfl))); k_whole; intro g' L' h' tk' cells' FG' F' N' Y' B' X' T' l1; (try k_lt l1); k_cells Y'; (try simp only [List.cons_append, List.nil_append] at N'); (try dsimp only); (try k_lift B'); (try k_fold)))
  k_with "eval Name" => focus ((k_here; (with_reducible show wpAny _ _ (eval (Expr.Name _ _) (compEnvC _ _ _ _)) _ _ _); k_dflt (first | (refine' lcf_cell ?_ ?_ ?_ ?_ ?_ ?_ ?_; (rotate_right 1; (focus (rfl))); (rotate_right 1; (focus (rfl))); (rotate_right 5; (focus (k_asm)); (focus (rfl)); (focus (k_mem)); (focus (k_asm)); rotate_left 1); k_whole) | (refine' lcf_free ?_ ?_ ?_ ?_ ?_ ?_ ?_; (rotate_right 1; (focus (rfl))); (rotate_right 1; (focus (rfl))); (rotate_right 5; (focus (k_asm)); (focus (rfl)); (focus (k_mem)); (focus (k_asm)); rotate_left 1); k_whole) | refine LCgL.ld_global (by k_asm) (by k_asm) (by k_asm) (by k_is) ?_)))
  k_with "exec For Name Name cons nil" => focus ((k_here; (rename Fr _ _ _ _ => lF'); (with_unfolding_all refine' For_invVF lF' ?_ ?_ ?_; (rotate_right 3; (focus (exact rfl)); (focus (exact rfl)); rotate_left 1); k_whole)))
  k_with "exec For Name Call cons nil" => focus ((k_here; (rename Fr _ _ _ _ => lF'); (with_unfolding_all refine' For_invVF lF' ?_ ?_ ?_; (rotate_right 3; (focus (exact rfl)); (focus (exact rfl)); rotate_left 1); k_whole)))
  k_with "call ref" => focus (((with_reducible show wpAny _ _ (call (Value.ref 256) _) _ _ _); k_dflt (refine' draw_ok ?_ ?_ ?_ ?_ ?_ ?_ ?_ ?_ ?_ ?_ ?_; (rotate_right 11; (focus (k_asm)); (focus (k_asm)); (focus (k_asm)); (focus (k_asm)); (focus (k_asm)); (focus (first | exact rfl | assumption)); (focus (walk_at "pen_at")); (focus (first | decide | lia)); (focus (walk_at "room")); (focus (walk_at "room")); rotate_left 1)); intro r9 t9 y9 h' tk9 lo9 hi9 F' N'; (try dsimp only at N'); (try k_sweep)))
  k_with "call ref" => focus (((with_reducible show wpAny _ _ (call (Value.ref 263) _) _ _ _); k_dflt (refine' pick_ok ?_ ?_ ?_ ?_ ?_ ?_ ?_ ?_ ?_ ?_ ?_ ?_ ?_ ?_ ?_; (rotate_right 15; (focus (k_asm)); (focus (k_asm)); (focus (k_asm)); (focus (k_asm)); (focus (k_asm)); (focus (first | exact rfl | assumption)); (focus (walk_at "pen_at")); (focus (k_mem)); (focus (k_ne)); (focus (k_ne)); (focus ((simp only [List.length_cons, List.length_nil]; lia))); (focus ((simp only [List.length_cons, List.length_nil]; lia))); (focus (walk_at "room")); (focus (walk_at "room")); rotate_left 1)); intro v9 y9 h' tk9 m9 F' N'; (try k_dflt (have q9 := pick_str4 m9; obtain ⟨w9, tw9, e9, ow9⟩ := q9; subst e9; clear m9)); (try dsimp only at N'); (try k_sweep)))
  k_with "eval ListComp" => focus ((k_here; first | (with_reducible refine' ListComp_W ?_ ?_ ?_ ?_ ?_ ?_ ?_ ?_; (rotate_right 8; (focus (k_asm)); (focus (with_unfolding_all rfl)); (focus (decide)); (focus (with_unfolding_all rfl)); (focus (decide)); (focus (with_unfolding_all rfl)); rotate_left 2); (rotate_right 1; (focus ((intro _; with_unfolding_all rfl))))) | (with_reducible refine' ListComp_WT ?_ ?_ ?_ ?_ ?_ ?_ ?_ ?_; (rotate_right 8; (focus (k_asm)); (focus (with_unfolding_all rfl)); (focus (decide)); (focus (with_unfolding_all rfl)); (focus (decide)); (focus (with_unfolding_all rfl)); rotate_left 2); (rotate_right 1; (focus ((intro _; with_unfolding_all rfl)))))))
  k_with "exec Assign cons ListComp" => focus ((k_here; k_dflt (first | refine Assign_ListComp_WT (_F₀ := by k_asm) (by rfl) (by with_unfolding_all rfl) (by with_unfolding_all rfl) (by decide) (by rfl) (by decide) (by rfl) (by rfl) (by rfl) ?_ | refine Assign_ListComp_W (_F₀ := by k_asm) (by rfl) (by with_unfolding_all rfl) (by with_unfolding_all rfl) (by decide) (by rfl) (by decide) (by rfl) (by rfl) (by rfl) ?_ | refine wpAny_Assign_Name ?_)))
  k_with "exec Assign cons ListComp" => focus ((k_here; k_dflt (first | (with_reducible refine' Assign_ListComp_W ?_ ?_ ?_ ?_ ?_ ?_ ?_ ?_ ?_ ?_ ?_ ?_; (rotate_right 12; (focus (k_asm)); (focus (with_unfolding_all rfl)); rotate_left 10); (rotate_right 9; (focus (with_unfolding_all rfl)); (focus (decide)); (focus (with_unfolding_all rfl)); (focus (decide)); (focus (with_unfolding_all rfl)); (focus (with_unfolding_all rfl)); (focus (with_unfolding_all rfl)); rotate_left 2); (rotate_right 1; (focus ((intro _; with_unfolding_all rfl)))); (rotate_right 2; (focus (with_unfolding_all rfl)); rotate_left 1)) | (with_reducible refine' Assign_ListComp_WT ?_ ?_ ?_ ?_ ?_ ?_ ?_ ?_ ?_ ?_ ?_ ?_; (rotate_right 12; (focus (k_asm)); (focus (with_unfolding_all rfl)); rotate_left 10); (rotate_right 9; (focus (with_unfolding_all rfl)); (focus (decide)); (focus (with_unfolding_all rfl)); (focus (decide)); (focus (with_unfolding_all rfl)); (focus (with_unfolding_all rfl)); (focus (with_unfolding_all rfl)); rotate_left 2); (rotate_right 1; (focus ((intro _; with_unfolding_all rfl)))); (rotate_right 2; (focus (with_unfolding_all rfl)); rotate_left 1)) | (with_reducible refine wpAny_Assign_Name ?_))))
  k_with "menu_int" => focus (repeat' (first | exact all_nil | (refine all_cons ?_ ?_) | (refine IntTo.mk' ?_ ?_ <;> first | lia | decide +kernel)))
  k_with "call ref" => focus (((with_reducible show wpAny _ _ (call (Value.ref 263) _) _ _ _); k_dflt (refine' pick_ok ?_ ?_ ?_ ?_ ?_ ?_ ?_ ?_ ?_ ?_ ?_ ?_ ?_ ?_ ?_; (rotate_right 15; (focus (k_asm)); (focus (k_asm)); (focus (k_asm)); (focus (k_asm)); (focus (k_asm)); (focus (first | exact rfl | assumption)); (focus (walk_at "pen_at")); (focus (k_mem)); (focus (k_ne)); (focus (k_ne)); (focus ((simp only [List.length_cons, List.length_nil]; lia))); (focus ((simp only [List.length_cons, List.length_nil]; lia))); (focus (walk_at "room")); (focus (walk_at "room")); rotate_left 1)); intro v9 y9 h' tk9 m9 F' N'; (try k_dflt (refine pick_elim (P := IntTo 1000) m9 ?_ ?_; (rotate_right 2; (focus (walk_at "menu_int")); rotate_left 1); intro q9; obtain ⟨i9, ti9, e9, lo9, hi9⟩ := q9; subst e9; clear m9)); (try dsimp only at N'); (try k_sweep)))
  k_with "WIf" => focus (first | (refine WIf.yes rfl ?_) | (refine WIf.no rfl ?_) | (refine WIf.dec ?_ ?_ <;> intro))
  trivial
theorem ints_dat {l : List (Addr × Obj)} {vs : List Value} {ns : List Int} (h : IntsAre vs ns) : DatAll l vs (ns.map Dat.int) := by
  induction h with
  | nil => exact .nil
  | cons k t _ ih => exact .cons (.int k t) ih
theorem ints_ne {prog : Program} {w : World} {A : Around} {E : Value → Shared → Prop} {s : Shared} {h₀ : Heap} {L : Addr} {news : List (Addr × Obj)} {Q : Value → Shared → Prop} {a b na nb : Nat} {xs ys : List Value} {ns ms : List Int} (N : News h₀ L s.heap news) (ma : (a, listOf xs.toArray na) ∈ news) (mb : (b, listOf ys.toArray nb) ∈ news) (ra : IntsAre xs ns) (rb : IntsAre ys ms)
    (e : ns = ms) (hu : A.units + 64 < cLine) (h : Q (.bool false) s) : wpAny (model prog w) A (compareOp .NotEq (.ref a) (.ref b)) Q E s := by
  subst e
  have hk : ∀ d ∈ ns.map Dat.int, kqdOk 8 d = true := fun d hd => by
    obtain ⟨k, _, rfl⟩ := List.mem_map.mp hd
    rfl
  refine kqd_ne (n₁ := []) (n₂ := []) N ma rfl rfl (ints_dat ra) (fun _ h => nomatch h) mb rfl rfl (ints_dat rb) (fun _ h => nomatch h) hk hk hu ?_
  simpa using h
theorem in_ints_no {prog : Program} {w : World} {A : Around} {E : Value → Shared → Prop} {s : Shared} {h₀ : Heap} {L : Addr} {news : List (Addr × Obj)} {Q : Value → Shared → Prop} {a na : Nat} {xs : List Value} {ns : List Int} {x : Int} {t : Tok} (N : News h₀ L s.heap news) (ma : (a, listOf xs.toArray na) ∈ news) (ra : IntsAre xs ns)
    (hx : x ∉ ns) (hu : A.units + 64 < cLine) (h : Q (.bool false) s) : wpAny (model prog w) A (compareOp .In (.int x t) (.ref a)) Q E s := by
  have hk : ∀ d ∈ ns.map Dat.int, kqdOk 8 d = true := fun d hd => by
    obtain ⟨k, _, rfl⟩ := List.mem_map.mp hd
    rfl
  refine kqd_isIn (n₁ := []) (n₂ := []) N ma rfl rfl (ints_dat ra) (fun _ h => nomatch h) (DatIn.int x t) (fun _ h => nomatch h) hk rfl hu ?_
  have : ¬ Dat.int x ∈ ns.map Dat.int := fun hm => by
    obtain ⟨k, hk, e⟩ := List.mem_map.mp hm
    injection e with e
    exact hx (e ▸ hk)
  simpa [this] using h
theorem rowsLwQ2 : True := by
  k_with "call type:set cons nil" => focus ((k_here; (with_reducible show wpAny _ _ (call (Value.type "set") [Value.ref _]) _ _ _); k_dflt (refine' sg_sorted_set ?_ ?_ ?_ ?_ ?_ ?_ ?_; (rotate_right 7; (focus (exact rfl)); (focus (k_asm)); (focus (k_asm)); (focus (k_mem)); (focus (assumption)); (focus (lia)); rotate_left 1)); intro S9 h' tk9 o9 g9 F' N' l9))
  k_with "call builtin:sorted" => focus ((k_here; (with_reducible show wpAny _ _ (call (Value.builtin "sorted") [Value.ref _]) _ _ _); (rename SetG _ _ _ _ _ => g9); k_dflt (refine' sg_sorted ?_ ?_ ?_ g9 ?_ ?_; (rotate_right 5; (focus (exact rfl)); (focus (k_asm)); (focus (k_asm)); (focus (exact Nat.le_trans (PyProof.Rows.firstMet_length_le _ _) (by lia))); rotate_left 1)); intro D9 s9 vs9 ns9 c9 i9 p9 q9 F' N' l9 sl9))
  k_with "compareOp NotEq ref ref" => focus ((k_here; k_dflt (refine' ints_ne ?_ ?_ ?_ ?_ ?_ ?_ ?_ ?_; (rotate_right 8; (focus (k_asm)); (focus (k_mem)); (focus (k_mem)); (focus (first | assumption | exact IntsAre.nil)); (focus (first | assumption | exact IntsAre.nil)); (focus (first | with_reducible exact held_eq (by assumption) (by assumption) (by assumption) (by assumption) | with_reducible rfl)); (focus (ke_room)); rotate_left 1))))
  k_with "compareOp In int ref" => focus ((k_here; k_dflt (refine' in_ints_no ?_ ?_ ?_ ?_ ?_ ?_; (rotate_right 6; (focus (k_asm)); (focus (k_mem)); (focus (assumption)); (focus (assumption)); (focus (ke_room)); rotate_left 1))))
  trivial
set_option maxRecDepth 100000 in
set_option maxHeartbeats 8000000 in
theorem st14 {w : World} {mean : ExcName → Option Value} {mg mb : Str → Option Value} {dp un : Nat} {gd : Option (List Code)} {a : Addr} {ccd : Value} {outer : List Env} {A₀ : Around} {base h₀ : Heap} {L : Addr} {m : Str → Option Value} {s : Shared} {E : Value → Shared → Prop} {Q : Flow → Shared → Prop} {RA nn H nh R nR : Nat} {p3 : Obj} {refs ws vs : List Value} {ns ns' : List Int} {news : List (Addr × Obj)}
    (B : Below A₀ base outer h₀) (X : (Mine.hd.heap_1 w.params).In h₀) (T : Top Mine.hd.view_1 (looseW Mine.hd.view_1 [Str.ofString "PaperError"]) mean mg mb h₀) (hd : dp < 310) (hu : un < 300) (F : Fr h₀ L s.heap m) (hm1 : m (Str.ofString "held") = some (.ref H)) (hm2 : m (Str.ofString "runs") = some (.ref RA)) (N : News h₀ L s.heap news) (hR : (RA, listOf refs.toArray nn) ∈ news) (rel : ListRel (PairIn news) refs (runsOf ns')) (hH : (H, listOf ws.toArray nh) ∈ news) (hw : IntsAre ws (flatR (runsOf ns')))
    (hc : (L + 1 + 1 + 1, p3) ∈ news) (d3 : p3.data = .cell (some (.ref R))) (hv : (R, listOf vs.toArray nR) ∈ news) (hi : IntsAre vs ns) (hl : ns.length ≤ 9) (hp : ns'.Perm ns) (hs : ns'.Pairwise (· ≤ ·)) (hn : refs.length ≤ 14)
    (hnext : ∀ s' : Shared, Still s s' → Fr h₀ L s'.heap m → News h₀ L s'.heap news → Q .next s') :
    wpAny (model PySem.Challenge.rw_nn0202_01.row.prog w) (ktrTop dp un gd (Str.ofString "law") lawScope L a ccd [(Str.ofString "numbers", L + 1 + 1 + 1), (Str.ofString "due", L + 1 + 1), (Str.ofString "pen", L + 1)] outer) (exec (stm 14) (envX (Str.ofString "law") lawScope L a ccd [(Str.ofString "numbers", L + 1 + 1 + 1), (Str.ofString "due", L + 1 + 1), (Str.ofString "pen", L + 1)])) Q E s := by
  obtain ⟨m, rfl⟩ := know2 hm1 hm2
  clear hm1 hm2
  have hvl : vs.length = ns.length := IntsAre.length hi
  conv in (stm _) => whnf
  conv in lawScope => whnf
  conv in lawScope => whnf
  dsimp only
  revert X
  k_fill
  intro X
  k_steps
  have N8 : ∀ {h : Heap} {a b : Addr × Obj}, News h₀ L h (a :: b :: news) → News h₀ L h news := fun N => cb_drop N fun p hp => .tail _ (.tail _ hp)
  refine' comp_intsT (IterW.list ?hh ?N1 hR) ?hle ?F ?N2 hR (fun _ => false) (fun _ => 0) ?turn ?done
  case hh => exact rfl
  case N1 => exact N8 (by assumption)
  case N2 => exact N8 (by assumption)
  case hle => lia
  case F => k_asm
  case turn =>
    intro i v ys I oI C oC R0 m₂ h tk E' hi' hv' hC hx off n1 n2 n3 F' N'
    obtain ⟨⟨b, k⟩, he, RR, t1, t2, rfl, hm1⟩ := rel.get hv'
    obtain ⟨hk1, hk2, hk3⟩ := runs_apart hs (List.mem_of_getElem? he)
    have hk4 : b + k ∉ ns := fun q => hk2 (hp.mem_iff.mpr q)
    have hk5 : b - 1 ∉ ns := fun q => hk3 (hp.mem_iff.mpr q)
    simp only at hk1
    clear hk2 hk3
    have N9 : News _ _ h ((RR, tupO [.int b t1, .int k t2]) :: (R, listOf vs.toArray nR) :: (L + 1 + 1 + 1, p3) :: (I, oI) :: (C, oC) :: (R0, LCg.lst ys) :: news) := cb_drop N' (fun p hp => by
      simp only [List.mem_cons] at hp ⊢
      rcases hp with rfl | rfl | rfl | hp
      · exact .inr (.inr (.inr hm1))
      · exact .inr (.inr (.inr hv))
      · exact .inr (.inr (.inr hc))
      · exact hp)
    clear N'
    k_steps
    refine' ⟨rfl, _, _, _, rfl, ?zF, ?zN, fun p hp => hp⟩
    case zF => k_asm
    case zN => exact cb_drop N9 (by kcj_all)
  case done =>
    intro ys hg hI D' h' tk' F' N' o1'
    have e0 : ((List.range refs.length).filter fun _ => false) = [] := List.filter_eq_nil_iff.mpr fun _ _ => Bool.false_ne_true
    rw [e0] at hI
    have hI2 : IntsAre ys [] := hI
    clear hI
    k_steps
    refine' hnext _ ?zS ?zF ?zN
    case zS => (rename Still _ _ => sl8); exact ⟨sl8.1, sl8.2⟩
    case zF => k_asm
    case zN => exact N8 (by assumption)
end
section
theorem rowsLwR1 : True := by
  k_with_none
  k_with "pen_at" => focus (first | with_reducible assumption | (refine' PenAt.head ?_ ?_ ?_; (rotate_right 3; (focus (first | with_reducible assumption | k_ne)); (focus (k_all)); (focus (k_all)))) | (refine' PenAt.tail ?_ ?_ ?_; (rotate_right 1; (focus (walk_at "pen_at"))); (rotate_right 2; (focus (k_ne)); (focus (k_ne)))))
  k_with "room" => focus (first | lia | (dsimp only [ktrTop, Around.deeper]; lia))
  k_with "enterC" => focus ((refine' code_defC ?_ ?_ ?_ ?_ ?_ ?_ ?_ ?_ ?_ ?_ ?_ ?_ ?_ ?_ ?_ ?_ ?_ ?_; (rotate_right 13; (focus (exact rfl)); (focus (exact rfl)); (focus (first | exact rfl | assumption)); rotate_left 10); (rotate_right 15; (focus (k_asm)); (focus (k_asm)); (focus (k_asm)); (focus (k_asm)); (focus (k_asm)); (focus (k_is)); (focus (k_is)); (focus (k_room)); (focus (exact BindsTo.of_eq rfl)); (focus (exact rfl)); (focus (decide +kernel)); rotate_left 4); (rotate_right 3; (focus (exact rfl)); (focus (exact rfl)); (focus (exact rfl))); k_whole; intro g' L' h' tk' cells' FG' F' N' Y' B' X' T' l1; (try k_lt l1); k_cells Y'; (try simp only [List.cons_append, List.nil_append] at N'); (try dsimp only); (try k_lift B'); (try k_fold)))
  k_with "eval Name" => focus ((k_here; (with_reducible show wpAny _ _ (eval (Expr.Name _ _) (compEnvC _ _ _ _)) _ _ _); k_dflt (first | (refine' lcf_cell ?_ ?_ ?_ ?_ ?_ ?_ ?_; (rotate_right 1; (focus (rfl))); (rotate_right 1; (focus (rfl))); (rotate_right 5; (focus (k_asm)); (focus (rfl)); (focus (k_mem)); (focus (k_asm)); rotate_left 1); k_whole) | (refine' lcf_free ?_ ?_ ?_ ?_ ?_ ?_ ?_; (rotate_right 1; (focus (rfl))); (rotate_right 1; (focus (rfl))); (rotate_right 5; (focus (k_asm)); (focus (rfl)); (focus (k_mem)); (focus (k_asm)); rotate_left 1); k_whole) | refine LCgL.ld_global (by k_asm) (by k_asm) (by k_asm) (by k_is) ?_)))
  k_with "exec For Name Name cons nil" => focus ((k_here; (rename Fr _ _ _ _ => lF'); (with_unfolding_all refine' For_invVF lF' ?_ ?_ ?_; (rotate_right 3; (focus (exact rfl)); (focus (exact rfl)); rotate_left 1); k_whole)))
  k_with "exec For Name Call cons nil" => focus ((k_here; (rename Fr _ _ _ _ => lF'); (with_unfolding_all refine' For_invVF lF' ?_ ?_ ?_; (rotate_right 3; (focus (exact rfl)); (focus (exact rfl)); rotate_left 1); k_whole)))
  k_with "call ref" => focus (((with_reducible show wpAny _ _ (call (Value.ref 256) _) _ _ _); k_dflt (refine' draw_ok ?_ ?_ ?_ ?_ ?_ ?_ ?_ ?_ ?_ ?_ ?_; (rotate_right 11; (focus (k_asm)); (focus (k_asm)); (focus (k_asm)); (focus (k_asm)); (focus (k_asm)); (focus (first | exact rfl | assumption)); (focus (walk_at "pen_at")); (focus (first | decide | lia)); (focus (walk_at "room")); (focus (walk_at "room")); rotate_left 1)); intro r9 t9 y9 h' tk9 lo9 hi9 F' N'; (try dsimp only at N'); (try k_sweep)))
  k_with "call ref" => focus (((with_reducible show wpAny _ _ (call (Value.ref 263) _) _ _ _); k_dflt (refine' pick_ok ?_ ?_ ?_ ?_ ?_ ?_ ?_ ?_ ?_ ?_ ?_ ?_ ?_ ?_ ?_; (rotate_right 15; (focus (k_asm)); (focus (k_asm)); (focus (k_asm)); (focus (k_asm)); (focus (k_asm)); (focus (first | exact rfl | assumption)); (focus (walk_at "pen_at")); (focus (k_mem)); (focus (k_ne)); (focus (k_ne)); (focus ((simp only [List.length_cons, List.length_nil]; lia))); (focus ((simp only [List.length_cons, List.length_nil]; lia))); (focus (walk_at "room")); (focus (walk_at "room")); rotate_left 1)); intro v9 y9 h' tk9 m9 F' N'; (try k_dflt (have q9 := pick_str4 m9; obtain ⟨w9, tw9, e9, ow9⟩ := q9; subst e9; clear m9)); (try dsimp only at N'); (try k_sweep)))
  k_with "eval ListComp" => focus ((k_here; first | (with_reducible refine' ListComp_W ?_ ?_ ?_ ?_ ?_ ?_ ?_ ?_; (rotate_right 8; (focus (k_asm)); (focus (with_unfolding_all rfl)); (focus (decide)); (focus (with_unfolding_all rfl)); (focus (decide)); (focus (with_unfolding_all rfl)); rotate_left 2); (rotate_right 1; (focus ((intro _; with_unfolding_all rfl))))) | (with_reducible refine' ListComp_WT ?_ ?_ ?_ ?_ ?_ ?_ ?_ ?_; (rotate_right 8; (focus (k_asm)); (focus (with_unfolding_all rfl)); (focus (decide)); (focus (with_unfolding_all rfl)); (focus (decide)); (focus (with_unfolding_all rfl)); rotate_left 2); (rotate_right 1; (focus ((intro _; with_unfolding_all rfl)))))))
  k_with "exec Assign cons ListComp" => focus ((k_here; k_dflt (first | refine Assign_ListComp_WT (_F₀ := by k_asm) (by rfl) (by with_unfolding_all rfl) (by with_unfolding_all rfl) (by decide) (by rfl) (by decide) (by rfl) (by rfl) (by rfl) ?_ | refine Assign_ListComp_W (_F₀ := by k_asm) (by rfl) (by with_unfolding_all rfl) (by with_unfolding_all rfl) (by decide) (by rfl) (by decide) (by rfl) (by rfl) (by rfl) ?_ | refine wpAny_Assign_Name ?_)))
  k_with "exec Assign cons ListComp" => focus ((k_here; k_dflt (first | (with_reducible refine' Assign_ListComp_W ?_ ?_ ?_ ?_ ?_ ?_ ?_ ?_ ?_ ?_ ?_ ?_; (rotate_right 12; (focus (k_asm)); (focus (with_unfolding_all rfl)); rotate_left 10); (rotate_right 9; (focus (with_unfolding_all rfl)); (focus (decide)); (focus (with_unfolding_all rfl)); (focus (decide)); (focus (with_unfolding_all rfl)); (focus (with_unfolding_all rfl)); (focus (with_unfolding_all rfl)); rotate_left 2); (rotate_right 1; (focus ((intro _; with_unfolding_all rfl)))); (rotate_right 2; (focus (with_unfolding_all rfl)); rotate_left 1)) | (with_reducible refine' Assign_ListComp_WT ?_ ?_ ?_ ?_ ?_ ?_ ?_ ?_ ?_ ?_ ?_ ?_; (rotate_right 12; (focus (k_asm)); (focus (with_unfolding_all rfl)); rotate_left 10); (rotate_right 9; (focus (with_unfolding_all rfl)); (focus (decide)); (focus (with_unfolding_all rfl)); (focus (decide)); (focus (with_unfolding_all rfl)); (focus (with_unfolding_all rfl)); (focus (with_unfolding_all rfl)); rotate_left 2); (rotate_right 1; (focus ((intro _; with_unfolding_all rfl)))); (rotate_right 2; (focus (with_unfolding_all rfl)); rotate_left 1)) | (with_reducible refine wpAny_Assign_Name ?_))))
  k_with "menu_int" => focus (repeat' (first | exact all_nil | (refine all_cons ?_ ?_) | (refine IntTo.mk' ?_ ?_ <;> first | lia | decide +kernel)))
  k_with "call ref" => focus (((with_reducible show wpAny _ _ (call (Value.ref 263) _) _ _ _); k_dflt (refine' pick_ok ?_ ?_ ?_ ?_ ?_ ?_ ?_ ?_ ?_ ?_ ?_ ?_ ?_ ?_ ?_; (rotate_right 15; (focus (k_asm)); (focus (k_asm)); (focus (k_asm)); (focus (k_asm)); (focus (k_asm)); (focus (first | exact rfl | assumption)); (focus (walk_at "pen_at")); (focus (k_mem)); (focus (k_ne)); (focus (k_ne)); (focus ((simp only [List.length_cons, List.length_nil]; lia))); (focus ((simp only [List.length_cons, List.length_nil]; lia))); (focus (walk_at "room")); (focus (walk_at "room")); rotate_left 1)); intro v9 y9 h' tk9 m9 F' N'; (try k_dflt (refine pick_elim (P := IntTo 1000) m9 ?_ ?_; (rotate_right 2; (focus (walk_at "menu_int")); rotate_left 1); intro q9; obtain ⟨i9, ti9, e9, lo9, hi9⟩ := q9; subst e9; clear m9)); (try dsimp only at N'); (try k_sweep)))
  k_with "WIf" => focus (first | (refine WIf.yes rfl ?_) | (refine WIf.no rfl ?_) | (refine WIf.dec ?_ ?_ <;> intro))
  trivial
structure TuSt where
  y : PenSt
  v : Option Value
noncomputable def TuInv (i : Nat) (c : TuSt) : Prop := i = 0 ∨ ∃ (b : Array UInt8) (tb : Tok), c.v = some (.bytes b tb) ∧ b.size ≤ 190
theorem turns_loop {prog : Program} {w : World} {A : Around} {E : Value → Shared → Prop} {s : Shared} {env : Env} {h₀ : Heap} {x z₁ : Str} {body : List Stmt} {Q : Flow → Shared → Prop} {r pa la : Nat} {t u v : Tok} {y : PenSt} {m₀ : Str → Option Value} {imm : List (Addr × Obj)}
    (hh : A.handled = none) (hr : IsRange s.heap r 0 2 1 t u v) (hop : ∀ p ∈ imm, p.1 ≠ pa) (hol : ∀ p ∈ imm, p.1 ≠ la)
    (F : Fr h₀ env.locals s.heap m₀) (N : News h₀ env.locals s.heap ((pa, penA la y) :: (la, penB y) :: imm))
    (turn : ∀ (c : TuSt) (tt : Tok) (i : Int) I h tk oI, (∀ p ∈ (I, oI) :: imm, p.1 ≠ pa) → (∀ p ∈ (I, oI) :: imm, p.1 ≠ la) → (∀ p ∈ imm, p.1 ≠ I) →
      Fr h₀ env.locals h (fun z => if z = x then some (.int i tt) else if z = z₁ then c.v else m₀ z) → News h₀ env.locals h ((pa, penA la c.y) :: (la, penB c.y) :: (I, oI) :: imm) →
      wpAny (model prog w) A (execs body env) (LPost h₀ env.locals x (fun (c : TuSt) z => if z = z₁ then c.v else m₀ z) (fun c : TuSt => (pa, penA la c.y) :: (la, penB c.y) :: imm) (TuInv 1) I oI { s with heap := h, toks := tk } Q) E { s with heap := h, toks := tk })
    (done : ∀ (b : Array UInt8) (tb : Tok) (y' : PenSt) (u : Option Value) h tk, b.size ≤ 190 → Fr h₀ env.locals h (fun z => if z = x then u else if z = z₁ then some (.bytes b tb) else m₀ z) → News h₀ env.locals h ((pa, penA la y') :: (la, penB y') :: imm) → Q .next { s with heap := h, toks := tk }) :
    wpAny (model prog w) A (pyIter (.ref r)) (fun it s₂ => LoopAtV prog w A h₀ env x body Q E it s₂) E s := by
  refine lp_range (n := 2) (fun (c : TuSt) z => if z = z₁ then c.v else m₀ z) (fun c : TuSt => (pa, penA la c.y) :: (la, penB c.y) :: imm) (fun i c => TuInv i c) ⟨y, m₀ z₁⟩ hh hr (by decide) (by decide) F N ?_ (fun p hp => hp) (.inl rfl) ?_ ?_
  · intro z _
    by_cases e : z = z₁
    · simp only [e, if_true]
    · simp only [e, if_false]
  · intro i tt c I h tk oI hi hv ho F' N'
    have h1 : pa ≠ I := ho (pa, penA la c.y) (.head _)
    have h2 : la ≠ I := ho (la, penB c.y) (.tail _ (.head _))
    refine wpAny_mono (turn c tt _ I h tk oI (fun p hp => ?_) (fun p hp => ?_) (fun p hp => ho p (.tail _ (.tail _ hp))) F' (cb_drop N' fun p hp => ?_)) (fun f s₂ q => LPost.mono q ?_) fun _ _ q => q
    · rcases List.mem_cons.mp hp with rfl | hp
      · exact Ne.symm h1
      · exact hop p hp
    · rcases List.mem_cons.mp hp with rfl | hp
      · exact Ne.symm h2
      · exact hol p hp
    · simp only [List.mem_cons] at hp ⊢
      rcases hp with hp | hp | hp | hp <;> simp [hp]
    · rintro c' (q | q)
      · exact absurd q (by decide)
      · exact .inr q
  · rintro ⟨y', v'⟩ u h tk hv F' N'
    rcases hv with q | ⟨b, tb, rfl, hb⟩
    · exact absurd q (by decide)
    · exact done b tb y' u h tk hb F' N'
theorem tu_e1 {h₀ h : Heap} {L : Addr} {m₀ : Str → Option Value} {x z₁ : Str} {imm : List (Addr × Obj)} {I pa la R1 R2 tk : Nat} {oI r1 r2 : Obj} {y : PenSt} {b : Array UInt8} {tb : Tok} {s₁ : Shared} {Q : Flow → Shared → Prop} {w1 u : Option Value}
    (hb : b.size ≤ 190) (F : Fr h₀ L h (fun y => if y = z₁ then some (.bytes b tb) else if y = x then w1 else if y = z₁ then u else m₀ y))
    (N : News h₀ L h ((R2, r2) :: (R1, r1) :: (pa, penA la y) :: (la, penB y) :: (I, oI) :: imm)) (n1 : ∀ p ∈ (I, oI) :: imm, p.1 ≠ pa) (n2 : ∀ p ∈ (I, oI) :: imm, p.1 ≠ la) (n3 : ∀ p ∈ imm, p.1 ≠ I) :
    LPost h₀ L x (fun (c : TuSt) z => if z = z₁ then c.v else m₀ z) (fun c : TuSt => (pa, penA la c.y) :: (la, penB c.y) :: imm) (TuInv 1) I oI s₁ Q .next { s₁ with heap := h, toks := tk } := by
  refine LEnd.intro ⟨y, some (.bytes b tb)⟩ F N (.tail _ (.tail _ (.tail _ (.tail _ (.head _))))) ?_ ?_ ?_ (.inr ⟨b, tb, rfl, hb⟩)
  · intro p hp
    simp only [List.mem_cons] at hp ⊢
    rcases hp with h | h | h <;> simp [h]
  · intro p hp
    simp only [List.mem_cons] at hp
    rcases hp with rfl | rfl | hp
    · exact Ne.symm (n1 (I, oI) (.head _))
    · exact Ne.symm (n2 (I, oI) (.head _))
    · exact n3 p hp
  · intro z hz
    by_cases e : z = z₁
    · simp only [e, if_true]
    · simp only [e, hz, if_false]
theorem dat_ne {prog : Program} {w : World} {A : Around} {E : Value → Shared → Prop} {s : Shared} {h₀ : Heap} {L : Addr} {news : List (Addr × Obj)} {Q : Value → Shared → Prop} {a b : Value} {d : Dat} (N : News h₀ L s.heap news) (da : DatIn news a d) (db : DatIn news b d) (hk : kqdOk 8 d = true) (hu : A.units + 64 < cLine) (h : Q (.bool false) s) :
    wpAny (model prog w) A (compareOp .NotEq a b) Q E s := by
  obtain ⟨as, ra⟩ := kqd_in N 8 da hk
  obtain ⟨bs, rb⟩ := kqd_in N 8 db hk
  have hl := kqd_lay 8 d hk
  have hs : SeqAt.shaped (kqdP d) = true := by
    unfold SeqAt.shaped
    rw [hl.1, Bool.true_and]
    exact decide_eq_true (Nat.le_trans hl.2 (by decide))
  exact ne_dataH ra rb hs hs hu (by rw [(kqd_eqv 8 _ _ 8 hk hk).mpr rfl]; exact h)
noncomputable def datO (o : Option Int) : Dat := match o with
  | none => .none
  | some n => .int n
theorem optv_dat {l : List (Addr × Obj)} {v : Value} {o : Option Int} (h : OptV v o) : DatIn l v (datO o) := by
  cases o with
  | none => rw [show v = .none from h]; exact .none
  | some n => obtain ⟨t, rfl⟩ := h; exact .int n t
theorem start_ne {prog : Program} {w : World} {A : Around} {E : Value → Shared → Prop} {s : Shared} {h₀ : Heap} {L : Addr} {news : List (Addr × Obj)} {Q : Value → Shared → Prop} {a b : Nat} {va vb : Value} {ka kb : Int} {ta tb : Tok} {o : Option Int} {k : Int} (N : News h₀ L s.heap news) (ma : (a, tupO [va, .int ka ta]) ∈ news) (mb : (b, tupO [vb, .int kb tb]) ∈ news) (oa : OptV va o) (ob : OptV vb o) (ea : ka = k) (eb : kb = k) (hu : A.units + 64 < cLine) (h : Q (.bool false) s) :
    wpAny (model prog w) A (compareOp .NotEq (.ref a) (.ref b)) Q E s := by
  subst ea
  subst eb
  exact dat_ne (d := .tuple [datO o, .int _]) N (.tuple ma (.cons (optv_dat oa) (.cons (.int _ _) .nil))) (.tuple mb (.cons (optv_dat ob) (.cons (.int _ _) .nil))) (by cases o <;> rfl) hu h
theorem rowsLwR2 : True := by
  k_with "call ref" => focus (((with_reducible show wpAny _ _ (call (Value.ref 282) _) _ _ _); k_dflt (refine' text_ok ?_ ?_ ?_ ?_ ?_ ?_ ?_ ?_ ?_ ?_ ?_ ?_; (rotate_right 12; (focus (k_asm)); (focus (k_asm)); (focus (k_asm)); (focus (k_asm)); (focus (k_asm)); (focus (first | exact rfl | assumption)); (focus (assumption)); (focus (assumption)); (focus (assumption)); (focus (walk_at "room")); (focus (walk_at "room")); rotate_left 1)); intro b9 tb9 y9 h' tk9 z9 F' N'))
  k_with "call ref" => focus (((with_reducible show wpAny _ _ (call (Value.ref 287) _) _ _ _); k_dflt (refine' start_ok ?_ ?_ ?_ ?_ ?_ ?_ rfl ?_ ?_ ?_ ?_ ?_; (rotate_right 11; (focus (k_asm)); (focus (k_asm)); (focus (k_asm)); (focus (k_asm)); (focus (k_asm)); (focus (first | exact rfl | assumption)); (focus ((rw [KBw.ints_length]; lia))); (focus (rw [KBw.ints_length])); (focus (walk_at "room")); (focus (walk_at "room")); rotate_left 1)); intro R9 v9 k9 t9 h' tk9 o9 e9 F' N' l9))
  k_with "call ref" => focus (((with_reducible show wpAny _ _ (call (Value.ref 294) _) _ _ _); k_dflt (refine' heard_ok ?_ ?_ ?_ ?_ ?_ ?_ ?_ ?_ rfl ?_ ?_ ?_ ?_ ?_; (rotate_right 13; (focus (k_asm)); (focus (k_asm)); (focus (k_asm)); (focus (k_asm)); (focus (k_asm)); (focus (assumption)); (focus (assumption)); (focus (first | exact rfl | assumption)); (focus ((rw [KBw.ints_length]; lia))); (focus (rw [KBw.ints_length])); (focus (walk_at "room")); (focus (walk_at "room")); rotate_left 1)); intro R9 v9 k9 t9 h' tk9 o9 e9 F' N' l9))
  k_with "exec For Name Call cons nil" => focus ((k_here; (rename Fr _ _ _ _ => lF'); (with_unfolding_all refine' For_invVF lF' ?_ ?_ ?_ ?_ ?_; (rotate_right 5; (focus (exact rfl)); (focus (exact rfl)); rotate_left 3); (rotate_right 2; (focus (exact fun _ => rfl)); (focus (assumption))); k_whole)))
  k_with "my pyIter ref" => focus ((k_here; (rename IsRange _ _ _ _ _ _ _ _ => R'); k_dflt (refine' turns_loop (z₁ := Str.ofString "data") ?_ R' ?_ ?_ ?_ ?_ ?_ ?_; (rotate_right 7; (focus (exact rfl)); rotate_left 6); (rotate_right 4; (focus (k_asm)); (focus (k_asm)); rotate_left 2); (rotate_right 4; (focus (assumption)); (focus (assumption)); rotate_left 2)); (all_goals intros)))
  k_with "compareOp NotEq ref ref" => focus ((k_here; k_dflt (refine' start_ne ?_ ?_ ?_ ?_ ?_ ?_ ?_ ?_ ?_; (rotate_right 9; (focus (k_asm)); (focus (k_mem)); (focus (k_mem)); (focus (assumption)); (focus (assumption)); (focus (assumption)); (focus (assumption)); (focus (ke_room)); rotate_left 1))))
  trivial
set_option maxRecDepth 100000 in
set_option maxHeartbeats 8000000 in
theorem st15 {w : World} {mean : ExcName → Option Value} {mg mb : Str → Option Value} {dp un : Nat} {gd : Option (List Code)} {a : Addr} {ccd : Value} {outer : List Env} {A₀ : Around} {base h₀ : Heap} {L : Addr} {m : Str → Option Value} {s : Shared} {E : Value → Shared → Prop} {Q : Flow → Shared → Prop} {pa la : Nat} {y : PenSt} {p1 : Obj} {imm : List (Addr × Obj)}
    (B : Below A₀ base outer h₀) (X : (Mine.hd.heap_1 w.params).In h₀) (T : Top Mine.hd.view_1 (looseW Mine.hd.view_1 [Str.ofString "PaperError"]) mean mg mb h₀) (hd : dp < 310) (hu : un < 300) (F : Fr h₀ L s.heap m) (hE : PassesOwn (model PySem.Challenge.rw_nn0202_01.row.prog w) (ktrTop dp un gd (Str.ofString "law") lawScope L a ccd [(Str.ofString "numbers", L + 1 + 1 + 1), (Str.ofString "due", L + 1 + 1), (Str.ofString "pen", L + 1)] outer) (envX (Str.ofString "law") lawScope L a ccd [(Str.ofString "numbers", L + 1 + 1 + 1), (Str.ofString "due", L + 1 + 1), (Str.ofString "pen", L + 1)]) E) (ho : outer = []) (XB : (Mine.hd.heap_1 w.params).In base) (TB : Top Mine.hd.view_1 (looseW Mine.hd.view_1 [Str.ofString "PaperError"]) mean mg mb base) (hpl : pa ≠ la) (hop : ∀ p ∈ imm, p.1 ≠ pa) (hol : ∀ p ∈ imm, p.1 ≠ la) (hc : (L + 1, p1) ∈ imm) (d1 : p1.data = .cell (some (.ref pa)))
    (N : News h₀ L s.heap ((pa, penA la y) :: (la, penB y) :: imm))
    (hnext : ∀ (b : Array UInt8) (tb : Tok) (y' : PenSt) (u : Option Value) h' tk', b.size ≤ 190 → Fr h₀ L h' (fun z => if z = Str.ofString "turn" then u else if z = Str.ofString "data" then some (.bytes b tb) else m z) → News h₀ L h' ((pa, penA la y') :: (la, penB y') :: imm) → Q .next { s with heap := h', toks := tk' }) :
    wpAny (model PySem.Challenge.rw_nn0202_01.row.prog w) (ktrTop dp un gd (Str.ofString "law") lawScope L a ccd [(Str.ofString "numbers", L + 1 + 1 + 1), (Str.ofString "due", L + 1 + 1), (Str.ofString "pen", L + 1)] outer) (exec (stm 15) (envX (Str.ofString "law") lawScope L a ccd [(Str.ofString "numbers", L + 1 + 1 + 1), (Str.ofString "due", L + 1 + 1), (Str.ofString "pen", L + 1)])) Q E s := by
  subst ho
  conv in (stm _) => whnf
  conv in lawScope => whnf
  conv in lawScope => whnf
  dsimp only
  revert X
  k_fill
  intro X
  k_steps
  all_goals first
    | (refine' tu_e1 (x := Str.ofString "turn") (z₁ := Str.ofString "data") ?zb ?zF ?zN ?z1 ?z2 ?z3; (case zN => k_asm); (case zF => k_asm); (case zb => assumption); (case z1 => assumption); (case z2 => assumption); (case z3 => assumption))
    | (refine' hnext _ _ _ _ _ _ ?zb ?zF ?zN; (case zN => k_asm); (case zF => k_asm); (case zb => assumption))
end
section
theorem rowsLwS1 : True := by
  k_with_none
  k_with "pen_at" => focus (first | with_reducible assumption | (refine' PenAt.head ?_ ?_ ?_; (rotate_right 3; (focus (first | with_reducible assumption | k_ne)); (focus (k_all)); (focus (k_all)))) | (refine' PenAt.tail ?_ ?_ ?_; (rotate_right 1; (focus (walk_at "pen_at"))); (rotate_right 2; (focus (k_ne)); (focus (k_ne)))))
  k_with "room" => focus (first | lia | (dsimp only [ktrTop, Around.deeper]; lia))
  k_with "enterC" => focus ((refine' code_defC ?_ ?_ ?_ ?_ ?_ ?_ ?_ ?_ ?_ ?_ ?_ ?_ ?_ ?_ ?_ ?_ ?_ ?_; (rotate_right 13; (focus (exact rfl)); (focus (exact rfl)); (focus (first | exact rfl | assumption)); rotate_left 10); (rotate_right 15; (focus (k_asm)); (focus (k_asm)); (focus (k_asm)); (focus (k_asm)); (focus (k_asm)); (focus (k_is)); (focus (k_is)); (focus (k_room)); (focus (exact BindsTo.of_eq rfl)); (focus (exact rfl)); (focus (decide +kernel)); rotate_left 4); (rotate_right 3; (focus (exact rfl)); (focus (exact rfl)); (focus (exact rfl))); k_whole; intro g' L' h' tk' cells' FG' F' N' Y' B' X' T' l1; (try k_lt l1); k_cells Y'; (try simp only [List.cons_append, List.nil_append] at N'); (try dsimp only); (try k_lift B'); (try k_fold)))
  k_with "eval Name" => focus ((k_here; (with_reducible show wpAny _ _ (eval (Expr.Name _ _) (compEnvC _ _ _ _)) _ _ _); k_dflt (first | (refine' lcf_cell ?_ ?_ ?_ ?_ ?_ ?_ ?_; (rotate_right 1; (focus (rfl))); (rotate_right 1; (focus (rfl))); (rotate_right 5; (focus (k_asm)); (focus (rfl)); (focus (k_mem)); (focus (k_asm)); rotate_left 1); k_whole) | (refine' lcf_free ?_ ?_ ?_ ?_ ?_ ?_ ?_; (rotate_right 1; (focus (rfl))); (rotate_right 1; (focus (rfl))); (rotate_right 5; (focus (k_asm)); (focus (rfl)); (focus (k_mem)); (focus (k_asm)); rotate_left 1); k_whole) | refine LCgL.ld_global (by k_asm) (by k_asm) (by k_asm) (by k_is) ?_)))
  k_with "exec For Name Name cons nil" => focus ((k_here; (rename Fr _ _ _ _ => lF'); (with_unfolding_all refine' For_invVF lF' ?_ ?_ ?_; (rotate_right 3; (focus (exact rfl)); (focus (exact rfl)); rotate_left 1); k_whole)))
  k_with "exec For Name Call cons nil" => focus ((k_here; (rename Fr _ _ _ _ => lF'); (with_unfolding_all refine' For_invVF lF' ?_ ?_ ?_; (rotate_right 3; (focus (exact rfl)); (focus (exact rfl)); rotate_left 1); k_whole)))
  k_with "call ref" => focus (((with_reducible show wpAny _ _ (call (Value.ref 256) _) _ _ _); k_dflt (refine' draw_ok ?_ ?_ ?_ ?_ ?_ ?_ ?_ ?_ ?_ ?_ ?_; (rotate_right 11; (focus (k_asm)); (focus (k_asm)); (focus (k_asm)); (focus (k_asm)); (focus (k_asm)); (focus (first | exact rfl | assumption)); (focus (walk_at "pen_at")); (focus (first | decide | lia)); (focus (walk_at "room")); (focus (walk_at "room")); rotate_left 1)); intro r9 t9 y9 h' tk9 lo9 hi9 F' N'; (try dsimp only at N'); (try k_sweep)))
  k_with "call ref" => focus (((with_reducible show wpAny _ _ (call (Value.ref 263) _) _ _ _); k_dflt (refine' pick_ok ?_ ?_ ?_ ?_ ?_ ?_ ?_ ?_ ?_ ?_ ?_ ?_ ?_ ?_ ?_; (rotate_right 15; (focus (k_asm)); (focus (k_asm)); (focus (k_asm)); (focus (k_asm)); (focus (k_asm)); (focus (first | exact rfl | assumption)); (focus (walk_at "pen_at")); (focus (k_mem)); (focus (k_ne)); (focus (k_ne)); (focus ((simp only [List.length_cons, List.length_nil]; lia))); (focus ((simp only [List.length_cons, List.length_nil]; lia))); (focus (walk_at "room")); (focus (walk_at "room")); rotate_left 1)); intro v9 y9 h' tk9 m9 F' N'; (try k_dflt (have q9 := pick_str4 m9; obtain ⟨w9, tw9, e9, ow9⟩ := q9; subst e9; clear m9)); (try dsimp only at N'); (try k_sweep)))
  k_with "WIf" => focus (first | (refine WIf.yes rfl ?_) | (refine WIf.no rfl ?_) | (refine WIf.dec ?_ ?_ <;> intro))
  trivial
noncomputable def digI (m : Nat) : List Int := ((Nat.toDigits 10 m).map Char.toNat).map fun k => (k.toUInt8.toNat : Int)
theorem digI_ok : ∀ m, m < 191 → ((digI m).all isFig = true ∧ (digI m).isEmpty = false) ∧ ((digI m).length ≤ 20 ∧ dval 0 (digI m) = (m : Int)) := by decide +kernel
theorem enc_list {m : Nat} : (BY.enc (PySem.Str.ofString (toString (m : Int)))).toList = ((Nat.toDigits 10 m).map Char.toNat).map Nat.toUInt8 := by
  have h := BY.intS_cps (i := (m : Int)) (Int.natCast_nonneg m)
  unfold BY.enc
  rw [h]
  simp
theorem tail_list {m : Nat} : (tailB (m : Int)).toList = 115 :: ([116, 97, 114, 116, 120, 114, 101, 102, 10] ++ ((Nat.toDigits 10 m).map Char.toNat).map Nat.toUInt8 ++ [10, 37, 37, 69, 79, 70, 10]) := by
  unfold tailB
  simp only [Array.toList_append, enc_list]
  simp
theorem no_s {m : Nat} (hm : m < 191) : ∀ x ∈ ([116, 97, 114, 116, 120, 114, 101, 102, 10] ++ ((Nat.toDigits 10 m).map Char.toNat).map Nat.toUInt8 ++ [10, 37, 37, 69, 79, 70, 10] : List UInt8), x ≠ 115 := by
  intro x hx e
  subst e
  rcases List.mem_append.mp hx with hx | hx
  · rcases List.mem_append.mp hx with hx | hx
    · revert hx; decide
    · have h1 := (digI_ok m hm).1.1
      have h2 : (115 : Int) ∈ digI m := by
        unfold digI
        obtain ⟨k, hk, e⟩ := List.mem_map.mp hx
        refine List.mem_map.mpr ⟨k, hk, ?_⟩
        rw [e]
        decide
      have := List.all_eq_true.mp h1 _ h2
      exact absurd this (by decide)
  · revert hx; decide
theorem word_app {b : Array UInt8} {m i : Nat} (hi : i < (b ++ tailB (m : Int)).size) : wordAt (b ++ tailB (m : Int)) i = (((b.toList ++ (tailB (m : Int)).toList).drop i).take 9 == wordS.toList) := by
  rw [wordAt_eq hi, Array.toList_append]
theorem rfd_tail {b : Array UInt8} {m : Nat} (hm : m < 191) : BY.rfd (b ++ tailB (m : Int)) wordS = (b.size : Int) := by
  have hsz : (b ++ tailB (m : Int)).size = b.size + (tailB (m : Int)).size := Array.size_append
  have ht : 0 < (tailB (m : Int)).size := by rw [← Array.length_toList, tail_list]; simp
  rw [rfd_begs]
  unfold begs
  obtain ⟨k, hk⟩ : ∃ k, (b ++ tailB (m : Int)).size = b.size + 1 + k := ⟨(tailB (m : Int)).size - 1, by lia⟩
  rw [hk, List.range_add, List.filter_append, List.range_succ, List.filter_append]
  have h1 : [b.size].filter (wordAt (b ++ tailB (m : Int))) = [b.size] := by
    refine List.filter_cons_of_pos ?_
    rw [word_app (by lia)]
    have e : (b.toList ++ (tailB (m : Int)).toList).drop b.size = (tailB (m : Int)).toList := by
      rw [← Array.length_toList, List.drop_left]
    rw [e, tail_list]
    rfl
  have h2 : ((List.range k).map fun x => b.size + 1 + x).filter (wordAt (b ++ tailB (m : Int))) = [] := by
    refine List.filter_eq_nil_iff.mpr fun i hi hw => ?_
    obtain ⟨j, hj, rfl⟩ := List.mem_map.mp hi
    have hj' := List.mem_range.mp hj
    rw [word_app (by lia)] at hw
    have e : (b.toList ++ (tailB (m : Int)).toList).drop (b.size + 1 + j) = (tailB (m : Int)).toList.drop (1 + j) := by
      rw [show b.size + 1 + j = b.toList.length + (1 + j) by rw [Array.length_toList]; lia, List.drop_append]
      simp
    rw [e, tail_list, show 1 + j = j + 1 by lia, List.drop_succ_cons] at hw
    have hw' := beq_iff_eq.mp hw
    generalize hl : ([116, 97, 114, 116, 120, 114, 101, 102, 10] ++ ((Nat.toDigits 10 m).map Char.toNat).map Nat.toUInt8 ++ [10, 37, 37, 69, 79, 70, 10] : List UInt8) = l at hw'
    have hmem : (115 : UInt8) ∈ (l.drop j).take 9 := by rw [hw']; decide
    exact no_s hm 115 (by rw [hl]; exact List.mem_of_mem_drop (List.mem_of_mem_take hmem)) rfl
  rw [h1, h2]
  simp
theorem tail_ints {b : Array UInt8} {m : Nat} : KBw.bInts (b ++ tailB (m : Int)) = KBw.bInts b ++ ([115, 116, 97, 114, 116, 120, 114, 101, 102] ++ (10 :: (digI m ++ [10, 37, 37, 69, 79, 70, 10]))) := by
  unfold KBw.bInts
  rw [Array.toList_append, List.map_append, tail_list]
  congr 1
  unfold digI
  simp
theorem take_figs {l : List Int} (h : l.all isFig = true) (r : List Int) : figs (l ++ 10 :: r) = l := by
  unfold figs
  induction l with
  | nil => rfl
  | cons x l ih =>
    rw [List.all_cons, Bool.and_eq_true] at h
    rw [List.cons_append, List.takeWhile_cons, if_pos h.1, ih h.2]
theorem fsp_tail {b : Array UInt8} {m : Nat} (hm : m < 191) (hle : m ≤ b.size) : fsp (b ++ tailB (m : Int)) (KBw.bInts (b ++ tailB (m : Int))) = (some (m : Int), 0) := by
  obtain ⟨⟨d1, d2⟩, d3, d4⟩ := digI_ok m hm
  have hn : (KBw.bInts b).length = b.size := KBw.ints_length b
  have hr := rfd_tail (b := b) hm
  have e9 : (BY.rfd (b ++ tailB (m : Int)) wordS + (wordS.size : Int)).toNat = b.size + 9 := by
    rw [hr]
    show ((b.size : Int) + 9).toNat = _
    lia
  have hd9 : (KBw.bInts (b ++ tailB (m : Int))).drop (b.size + 9) = 10 :: (digI m ++ [10, 37, 37, 69, 79, 70, 10]) := by
    rw [tail_ints, ← hn, List.drop_append]
    simp
  have hd10 : (KBw.bInts (b ++ tailB (m : Int))).drop (b.size + 10) = digI m ++ [10, 37, 37, 69, 79, 70, 10] := by
    rw [show b.size + 10 = (b.size + 9) + 1 from rfl, ← List.drop_drop, hd9]
    rfl
  have hskip : skipW (10 :: (digI m ++ [10, 37, 37, 69, 79, 70, 10])) false = 1 := by
    rw [skip_white (by decide) (by decide)]
    match hdg : digI m with
    | [] => rw [hdg] at d2; cases d2
    | x :: r =>
      rw [hdg, List.all_cons, Bool.and_eq_true] at d1
      have hx : 48 ≤ x ∧ x ≤ 57 := by
        have := d1.1
        unfold isFig at this
        rw [Bool.and_eq_true, decide_eq_true_eq, decide_eq_true_eq] at this
        exact this
      rw [List.cons_append, skip_stop (by lia) (by
        simp only [List.any_cons, List.any_nil, Bool.or_false, Bool.or_eq_false_iff, beq_eq_false_iff_ne]
        lia)]
  have hW : fspW (b ++ tailB (m : Int)) (KBw.bInts (b ++ tailB (m : Int))) = ((b.size + 10 : Nat) : Int) := by
    unfold fspW
    rw [e9, hd9, hskip, hr]
    show (b.size : Int) + 9 + 1 = _
    lia
  have hF : fspF (b ++ tailB (m : Int)) (KBw.bInts (b ++ tailB (m : Int))) = digI m := by
    unfold fspF
    rw [hW, Int.toNat_natCast, hd10]
    exact take_figs d1 _
  have hlen : 0 < (digI m).length := by
    match hdg : digI m with
    | [] => rw [hdg] at d2; cases d2
    | x :: r => simp
  have := fsp_3 (b := b ++ tailB (m : Int)) (ks := KBw.bInts (b ++ tailB (m : Int))) (by rw [hr]; lia) (by rw [hF]; exact hlen) (by rw [hF]; exact d3) (by
    rw [hF, d4, tail_ints, List.length_append, hn]
    simp only [List.length_append, List.length_cons, List.length_nil]
    lia)
  rw [hF, d4] at this
  exact this
end
section
theorem rowsLwU1 : True := by
  k_with_none
  k_with "pen_at" => focus (first | with_reducible assumption | (refine' PenAt.head ?_ ?_ ?_; (rotate_right 3; (focus (first | with_reducible assumption | k_ne)); (focus (k_all)); (focus (k_all)))) | (refine' PenAt.tail ?_ ?_ ?_; (rotate_right 1; (focus (walk_at "pen_at"))); (rotate_right 2; (focus (k_ne)); (focus (k_ne)))))
  k_with "room" => focus (first | lia | (dsimp only [ktrTop, Around.deeper]; lia))
  k_with "enterC" => focus ((refine' code_defC ?_ ?_ ?_ ?_ ?_ ?_ ?_ ?_ ?_ ?_ ?_ ?_ ?_ ?_ ?_ ?_ ?_ ?_; (rotate_right 13; (focus (exact rfl)); (focus (exact rfl)); (focus (first | exact rfl | assumption)); rotate_left 10); (rotate_right 15; (focus (k_asm)); (focus (k_asm)); (focus (k_asm)); (focus (k_asm)); (focus (k_asm)); (focus (k_is)); (focus (k_is)); (focus (k_room)); (focus (exact BindsTo.of_eq rfl)); (focus (exact rfl)); (focus (decide +kernel)); rotate_left 4); (rotate_right 3; (focus (exact rfl)); (focus (exact rfl)); (focus (exact rfl))); k_whole; intro g' L' h' tk' cells' FG' F' N' Y' B' X' T' l1; (try k_lt l1); k_cells Y'; (try simp only [List.cons_append, List.nil_append] at N'); (try dsimp only); (try k_lift B'); (try k_fold)))
  k_with "eval Name" => focus ((k_here; (with_reducible show wpAny _ _ (eval (Expr.Name _ _) (compEnvC _ _ _ _)) _ _ _); k_dflt (first | (refine' lcf_cell ?_ ?_ ?_ ?_ ?_ ?_ ?_; (rotate_right 1; (focus (rfl))); (rotate_right 1; (focus (rfl))); (rotate_right 5; (focus (k_asm)); (focus (rfl)); (focus (k_mem)); (focus (k_asm)); rotate_left 1); k_whole) | (refine' lcf_free ?_ ?_ ?_ ?_ ?_ ?_ ?_; (rotate_right 1; (focus (rfl))); (rotate_right 1; (focus (rfl))); (rotate_right 5; (focus (k_asm)); (focus (rfl)); (focus (k_mem)); (focus (k_asm)); rotate_left 1); k_whole) | refine LCgL.ld_global (by k_asm) (by k_asm) (by k_asm) (by k_is) ?_)))
  k_with "exec For Name Name cons nil" => focus ((k_here; (rename Fr _ _ _ _ => lF'); (with_unfolding_all refine' For_invVF lF' ?_ ?_ ?_; (rotate_right 3; (focus (exact rfl)); (focus (exact rfl)); rotate_left 1); k_whole)))
  k_with "exec For Name Call cons nil" => focus ((k_here; (rename Fr _ _ _ _ => lF'); (with_unfolding_all refine' For_invVF lF' ?_ ?_ ?_; (rotate_right 3; (focus (exact rfl)); (focus (exact rfl)); rotate_left 1); k_whole)))
  k_with "call ref" => focus (((with_reducible show wpAny _ _ (call (Value.ref 256) _) _ _ _); k_dflt (refine' draw_ok ?_ ?_ ?_ ?_ ?_ ?_ ?_ ?_ ?_ ?_ ?_; (rotate_right 11; (focus (k_asm)); (focus (k_asm)); (focus (k_asm)); (focus (k_asm)); (focus (k_asm)); (focus (first | exact rfl | assumption)); (focus (walk_at "pen_at")); (focus (first | decide | lia)); (focus (walk_at "room")); (focus (walk_at "room")); rotate_left 1)); intro r9 t9 y9 h' tk9 lo9 hi9 F' N'; (try dsimp only at N'); (try k_sweep)))
  k_with "call ref" => focus (((with_reducible show wpAny _ _ (call (Value.ref 263) _) _ _ _); k_dflt (refine' pick_ok ?_ ?_ ?_ ?_ ?_ ?_ ?_ ?_ ?_ ?_ ?_ ?_ ?_ ?_ ?_; (rotate_right 15; (focus (k_asm)); (focus (k_asm)); (focus (k_asm)); (focus (k_asm)); (focus (k_asm)); (focus (first | exact rfl | assumption)); (focus (walk_at "pen_at")); (focus (k_mem)); (focus (k_ne)); (focus (k_ne)); (focus ((simp only [List.length_cons, List.length_nil]; lia))); (focus ((simp only [List.length_cons, List.length_nil]; lia))); (focus (walk_at "room")); (focus (walk_at "room")); rotate_left 1)); intro v9 y9 h' tk9 m9 F' N'; (try k_dflt (have q9 := pick_str4 m9; obtain ⟨w9, tw9, e9, ow9⟩ := q9; subst e9; clear m9)); (try dsimp only at N'); (try k_sweep)))
  k_with "WIf" => focus (first | (refine WIf.yes rfl ?_) | (refine WIf.no rfl ?_) | (refine WIf.dec ?_ ?_ <;> intro))
  k_with "eval ListComp" => focus ((k_here; first | (with_reducible refine' ListComp_W ?_ ?_ ?_ ?_ ?_ ?_ ?_ ?_; (rotate_right 8; (focus (k_asm)); (focus (with_unfolding_all rfl)); (focus (decide)); (focus (with_unfolding_all rfl)); (focus (decide)); (focus (with_unfolding_all rfl)); rotate_left 2); (rotate_right 1; (focus ((intro _; with_unfolding_all rfl))))) | (with_reducible refine' ListComp_WT ?_ ?_ ?_ ?_ ?_ ?_ ?_ ?_; (rotate_right 8; (focus (k_asm)); (focus (with_unfolding_all rfl)); (focus (decide)); (focus (with_unfolding_all rfl)); (focus (decide)); (focus (with_unfolding_all rfl)); rotate_left 2); (rotate_right 1; (focus ((intro _; with_unfolding_all rfl)))))))
  k_with "exec Assign cons ListComp" => focus ((k_here; k_dflt (first | refine Assign_ListComp_WT (_F₀ := by k_asm) (by rfl) (by with_unfolding_all rfl) (by with_unfolding_all rfl) (by decide) (by rfl) (by decide) (by rfl) (by rfl) (by rfl) ?_ | refine Assign_ListComp_W (_F₀ := by k_asm) (by rfl) (by with_unfolding_all rfl) (by with_unfolding_all rfl) (by decide) (by rfl) (by decide) (by rfl) (by rfl) (by rfl) ?_ | refine wpAny_Assign_Name ?_)))
  k_with "exec Assign cons ListComp" => focus ((k_here; k_dflt (first | (with_reducible refine' Assign_ListComp_W ?_ ?_ ?_ ?_ ?_ ?_ ?_ ?_ ?_ ?_ ?_ ?_; (rotate_right 12; (focus (k_asm)); (focus (with_unfolding_all rfl)); rotate_left 10); (rotate_right 9; (focus (with_unfolding_all rfl)); (focus (decide)); (focus (with_unfolding_all rfl)); (focus (decide)); (focus (with_unfolding_all rfl)); (focus (with_unfolding_all rfl)); (focus (with_unfolding_all rfl)); rotate_left 2); (rotate_right 1; (focus ((intro _; with_unfolding_all rfl)))); (rotate_right 2; (focus (with_unfolding_all rfl)); rotate_left 1)) | (with_reducible refine' Assign_ListComp_WT ?_ ?_ ?_ ?_ ?_ ?_ ?_ ?_ ?_ ?_ ?_ ?_; (rotate_right 12; (focus (k_asm)); (focus (with_unfolding_all rfl)); rotate_left 10); (rotate_right 9; (focus (with_unfolding_all rfl)); (focus (decide)); (focus (with_unfolding_all rfl)); (focus (decide)); (focus (with_unfolding_all rfl)); (focus (with_unfolding_all rfl)); (focus (with_unfolding_all rfl)); rotate_left 2); (rotate_right 1; (focus ((intro _; with_unfolding_all rfl)))); (rotate_right 2; (focus (with_unfolding_all rfl)); rotate_left 1)) | (with_reducible refine wpAny_Assign_Name ?_))))
  k_with "menu_int" => focus (repeat' (first | exact all_nil | (refine all_cons ?_ ?_) | (refine IntTo.mk' ?_ ?_ <;> first | lia | decide +kernel)))
  k_with "call ref" => focus (((with_reducible show wpAny _ _ (call (Value.ref 263) _) _ _ _); k_dflt (refine' pick_ok ?_ ?_ ?_ ?_ ?_ ?_ ?_ ?_ ?_ ?_ ?_ ?_ ?_ ?_ ?_; (rotate_right 15; (focus (k_asm)); (focus (k_asm)); (focus (k_asm)); (focus (k_asm)); (focus (k_asm)); (focus (first | exact rfl | assumption)); (focus (walk_at "pen_at")); (focus (k_mem)); (focus (k_ne)); (focus (k_ne)); (focus ((simp only [List.length_cons, List.length_nil]; lia))); (focus ((simp only [List.length_cons, List.length_nil]; lia))); (focus (walk_at "room")); (focus (walk_at "room")); rotate_left 1)); intro v9 y9 h' tk9 m9 F' N'; (try k_dflt (refine pick_elim (P := IntTo 1000) m9 ?_ ?_; (rotate_right 2; (focus (walk_at "menu_int")); rotate_left 1); intro q9; obtain ⟨i9, ti9, e9, lo9, hi9⟩ := q9; subst e9; clear m9)); (try dsimp only at N'); (try k_sweep)))
  trivial
theorem pick_off {v : Value} {r n : Int} {t1 t2 t3 : Tok} (h : v ∈ [Value.int 0 t1, Value.int r t2, Value.int n t3]) (h0 : 0 ≤ r) (h1 : r < n + 1) (h2 : 0 ≤ n) : ∃ (k : Int) (t : Tok), v = .int k t ∧ 0 ≤ k ∧ k ≤ n := by
  simp only [List.mem_cons, List.not_mem_nil, or_false] at h
  rcases h with rfl | rfl | rfl
  · exact ⟨0, t1, rfl, Int.le_refl _, h2⟩
  · exact ⟨r, t2, rfl, h0, by lia⟩
  · exact ⟨n, t3, rfl, h2, Int.le_refl _⟩
theorem rowsLwU2 : True := by
  k_with "call ref" => focus (((with_reducible show wpAny _ _ (call (Value.ref 263) _) _ _ _); k_dflt (refine' pick_ok ?_ ?_ ?_ ?_ ?_ ?_ ?_ ?_ ?_ ?_ ?_ ?_ ?_ ?_ ?_; (rotate_right 15; (focus (k_asm)); (focus (k_asm)); (focus (k_asm)); (focus (k_asm)); (focus (k_asm)); (focus (first | exact rfl | assumption)); (focus (walk_at "pen_at")); (focus (k_mem)); (focus (k_ne)); (focus (k_ne)); (focus ((simp only [List.length_cons, List.length_nil]; lia))); (focus ((simp only [List.length_cons, List.length_nil]; lia))); (focus (walk_at "room")); (focus (walk_at "room")); rotate_left 1)); intro v9 y9 h' tk9 m9 F' N'; (try k_dflt ((have q9 := pick_off m9 (by assumption) (by assumption) (by lia)); obtain ⟨i9, ti9, e9, lo9, hi9⟩ := q9; subst e9; clear m9)); (try dsimp only at N'); (try k_sweep)))
  trivial
set_option maxRecDepth 100000 in
set_option maxHeartbeats 8000000 in
theorem st16 {w : World} {mean : ExcName → Option Value} {mg mb : Str → Option Value} {dp un : Nat} {gd : Option (List Code)} {a : Addr} {ccd : Value} {outer : List Env} {A₀ : Around} {base h₀ : Heap} {L : Addr} {m : Str → Option Value} {s : Shared} {E : Value → Shared → Prop} {Q : Flow → Shared → Prop} {pa la : Nat} {y : PenSt} {p1 : Obj} {b : Array UInt8} {tb : Tok} {imm : List (Addr × Obj)}
    (B : Below A₀ base outer h₀) (X : (Mine.hd.heap_1 w.params).In h₀) (T : Top Mine.hd.view_1 (looseW Mine.hd.view_1 [Str.ofString "PaperError"]) mean mg mb h₀) (hd : dp < 310) (hu : un < 300) (F : Fr h₀ L s.heap m) (hm1 : m (Str.ofString "data") = some (.bytes b tb)) (hb : b.size ≤ 190) (hpl : pa ≠ la) (hop : ∀ p ∈ (L + 1, p1) :: imm, p.1 ≠ pa) (hol : ∀ p ∈ (L + 1, p1) :: imm, p.1 ≠ la) (d1 : p1.data = .cell (some (.ref pa)))
    (N : News h₀ L s.heap ((pa, penA la y) :: (la, penB y) :: (L + 1, p1) :: imm))
    (hnext : ∀ (k : Int) (t : Tok) h' tk', 0 ≤ k → k ≤ (b.size : Int) → Fr h₀ L h' (fun z => if z = Str.ofString "offset" then some (.int k t) else m z) → News h₀ L h' imm → Q .next { s with heap := h', toks := tk' }) :
    wpAny (model PySem.Challenge.rw_nn0202_01.row.prog w) (ktrTop dp un gd (Str.ofString "law") lawScope L a ccd [(Str.ofString "numbers", L + 1 + 1 + 1), (Str.ofString "due", L + 1 + 1), (Str.ofString "pen", L + 1)] outer) (exec (stm 16) (envX (Str.ofString "law") lawScope L a ccd [(Str.ofString "numbers", L + 1 + 1 + 1), (Str.ofString "due", L + 1 + 1), (Str.ofString "pen", L + 1)])) Q E s := by
  obtain ⟨m, rfl⟩ := know1 hm1
  clear hm1
  conv in (stm _) => whnf
  conv in lawScope => whnf
  conv in lawScope => whnf
  dsimp only
  revert X
  k_fill
  intro X
  k_steps
  refine' hnext _ _ _ _ ?z0 ?z1 ?zF ?zN; (case zF => k_asm); (case z0 => assumption); (case z1 => assumption); (case zN => exact cb_drop (by assumption) (fun p hp => .tail _ (.tail _ (.tail _ (.tail _ hp)))))
theorem rowsLwU3 : True := by
  k_with "call ref" => focus (((with_reducible show wpAny _ _ (call (Value.ref 244) _) _ _ _); k_dflt (refine' tail_ok ?_ ?_ ?_ ?_ ?_ ?_ ?_ ?_ ?_ ?_ ?_; (rotate_right 11; (focus (k_asm)); (focus (k_asm)); (focus (k_asm)); (focus (k_asm)); (focus (k_asm)); (focus (first | exact rfl | assumption)); (focus (lia)); (focus (lia)); (focus (walk_at "room")); (focus (walk_at "room")); rotate_left 1)); intro t9 h' tk9 z9 F' N'))
  k_with "getMethod str" => focus ((k_here; (with_reducible refine BY.method_encode ?_)))
  k_with "call builtin:str.encode" => focus ((k_here; k_dflt (refine BY.encode_int ?_ ?_ ?_; (rotate_right 3; (focus (lia)); (focus (lia)); rotate_left 1)); intro t9 k9 z9))
  k_with "binaryOp Add bytes bytes" => focus ((k_here; k_dflt (refine KBy.add_bytes ?_ ?_; (rotate_right 2; (focus ((simp only [Array.size_append, List.size_toArray, List.length_cons, List.length_nil]; lia))); rotate_left 1)); intro t9 k9))
  trivial
set_option maxRecDepth 100000 in
set_option maxHeartbeats 8000000 in
theorem st17 {w : World} {mean : ExcName → Option Value} {mg mb : Str → Option Value} {dp un : Nat} {gd : Option (List Code)} {a : Addr} {ccd : Value} {outer : List Env} {A₀ : Around} {base h₀ : Heap} {L : Addr} {m : Str → Option Value} {s : Shared} {E : Value → Shared → Prop} {Q : Flow → Shared → Prop} {k : Int} {t : Tok} {news : List (Addr × Obj)}
    (B : Below A₀ base outer h₀) (X : (Mine.hd.heap_1 w.params).In h₀) (T : Top Mine.hd.view_1 (looseW Mine.hd.view_1 [Str.ofString "PaperError"]) mean mg mb h₀) (hd : dp < 310) (hu : un < 300) (F : Fr h₀ L s.heap m) (hm1 : m (Str.ofString "offset") = some (.int k t)) (h0 : 0 ≤ k) (h1 : k ≤ 190) (N : News h₀ L s.heap news)
    (hnext : ∀ h' tk', Fr h₀ L h' m → News h₀ L h' news → Q .next { s with heap := h', toks := tk' }) :
    wpAny (model PySem.Challenge.rw_nn0202_01.row.prog w) (ktrTop dp un gd (Str.ofString "law") lawScope L a ccd [(Str.ofString "numbers", L + 1 + 1 + 1), (Str.ofString "due", L + 1 + 1), (Str.ofString "pen", L + 1)] outer) (exec (stm 17) (envX (Str.ofString "law") lawScope L a ccd [(Str.ofString "numbers", L + 1 + 1 + 1), (Str.ofString "due", L + 1 + 1), (Str.ofString "pen", L + 1)])) Q E s := by
  obtain ⟨m, rfl⟩ := know1 hm1
  clear hm1
  conv in (stm _) => whnf
  conv in lawScope => whnf
  conv in lawScope => whnf
  dsimp only
  revert X
  k_fill
  intro X
  k_steps
  · refine absurd (by assumption : ((tailB k).toList != _) = true) ?_
    show ¬ (((tailB k).toList != (tailB k).toList) = true)
    simp
  · refine' hnext _ _ ?zF ?zN; (case zF => k_asm); (case zN => k_asm)
theorem rowsLwU4 : True := by
  k_with "binaryOp Add bytes bytes" => focus ((k_here; k_dflt (refine KBy.add_bytes ?_ ?_; (rotate_right 2; (focus (lia)); rotate_left 1)); intro t9 k9))
  k_with "call ref" => focus (((with_reducible show wpAny _ _ (call (Value.ref 237) _) _ _ _); k_dflt (refine' find_ok ?_ ?_ ?_ ?_ ?_ ?_ rfl ?_ ?_ ?_ ?_ ?_ ?_; (rotate_right 12; (focus (k_asm)); (focus (k_asm)); (focus (k_asm)); (focus (k_asm)); (focus (k_asm)); (focus (first | exact rfl | assumption)); (focus ((rw [KBw.ints_length, Array.size_append]; lia))); (focus (rw [KBw.ints_length])); (focus (walk_at "room")); (focus (walk_at "room")); rotate_left 2)); (all_goals intros)))
  trivial
set_option maxRecDepth 100000 in
set_option maxHeartbeats 8000000 in
theorem st18 {w : World} {mean : ExcName → Option Value} {mg mb : Str → Option Value} {dp un : Nat} {gd : Option (List Code)} {a : Addr} {ccd : Value} {outer : List Env} {A₀ : Around} {base h₀ : Heap} {L : Addr} {m : Str → Option Value} {s : Shared} {E : Value → Shared → Prop} {Q : Flow → Shared → Prop} {k : Int} {t : Tok} {b : Array UInt8} {tb : Tok} {news : List (Addr × Obj)}
    (B : Below A₀ base outer h₀) (X : (Mine.hd.heap_1 w.params).In h₀) (T : Top Mine.hd.view_1 (looseW Mine.hd.view_1 [Str.ofString "PaperError"]) mean mg mb h₀) (hd : dp < 310) (hu : un < 300) (F : Fr h₀ L s.heap m) (hm1 : m (Str.ofString "data") = some (.bytes b tb)) (hm2 : m (Str.ofString "offset") = some (.int k t)) (hb : b.size ≤ 190) (h0 : 0 ≤ k) (h1 : k ≤ (b.size : Int)) (N : News h₀ L s.heap news)
    (hret : ∀ h' tk' m', Fr h₀ L h' m' → Q (.ret (.bool true)) { s with heap := h', toks := tk' }) :
    wpAny (model PySem.Challenge.rw_nn0202_01.row.prog w) (ktrTop dp un gd (Str.ofString "law") lawScope L a ccd [(Str.ofString "numbers", L + 1 + 1 + 1), (Str.ofString "due", L + 1 + 1), (Str.ofString "pen", L + 1)] outer) (exec (stm 18) (envX (Str.ofString "law") lawScope L a ccd [(Str.ofString "numbers", L + 1 + 1 + 1), (Str.ofString "due", L + 1 + 1), (Str.ofString "pen", L + 1)])) Q E s := by
  obtain ⟨m, rfl⟩ := know2 hm1 hm2
  clear hm1 hm2
  obtain ⟨j, rfl⟩ := Int.eq_ofNat_of_zero_le h0
  conv in (stm _) => whnf
  conv in lawScope => whnf
  conv in lawScope => whnf
  dsimp only
  revert X
  k_fill
  intro X
  k_steps
  · rename fsp _ _ = _ => hf
    rw [fsp_tail (m := j) (b := b) (by lia) (by lia), Prod.mk.injEq, Option.some.injEq] at hf
    rw [← hf.1, beq_self_eq_true]
    refine' hret _ _ _ ?zF
    case zF => k_asm
  · rename fsp _ _ = _ => hf
    rw [fsp_tail (m := j) (b := b) (by lia) (by lia), Prod.mk.injEq] at hf
    exact absurd hf.1 (fun q => nomatch q)
end
section
theorem rowsLwV1 : True := by
  k_with_none
  k_with "pen_at" => focus (first | with_reducible assumption | (refine' PenAt.head ?_ ?_ ?_; (rotate_right 3; (focus (first | with_reducible assumption | k_ne)); (focus (k_all)); (focus (k_all)))) | (refine' PenAt.tail ?_ ?_ ?_; (rotate_right 1; (focus (walk_at "pen_at"))); (rotate_right 2; (focus (k_ne)); (focus (k_ne)))))
  k_with "room" => focus (first | lia | (dsimp only [ktrTop, Around.deeper]; lia))
  k_with "enterC" => focus ((refine' code_defC ?_ ?_ ?_ ?_ ?_ ?_ ?_ ?_ ?_ ?_ ?_ ?_ ?_ ?_ ?_ ?_ ?_ ?_; (rotate_right 13; (focus (exact rfl)); (focus (exact rfl)); (focus (first | exact rfl | assumption)); rotate_left 10); (rotate_right 15; (focus (k_asm)); (focus (k_asm)); (focus (k_asm)); (focus (k_asm)); (focus (k_asm)); (focus (k_is)); (focus (k_is)); (focus (k_room)); (focus (exact BindsTo.of_eq rfl)); (focus (exact rfl)); (focus (decide +kernel)); rotate_left 4); (rotate_right 3; (focus (exact rfl)); (focus (exact rfl)); (focus (exact rfl))); k_whole; intro g' L' h' tk' cells' FG' F' N' Y' B' X' T' l1; (try k_lt l1); k_cells Y'; (try simp only [List.cons_append, List.nil_append] at N'); (try dsimp only); (try k_lift B'); (try k_fold)))
  k_with "eval Name" => focus ((k_here; (with_reducible show wpAny _ _ (eval (Expr.Name _ _) (compEnvC _ _ _ _)) _ _ _); k_dflt (first | (refine' lcf_cell ?_ ?_ ?_ ?_ ?_ ?_ ?_; (rotate_right 1; (focus (rfl))); (rotate_right 1; (focus (rfl))); (rotate_right 5; (focus (k_asm)); (focus (rfl)); (focus (k_mem)); (focus (k_asm)); rotate_left 1); k_whole) | (refine' lcf_free ?_ ?_ ?_ ?_ ?_ ?_ ?_; (rotate_right 1; (focus (rfl))); (rotate_right 1; (focus (rfl))); (rotate_right 5; (focus (k_asm)); (focus (rfl)); (focus (k_mem)); (focus (k_asm)); rotate_left 1); k_whole) | refine LCgL.ld_global (by k_asm) (by k_asm) (by k_asm) (by k_is) ?_)))
  k_with "exec For Name Name cons nil" => focus ((k_here; (rename Fr _ _ _ _ => lF'); (with_unfolding_all refine' For_invVF lF' ?_ ?_ ?_; (rotate_right 3; (focus (exact rfl)); (focus (exact rfl)); rotate_left 1); k_whole)))
  k_with "exec For Name Call cons nil" => focus ((k_here; (rename Fr _ _ _ _ => lF'); (with_unfolding_all refine' For_invVF lF' ?_ ?_ ?_; (rotate_right 3; (focus (exact rfl)); (focus (exact rfl)); rotate_left 1); k_whole)))
  k_with "call ref" => focus (((with_reducible show wpAny _ _ (call (Value.ref 256) _) _ _ _); k_dflt (refine' draw_ok ?_ ?_ ?_ ?_ ?_ ?_ ?_ ?_ ?_ ?_ ?_; (rotate_right 11; (focus (k_asm)); (focus (k_asm)); (focus (k_asm)); (focus (k_asm)); (focus (k_asm)); (focus (first | exact rfl | assumption)); (focus (walk_at "pen_at")); (focus (first | decide | lia)); (focus (walk_at "room")); (focus (walk_at "room")); rotate_left 1)); intro r9 t9 y9 h' tk9 lo9 hi9 F' N'; (try dsimp only at N'); (try k_sweep)))
  k_with "call ref" => focus (((with_reducible show wpAny _ _ (call (Value.ref 263) _) _ _ _); k_dflt (refine' pick_ok ?_ ?_ ?_ ?_ ?_ ?_ ?_ ?_ ?_ ?_ ?_ ?_ ?_ ?_ ?_; (rotate_right 15; (focus (k_asm)); (focus (k_asm)); (focus (k_asm)); (focus (k_asm)); (focus (k_asm)); (focus (first | exact rfl | assumption)); (focus (walk_at "pen_at")); (focus (k_mem)); (focus (k_ne)); (focus (k_ne)); (focus ((simp only [List.length_cons, List.length_nil]; lia))); (focus ((simp only [List.length_cons, List.length_nil]; lia))); (focus (walk_at "room")); (focus (walk_at "room")); rotate_left 1)); intro v9 y9 h' tk9 m9 F' N'; (try k_dflt (have q9 := pick_str4 m9; obtain ⟨w9, tw9, e9, ow9⟩ := q9; subst e9; clear m9)); (try dsimp only at N'); (try k_sweep)))
  k_with "WIf" => focus (first | (refine WIf.yes rfl ?_) | (refine WIf.no rfl ?_) | (refine WIf.dec ?_ ?_ <;> intro))
  k_with "eval ListComp" => focus ((k_here; first | (with_reducible refine' ListComp_W ?_ ?_ ?_ ?_ ?_ ?_ ?_ ?_; (rotate_right 8; (focus (k_asm)); (focus (with_unfolding_all rfl)); (focus (decide)); (focus (with_unfolding_all rfl)); (focus (decide)); (focus (with_unfolding_all rfl)); rotate_left 2); (rotate_right 1; (focus ((intro _; with_unfolding_all rfl))))) | (with_reducible refine' ListComp_WT ?_ ?_ ?_ ?_ ?_ ?_ ?_ ?_; (rotate_right 8; (focus (k_asm)); (focus (with_unfolding_all rfl)); (focus (decide)); (focus (with_unfolding_all rfl)); (focus (decide)); (focus (with_unfolding_all rfl)); rotate_left 2); (rotate_right 1; (focus ((intro _; with_unfolding_all rfl)))))))
  k_with "exec Assign cons ListComp" => focus ((k_here; k_dflt (first | refine Assign_ListComp_WT (_F₀ := by k_asm) (by rfl) (by with_unfolding_all rfl) (by with_unfolding_all rfl) (by decide) (by rfl) (by decide) (by rfl) (by rfl) (by rfl) ?_ | refine Assign_ListComp_W (_F₀ := by k_asm) (by rfl) (by with_unfolding_all rfl) (by with_unfolding_all rfl) (by decide) (by rfl) (by decide) (by rfl) (by rfl) (by rfl) ?_ | refine wpAny_Assign_Name ?_)))
  k_with "exec Assign cons ListComp" => focus ((k_here; k_dflt (first | (with_reducible refine' Assign_ListComp_W ?_ ?_ ?_ ?_ ?_ ?_ ?_ ?_ ?_ ?_ ?_ ?_; (rotate_right 12; (focus (k_asm)); (focus (with_unfolding_all rfl)); rotate_left 10); (rotate_right 9; (focus (with_unfolding_all rfl)); (focus (decide)); (focus (with_unfolding_all rfl)); (focus (decide)); (focus (with_unfolding_all rfl)); (focus (with_unfolding_all rfl)); (focus (with_unfolding_all rfl)); rotate_left 2); (rotate_right 1; (focus ((intro _; with_unfolding_all rfl)))); (rotate_right 2; (focus (with_unfolding_all rfl)); rotate_left 1)) | (with_reducible refine' Assign_ListComp_WT ?_ ?_ ?_ ?_ ?_ ?_ ?_ ?_ ?_ ?_ ?_ ?_; (rotate_right 12; (focus (k_asm)); (focus (with_unfolding_all rfl)); rotate_left 10); (rotate_right 9; (focus (with_unfolding_all rfl)); (focus (decide)); (focus (with_unfolding_all rfl)); (focus (decide)); (focus (with_unfolding_all rfl)); (focus (with_unfolding_all rfl)); (focus (with_unfolding_all rfl)); rotate_left 2); (rotate_right 1; (focus ((intro _; with_unfolding_all rfl)))); (rotate_right 2; (focus (with_unfolding_all rfl)); rotate_left 1)) | (with_reducible refine wpAny_Assign_Name ?_))))
  k_with "menu_int" => focus (repeat' (first | exact all_nil | (refine all_cons ?_ ?_) | (refine IntTo.mk' ?_ ?_ <;> first | lia | decide +kernel)))
  k_with "call ref" => focus (((with_reducible show wpAny _ _ (call (Value.ref 263) _) _ _ _); k_dflt (refine' pick_ok ?_ ?_ ?_ ?_ ?_ ?_ ?_ ?_ ?_ ?_ ?_ ?_ ?_ ?_ ?_; (rotate_right 15; (focus (k_asm)); (focus (k_asm)); (focus (k_asm)); (focus (k_asm)); (focus (k_asm)); (focus (first | exact rfl | assumption)); (focus (walk_at "pen_at")); (focus (k_mem)); (focus (k_ne)); (focus (k_ne)); (focus ((simp only [List.length_cons, List.length_nil]; lia))); (focus ((simp only [List.length_cons, List.length_nil]; lia))); (focus (walk_at "room")); (focus (walk_at "room")); rotate_left 1)); intro v9 y9 h' tk9 m9 F' N'; (try k_dflt (refine pick_elim (P := IntTo 1000) m9 ?_ ?_; (rotate_right 2; (focus (walk_at "menu_int")); rotate_left 1); intro q9; obtain ⟨i9, ti9, e9, lo9, hi9⟩ := q9; subst e9; clear m9)); (try dsimp only at N'); (try k_sweep)))
  trivial
theorem lawBody_eq : lawBody = [stm 0, stm 1, stm 2, stm 3, stm 4, stm 5, stm 6, stm 7, stm 8, stm 9, stm 10, stm 11, stm 12, stm 13, stm 14, stm 15, stm 16, stm 17, stm 18] := rfl
theorem dict_nodup {prog : Program} {w : World} {o : Obj} {kvs : List (Int × Value)} (h : o.IsDictOf (intKind prog w) kvs) : (kvs.map (·.1)).Nodup := by
  obtain ⟨_, _, _, _, _, _, hn⟩ := h
  exact hn
theorem tabs_fine {prog : Program} {w : World} {l : List (Addr × Obj)} {ys : List Value} {tabs : List (List (Int × Ent))} (h : ListRel (TableIn prog w l) ys tabs) : ∀ t ∈ tabs, t.length ≤ 100 ∧ (t.map (·.1)).Nodup := by
  induction h with
  | nil => exact fun _ h => nomatch h
  | cons r _ ih =>
    intro t ht
    rcases List.mem_cons.mp ht with rfl | ht
    · obtain ⟨D, o, kvs, _, _, hd, _, hl, rel⟩ := r
      exact ⟨by rw [← rel.length]; exact hl, by rw [← rel.keys]; exact dict_nodup hd⟩
    · exact ih t ht
theorem runs_bounds {ns : List Int} (hs : ns.Pairwise (· ≤ ·)) (h : ∀ x ∈ ns, 0 ≤ x ∧ x < 14) : ∀ q ∈ runsOf ns, 0 ≤ q.1 ∧ 1 ≤ q.2 ∧ q.1 + q.2 ≤ 14 := by
  intro q hq
  have g := runs_good hs
  have hk := g.pos q hq
  have a1 := h q.1 ((g.mem _).mpr ⟨q, hq, by lia, by lia⟩)
  have a2 := h (q.1 + q.2 - 1) ((g.mem _).mpr ⟨q, hq, by lia, by lia⟩)
  lia
theorem flat_len {ns : List Int} (hs : ns.Pairwise (· ≤ ·)) (h : ∀ x ∈ ns, 0 ≤ x ∧ x < 14) (i : Nat) : (flatR ((runsOf ns).take i)).length ≤ 14 := by
  have g := runs_good hs
  refine nodup_small 14 _ ((flat_strict (g.gap.sublist (List.take_sublist _ _)) fun q hq => g.pos q (List.mem_of_mem_take hq)).imp fun h e => by lia) fun x hx => ?_
  obtain ⟨q, hq, h1, h2⟩ := flat_mem.mp hx
  have := runs_bounds hs h q (List.mem_of_mem_take hq)
  lia
theorem runs_len {ns : List Int} (hs : ns.Pairwise (· ≤ ·)) (h : ∀ x ∈ ns, 0 ≤ x ∧ x < 14) : (runsOf ns).length ≤ 14 := by
  have g := runs_good hs
  have := nodup_small 14 ((runsOf ns).map (·.1)) (List.pairwise_map.mpr ((List.Pairwise.and_mem.mp g.gap).imp fun {a b} ⟨ha, _, hab⟩ e => by
    have := g.pos a ha
    lia)) fun x hx => by
      obtain ⟨q, hq, rfl⟩ := List.mem_map.mp hx
      have := runs_bounds hs h q hq
      lia
  simpa using this
theorem ok_small {p : Int × Ent} (h : EntOk 8 p) : Small (p.2.one, p.1) := by
  obtain ⟨⟨a, b⟩, ⟨c, d⟩, _⟩ := h
  exact ⟨c, by simp only; lia, a, by simp only; lia⟩
end
section
theorem rowsLwW1 : True := by
  k_with_none
  k_with "pen_at" => focus (first | with_reducible assumption | (refine' PenAt.head ?_ ?_ ?_; (rotate_right 3; (focus (first | with_reducible assumption | k_ne)); (focus (k_all)); (focus (k_all)))) | (refine' PenAt.tail ?_ ?_ ?_; (rotate_right 1; (focus (walk_at "pen_at"))); (rotate_right 2; (focus (k_ne)); (focus (k_ne)))))
  k_with "room" => focus (first | lia | (dsimp only [ktrTop, Around.deeper]; lia))
  k_with "enterC" => focus ((refine' code_defC ?_ ?_ ?_ ?_ ?_ ?_ ?_ ?_ ?_ ?_ ?_ ?_ ?_ ?_ ?_ ?_ ?_ ?_; (rotate_right 13; (focus (exact rfl)); (focus (exact rfl)); (focus (first | exact rfl | assumption)); rotate_left 10); (rotate_right 15; (focus (k_asm)); (focus (k_asm)); (focus (k_asm)); (focus (k_asm)); (focus (k_asm)); (focus (k_is)); (focus (k_is)); (focus (k_room)); (focus (exact BindsTo.of_eq rfl)); (focus (exact rfl)); (focus (decide +kernel)); rotate_left 4); (rotate_right 3; (focus (exact rfl)); (focus (exact rfl)); (focus (exact rfl))); k_whole; intro g' L' h' tk' cells' FG' F' N' Y' B' X' T' l1; (try k_lt l1); k_cells Y'; (try simp only [List.cons_append, List.nil_append] at N'); (try dsimp only); (try k_lift B'); (try k_fold)))
  k_with "eval Name" => focus ((k_here; (with_reducible show wpAny _ _ (eval (Expr.Name _ _) (compEnvC _ _ _ _)) _ _ _); k_dflt (first | (refine' lcf_cell ?_ ?_ ?_ ?_ ?_ ?_ ?_; (rotate_right 1; (focus (rfl))); (rotate_right 1; (focus (rfl))); (rotate_right 5; (focus (k_asm)); (focus (rfl)); (focus (k_mem)); (focus (k_asm)); rotate_left 1); k_whole) | (refine' lcf_free ?_ ?_ ?_ ?_ ?_ ?_ ?_; (rotate_right 1; (focus (rfl))); (rotate_right 1; (focus (rfl))); (rotate_right 5; (focus (k_asm)); (focus (rfl)); (focus (k_mem)); (focus (k_asm)); rotate_left 1); k_whole) | refine LCgL.ld_global (by k_asm) (by k_asm) (by k_asm) (by k_is) ?_)))
  k_with "exec For Name Name cons nil" => focus ((k_here; (rename Fr _ _ _ _ => lF'); (with_unfolding_all refine' For_invVF lF' ?_ ?_ ?_; (rotate_right 3; (focus (exact rfl)); (focus (exact rfl)); rotate_left 1); k_whole)))
  k_with "exec For Name Call cons nil" => focus ((k_here; (rename Fr _ _ _ _ => lF'); (with_unfolding_all refine' For_invVF lF' ?_ ?_ ?_; (rotate_right 3; (focus (exact rfl)); (focus (exact rfl)); rotate_left 1); k_whole)))
  k_with "call ref" => focus (((with_reducible show wpAny _ _ (call (Value.ref 256) _) _ _ _); k_dflt (refine' draw_ok ?_ ?_ ?_ ?_ ?_ ?_ ?_ ?_ ?_ ?_ ?_; (rotate_right 11; (focus (k_asm)); (focus (k_asm)); (focus (k_asm)); (focus (k_asm)); (focus (k_asm)); (focus (first | exact rfl | assumption)); (focus (walk_at "pen_at")); (focus (first | decide | lia)); (focus (walk_at "room")); (focus (walk_at "room")); rotate_left 1)); intro r9 t9 y9 h' tk9 lo9 hi9 F' N'; (try dsimp only at N'); (try k_sweep)))
  k_with "call ref" => focus (((with_reducible show wpAny _ _ (call (Value.ref 263) _) _ _ _); k_dflt (refine' pick_ok ?_ ?_ ?_ ?_ ?_ ?_ ?_ ?_ ?_ ?_ ?_ ?_ ?_ ?_ ?_; (rotate_right 15; (focus (k_asm)); (focus (k_asm)); (focus (k_asm)); (focus (k_asm)); (focus (k_asm)); (focus (first | exact rfl | assumption)); (focus (walk_at "pen_at")); (focus (k_mem)); (focus (k_ne)); (focus (k_ne)); (focus ((simp only [List.length_cons, List.length_nil]; lia))); (focus ((simp only [List.length_cons, List.length_nil]; lia))); (focus (walk_at "room")); (focus (walk_at "room")); rotate_left 1)); intro v9 y9 h' tk9 m9 F' N'; (try k_dflt (have q9 := pick_str4 m9; obtain ⟨w9, tw9, e9, ow9⟩ := q9; subst e9; clear m9)); (try dsimp only at N'); (try k_sweep)))
  k_with "WIf" => focus (first | (refine WIf.yes rfl ?_) | (refine WIf.no rfl ?_) | (refine WIf.dec ?_ ?_ <;> intro))
  k_with "eval ListComp" => focus ((k_here; first | (with_reducible refine' ListComp_W ?_ ?_ ?_ ?_ ?_ ?_ ?_ ?_; (rotate_right 8; (focus (k_asm)); (focus (with_unfolding_all rfl)); (focus (decide)); (focus (with_unfolding_all rfl)); (focus (decide)); (focus (with_unfolding_all rfl)); rotate_left 2); (rotate_right 1; (focus ((intro _; with_unfolding_all rfl))))) | (with_reducible refine' ListComp_WT ?_ ?_ ?_ ?_ ?_ ?_ ?_ ?_; (rotate_right 8; (focus (k_asm)); (focus (with_unfolding_all rfl)); (focus (decide)); (focus (with_unfolding_all rfl)); (focus (decide)); (focus (with_unfolding_all rfl)); rotate_left 2); (rotate_right 1; (focus ((intro _; with_unfolding_all rfl)))))))
  k_with "exec Assign cons ListComp" => focus ((k_here; k_dflt (first | refine Assign_ListComp_WT (_F₀ := by k_asm) (by rfl) (by with_unfolding_all rfl) (by with_unfolding_all rfl) (by decide) (by rfl) (by decide) (by rfl) (by rfl) (by rfl) ?_ | refine Assign_ListComp_W (_F₀ := by k_asm) (by rfl) (by with_unfolding_all rfl) (by with_unfolding_all rfl) (by decide) (by rfl) (by decide) (by rfl) (by rfl) (by rfl) ?_ | refine wpAny_Assign_Name ?_)))
  k_with "exec Assign cons ListComp" => focus ((k_here; k_dflt (first | (with_reducible refine' Assign_ListComp_W ?_ ?_ ?_ ?_ ?_ ?_ ?_ ?_ ?_ ?_ ?_ ?_; (rotate_right 12; (focus (k_asm)); (focus (with_unfolding_all rfl)); rotate_left 10); (rotate_right 9; (focus (with_unfolding_all rfl)); (focus (decide)); (focus (with_unfolding_all rfl)); (focus (decide)); (focus (with_unfolding_all rfl)); (focus (with_unfolding_all rfl)); (focus (with_unfolding_all rfl)); rotate_left 2); (rotate_right 1; (focus ((intro _; with_unfolding_all rfl)))); (rotate_right 2; (focus (with_unfolding_all rfl)); rotate_left 1)) | (with_reducible refine' Assign_ListComp_WT ?_ ?_ ?_ ?_ ?_ ?_ ?_ ?_ ?_ ?_ ?_ ?_; (rotate_right 12; (focus (k_asm)); (focus (with_unfolding_all rfl)); rotate_left 10); (rotate_right 9; (focus (with_unfolding_all rfl)); (focus (decide)); (focus (with_unfolding_all rfl)); (focus (decide)); (focus (with_unfolding_all rfl)); (focus (with_unfolding_all rfl)); (focus (with_unfolding_all rfl)); rotate_left 2); (rotate_right 1; (focus ((intro _; with_unfolding_all rfl)))); (rotate_right 2; (focus (with_unfolding_all rfl)); rotate_left 1)) | (with_reducible refine wpAny_Assign_Name ?_))))
  k_with "menu_int" => focus (repeat' (first | exact all_nil | (refine all_cons ?_ ?_) | (refine IntTo.mk' ?_ ?_ <;> first | lia | decide +kernel)))
  k_with "call ref" => focus (((with_reducible show wpAny _ _ (call (Value.ref 263) _) _ _ _); k_dflt (refine' pick_ok ?_ ?_ ?_ ?_ ?_ ?_ ?_ ?_ ?_ ?_ ?_ ?_ ?_ ?_ ?_; (rotate_right 15; (focus (k_asm)); (focus (k_asm)); (focus (k_asm)); (focus (k_asm)); (focus (k_asm)); (focus (first | exact rfl | assumption)); (focus (walk_at "pen_at")); (focus (k_mem)); (focus (k_ne)); (focus (k_ne)); (focus ((simp only [List.length_cons, List.length_nil]; lia))); (focus ((simp only [List.length_cons, List.length_nil]; lia))); (focus (walk_at "room")); (focus (walk_at "room")); rotate_left 1)); intro v9 y9 h' tk9 m9 F' N'; (try k_dflt (refine pick_elim (P := IntTo 1000) m9 ?_ ?_; (rotate_right 2; (focus (walk_at "menu_int")); rotate_left 1); intro q9; obtain ⟨i9, ti9, e9, lo9, hi9⟩ := q9; subst e9; clear m9)); (try dsimp only at N'); (try k_sweep)))
  trivial
set_option maxRecDepth 100000 in
set_option maxHeartbeats 8000000 in
theorem law_main {w : World} {mean : ExcName → Option Value} {mg mb : Str → Option Value} {dp un : Nat} {gd : Option (List Code)} {a : Addr} {ccd : Value} {outer : List Env} {A₀ : Around} {base h₀ : Heap} {L : Addr} {m : Str → Option Value} {s : Shared} {E : Value → Shared → Prop} {Q : Flow → Shared → Prop} {sc : Nat} {vs : List Value} {ns : List Int} {o1 o2 o3 : Obj}
    (B : Below A₀ base outer h₀) (X : (Mine.hd.heap_1 w.params).In h₀) (T : Top Mine.hd.view_1 (looseW Mine.hd.view_1 [Str.ofString "PaperError"]) mean mg mb h₀) (hd : dp < 310) (hu : un < 300) (F : Fr h₀ L s.heap m) (hE : PassesOwn (model PySem.Challenge.rw_nn0202_01.row.prog w) (ktrTop dp un gd (Str.ofString "law") lawScope L a ccd [(Str.ofString "numbers", L + 1 + 1 + 1), (Str.ofString "due", L + 1 + 1), (Str.ofString "pen", L + 1)] outer) (envX (Str.ofString "law") lawScope L a ccd [(Str.ofString "numbers", L + 1 + 1 + 1), (Str.ofString "due", L + 1 + 1), (Str.ofString "pen", L + 1)]) E) (ho : outer = []) (XB : (Mine.hd.heap_1 w.params).In base) (TB : Top Mine.hd.view_1 (looseW Mine.hd.view_1 [Str.ofString "PaperError"]) mean mg mb base)
    (hm : m (Str.ofString "script") = some (.ref sc)) (hs : h₀.IsList sc vs.toArray) (hi : IntsAre vs ns) (hlv : ns.length ≤ 63)
    (N : News h₀ L s.heap [(L + 1 + 1 + 1, o3), (L + 1 + 1, o2), (L + 1, o1)]) (d1 : o1.data = .cell none) (d2 : o2.data = .cell none) (d3 : o3.data = .cell none)
    (hret : ∀ s' m', Fr h₀ L s'.heap m' → Still s s' → Q (.ret (.bool true)) s') :
    wpAny (model PySem.Challenge.rw_nn0202_01.row.prog w) (ktrTop dp un gd (Str.ofString "law") lawScope L a ccd [(Str.ofString "numbers", L + 1 + 1 + 1), (Str.ofString "due", L + 1 + 1), (Str.ofString "pen", L + 1)] outer) (execs lawBody (envX (Str.ofString "law") lawScope L a ccd [(Str.ofString "numbers", L + 1 + 1 + 1), (Str.ofString "due", L + 1 + 1), (Str.ofString "pen", L + 1)])) Q E s := by
  rw [lawBody_eq]
  refine wpAny_execs_cons (st0 B X T hd hu F hm hs hi hlv N d1 ?_)
  intro pa la y p1 h1 tk1 hpl hop hol e1 F1 N1
  show wpAny _ _ (execs _ _) _ _ _
  refine wpAny_execs_cons (st1 B X T hd hu F1 hpl hop hol e1 N1 ?_)
  intro TA ys tl tabs y2 h2 tk2 relT0 hlen okT hab off1 F2 N2
  have hfine := tabs_fine relT0
  have hy : ys.length = tabs.length := relT0.length
  show wpAny _ _ (execs _ _) _ _ _
  refine wpAny_execs_cons (st2 (nn := ys.length) B X T hd hu F2 rfl N2 (.head _) (relT0.mono (TableIn.mono fun p hp => .tail _ (.tail _ (.tail _ (List.mem_append_left _ hp))))) hlen ?_)
  intro RA rows tlR h3 tk3 relR0 apR offR F3 N3
  have hr : rows.length = tabs.length := relR0.length
  show wpAny _ _ (execs _ _) _ _ _
  have hr2 : ∀ p ∈ (RA, LCg.lst rows) :: (tlR ++ (TA, LCg.lst ys) :: (pa, penA la y2) :: (la, penB y2) :: (tl ++ [(L + 1 + 1 + 1, o3), (L + 1, p1)])), p.1 ≠ L + 1 + 1 := by
    have m2 : (L + 1 + 1, o2) ∈ (TA, LCg.lst ys) :: (pa, penA la y2) :: (la, penB y2) :: (tl ++ [(L + 1 + 1 + 1, o3), (L + 1 + 1, o2), (L + 1, p1)]) := .tail _ (.tail _ (.tail _ (List.mem_append_right _ (.tail _ (.head _)))))
    intro p hp
    rcases List.mem_cons.mp hp with rfl | hp
    · exact Ne.symm (apR _ m2 _ (.head _))
    · rcases List.mem_append.mp hp with hp | hp
      · exact Ne.symm (apR _ m2 _ (.tail _ hp))
      · simp only [List.mem_cons, List.mem_append, List.not_mem_nil, or_false] at hp
        rcases hp with rfl | rfl | rfl | hp | rfl | rfl
        · exact Ne.symm (off1_mem off1 (L + 1 + 1, o2) (.tail _ (.tail _ (List.mem_append_right _ (.tail _ (.head _))))))
        · exact Ne.symm (hop (L + 1 + 1, o2) (.tail _ (.head _)))
        · exact Ne.symm (hol (L + 1 + 1, o2) (.tail _ (.head _)))
        · exact Nat.ne_of_gt ((hab p hp).2 (L + 1 + 1, o2) (.tail _ (.head _)))
        · exact Nat.ne_of_gt (Nat.lt_succ_self _)
        · exact Nat.ne_of_lt (Nat.lt_succ_self _)
  refine wpAny_execs_cons (st3 B X T hd hu F3 (o2 := o2) (rest := (RA, LCg.lst rows) :: (tlR ++ (TA, LCg.lst ys) :: (pa, penA la y2) :: (la, penB y2) :: (tl ++ [(L + 1 + 1 + 1, o3), (L + 1, p1)]))) (cb_drop N3 ?_) d2 hr2 ?_)
  · intro p hp
    simp only [List.mem_cons, List.mem_append, List.not_mem_nil, or_false] at hp ⊢
    rcases hp with h | h | h | h | h | h | h | h | h <;> simp [h]
  intro D od p2 h4 tk4 hod lod hDr hDL e2 F4 N4
  show wpAny _ _ (execs _ _) _ _ _
  obtain ⟨rest4, hN4, mC, mT, mR, relT, relR, sub, hD4⟩ : ∃ rest4, News h₀ L h4 ((D, od) :: rest4) ∧ (L + 1 + 1, p2) ∈ rest4 ∧ (TA, listOf ys.toArray ys.length) ∈ rest4 ∧ (RA, listOf rows.toArray rows.length) ∈ rest4 ∧ ListRel (TableIn PySem.Challenge.rw_nn0202_01.row.prog w rest4) ys tabs ∧ ListRel (RowsIn rest4) rows tabs ∧
      (∀ p ∈ [(pa, penA la y2), (la, penB y2), (L + 1 + 1 + 1, o3), (L + 1, p1)], p ∈ rest4) ∧ ∀ p ∈ rest4, p.1 ≠ D := by
    refine ⟨_, N4, .head _, .tail _ (.tail _ (List.mem_append_right _ (.head _))), .tail _ (.head _), relT0.mono (TableIn.mono fun p hp => .tail _ (.tail _ (List.mem_append_right _ (.tail _ (.tail _ (.tail _ (List.mem_append_left _ hp))))))), relR0.mono (RowsIn.mono fun p hp => .tail _ (.tail _ (List.mem_append_left _ hp))), ?_, ?_⟩
    · intro p hp
      simp only [List.mem_cons, List.mem_append, List.not_mem_nil, or_false] at hp ⊢
      rcases hp with h | h | h | h <;> simp [h]
    · intro p hp
      rcases List.mem_cons.mp hp with rfl | hp
      · exact hDL
      · exact hDr p hp
  clear N4 N3 N2 N1 N hr2 hDr hDL apR offR off1 hab relT0 relR0 F1 F2 F3
  refine wpAny_execs_cons (st4 B X T hd hu F4 rfl rfl hN4 mT mR mC e2 (by lia) (by lia) relR hod hD4 (fun t ht => (hfine t ht).1) hE ?_)
  intro c u h5 tk5 hdu F5 N5
  obtain ⟨c1, c2, c3, c4⟩ := hdu
  rw [c3] at c2
  show wpAny _ _ (execs _ _) _ _ _
  refine wpAny_execs_cons (st5 B X T hd hu F5 rfl N5 (.tail _ mT) (relT.mono (TableIn.mono fun p hp => .tail _ hp)) hlen ?_)
  intro Fd ofd kvf h6 tk6 hof relF lof l6 F6 N6
  have ndF : ((overlay tabs).map (·.1)).Nodup := by rw [← relF.keys]; exact dict_nodup hof
  have ndD : ((dueOf tabs).map (·.1)).Nodup := by rw [← c2.keys]; exact dict_nodup c1
  have hperm : (overlay tabs).Perm (dueOf tabs) := perm_of_look ndF ndD fun k => by rw [overlay_look, due_look tabs k fun t ht => (hfine t ht).2]
  have okO := overlay_ok okT
  have okD : ∀ p ∈ dueOf tabs, EntOk 8 p := fun p hp => okO p (hperm.mem_iff.mpr hp)
  have lenO := ok_len ndF okO
  have lenD := ok_len ndD okD
  have lenkf : kvf.length ≤ 8 := by rw [relF.length]; exact lenO
  have lenkd : c.kvs.length ≤ 8 := by rw [c2.length]; exact lenD
  obtain ⟨news6, hN6, mC6, mT6, mR6, mF6, mD6, relT6, relR6, relF6, relD6, sub6⟩ : ∃ news6, News h₀ L h6 news6 ∧ (L + 1 + 1, p2) ∈ news6 ∧ (TA, listOf ys.toArray ys.length) ∈ news6 ∧ (RA, listOf rows.toArray rows.length) ∈ news6 ∧ (Fd, ofd) ∈ news6 ∧ (D, c.o) ∈ news6 ∧ ListRel (TableIn PySem.Challenge.rw_nn0202_01.row.prog w news6) ys tabs ∧ ListRel (RowsIn news6) rows tabs ∧
      TabRel (EntIn w news6) kvf (overlay tabs) ∧ TabRel (TupIn news6) c.kvs (dueOf tabs) ∧ (∀ p ∈ [(pa, penA la y2), (la, penB y2), (L + 1 + 1 + 1, o3), (L + 1, p1)], p ∈ news6) :=
    ⟨_, N6, .tail _ (.tail _ mC), .tail _ (.tail _ mT), .tail _ (.tail _ mR), .head _, .tail _ (.head _), relT.mono (TableIn.mono fun p hp => .tail _ (.tail _ hp)), relR.mono (RowsIn.mono fun p hp => .tail _ (.tail _ hp)), relF.mono (EntIn.mono fun p hp => .tail _ hp), c2.mono (TupIn.mono fun p hp => .tail _ (.tail _ hp)), fun p hp => .tail _ (.tail _ (sub p hp))⟩
  clear N6 N5 hN4 mC mT mR sub hD4 relT relR relF F4 F5 l6
  show wpAny _ _ (execs _ _) _ _ _
  refine wpAny_execs_cons (st6 B X T hd hu F6 rfl rfl rfl hN6 mT6 relT6 hlen mR6 relR6 mF6 hof lof relF6 ndF lenO mC6 e2 mD6 c1 lod relD6 hperm okO okT ?_)
  intro h7 tk7 F7 N7
  show wpAny _ _ (execs _ _) _ _ _
  refine wpAny_execs_cons (st7 B X T hd hu F7 rfl N7 mF6 hof lof lenkf mC6 e2 mD6 c1 lod lenkd (fun x => ?_) (fun k hk => ?_) ?_)
  · rw [relF6.keys, relD6.keys]
    exact (hperm.map _).mem_iff
  · rw [relF6.keys] at hk
    obtain ⟨p, hp, rfl⟩ := List.mem_map.mp hk
    exact (okO p hp).1.1
  intro h8 tk8 F8 N8
  show wpAny _ _ (execs _ _) _ _ _
  refine wpAny_execs_cons (st8 B X T hd hu F8 N8 mC6 e2 mD6 c1 lod relD6 lenD (fun p hp => ok_small (okD p hp)) ?_)
  intro U vsU psU nU tlU h9 tk9 rU pU sU F9 N9
  show wpAny _ _ (execs _ _) _ _ _
  refine wpAny_execs_cons (st9 B X T hd hu F9 rfl rfl N9 (.tail _ (List.mem_append_right _ mF6)) hof lof (relF6.mono (EntIn.mono fun p hp => .tail _ (List.mem_append_right _ hp))) lenkf (fun p hp => ok_small (okO p hp)) rU pU (offPs_perm hperm) sU ?_)
  intro h10 tk10 F10 N10
  show wpAny _ _ (execs _ _) _ _ _
  have N10' := cb_drop N10 sub6
  clear N9 N10 N8 N7 hN6 mC6 mT6 mR6 mF6 mD6 relT6 relR6 relF6 relD6 sub6 rU pU sU F6 F7 F8 F9
  have hop3 : ∀ p ∈ [(L + 1 + 1 + 1, o3), (L + 1, p1)], p.1 ≠ pa := by
    intro p hp
    rcases List.mem_cons.mp hp with rfl | hp
    · exact hop _ (.head _)
    · rw [List.mem_singleton.mp hp]
      exact hop (L + 1, p1) (.tail _ (.tail _ (.head _)))
  have hol3 : ∀ p ∈ [(L + 1 + 1 + 1, o3), (L + 1, p1)], p.1 ≠ la := by
    intro p hp
    rcases List.mem_cons.mp hp with rfl | hp
    · exact hol _ (.head _)
    · rw [List.mem_singleton.mp hp]
      exact hol (L + 1, p1) (.tail _ (.tail _ (.head _)))
  have hop1 : ∀ p ∈ [(L + 1, p1)], p.1 ≠ pa := fun p hp => hop3 p (.tail _ hp)
  have hol1 : ∀ p ∈ [(L + 1, p1)], p.1 ≠ la := fun p hp => hol3 p (.tail _ hp)
  refine wpAny_execs_cons (st10 (imm := []) B X T hd hu F10 hpl hop3 hol3 (fun _ h => nomatch h) e1 d3 N10' ?_)
  intro RN vsN nsN y10 p3 h11 tk11 hiN hlN okN e3 offN F11 N11
  show wpAny _ _ (execs _ _) _ _ _
  refine wpAny_execs_cons (st11 (nn := vsN.length) B X T hd hu F11 N11 (.tail _ (.tail _ (.tail _ (.head _)))) e3 (.head _) hiN hlN ?_)
  intro RR refs nR ns' tlr h12 tk12 pp ss rr lr tr F12 N12
  have okR : ∀ x ∈ ns', 0 ≤ x ∧ x < 14 := fun x hx => okN x (pp.mem_iff.mp hx)
  have hb := runs_bounds ss okR
  have hl := flat_len ss okR
  have hrn := runs_len ss okR
  have hrl := rr.length
  show wpAny _ _ (execs _ _) _ _ _
  refine wpAny_execs_cons (st12 B X T hd hu F12 N12 ?_)
  intro H nH h13 tk13 lH F13 N13
  show wpAny _ _ (execs _ _) _ _ _
  refine wpAny_execs_cons (st13 B X T hd hu F13 hE rfl rfl N13 (.head _) (rr.mono (PairIn.mono fun p hp => .tail _ (List.mem_append_left _ hp))) hb hl ?_)
  intro cH uH h14 tk14 iH F14 N14
  show wpAny _ _ (execs _ _) _ _ _
  refine wpAny_execs_cons (st14 (nn := nR) (nh := cH.n) (nR := vsN.length) B X T hd hu F14 rfl rfl N14 (.tail _ (.head _)) (rr.mono (PairIn.mono fun p hp => .tail _ (.tail _ (List.mem_append_left _ hp)))) (.head _) iH (.tail _ (.tail _ (List.mem_append_right _ (.tail _ (.tail _ (.tail _ (.head _))))))) e3 (.tail _ (.tail _ (List.mem_append_right _ (.head _)))) hiN hlN pp ss (by lia) ?_)
  intro s15 sl15 F15 N15
  have N15' : News h₀ L s15.heap ((pa, penA la y10) :: (la, penB y10) :: [(L + 1, p1)]) := by
    refine cb_drop N15 fun p hp => .tail _ (.tail _ (List.mem_append_right _ (.tail _ ?_)))
    rcases List.mem_cons.mp hp with rfl | hp
    · exact .head _
    · rcases List.mem_cons.mp hp with rfl | hp
      · exact .tail _ (.head _)
      · rw [List.mem_singleton.mp hp]
        exact .tail _ (.tail _ (.tail _ (.head _)))
  clear N14 N13 N12 N11 N10' F14 F13 F12 F11 F10 rr lr tr lH offN
  show wpAny _ _ (execs _ _) _ _ _
  refine wpAny_execs_cons (st15 B X T hd hu F15 hE ho XB TB hpl hop1 hol1 (.head _) e1 N15' ?_)
  intro b tb y15 u15 h16 tk16 hb15 F16 N16
  show wpAny _ _ (execs _ _) _ _ _
  refine wpAny_execs_cons (st16 B X T hd hu F16 rfl hb15 hpl hop1 hol1 e1 N16 ?_)
  intro k t17 h17 tk17 k0 k1 F17 N17
  show wpAny _ _ (execs _ _) _ _ _
  refine wpAny_execs_cons (st17 B X T hd hu F17 rfl k0 (by lia) N17 ?_)
  intro h18 tk18 F18 N18
  show wpAny _ _ (execs _ _) _ _ _
  refine wpAny_execs_cons (st18 B X T hd hu F18 rfl rfl hb15 k0 k1 N18 ?_)
  intro h19 tk19 m19 F19
  exact hret _ _ F19 ⟨sl15.1, sl15.2⟩
end
end Mine
local macro_rules | `(tactic| k_qdec) => `(tactic| decide +kernel)
set_option maxRecDepth 100000 in
set_option maxHeartbeats 8000000 in
theorem PySem.Challenge.cw_nn0202_01_holds : PySem.Challenge.rw_nn0202_01.Holds := by
  w_on
  refine PySem.W.holds_law Mine.lawSaid fun said => ?_
  refine PySem.W.holds_open (q := Mine.hd.view_1) (loose := [Str.ofString "PaperError"]) (Xt := fun s => xlAt Mine.hd.view_1 [] s && recOk (RowW.records PySem.Challenge.rw_nn0202_01.row.toRowW) s) (XP := XL Mine.hd.view_1 []) (Yf := Hook.obs Mine.HK) (Ya := Hook.val Mine.HK) (YP := Hook.says Mine.HK) (N := 4014) Mine.hdLeft (Hook.of Mine.HK) (Hook.keeps Mine.HK) (fun s e => xl_of s (Bool.and_eq_true_iff.mp e).1) XL.keeps (by rfl) (by rfl) (by rfl) (fun s e => recFacts_of (Bool.and_eq_true_iff.mp e).2) (by rfl) said (by decide +kernel) ⟨rfl, rfl, rfl, rfl, rfl, by decide +kernel⟩ ?hw ?hc
  case hw => w_witness2
  case hc =>
  clear said
  k_go0
  all_goals (try k_fold)
  rename Fr _ _ _ _ => gF
  rename News _ _ _ _ => gN
  rename Below _ _ _ _ => gB
  rename Top _ _ _ _ _ _ => gT
  rename Frag.In _ _ => gX
  rename Heap.IsList _ _ _ => gL
  rename IntsAre _ _ => gI
  rename ¬ (_ < _) => gc
  refine' Mine.law_main (A₀ := callerA) gB gX gT ?zd ?zu gF ?zE ?zo gX gT ?zm gL gI ?zl gN ?z1 ?z2 ?z3 ?zr
  case zd => decide
  case zu => decide
  case zE => first | passes_own | with_unfolding_all passes_own
  case zo => rfl
  case zm => rfl
  case zl => omega
  case z1 => assumption
  case z2 => assumption
  case z3 => assumption
  case zr =>
    intro s' m' F' S'
    exact ⟨.inl ⟨_, _, [], rfl, fun _ => rfl, ReadsW.bool true, by wrow_post, fun _ => ⟨List.nodup_nil, fun _ hm => nomatch hm⟩⟩, F'.keep, S'.1, S'.2.trans (by assumption)⟩
