import PyProof.Rows.All
import Wide.All
import OpenK.AllK
import Wide.FinOn
import PySem.Challenge.RW_no0073_01
open PySem PySem.W PyProof.Rows
set_option Elab.async false
set_option maxRecDepth 100000
set_option maxHeartbeats 4000000
namespace Mine
section
set_option maxHeartbeats 0
def vw : Program := PySem.W.view PySem.Challenge.pw_no0073_01 [0, 2, 4, 5, 6, 7, 8, 9, 10, 12, 13, 14, 15, 16, 17, 18, 19, 20, 21, 22, 23]
theorem said0 : PySem.Challenge.rw_no0073_01.wellSaid = true := by
  rewrite [PySem.W.Fast.te9446332074065402090]
  kernel_rfl
theorem left_boot {p q : Program} {loose : List Str} {Xt : Shared → Bool} {α : Type} {Yf : Shared → α} {Ya : World → α} {N : Nat} (e : opening p = plainProg p.main.scope.names) (hN : Nat.ble 600 N = true) (f : ∀ s, fenceModules? p s = some s)
    (top : ∀ (w : World) (os : OsState), (topFrom treeTable p w N ⟨boot_heap w.params, Array.mk [], boot_drawn, boot_toks, os⟩).map (fun s => (openSeen q loose (importedModules p.main.body) Xt true s, Yf s)) = some (openGood q loose, Ya w)) : LeftO p q loose Xt Yf Ya N := fun w => by
  obtain ⟨⟨h, gs, d, k, os⟩, e1, e2⟩ := Option.map_eq_some_iff.mp (boot_open e hN f w)
  obtain ⟨rfl, rfl, rfl, rfl⟩ : h = boot_heap w.params ∧ gs = Array.mk [] ∧ d = boot_drawn ∧ k = boot_toks := by simpa only [Prod.mk.injEq] using e2
  unfold openEnds
  rw [e1]
  exact top w os
abbrev R0 : OpenRow := OpenLaw.row PySem.Challenge.rw_no0073_01
abbrev X0 : Shared → Bool := fun s => xlAt vw [] s && recOk (RowW.records (OpenRow.toRowW R0)) s
theorem vw_head (H : Hook) {d : DefRec} {kwd : List (Str × PySem.Expr)} (hdef : defOf vw R0.name = some (d, kwd)) (hp : R0.prog.theDef R0.name = some (d.params, d.body, d.scope)) (hk : kwWritten? d.params.kwonlyargs d.params.kw_defaults = some kwd)
    (hm : ∀ (w : World) (os : OsState), (topFrom treeTable R0.prog w 3784 ⟨boot_heap w.params, Array.mk [], boot_drawn, boot_toks, os⟩).map (fun s => (openSeen vw [] (importedModules R0.prog.main.body) X0 true s, H.obs s)) = some (openGood vw [], H.val w))
    (k1 : R0.wellSaid = true) (hw : R0.toRowW.promised) (hc : WalkO vw [] (XL vw []) H.says R0.toRowW d kwd fun f vs => PySem.call f vs) : R0.Holds :=
  holds_open (q := vw) (loose := []) (Xt := X0) (XP := XL vw []) (Yf := H.obs) (Ya := H.val) (YP := H.says) (N := 3784) (left_boot (by kernel_rfl) (by kernel_rfl) (fun s => by kernel_rfl) hm) H.of H.keeps (fun s e => xl_of s (Bool.and_eq_true_iff.mp e).1) XL.keeps hdef hp hk (fun s e => recFacts_of (Bool.and_eq_true_iff.mp e).2) (by rfl) k1 (by decide +kernel) ⟨rfl, rfl, rfl, rfl, rfl, by decide +kernel⟩ hw hc
local macro_rules
  | `(tactic| o_head $H) => do
    let hw := Lean.mkIdent `hw
    let hc := Lean.mkIdent `hc
    `(tactic| refine vw_head $H (by rfl) (by rfl) (by rfl) (fun w os => by unfold topFrom; rewrite [PySem.W.Fast.te14082659384304107361, PySem.W.Fast.te4187177175401517315, PySem.W.Fast.te14364793385576792824, PySem.W.Fast.te5923862056798008813]; kernel_rfl) (by first | assumption | decide +kernel) ?$hw ?$hc)
local macro_rules
  | `(tactic| o_law) => `(tactic| refine holds_law said0 fun said => ?_)
open_top hd for PySem.Challenge.rw_no0073_01
end
open PySem PySem.W PyProof.Rows PySem.Calls PySem.Spec PyProof.V
section
noncomputable abbrev PR : Program := PySem.Challenge.rw_no0073_01.row.prog
noncomputable abbrev Led := List (Addr × Obj)
noncomputable abbrev SK (w : World) := PySem.strKind PySem.Challenge.rw_no0073_01.row.prog w
/-- what a call of the def at f answers, whatever the caller -/
noncomputable def Spec (w : World) (mean : ExcName → Option Value) (mg mb : Str → Option Value) (D U : Nat) (f : Addr) (vs : List Value) (news : Led) (Post : Value → Led → Prop) : Prop :=
  ∀ (dp un : Nat) (gd : Option (List Code)) (cn : Str) (cs : Scope) (a : Addr) (ccd : Value) (cl : List (Str × Addr)) (outer : List Env) (A₀ : Around) (base h₀ : Heap) (L : Addr) (m : Str → Option Value) (sh : Heap) (sg : Array GenState) (sd : Drawn) (st : Nat) (so : OsState) (Q E : Value → Shared → Prop),
    Below A₀ base outer h₀ → Fr h₀ L sh m → (hd.heap_1 w.params).In h₀ → News h₀ L sh news → Top vw (looseW vw []) mean mg mb h₀ → cs.kind = .function → dp + D < recursionLimit → un + U < cLine →
    (∀ r news' h' tk', Post r news' → Fr h₀ L h' m → News h₀ L h' news' → Q r ⟨h', sg, sd, tk', so⟩) →
    wpAny (model PySem.Challenge.rw_no0073_01.row.prog w) (ktrTop dp un gd cn cs L a ccd cl outer) (call (.ref f) vs) Q E ⟨sh, sg, sd, st, so⟩
theorem spec_use {w : World} {mean : ExcName → Option Value} {mg mb : Str → Option Value} {D U : Nat} {f : Addr} {vs : List Value} {news : Led} {Post : Value → Led → Prop} {dp un : Nat} {gd : Option (List Code)} {cn : Str} {cs : Scope} {a : Addr} {ccd : Value} {cl : List (Str × Addr)} {outer : List Env} {A₀ : Around} {base h₀ : Heap} {L : Addr} {m : Str → Option Value} {sh : Heap} {sg : Array GenState} {sd : Drawn} {st : Nat} {so : OsState} {Q E : Value → Shared → Prop}
    (S : Spec w mean mg mb D U f vs news Post) (B : Below A₀ base outer h₀) (F : Fr h₀ L sh m) (X : (hd.heap_1 w.params).In h₀) (N : News h₀ L sh news) (T : Top vw (looseW vw []) mean mg mb h₀) (hk : cs.kind = .function) (hd : dp + D < recursionLimit) (hu : un + U < cLine)
    (ret : ∀ r news' h' tk', Post r news' → Fr h₀ L h' m → News h₀ L h' news' → Q r ⟨h', sg, sd, tk', so⟩) :
    wpAny (model PySem.Challenge.rw_no0073_01.row.prog w) (ktrTop dp un gd cn cs L a ccd cl outer) (call (.ref f) vs) Q E ⟨sh, sg, sd, st, so⟩ := S _ _ _ _ _ _ _ _ _ _ _ _ _ _ _ _ _ _ _ _ _ B F X N T hk hd hu ret
end
section
section
variable {prog : Program} {w : World} {A : Around} {E : Value → Shared → Prop} {s : Shared} {env : Env} {h₀ : Heap} {x : Str} {body : List Stmt} {Q : Flow → Shared → Prop}
/-- the end of a turn: the iterator stands as it stood, the rest is J's -/
noncomputable def TEnd (h₀ : Heap) (L : Addr) (s₁ : Shared) (I : Addr) (it : Obj) (J : (Str → Option Value) → Led → Prop) (s₂ : Shared) : Prop :=
  ∃ h' tk m' news', s₂ = { s₁ with heap := h', toks := tk } ∧ Fr h₀ L h' m' ∧ News h₀ L h' ((I, it) :: news') ∧ (∀ p ∈ news', p.1 ≠ I) ∧ J m' news'
noncomputable def TPost (h₀ : Heap) (L : Addr) (s₁ : Shared) (I : Addr) (it : Obj) (J : (Str → Option Value) → Led → Prop) (Q : Flow → Shared → Prop) (f : Flow) (s₂ : Shared) : Prop :=
  match f with
  | .ret v => Q (.ret v) s₂
  | .brk => Q .next s₂
  | _ => TEnd h₀ L s₁ I it J s₂
theorem TEnd.intro {L : Addr} {s₁ : Shared} {I : Addr} {it : Obj} {J : (Str → Option Value) → Led → Prop} {h' : Heap} {tk : Nat} {m' : Str → Option Value} {all : Led} (F : Fr h₀ L h' m') (N : News h₀ L h' all) (news' : Led)
    (hI : (I, it) ∈ all) (sub : ∀ p ∈ news', p ∈ all) (off : ∀ p ∈ news', p.1 ≠ I) (hj : J m' news') : TEnd h₀ L s₁ I it J { s₁ with heap := h', toks := tk } :=
  ⟨h', tk, m', news', rfl, F, fun p hp => by
    rcases List.mem_cons.mp hp with rfl | hp
    · exact N _ hI
    · exact N p (sub p hp), off, hj⟩
/-- a for over a list of the ledger; what stands between the turns is J's, the ledger too -/
theorem iter_led {ax : Addr} {vs : List Value} {n : Nat} {m₀ : Str → Option Value} {news : Led} (J : Nat → (Str → Option Value) → Led → Prop)
    (hh : A.handled = none) (F : Fr h₀ env.locals s.heap m₀) (N : News h₀ env.locals s.heap news) (hm : (ax, listOf vs.toArray n) ∈ news) (hj : J 0 m₀ news)
    (hJm : ∀ i m' n', J i m' n' → (ax, listOf vs.toArray n) ∈ n')
    (turn : ∀ (I : Addr) (it : Obj) i v m₁ news₁ h tk, vs[i]? = some v → (∀ p ∈ news, p.1 < I) → J i m₁ news₁ → (∀ p ∈ news₁, p.1 ≠ I) → Fr h₀ env.locals h (fun y => if y = x then some v else m₁ y) → News h₀ env.locals h ((I, it) :: news₁) →
      wpAny (model prog w) A (execs body env) (TPost h₀ env.locals { s with heap := h, toks := tk } I it (J (i + 1)) Q) E { s with heap := h, toks := tk })
    (done : ∀ m₁ news₁ h tk, J vs.length m₁ news₁ → Fr h₀ env.locals h m₁ → News h₀ env.locals h news₁ → Q .next { s with heap := h, toks := tk }) :
    wpAny (model prog w) A (pyIter (.ref ax)) (fun it s₂ => LoopAtV prog w A h₀ env x body Q E it s₂) E s := by
  have hax := N _ hm
  have hl : s.heap.IsList ax vs.toArray := ⟨_, hax.1, rfl, n, rfl⟩
  have hlt : ax < s.heap.objs.size := Heap.lt_size hax.1
  have hne : ax ≠ s.heap.objs.size := Nat.ne_of_lt hlt
  refine wpAny_pyIter_list hl ?_
  have W := Walks.list (prog := prog) (w := w) hh s.heap.objs.size ax hne vs.toArray
  have hnew := next_is_new F
  have hlen : vs.toArray.size = vs.length := by simp
  rw [hlen] at W
  have hlow : ∀ p ∈ news, p.1 < s.heap.objs.size := fun p hp => Heap.lt_size (N p hp).1
  refine ⟨_, _, _, vs.length, _, _, m₀, news, J, rfl, W, ?_, ?_, ?_, ⟨⟨_, Heap.get?_push_size _ rfl, rfl, rfl⟩, hl.at fun o e => Heap.get?_push_of_some _ e⟩, F.push _, (fun p hp => ⟨Heap.get?_push_of_some _ (N p hp).1, (N p hp).2⟩), hj, ?_, ?_⟩
  · intro hmm
    rcases List.mem_cons.mp hmm with e | hmm
    · exact absurd F.ns.lt (e ▸ Nat.lt_irrefl _)
    · exact hax.2.1 (List.mem_singleton.mp hmm).symm
  · intro b hb
    rw [List.mem_singleton.mp hb]
    exact hnew
  · intro p hp hI
    exact absurd (Heap.lt_size (N p hp).1) ((List.mem_singleton.mp hI) ▸ Nat.lt_irrefl _)
  · rintro i v m₁ news₁ s₁ own ⟨hh', tk', rfl⟩ hin hP hJ hoff hown hget hall hst F₁ N₁
    have hmem₁ := hJm _ _ _ hJ
    obtain ⟨it, hit, hic, hid⟩ := hst.1
    have hmemI := hall s.heap.objs.size (List.mem_cons_self ..) hnew _ hit
    have hv : vs[i]? = some v := by simpa using hP
    have hoff' : ∀ p ∈ news₁, p.1 ≠ s.heap.objs.size := fun p hp e => hoff p hp (List.mem_singleton.mpr e)
    have N₂ : News h₀ env.locals hh' ((s.heap.objs.size, it) :: news₁) := fun p hp => by
      rcases List.mem_cons.mp hp with rfl | hp
      · exact N₁ _ (List.mem_append_left _ hmemI)
      · exact N₁ _ (List.mem_append_right _ hp)
    refine wpAny_mono (turn _ it i v m₁ news₁ hh' tk' hv hlow hJ hoff' F₁ N₂) (fun f s₂ p => ?_) fun _ _ e => e
    have fin : TEnd h₀ env.locals { s with heap := hh', toks := tk' } s.heap.objs.size it (J (i + 1)) s₂ →
        LoopStepU h₀ env.locals [s.heap.objs.size] own (J (i + 1)) { s with heap := hh', toks := tk' } .next s₂ := by
      rintro ⟨h', tk, m', news', e, F', N', ho, r⟩
      refine ⟨rfl, h', tk, m', news', e, F', fun p hp => ?_, fun p hp hI => ho p hp (List.mem_singleton.mp hI), r⟩
      have hmm := hJm _ _ _ r
      rcases List.mem_append.mp hp with hp | hp
      · have h2 : hh'.get? p.1 = some p.2 := hget p hp
        rcases List.mem_cons.mp (hown p hp) with h1 | h1
        · have h3 : p = (s.heap.objs.size, it) := by
            rw [h1, hit] at h2
            exact Prod.ext h1 (Option.some.inj h2).symm
          rw [h3]; exact N' _ (List.mem_cons_self ..)
        · have h1' : p.1 = ax := List.mem_singleton.mp h1
          have h3 : p = (ax, listOf vs.toArray n) := by
            rw [h1', (N₁ _ (List.mem_append_right _ hmem₁)).1] at h2
            exact Prod.ext h1' (Option.some.inj h2).symm
          rw [h3]; exact N' _ (List.mem_cons_of_mem _ hmm)
      · exact N' _ (List.mem_cons_of_mem _ hp)
    cases f with
    | ret v => exact .ret p
    | brk => exact .brk p
    | next => exact .next (fin p)
    | cont => exact .cont (fin p)
  · rintro h' tk m' news' F' N' _ hJ
    exact done m' news' h' tk hJ F' N'
/-- a for over range(n): the same -/
theorem iter_rng {r : Addr} {b₀ : Int} {t₀ u₀ v₀ : Tok} {n : Nat} {m₀ : Str → Option Value} {news : Led} (J : Nat → (Str → Option Value) → Led → Prop)
    (hh : A.handled = none) (hr : IsRange s.heap r 0 b₀ 1 t₀ u₀ v₀) (hsmall : Builtin.Range.small 0 b₀ 1 = true) (hn : Builtin.Range.rangeSize 0 b₀ 1 = (n : Int))
    (F : Fr h₀ env.locals s.heap m₀) (N : News h₀ env.locals s.heap news) (hj : J 0 m₀ news)
    (turn : ∀ (I : Addr) (it : Obj) i t m₁ news₁ h tk, i < n → (∀ p ∈ news, p.1 < I) → J i m₁ news₁ → (∀ p ∈ news₁, p.1 ≠ I) → Fr h₀ env.locals h (fun y => if y = x then some (.int (i : Int) t) else m₁ y) → News h₀ env.locals h ((I, it) :: news₁) →
      wpAny (model prog w) A (execs body env) (TPost h₀ env.locals { s with heap := h, toks := tk } I it (J (i + 1)) Q) E { s with heap := h, toks := tk })
    (done : ∀ m₁ news₁ h tk, J n m₁ news₁ → Fr h₀ env.locals h m₁ → News h₀ env.locals h news₁ → Q .next { s with heap := h, toks := tk }) :
    wpAny (model prog w) A (pyIter (.ref r)) (fun it s₂ => LoopAtV prog w A h₀ env x body Q E it s₂) E s := by
  refine wpAny_pyIter_range hr hsmall ?_
  have W : Walks prog w A s.heap.objs.size [s.heap.objs.size] [s.heap.objs.size] n (fun i v => i < n ∧ ∃ t, v = .int (0 + i * 1) t)
      (fun i h => IsRangeIter h s.heap.objs.size (0 + (i : Nat) * 1) ((n : Int) - (i : Nat)) 1) := (Walks.range hh _ 0 1 n).bound
  have hnew := next_is_new F
  have hlow : ∀ p ∈ news, p.1 < s.heap.objs.size := fun p hp => Heap.lt_size (N p hp).1
  refine ⟨_, _, _, n, _, _, m₀, news, J, rfl, W, ?_, ?_, ?_, (by show IsRangeIter _ _ _ _ _; rw [hn]; simpa using Heap.get?_push_size _ rfl), F.push _, (fun p hp => ⟨Heap.get?_push_of_some _ (N p hp).1, (N p hp).2⟩), hj, ?_, ?_⟩
  · intro hm
    exact absurd F.ns.lt ((List.mem_singleton.mp hm) ▸ Nat.lt_irrefl _)
  · intro b hb
    rw [List.mem_singleton.mp hb]
    exact hnew
  · intro p hp hI
    exact absurd (Heap.lt_size (N p hp).1) ((List.mem_singleton.mp hI) ▸ Nat.lt_irrefl _)
  · rintro i v m₁ news₁ s₁ own ⟨hh', tk', rfl⟩ hin ⟨_, t, rfl⟩ hJ hoff hown hget hall hst F₁ N₁
    have hst' : hh'.get? s.heap.objs.size = some (itR (0 + ((i + 1 : Nat) : Int)) ((n : Int) - ((i + 1 : Nat) : Int))) := by
      have q : IsRangeIter hh' s.heap.objs.size (0 + ((i + 1 : Nat) : Int) * 1) ((n : Int) - ((i + 1 : Nat) : Int)) 1 := hst
      rw [Int.mul_one] at q
      exact q
    have hmem := hall s.heap.objs.size (List.mem_singleton.mpr rfl) hnew _ hst'
    have e1 : 0 + (i : Int) * 1 = (i : Int) := by omega
    rw [e1] at F₁
    have hoff' : ∀ p ∈ news₁, p.1 ≠ s.heap.objs.size := fun p hp e => hoff p hp (List.mem_singleton.mpr e)
    have N₂ : News h₀ env.locals hh' ((s.heap.objs.size, itR (0 + ((i + 1 : Nat) : Int)) ((n : Int) - ((i + 1 : Nat) : Int))) :: news₁) := fun p hp => by
      rcases List.mem_cons.mp hp with rfl | hp
      · exact N₁ _ (List.mem_append_left _ hmem)
      · exact N₁ _ (List.mem_append_right _ hp)
    refine wpAny_mono (turn _ _ i t m₁ news₁ hh' tk' hin hlow hJ hoff' F₁ N₂) (fun f s₂ p => ?_) fun _ _ e => e
    have fin : TEnd h₀ env.locals { s with heap := hh', toks := tk' } s.heap.objs.size (itR (0 + ((i + 1 : Nat) : Int)) ((n : Int) - ((i + 1 : Nat) : Int))) (J (i + 1)) s₂ →
        LoopStepU h₀ env.locals [s.heap.objs.size] own (J (i + 1)) { s with heap := hh', toks := tk' } .next s₂ := by
      rintro ⟨h', tk, m', news', e, F', N', ho, r⟩
      refine ⟨rfl, h', tk, m', news', e, F', fun p hp => ?_, fun p hp hI => ho p hp (List.mem_singleton.mp hI), r⟩
      rcases List.mem_append.mp hp with hp | hp
      · have h1 : p.1 = s.heap.objs.size := List.mem_singleton.mp (hown p hp)
        have h2 : hh'.get? p.1 = some p.2 := hget p hp
        have h3 : p = (s.heap.objs.size, itR (0 + ((i + 1 : Nat) : Int)) ((n : Int) - ((i + 1 : Nat) : Int))) := by
          rw [h1, hst'] at h2
          exact Prod.ext h1 (Option.some.inj h2).symm
        rw [h3]; exact N' _ (List.mem_cons_self ..)
      · exact N' _ (List.mem_cons_of_mem _ hp)
    cases f with
    | ret v => exact .ret p
    | brk => exact .brk p
    | next => exact .next (fin p)
    | cont => exact .cont (fin p)
  · rintro h' tk m' news' F' N' _ hJ
    exact done m' news' h' tk hJ F' N'
end
section
variable {prog : Program} {w : World} {A : Around} {E : Value → Shared → Prop} {s : Shared} {env : Env} {h₀ : Heap} {x : Str} {body : List Stmt} {Q : Flow → Shared → Prop}
theorem map_in {stored : List Str} {m₀ m₁ : Str → Option Value} {v : Value} (hJ : ∀ y, y ≠ x → stored.contains y = false → m₁ y = m₀ y) :
    (fun y => if y = x then some v else m₁ y) = fun y => if y = x then some v else if stored.contains y then m₁ y else m₀ y := by
  funext y
  by_cases h1 : y = x
  · simp [h1]
  · simp only [if_neg h1]
    cases h2 : stored.contains y with
    | true => simp
    | false => simp only [Bool.false_eq_true, if_false]; exact hJ y h1 h2
theorem map_out {stored : List Str} {m₀ m₁ : Str → Option Value} (hJ : ∀ y, y ≠ x → stored.contains y = false → m₁ y = m₀ y) :
    (fun y => if y = x then m₁ y else if stored.contains y then m₁ y else m₀ y) = m₁ := by
  funext y
  by_cases h1 : y = x
  · simp [h1]
  · simp only [if_neg h1]
    cases h2 : stored.contains y with
    | true => simp
    | false => simp only [Bool.false_eq_true, if_false]; exact (hJ y h1 h2).symm
/-- between the turns: the ledger is J's, the frame is as it was but for x and the stored names -/
noncomputable def JM (x : Str) (stored : List Str) (m₀ : Str → Option Value) (J : Led → Prop) (m : Str → Option Value) (n : Led) : Prop :=
  J n ∧ ∀ y, y ≠ x → stored.contains y = false → m y = m₀ y
theorem loop_led {ax : Addr} {vs : List Value} {n : Nat} {m₀ : Str → Option Value} {news : Led} (stored : List Str) (J : Nat → Led → Prop)
    (hh : A.handled = none) (F : Fr h₀ env.locals s.heap m₀) (N : News h₀ env.locals s.heap news) (hm : (ax, listOf vs.toArray n) ∈ news) (hj : J 0 news)
    (hJm : ∀ i n', J i n' → (ax, listOf vs.toArray n) ∈ n')
    (turn : ∀ (I : Addr) (it : Obj) i v (u : Str → Option Value) news₁ h tk, vs[i]? = some v → (∀ p ∈ news, p.1 < I) → J i news₁ → (∀ p ∈ news₁, p.1 ≠ I) →
      Fr h₀ env.locals h (fun y => if y = x then some v else if stored.contains y then u y else m₀ y) → News h₀ env.locals h ((I, it) :: news₁) →
      wpAny (model prog w) A (execs body env) (TPost h₀ env.locals { s with heap := h, toks := tk } I it (JM x stored m₀ (J (i + 1))) Q) E { s with heap := h, toks := tk })
    (done : ∀ (u : Str → Option Value) news₁ h tk, J vs.length news₁ → Fr h₀ env.locals h (fun y => if y = x then u y else if stored.contains y then u y else m₀ y) → News h₀ env.locals h news₁ → Q .next { s with heap := h, toks := tk }) :
    wpAny (model prog w) A (pyIter (.ref ax)) (fun it s₂ => LoopAtV prog w A h₀ env x body Q E it s₂) E s := by
  refine iter_led (fun i => JM x stored m₀ (J i)) hh F N hm ⟨hj, fun _ _ _ => rfl⟩ (fun i _ n' h => hJm i n' h.1) ?_ ?_
  · intro I it i v m₁ news₁ h tk hv hlow hJ hoff F₁ N₁
    rw [map_in hJ.2] at F₁
    exact turn I it i v m₁ news₁ h tk hv hlow hJ.1 hoff F₁ N₁
  · intro m₁ news₁ h tk hJ F₁ N₁
    refine done m₁ news₁ h tk hJ.1 ?_ N₁
    rw [map_out hJ.2]; exact F₁
theorem loop_rng {r : Addr} {b₀ : Int} {t₀ u₀ v₀ : Tok} {n : Nat} {m₀ : Str → Option Value} {news : Led} (stored : List Str) (J : Nat → Led → Prop)
    (hh : A.handled = none) (hr : IsRange s.heap r 0 b₀ 1 t₀ u₀ v₀) (hsmall : Builtin.Range.small 0 b₀ 1 = true) (hn : Builtin.Range.rangeSize 0 b₀ 1 = (n : Int))
    (F : Fr h₀ env.locals s.heap m₀) (N : News h₀ env.locals s.heap news) (hj : J 0 news)
    (turn : ∀ (I : Addr) (it : Obj) i t (u : Str → Option Value) news₁ h tk, i < n → (∀ p ∈ news, p.1 < I) → J i news₁ → (∀ p ∈ news₁, p.1 ≠ I) →
      Fr h₀ env.locals h (fun y => if y = x then some (.int (i : Int) t) else if stored.contains y then u y else m₀ y) → News h₀ env.locals h ((I, it) :: news₁) →
      wpAny (model prog w) A (execs body env) (TPost h₀ env.locals { s with heap := h, toks := tk } I it (JM x stored m₀ (J (i + 1))) Q) E { s with heap := h, toks := tk })
    (done : ∀ (u : Str → Option Value) news₁ h tk, J n news₁ → Fr h₀ env.locals h (fun y => if y = x then u y else if stored.contains y then u y else m₀ y) → News h₀ env.locals h news₁ → Q .next { s with heap := h, toks := tk }) :
    wpAny (model prog w) A (pyIter (.ref r)) (fun it s₂ => LoopAtV prog w A h₀ env x body Q E it s₂) E s := by
  refine iter_rng (fun i => JM x stored m₀ (J i)) hh hr hsmall hn F N ⟨hj, fun _ _ _ => rfl⟩ ?_ ?_
  · intro I it i t m₁ news₁ h tk hi hlow hJ hoff F₁ N₁
    rw [map_in hJ.2] at F₁
    exact turn I it i t m₁ news₁ h tk hi hlow hJ.1 hoff F₁ N₁
  · intro m₁ news₁ h tk hJ F₁ N₁
    refine done m₁ news₁ h tk hJ.1 ?_ N₁
    rw [map_out hJ.2]; exact F₁
end
section
open LCg LCt
variable {prog : Program} {w : World} {A : Around} {h₀ : Heap} {L : Addr} {m : Str → Option Value} {env : Env} {ct elt : PySem.Expr} {x : Str} {scope : Scope} {cl : List (Str × Addr)} {s : Shared} {S : Led → Prop} {Fin : List Value → Led → Prop} {news : Led}
/-- the end of a reading turn: all stands as it stood -/
noncomputable def VEnd (h₀ : Heap) (L : Addr) (m : Str → Option Value) (s₁ : Shared) (all : Led) (want : Value → Prop) (y : Value) (s₂ : Shared) : Prop :=
  ∃ h' tk, s₂ = { s₁ with heap := h', toks := tk } ∧ Fr h₀ L h' m ∧ News h₀ L h' all ∧ want y
/-- a reading comprehension with a test over any list -/
theorem rest_of {α : Type} (as : List α) (g : α → Value) (p : α → Bool) (f : α → Value) (hS : S news)
    (turn : ∀ (i : Nat) (a : α) I oI C oC D m₂ ys h tk (E' : Value → Shared → Prop), as[i]? = some a → NsObj oC m₂ → m₂ x = some (g a) → Fr h₀ L h m → News h₀ L h ((I, oI) :: (C, oC) :: (D, lst ys) :: news) →
      wpAny (model prog w) A (isTrue ct (compEnvC scope cl C env) (eval ct (compEnvC scope cl C env))) (fun ok s' => if ok = true then
        wpAny (model prog w) A (eval elt (compEnvC scope cl C env)) (VEnd h₀ L m { s with heap := h, toks := tk } ((I, oI) :: (C, oC) :: (D, lst ys) :: news) (fun y => p a = true ∧ y = f a)) E' s'
        else VEnd h₀ L m { s with heap := h, toks := tk } ((I, oI) :: (C, oC) :: (D, lst ys) :: news) (fun _ => p a = false) Value.none s') E' { s with heap := h, toks := tk })
    (fin : Fin ((as.filter p).map f) news) : CompRestT prog w A h₀ L m env ct elt x scope cl s S (fun i v => (as.map g).toArray[i]? = some v) Fin (as.map g).toArray.size 0 [] news := by
  have key : ∀ (j i : Nat) (ys : List Value), i + j = as.length → ys = ((as.take i).filter p).map f → CompRestT prog w A h₀ L m env ct elt x scope cl s S (fun i v => (as.map g).toArray[i]? = some v) Fin j i ys news := by
    intro j
    induction j with
    | zero =>
      intro i ys hi hy
      have e : i = as.length := by omega
      subst e
      rw [List.take_length] at hy
      subst hy
      exact CompRestT.zero fin
    | succ j ih =>
      intro i ys hi hy
      refine CompRestT.succ ?_
      intro v I oI C oC D m₂ h tk E' hv hC hx F N off ne
      have hv' : (as.map g)[i]? = some v := by simpa using hv
      rw [List.getElem?_map] at hv'
      cases ha : as[i]? with
      | none => rw [ha] at hv'; cases hv'
      | some a =>
        rw [ha] at hv'
        have hv2 : g a = v := Option.some.inj hv'
        subst hv2
        refine wpAny_mono (turn i a I oI C oC D m₂ ys h tk E' ha hC hx F N) (fun b s₂ hq => ?_) fun _ _ e => e
        have hs : as.take (i + 1) = as.take i ++ [a] := by rw [List.take_add_one, ha]; rfl
        cases b with
        | true =>
          simp only [if_true] at hq ⊢
          refine wpAny_mono hq (fun y s₃ hr => ?_) fun _ _ e => e
          obtain ⟨h', tk', e, F', N', hp, rfl⟩ := hr
          refine ⟨h', tk', news, e, F', N', off, hS, ih (i + 1) _ (by omega) ?_⟩
          rw [hs, hy]; simp [hp]
        | false =>
          simp only [Bool.false_eq_true, if_false] at hq ⊢
          obtain ⟨h', tk', e, F', N', hp⟩ := hq
          refine ⟨h', tk', news, e, F', N', off, hS, ih (i + 1) _ (by omega) ?_⟩
          rw [hs, hy]; simp [hp]
  have h := key as.length 0 [] (by omega) (by simp)
  simpa using h
end
end
section
/-- what is told of one address, on the law's side and on the paths' -/
structure Rw where
  addr : Str
  st : Str
  free : Bool
  inn : Int
  out : Int
  asked : List (Array UInt8)
  fin : Option Int
/-- the law's world but its draws -/
structure St where
  role : Str
  may : Bool
  active : Str
  asked : List (Array UInt8)
  back : Option Str
  top : Int
  skip : Int
  now : Int
inductive BytesAre : List Value → List (Array UInt8) → Prop
  | nil : BytesAre [] []
  | cons (b : Array UInt8) (t : Tok) {vs : List Value} {bs : List (Array UInt8)} : BytesAre vs bs → BytesAre (.bytes b t :: vs) (b :: bs)
theorem BytesAre.append {vs ws : List Value} {bs cs : List (Array UInt8)} (h : BytesAre vs bs) (h' : BytesAre ws cs) : BytesAre (vs ++ ws) (bs ++ cs) := by
  induction h with
  | nil => exact h'
  | cons b t _ ih => exact .cons b t ih
theorem BytesAre.length {vs : List Value} {bs : List (Array UInt8)} (h : BytesAre vs bs) : vs.length = bs.length := by
  induction h with
  | nil => rfl
  | cons b t _ ih => simp [ih]
inductive OptIs : Value → Option Int → Prop
  | none : OptIs .none none
  | some (i : Int) (t : Tok) : OptIs (.int i t) (some i)
inductive StrOptIs : Value → Option Str → Prop
  | none : StrOptIs .none none
  | some (x : Str) (t : Tok) : StrOptIs (.str x t) (some x)
noncomputable abbrev kh (w : World) (x : Str) : Int := PyData.keyHash w.params x
/-- a row of the law's: its dict, its list -/
inductive LRow (w : World) (r : Rw) (ra : Addr) : Led → Prop
  | mk {o : Obj} {aa : Addr} {us : List Value} {c : Nat} {v : Value} {ta ts ti tq : Tok}
      (ho : o.IsDictOf (SK w) [("address", .str r.addr ta), ("state", .str r.st ts), ("free", .bool r.free), ("in", .int r.inn ti), ("out", .int r.out tq), ("asked", .ref aa), ("end", v)])
      (hus : BytesAre us r.asked) (hv : OptIs v r.fin) : LRow w r ra [(ra, o), (aa, listOf us.toArray c)]
noncomputable abbrev pathO (w : World) (k0 k1 k2 k3 k4 k5 k6 : Tok) (va vs vf vi vo vc vd : Value) : Obj :=
  dictOf [⟨kh w "address", .str "address" k0, va⟩, ⟨kh w "state", .str "state" k1, vs⟩, ⟨kh w "is_free", .str "is_free" k2, vf⟩, ⟨kh w "received", .str "received" k3, vi⟩, ⟨kh w "sent", .str "sent" k4, vo⟩, ⟨kh w "challenges", .str "challenges" k5, vc⟩, ⟨kh w "deadline", .str "deadline" k6, vd⟩] 7
/-- a Path: the object, its attributes, its list -/
inductive PRow (w : World) (r : Rw) (pa : Addr) : Led → Prop
  | mk {pd ca : Addr} {us : List Value} {c : Nat} {v : Value} {k0 k1 k2 k3 k4 k5 k6 ta ts ti tq : Tok}
      (hus : BytesAre us r.asked) (hv : OptIs v r.fin) :
      PRow w r pa [(pa, instObj 121 pd), (pd, pathO w k0 k1 k2 k3 k4 k5 k6 (.str r.addr ta) (.str r.st ts) (.bool r.free) (.int r.inn ti) (.int r.out tq) (.ref ca) v), (ca, listOf us.toArray c)]
/-- the rows one behind the other -/
inductive Rows (R : Rw → Addr → Led → Prop) : List (Rw × Addr) → Led → Prop
  | nil : Rows R [] []
  | cons {r : Rw} {a : Addr} {l : Led} {rs : List (Rw × Addr)} {ls : Led} : R r a l → Rows R rs ls → Rows R ((r, a) :: rs) (l ++ ls)
theorem Rows.append {R : Rw → Addr → Led → Prop} {xs ys : List (Rw × Addr)} {l l' : Led} (h : Rows R xs l) (h' : Rows R ys l') : Rows R (xs ++ ys) (l ++ l') := by
  induction h with
  | nil => exact h'
  | cons hr _ ih => rw [List.cons_append, List.append_assoc]; exact .cons hr ih
theorem Rows.one {R : Rw → Addr → Led → Prop} {r : Rw} {a : Addr} {l : Led} (h : R r a l) : Rows R [(r, a)] l := by
  have := Rows.cons h (Rows.nil (R := R)); rwa [List.append_nil] at this
theorem Rows.split {R : Rw → Addr → Led → Prop} : ∀ {xs ys : List (Rw × Addr)} {l : Led}, Rows R (xs ++ ys) l → ∃ l₁ l₂, l = l₁ ++ l₂ ∧ Rows R xs l₁ ∧ Rows R ys l₂
  | [], _, l, h => ⟨[], l, rfl, .nil, h⟩
  | (r, a) :: xs, ys, _, .cons hr h => by
    obtain ⟨l₁, l₂, rfl, h₁, h₂⟩ := Rows.split h
    exact ⟨_ ++ l₁, l₂, by rw [List.append_assoc], .cons hr h₁, h₂⟩
/-- the rows parted at one of them -/
inductive RowsAt (R : Rw → Addr → Led → Prop) (xs ys : List (Rw × Addr)) (r : Rw) (a : Addr) (l : Led) : Prop
  | mk (l₁ lr l₂ : Led) (e : l = l₁ ++ (lr ++ l₂)) (h1 : Rows R xs l₁) (h2 : R r a lr) (h3 : Rows R ys l₂)
theorem Rows.at {R : Rw → Addr → Led → Prop} {xs ys : List (Rw × Addr)} {r : Rw} {a : Addr} {l : Led} (h : Rows R (xs ++ (r, a) :: ys) l) :
    RowsAt R xs ys r a l := by
  obtain ⟨l₁, l₂, rfl, h₁, h₂⟩ := Rows.split h
  cases h₂ with
  | cons hr h₂ => exact ⟨l₁, _, _, rfl, h₁, hr, h₂⟩
inductive RowsMem (R : Rw → Addr → Led → Prop) (p : Rw × Addr) (l : Led) : Prop
  | mk (lr : Led) (h1 : R p.1 p.2 lr) (h2 : ∀ q ∈ lr, q ∈ l)
theorem Rows.mem {R : Rw → Addr → Led → Prop} {xs : List (Rw × Addr)} {p : Rw × Addr} {l : Led} (h : Rows R xs l) (hp : p ∈ xs) : RowsMem R p l := by
  induction h with
  | nil => cases hp
  | cons hr _ ih =>
    rcases List.mem_cons.mp hp with rfl | hp
    · exact ⟨_, hr, fun q hq => List.mem_append_left _ hq⟩
    · obtain ⟨lr, h1, h2⟩ := ih hp
      exact ⟨lr, h1, fun q hq => List.mem_append_right _ (h2 q hq)⟩
inductive BackIs (prs : List (Rw × Addr)) : Value → Option Str → Prop
  | none : BackIs prs .none none
  | some {r : Rw} {a : Addr} (h : (r, a) ∈ prs) : BackIs prs (.ref a) (some r.addr)
noncomputable abbrev pathsO (w : World) (k0 k1 k2 k3 k4 k5 k6 : Tok) (vr vm vk va vl vh vn : Value) : Obj :=
  dictOf [⟨kh w "role", .str "role" k0, vr⟩, ⟨kh w "may_move", .str "may_move" k1, vm⟩, ⟨kh w "known", .str "known" k2, vk⟩, ⟨kh w "active", .str "active" k3, va⟩, ⟨kh w "last_proven", .str "last_proven" k4, vl⟩, ⟨kh w "highest", .str "highest" k5, vh⟩, ⟨kh w "answers", .str "answers" k6, vn⟩] 7
/-- the Paths: the object, its attributes, its lists, its rows -/
inductive PSide (w : World) (σ : St) (prs : List (Rw × Addr)) (ps : Addr) : Led → Prop
  | mk {pd kn an act : Addr} {last : Value} {c c2 : Nat} {k0 k1 k2 k3 k4 k5 k6 tr th : Tok} {ra : Rw} {lp : Led}
      (hr : Rows (PRow w) prs lp) (hact : (ra, act) ∈ prs) (hra : ra.addr = σ.active) (hback : BackIs prs last σ.back) :
      PSide w σ prs ps ((ps, instObj 224 pd) :: (pd, pathsO w k0 k1 k2 k3 k4 k5 k6 (.str σ.role tr) (.bool σ.may) (.ref kn) (.ref act) last (.int σ.top th) (.ref an)) ::
        (kn, listOf (prs.map fun p => Value.ref p.2).toArray c) :: (lp ++ [(an, listOf #[] c2)]))
/-- the law's world: its dict, its lists, its rows -/
inductive LSide (w : World) (σ : St) (lrs : List (Rw × Addr)) (wd : Addr) : Led → Prop
  | mk {o : Obj} {rl al : Addr} {us : List Value} {c c2 : Nat} {vb : Value} {tr ta tt ts tn : Tok} {ll : Led}
      (ho : o.IsDictOf (SK w) [("role", .str σ.role tr), ("may", .bool σ.may), ("rows", .ref rl), ("active", .str σ.active ta), ("asked", .ref al), ("back", vb), ("top", .int σ.top tt), ("skip", .int σ.skip ts), ("now", .int σ.now tn)])
      (hb : StrOptIs vb σ.back) (hus : BytesAre us σ.asked) (hr : Rows (LRow w) lrs ll) :
      LSide w σ lrs wd ((wd, o) :: (rl, listOf (lrs.map fun p => Value.ref p.2).toArray c) :: (al, listOf us.toArray c2) :: ll)
/-- all addresses of a ledger differ -/
noncomputable def Sep (l : Led) : Prop := (l.map (·.1)).Nodup
end
section
open PySem.SeqAt
section
variable {prog : Program} {w : World} {A : Around} {E : Value → Shared → Prop} {s : Shared} {h₀ : Heap} {L : Addr} {m : Str → Option Value} {news : Led}
theorem isList_of {l : Addr} {us : List Value} {n : Nat} (N : News h₀ L s.heap news) (hm : (l, listOf us.toArray n) ∈ news) : s.heap.IsList l us.toArray := ⟨_, (N _ hm).1, rfl, n, rfl⟩
/-- a list beside the empty one -/
theorem ne_nil {l b : Addr} {us : List Value} {n n2 : Nat} {Q : Value → Shared → Prop} (N : News h₀ L s.heap news) (hl : (l, listOf us.toArray n) ∈ news) (hb : (b, listOf #[] n2) ∈ news) (hu : A.units < cLine)
    (h : Q (.bool (!us.isEmpty)) s) : wpAny (model prog w) A (compareOp .NotEq (.ref l) (.ref b)) Q E s := by
  have h2 : s.heap.IsList b ([] : List Value).toArray := isList_of N hb
  cases us with
  | nil => exact cmp_ofNotEq (RcNeAt.lists (e := fun _ => true) (isList_of N hl) h2 rfl hu (fun j h1 _ => absurd h1 (by simp)) prog w E Q h)
  | cons v r => exact cmp_ofNotEq (RcNeAt.lists_lengths (isList_of N hl) h2 (by simp) hu prog w E Q h)
/-- an item of a list of the ledger -/
theorem item_led {value slice : PySem.Expr} {l : Addr} {us : List Value} {n : Nat} {k : Int} {u : Tok} {v : Value} {Q : Value → Shared → Prop} (N : News h₀ L s.heap news) (hm : (l, listOf us.toArray n) ∈ news) (h0 : 0 ≤ k) (hhi : k < 2 ^ 63) (hx : us[k.toNat]? = some v) (h : Q v s)
    (hs : subscripted slice false (.ref l) (.int k u) = operate [.ref l, .int k u] (getItem (.ref l) (.int k u)) := by with_unfolding_all rfl) :
    wpAny (model prog w) A (subscriptTail value slice (.ref l) (.int k u)) Q E s := item_litK (isList_of N hm) h0 hhi hx h hs
theorem len_led {l : Addr} {us : List Value} {n : Nat} {Q : Value → Shared → Prop} (N : News h₀ L s.heap news) (hm : (l, listOf us.toArray n) ∈ news) (hfit : us.length ≤ 16777216)
    (h : ∀ t tk, Q (.int (us.length : Int) t) { s with toks := tk }) : wpAny (model prog w) A (call (.builtin "len") [.ref l]) Q E s :=
  len_list (isList_of N hm) (by rw [List.size_toArray]; omega) (by rw [List.size_toArray]; exact h _ _)
theorem eqAt_bytes {A : Around} {s : Shared} (b : Array UInt8) (t : Tok) (c : Array UInt8) (u : Tok) : EqAt A s (.bytes b t) (.bytes c u) (b.toList == c.toList) := fun prog w E Q h => by
  unfold eqBool
  refine wpAny_holding ?_
  refine wpAny_ite_split (fun hab => ?_) (fun _ => ?_)
  · have e := eq_of_beq hab
    cases e
    exact wpAny_bind (wpAny_rule (wpAny_pure (by simpa using h)))
  · exact wpAny_bind (eq_bytes (wpAny_truthy_bool h))
/-- bytes in a list of bytes -/
theorem in_bytes {l : Addr} {us : List Value} {bs : List (Array UInt8)} {n : Nat} {b : Array UInt8} {t : Tok} {Q : Value → Shared → Prop} (N : News h₀ L s.heap news) (hm : (l, listOf us.toArray n) ∈ news) (hb : BytesAre us bs)
    (h : Q (.bool (bs.any (· == b))) s) : wpAny (model prog w) A (compareOp .In (.bytes b t) (.ref l)) Q E s := by
  refine in_listAt (fun v => match v with | .bytes c _ => c.toList == b.toList | _ => false) (isList_of N hm) ?_ ?_
  · intro y hy
    have hy' : y ∈ us := by simpa using hy
    clear hm hy h
    induction hb with
    | nil => cases hy'
    | cons c t' _ ih =>
      rcases List.mem_cons.mp hy' with rfl | hy'
      · exact eqAt_bytes _ _ _ _
      · exact ih hy'
  · have e : (us.toArray.any fun v => match v with | .bytes c _ => c.toList == b.toList | _ => false) = bs.any (· == b) := by
      rw [← Array.any_toList]
      show us.any _ = _
      clear hm h
      induction hb with
      | nil => rfl
      | cons c t' _ ih =>
        rw [List.any_cons, List.any_cons, ih]
        congr 1
        rw [Bool.eq_iff_iff, beq_iff_eq, beq_iff_eq]
        exact Array.toList_inj
    rw [e]; exact h
end
section
variable {prog : Program} {w : World} {K : Type} [DecidableEq K] {knd : KeyKind prog w K} {A : Around} {E : Value → Shared → Prop} {s : Shared} {h₀ : Heap} {L d : Addr} {m : Str → Option Value} {news : Led} {g : Obj → Led} {o : Obj} {kvs : List (K × Value)}
theorem dict_upd {o₂ : Addr} {ob : Obj} {more : List (K × Value)} {Q : Value → Shared → Prop} (F : Fr h₀ L s.heap m) (N : News h₀ L s.heap news) (U : UpdF d o news g) (hd : o.IsDictOf knd kvs) (hm2 : (o₂, ob) ∈ news) (hd2 : ob.IsDictOf knd more) (lo : (o₂ == sysModules) = false) (hne : @Ne Nat d o₂)
    (hsz : kvs.length + more.length ≤ sizeLine)
    (h : ∀ h' o', Fr h₀ L h' m → News h₀ L h' (g o') → o'.IsDictOf knd (merged kvs more) → Q .none { s with heap := h' }) :
    wpAny (model prog w) A (call (.builtin "dict.update") [.ref d, .ref o₂]) Q E s := by
  have hD₂ : s.heap.DictOf knd o₂ more := Heap.dictOf_iff.mpr ⟨ob, (N _ hm2).1, hd2⟩
  obtain ⟨pre, post, rfl, hg, a, b⟩ := U.split
  have hm := N (d, o) (List.mem_append_right _ (.head _))
  have hD : s.heap.DictOf knd d kvs := Heap.dictOf_iff.mpr ⟨o, hm.1, hd⟩
  refine call_meetsIn PySem.F.slot_dict_update hD.typeIs PySem.F.entry_dict_update (PySem.F.args_dict_update_2 _ _) (meets_dict_update knd d o₂ hne lo)
    ⟨kvs, more, hD, hD₂, hsz, fun h' hmm _ hs => ?_⟩
  obtain ⟨o', ho', hd'⟩ := Heap.dictOf_iff.mp hmm
  exact h h' o' (F.change hs hm.2.1 hm.2.2) (hg o' ▸ N.setIn a b hs ho') hd'
end
theorem starEach_Dict (keys : List (Option PySem.Expr)) (values : List PySem.Expr) (pos : Pos) (rest : List PySem.Expr) (env : Env) : starEach (.Dict keys values pos :: rest) env = (false, eval (.Dict keys values pos) env) :: starEach rest env := rfl
theorem callWith_dict {M : Model} {A : Around} {E : Value → Shared → Prop} {s : Shared} {env : Env} {pos p2 : Pos} {id : String} {first : List Value} {keys : List (Option PySem.Expr)} {values : List PySem.Expr} {Q : Value → Shared → Prop}
    (h : wpAny M A (eval (.Dict keys values p2) env) (fun v s₁ => wpAny M A (call (.builtin id) (first ++ [v])) Q E s₁) E s) :
    wpAny M A (callWith pos (.builtin id) first (backTo pos (starEach [.Dict keys values p2] env)) []) Q E s := by
  rw [starEach_Dict]
  refine callWith_builtin rfl (evalArgs_plain ?_)
  exact spliced_cons (wpAny_mono h (fun v s₁ h₁ => spliced_nil h₁) fun _ _ e => e)
end
section
/-- two addresses differ (a word of its own, so that omega does not split by it) -/
structure NeA (a b : Nat) : Prop where
  ne : a ≠ b
noncomputable def NeAll (a : Nat) : Led → Prop
  | [] => True
  | q :: r => NeA q.1 a ∧ NeAll a r
/-- the written entries differ among themselves and from the tail -/
noncomputable def Apart : Led → Led → Prop
  | [], _ => True
  | p :: r, T => NeAll p.1 r ∧ (∀ q ∈ T, @Ne Nat q.1 p.1) ∧ Apart r T
theorem NeAll.mem {a : Nat} : ∀ {l : Led}, NeAll a l → ∀ q ∈ l, @Ne Nat q.1 a
  | [], _, _, h => nomatch h
  | _ :: _, x, q, h => by
    rcases List.mem_cons.mp h with rfl | h
    · exact x.1.ne
    · exact NeAll.mem x.2 q h
theorem NeAll.of {a : Nat} : ∀ {l : Led}, (∀ q ∈ l, @Ne Nat q.1 a) → NeAll a l
  | [], _ => trivial
  | q :: _, h => ⟨⟨h q (.head _)⟩, NeAll.of fun p hp => h p (.tail _ hp)⟩
theorem Sep.cons {a : Addr} {o : Obj} {l : Led} : Sep ((a, o) :: l) ↔ (∀ q ∈ l, @Ne Nat q.1 a) ∧ Sep l := by
  unfold Sep
  rw [List.map_cons, List.nodup_cons]
  constructor
  · rintro ⟨h1, h2⟩
    exact ⟨fun q hq e => h1 (List.mem_map.mpr ⟨q, hq, e⟩), h2⟩
  · rintro ⟨h1, h2⟩
    refine ⟨fun hm => ?_, h2⟩
    obtain ⟨q, hq, e⟩ := List.mem_map.mp hm
    exact h1 q hq e
theorem Sep.perm {l l' : Led} (h : Sep l) (p : l.Perm l') : Sep l' := (p.map _).nodup_iff.mp h
theorem apart_of : ∀ {E T : Led}, Sep (E ++ T) → Apart E T
  | [], _, _ => trivial
  | (a, o) :: E, T, h => by
    rw [List.cons_append] at h
    obtain ⟨h1, h2⟩ := Sep.cons.mp h
    exact ⟨NeAll.of fun q hq => h1 q (List.mem_append_left _ hq), fun q hq => h1 q (List.mem_append_right _ hq), apart_of h2⟩
noncomputable def NeP (a : Nat) : Led → Prop → Prop
  | [], P => P
  | q :: r, P => NeA q.1 a → NeP a r P
/-- the goal behind the facts that the written entries differ -/
noncomputable def Ap : Led → Led → Prop → Prop
  | [], _, P => P
  | p :: r, T, P => NeP p.1 r (Ap r T P)
theorem neP_of {a : Nat} {P : Prop} : ∀ {l : Led}, NeAll a l → NeP a l P → P
  | [], _, h => h
  | _ :: _, x, h => neP_of x.2 (h x.1)
theorem ap_of {T : Led} {P : Prop} : ∀ {E : Led}, Apart E T → Ap E T P → P
  | [], _, h => h
  | _ :: _, x, h => ap_of x.2.2 (neP_of x.1 h)
theorem ap_elim {E T : Led} {P : Prop} (h : Sep (E ++ T)) (k : Ap E T P) : P := ap_of (apart_of h) k
theorem Sep.tail : ∀ {E T : Led}, Sep (E ++ T) → Sep T
  | [], _, h => h
  | (a, o) :: E, T, h => by
    rw [List.cons_append] at h
    exact Sep.tail (Sep.cons.mp h).2
theorem sep_of : ∀ {E T : Led}, Apart E T → Sep T → Sep (E ++ T)
  | [], _, _, h => h
  | (a, o) :: E, T, ⟨h1, h2, h3⟩, h => by
    rw [List.cons_append]
    refine Sep.cons.mpr ⟨fun q hq => ?_, sep_of h3 h⟩
    rcases List.mem_append.mp hq with hq | hq
    · exact h1.mem q hq
    · exact h2 q hq
theorem Sep.off {E T : Led} (h : Sep (E ++ T)) : OwnOff T (E.map (·.1)) := by
  induction E with
  | nil => intro p _ b hb; cases hb
  | cons e E ih =>
    obtain ⟨a, o⟩ := e
    rw [List.cons_append] at h
    obtain ⟨h1, h2⟩ := Sep.cons.mp h
    intro p hp b hb
    rcases List.mem_cons.mp hb with rfl | hb
    · exact h1 p (List.mem_append_right _ hp)
    · exact ih h2 p hp b hb
/-- the same addresses, other objects -/
theorem Sep.same {l l' : Led} (h : Sep l) (e : l'.map (·.1) = l.map (·.1)) : Sep l' := by unfold Sep at *; rw [e]; exact h
theorem perm_mid (l₁ lr l₂ own : Led) : ((l₁ ++ (lr ++ l₂)) ++ own).Perm (lr ++ (l₁ ++ (l₂ ++ own))) := by
  rw [List.append_assoc, List.append_assoc]
  have h := List.perm_append_comm (l₁ := l₁) (l₂ := lr)
  have h2 := h.append_right (l₂ ++ own)
  rwa [List.append_assoc, List.append_assoc] at h2
theorem off_of_lt {a : Addr} {T : Led} (h : AllLt a T) : ∀ q ∈ T, @Ne Nat q.1 a := fun q hq => Nat.ne_of_lt (kst_ltOf h q hq)
theorem off_of_lt' {a : Addr} {T : Led} (h : ∀ p ∈ T, p.1 < a) : ∀ q ∈ T, @Ne Nat q.1 a := fun q hq => Nat.ne_of_lt (h q hq)
theorem news_sub {h₀ h : Heap} {L : Addr} {l l' : Led} (N : News h₀ L h l) (hs : ∀ p ∈ l', p ∈ l) : News h₀ L h l' := fun p hp => N p (hs p hp)
/-- the first row that p takes is turned by f -/
noncomputable def upd (p : Rw → Bool) (f : Rw → Rw) : List Rw → List Rw
  | [] => []
  | r :: rs => if p r then f r :: rs else r :: upd p f rs
theorem upd_at {p : Rw → Bool} {f : Rw → Rw} {r : Rw} {post : List Rw} (hr : p r = true) : ∀ {pre : List Rw}, (∀ q ∈ pre, p q = false) → upd p f (pre ++ r :: post) = pre ++ f r :: post
  | [], _ => by simp [upd, hr]
  | q :: pre, h => by
    have h1 := h q (.head _)
    simp only [List.cons_append, upd, h1, Bool.false_eq_true, if_false]
    rw [upd_at hr fun x hx => h x (.tail _ hx)]
theorem upd_none {p : Rw → Bool} {f : Rw → Rw} : ∀ {l : List Rw}, (∀ q ∈ l, p q = false) → upd p f l = l
  | [], _ => rfl
  | q :: l, h => by
    simp only [upd, h q (.head _), Bool.false_eq_true, if_false]
    rw [upd_none fun x hx => h x (.tail _ hx)]
noncomputable abbrev isAt (ad : Str) (r : Rw) : Bool := r.addr == ad
theorem upd_addr {p : Rw → Bool} {f : Rw → Rw} (hf : ∀ r, (f r).addr = r.addr) : ∀ l : List Rw, (upd p f l).map (·.addr) = l.map (·.addr)
  | [] => rfl
  | r :: l => by
    unfold upd
    split
    · simp [hf]
    · simp [upd_addr hf l]
theorem Rows.len {R : Rw → Addr → Led → Prop} {xs : List (Rw × Addr)} {l : Led} (_ : Rows R xs l) : True := trivial
theorem uniq {prs : List (Rw × Addr)} (h : (prs.map fun p => p.1.addr).Nodup) {p q : Rw × Addr} (hp : p ∈ prs) (hq : q ∈ prs) (e : p.1.addr = q.1.addr) : p = q := by
  induction prs with
  | nil => cases hp
  | cons x l ih =>
    rw [List.map_cons, List.nodup_cons] at h
    rcases List.mem_cons.mp hp with rfl | hp' <;> rcases List.mem_cons.mp hq with rfl | hq'
    · rfl
    · exact absurd (List.mem_map.mpr ⟨q, hq', e.symm⟩) h.1
    · exact absurd (List.mem_map.mpr ⟨p, hp', e⟩) h.1
    · exact ih h.2 hp' hq'
theorem perm_turn (A l₁ lr l₂ own : Led) : (A ++ (l₁ ++ ((lr ++ l₂) ++ own))).Perm (lr ++ (A ++ (l₁ ++ (l₂ ++ own)))) := by
  have h3 := (List.perm_append_comm (l₁ := A ++ l₁) (l₂ := lr)).append_right (l₂ ++ own)
  simp only [List.append_assoc] at h3 ⊢
  exact h3
/-- the ledger of a turn: the iterator, the row at hand, what stands beside, the rest -/
theorem turn_ready {A l₁ lr l₂ own : Led} {I : Addr} {it : Obj} {h₀ h : Heap} {L : Addr} (N : News h₀ L h ((I, it) :: (A ++ (l₁ ++ ((lr ++ l₂) ++ own))))) (hS : Sep (A ++ (l₁ ++ ((lr ++ l₂) ++ own)))) (hoff : ∀ p ∈ A ++ (l₁ ++ ((lr ++ l₂) ++ own)), p.1 ≠ I) :
    News h₀ L h ((I, it) :: (lr ++ (A ++ (l₁ ++ (l₂ ++ own))))) ∧ Sep ((I, it) :: (lr ++ (A ++ (l₁ ++ (l₂ ++ own))))) := by
  have hp := perm_turn A l₁ lr l₂ own
  refine ⟨fun p hp' => ?_, Sep.cons.mpr ⟨fun q hq => hoff q (hp.mem_iff.mpr hq), hS.perm hp⟩⟩
  rcases List.mem_cons.mp hp' with rfl | h
  · exact N _ (.head _)
  · exact N p (.tail _ (hp.mem_iff.mpr h))
theorem turn_back {A l₁ lr l₂ own : Led} (hS : Sep (lr ++ (A ++ (l₁ ++ (l₂ ++ own))))) : Sep (A ++ ((l₁ ++ lr) ++ (l₂ ++ own))) := by
  have h := hS.perm (perm_turn A l₁ lr l₂ own).symm
  simpa only [List.append_assoc] using h
theorem turn_sub {A l₁ lr l₂ own : Led} : ∀ p ∈ A ++ ((l₁ ++ lr) ++ (l₂ ++ own)), p ∈ lr ++ (A ++ (l₁ ++ (l₂ ++ own))) := fun p hp =>
  (perm_turn A l₁ lr l₂ own).mem_iff.mp (by simpa only [List.append_assoc] using hp)
/-- where the walk is to stand still -/
noncomputable def Stop (P : Prop) : Prop := P
theorem stop_of {P : Prop} (h : Stop P) : P := h
theorem Stop.go {P : Prop} (h : P) : Stop P := h
theorem sep_swap {X Y : Led} {a b : Addr} {o o' : Obj} (h : Sep (X ++ (a, o) :: Y)) (hf : AllLt b (X ++ (a, o) :: Y)) : Sep (X ++ (b, o') :: Y) := by
  have h1 : Sep ((a, o) :: (X ++ Y)) := h.perm List.perm_middle
  have h2 : Sep ((b, o') :: (X ++ Y)) := Sep.cons.mpr ⟨fun q hq => Nat.ne_of_lt (kst_ltOf hf q (by
    rcases List.mem_append.mp hq with h | h
    · exact List.mem_append_left _ h
    · exact List.mem_append_right _ (.tail _ h))), (Sep.cons.mp h1).2⟩
  exact h2.perm List.perm_middle.symm
theorem mem3 {p a b c : Addr × Obj} {l all : Led} (hp : p ∈ a :: b :: c :: l) (ha : a ∈ all) (hb : b ∈ all) (hc : c ∈ all) (hl : ∀ q ∈ l, q ∈ all) : p ∈ all := by
  rcases List.mem_cons.mp hp with rfl | hp
  · exact ha
  · rcases List.mem_cons.mp hp with rfl | hp
    · exact hb
    · rcases List.mem_cons.mp hp with rfl | hp
      · exact hc
      · exact hl _ hp
theorem mem2 {p a b : Addr × Obj} {l all : Led} (hp : p ∈ a :: b :: l) (ha : a ∈ all) (hb : b ∈ all) (hl : ∀ q ∈ l, q ∈ all) : p ∈ all := by
  rcases List.mem_cons.mp hp with rfl | hp
  · exact ha
  · rcases List.mem_cons.mp hp with rfl | hp
    · exact hb
    · exact hl _ hp
theorem turn_end {A l₁ lr' l₂ own : Led} {I : Addr} {it : Obj} {h₀ : Heap} {L : Addr} {s₁ : Shared} {x : Str} {stored : List Str} {m₀ m' : Str → Option Value} {J : Led → Prop} {h' : Heap} {tk : Nat} {all : Led}
    (F : Fr h₀ L h' m') (N : News h₀ L h' all) (hI : (I, it) ∈ all) (hsub : ∀ p ∈ lr' ++ (A ++ (l₁ ++ (l₂ ++ own))), p ∈ all) (hS : Sep ((I, it) :: (lr' ++ (A ++ (l₁ ++ (l₂ ++ own))))))
    (hj : Sep (A ++ ((l₁ ++ lr') ++ (l₂ ++ own))) → J (A ++ ((l₁ ++ lr') ++ (l₂ ++ own)))) (hm : ∀ y, y ≠ x → stored.contains y = false → m' y = m₀ y) :
    TEnd h₀ L s₁ I it (JM x stored m₀ J) { s₁ with heap := h', toks := tk } := by
  obtain ⟨h1, h2⟩ := Sep.cons.mp hS
  exact TEnd.intro F N (A ++ ((l₁ ++ lr') ++ (l₂ ++ own))) hI (fun p hp => hsub p (turn_sub p hp)) (fun p hp => h1 p (turn_sub p hp)) ⟨hj (turn_back h2), hm⟩
theorem row_perm (A l₁ lr l₂ own : Led) : (A ++ ((l₁ ++ (lr ++ l₂)) ++ own)).Perm (lr ++ (A ++ (l₁ ++ (l₂ ++ own)))) := by
  have h := perm_turn A l₁ lr l₂ own
  simp only [List.append_assoc] at h ⊢
  exact h
/-- a row's ledger put back, its list a new one -/
theorem row_new {A A0 l₁ l₂ own : Led} {e1 e2 e1' e2' : Addr × Obj} {ca l' : Addr} {co co0 lo it : Obj} {I : Addr} {h₀ h : Heap} {L : Addr}
    (N : News h₀ L h ((l', lo) :: (I, it) :: e1' :: e2' :: (ca, co) :: (A ++ (l₁ ++ (l₂ ++ own))))) (hS : Sep ((I, it) :: e1 :: e2 :: (ca, co0) :: (A0 ++ (l₁ ++ (l₂ ++ own)))))
    (hl : AllLt l' ((I, it) :: e1 :: e2 :: (ca, co0) :: (A0 ++ (l₁ ++ (l₂ ++ own))))) (h1 : e1'.1 = e1.1) (h2 : e2'.1 = e2.1) (h3 : A.map (·.1) = A0.map (·.1)) :
    News h₀ L h (A ++ ((l₁ ++ ([e1', e2', (l', lo)] ++ l₂)) ++ own)) ∧ Sep (A ++ ((l₁ ++ ([e1', e2', (l', lo)] ++ l₂)) ++ own)) := by
  have hp := row_perm A l₁ [e1', e2', (l', lo)] l₂ own
  refine ⟨fun p hp' => ?_, ?_⟩
  · refine N p (mem3 (hp.mem_iff.mp hp') (.tail _ (.tail _ (.head _))) (.tail _ (.tail _ (.tail _ (.head _)))) (.head _) fun q hq => .tail _ (.tail _ (.tail _ (.tail _ (.tail _ hq)))))
  · have h4 := sep_swap (o' := lo) (X := [(I, it), e1, e2]) hS hl
    have h5 : Sep (e1 :: e2 :: (l', lo) :: (A0 ++ (l₁ ++ (l₂ ++ own)))) := (Sep.cons.mp h4).2
    refine (h5.same ?_).perm hp.symm
    simp [h1, h2, h3]
/-- the same, its list as it was -/
theorem row_old {A A0 l₁ l₂ own : Led} {e1 e2 e3 e1' e2' e3' : Addr × Obj} {h₀ h : Heap} {L : Addr}
    (N : News h₀ L h (e1' :: e2' :: e3' :: (A ++ (l₁ ++ (l₂ ++ own))))) (hS : Sep (e1 :: e2 :: e3 :: (A0 ++ (l₁ ++ (l₂ ++ own)))))
    (h1 : e1'.1 = e1.1) (h2 : e2'.1 = e2.1) (h4 : e3'.1 = e3.1) (h3 : A.map (·.1) = A0.map (·.1)) :
    News h₀ L h (A ++ ((l₁ ++ ([e1', e2', e3'] ++ l₂)) ++ own)) ∧ Sep (A ++ ((l₁ ++ ([e1', e2', e3'] ++ l₂)) ++ own)) := by
  have hp := row_perm A l₁ [e1', e2', e3'] l₂ own
  refine ⟨fun p hp' => N p (hp.mem_iff.mp hp'), (hS.same ?_).perm hp.symm⟩
  simp [h1, h2, h3, h4]
/-- a new row behind the others -/
theorem row_add {A A0 lp own : Led} {x' d' l' : Addr} {xo do' lo : Obj} {h₀ h : Heap} {L : Addr}
    (N : News h₀ L h ((l', lo) :: (x', xo) :: (d', do') :: (A ++ (lp ++ own)))) (hS : Sep (A0 ++ (lp ++ own))) (h3 : A.map (·.1) = A0.map (·.1))
    (h1 : AllLt d' (A0 ++ (lp ++ own))) (h2 : @LT.lt Nat _ d' x') (h4 : AllLt l' ((x', xo) :: (d', do') :: (A0 ++ (lp ++ own)))) :
    News h₀ L h (A ++ ((lp ++ [(x', xo), (d', do'), (l', lo)]) ++ own)) ∧ Sep (A ++ ((lp ++ [(x', xo), (d', do'), (l', lo)]) ++ own)) := by
  have hp := row_perm A lp [(x', xo), (d', do'), (l', lo)] [] own
  simp only [List.append_nil, List.nil_append] at hp
  refine ⟨fun p hp' => N p (mem3 (hp.mem_iff.mp hp') (.tail _ (.head _)) (.tail _ (.tail _ (.head _))) (.head _) fun q hq => .tail _ (.tail _ (.tail _ hq))), ?_⟩
  refine Sep.perm ?_ hp.symm
  have hS' : Sep (A ++ (lp ++ own)) := hS.same (by simp [h3])
  have key : ∀ {b : Addr} {o o2 : Obj}, True := trivial
  have low : ∀ q ∈ A ++ (lp ++ own), @LT.lt Nat _ q.1 d' := fun q hq => by
    have hm : q.1 ∈ (A ++ (lp ++ own)).map (·.1) := List.mem_map.mpr ⟨q, hq, rfl⟩
    rw [List.map_append, h3, ← List.map_append] at hm
    obtain ⟨q2, h5, h6⟩ := List.mem_map.mp hm
    rw [← h6]; exact kst_ltOf h1 q2 h5
  have hx : @LT.lt Nat _ x' l' := h4.1
  refine Sep.cons.mpr ⟨fun q hq => ?_, Sep.cons.mpr ⟨fun q hq => ?_, Sep.cons.mpr ⟨fun q hq => ?_, hS'⟩⟩⟩
  · rcases List.mem_cons.mp hq with rfl | hq
    · exact Nat.ne_of_lt h2
    · rcases List.mem_cons.mp hq with rfl | hq
      · exact Nat.ne_of_gt hx
      · exact Nat.ne_of_lt (Nat.lt_trans (low q hq) h2)
  · rcases List.mem_cons.mp hq with rfl | hq
    · exact Nat.ne_of_gt (Nat.lt_trans h2 hx)
    · exact Nat.ne_of_lt (low q hq)
  · exact Nat.ne_of_lt (Nat.lt_trans (low q hq) (Nat.lt_trans h2 hx))
theorem row_where {R : Rw → Addr → Led → Prop} {prs pre post : List (Rw × Addr)} {r ra : Rw} {pa act : Addr} {l₁ l₂ own : Led} (hnd : (prs.map fun p => p.1.addr).Nodup) (hpr : prs = pre ++ (r, pa) :: post) (h1 : Rows R pre l₁) (h2 : Rows R post l₂) (hm : (ra, act) ∈ prs) :
    ra = r ∧ act = pa ∨ r.addr ≠ ra.addr ∧ ∃ lra, R ra act lra ∧ ∀ q ∈ lra, q ∈ l₁ ++ (l₂ ++ own) := by
  have hin : (r, pa) ∈ prs := by rw [hpr]; exact List.mem_append_right _ (.head _)
  by_cases he : r.addr = ra.addr
  · have := uniq hnd (p := (r, pa)) (q := (ra, act)) hin hm he
    cases this
    exact .inl ⟨rfl, rfl⟩
  · refine .inr ⟨he, ?_⟩
    rw [hpr] at hm
    rcases List.mem_append.mp hm with hm | hm
    · obtain ⟨lra, h3, h4⟩ := h1.mem hm
      exact ⟨lra, h3, fun q hq => List.mem_append_left _ (h4 q hq)⟩
    · rcases List.mem_cons.mp hm with hm | hm
      · cases hm; exact absurd rfl he
      · obtain ⟨lra, h3, h4⟩ := h2.mem hm
        exact ⟨lra, h3, fun q hq => List.mem_append_right _ (List.mem_append_left _ (h4 q hq))⟩
/-- the state told of an address -/
noncomputable def stOf (ad : Str) (rows : List Rw) : Str := match rows.find? (isAt ad) with
  | some r => r.st
  | none => ""
theorem stOf_at {prs : List (Rw × Addr)} {ra : Rw} {act : Addr} {ad : Str} (hnd : (prs.map fun p => p.1.addr).Nodup) (hm : (ra, act) ∈ prs) (e : ra.addr = ad) : stOf ad (prs.map Prod.fst) = ra.st := by
  unfold stOf
  cases hf : (prs.map Prod.fst).find? (isAt ad) with
  | none =>
    have := List.find?_eq_none.mp hf ra (List.mem_map.mpr ⟨_, hm, rfl⟩)
    exact absurd e (by simpa [isAt] using this)
  | some r =>
    have h1 := List.mem_of_find?_eq_some hf
    have h2 : r.addr = ad := by have h3 := List.find?_some hf; exact eq_of_beq h3
    obtain ⟨q, hq, rfl⟩ := List.mem_map.mp h1
    have := uniq hnd hq hm (h2.trans e.symm)
    rw [this]
noncomputable abbrev newR (ad : Str) (pr : Bool) : Rw := { addr := ad, st := if pr = true then "proven" else "unproven", free := pr, inn := 0, out := 0, asked := [], fin := none }
noncomputable def opn (ad : Str) (rows : List Rw) : List Rw := if rows.any (isAt ad) then rows else rows ++ [newR ad false]
theorem opn_nodup {ad : Str} {rows : List Rw} (h : (rows.map (·.addr)).Nodup) : ((opn ad rows).map (·.addr)).Nodup := by
  unfold opn
  by_cases hc : rows.any (isAt ad) = true
  · rw [if_pos hc]; exact h
  · rw [if_neg hc, List.map_append, List.nodup_append]
    refine ⟨h, by simp, fun a ha b hb e => ?_⟩
    have hb' : b = ad := by simpa using hb
    rw [e, hb'] at ha
    obtain ⟨r, hr, hr2⟩ := List.mem_map.mp ha
    exact hc (List.any_eq_true.mpr ⟨r, hr, beq_iff_eq.mpr hr2⟩)
theorem addr_map (prs : List (Rw × Addr)) : (prs.map fun p => p.1.addr) = (prs.map Prod.fst).map (·.addr) := by rw [List.map_map]; rfl
theorem stOf_opn {ad ad2 : Str} {rows : List Rw} (h : ∃ r ∈ rows, r.addr = ad2) : stOf ad2 (opn ad rows) = stOf ad2 rows := by
  unfold opn
  split
  · rfl
  · unfold stOf
    rw [List.find?_append]
    cases hf : rows.find? (isAt ad2) with
    | some r => rfl
    | none =>
      obtain ⟨r, hr, e⟩ := h
      have := List.find?_eq_none.mp hf r hr
      exact absurd (beq_iff_eq.mpr e) this
/-- the row at which the law moves, turned -/
noncomputable abbrev renew (r : Rw) : Rw := { r with st := if r.st = "failed" then "unproven" else r.st }
theorem row_out {A l₁ lr l₂ own : Led} {h₀ h : Heap} {L : Addr} (N : News h₀ L h (A ++ ((l₁ ++ (lr ++ l₂)) ++ own))) (hS : Sep (A ++ ((l₁ ++ (lr ++ l₂)) ++ own))) :
    News h₀ L h (lr ++ (A ++ (l₁ ++ (l₂ ++ own)))) ∧ Sep (lr ++ (A ++ (l₁ ++ (l₂ ++ own)))) :=
  have hp := row_perm A l₁ lr l₂ own
  ⟨news_sub N fun _ h => hp.mem_iff.mpr h, hS.perm hp⟩
theorem turned {prs pre post : List (Rw × Addr)} {r r2 : Rw} {pa : Addr} (hpr : prs = pre ++ (r, pa) :: post) (ha : r2.addr = r.addr) {q : Rw} {a : Addr} (hq : (q, a) ∈ prs) : ∃ q2, (q2, a) ∈ pre ++ (r2, pa) :: post ∧ q2.addr = q.addr := by
  rw [hpr] at hq
  rcases List.mem_append.mp hq with h | h
  · exact ⟨q, List.mem_append_left _ h, rfl⟩
  · rcases List.mem_cons.mp h with h | h
    · cases h; exact ⟨r2, List.mem_append_right _ (.head _), ha⟩
    · exact ⟨q, List.mem_append_right _ (.tail _ h), rfl⟩
theorem back_of {prs : List (Rw × Addr)} {r : Rw} {a : Addr} {x : Str} (h : (r, a) ∈ prs) (e : r.addr = x) : BackIs prs (.ref a) (some x) := by subst e; exact .some h
theorem back_turned {prs pre post : List (Rw × Addr)} {r r2 : Rw} {pa : Addr} {v : Value} {b : Option Str} (h : BackIs prs v b) (hpr : prs = pre ++ (r, pa) :: post) (ha : r2.addr = r.addr) : BackIs (pre ++ (r2, pa) :: post) v b := by
  cases h with
  | none => exact .none
  | some h =>
    obtain ⟨q2, h1, h2⟩ := turned hpr ha h
    exact back_of h1 h2
theorem back_sub {prs prs' : List (Rw × Addr)} {v : Value} {b : Option Str} (h : BackIs prs v b) (hs : ∀ p ∈ prs, p ∈ prs') : BackIs prs' v b := by
  cases h with
  | none => exact .none
  | some h => exact .some (hs _ h)
/-- the Paths put together behind a call that turned one row -/
theorem pside_of {w : World} {σ : St} {prs pre post : List (Rw × Addr)} {r r2 : Rw} {pa ps pd kn an act : Addr} {last : Value} {c c2 : Nat} {k0 k1 k2 k3 k4 k5 k6 tr th : Tok} {l₁ l₂ own : Led} {e1 e2 e3 : Addr × Obj} {h₀ h : Heap} {L : Addr} {X : Led} {ra : Rw}
    (N : News h₀ L h (e1 :: e2 :: e3 :: (ps, instObj 224 pd) :: (pd, pathsO w k0 k1 k2 k3 k4 k5 k6 (.str σ.role tr) (.bool σ.may) (.ref kn) (.ref act) last (.int σ.top th) (.ref an)) :: (kn, listOf (prs.map fun p => Value.ref p.2).toArray c) :: (l₁ ++ (l₂ ++ (an, listOf #[] c2) :: own))))
    (hS : Sep X) (he : (e1 :: e2 :: e3 :: (ps, instObj 224 pd) :: (pd, instObj 0 0) :: (kn, instObj 0 0) :: (l₁ ++ (l₂ ++ (an, listOf #[] c2) :: own))).map (·.1) = X.map (·.1))
    (hpr : prs = pre ++ (r, pa) :: post) (h1 : Rows (PRow w) pre l₁) (h2 : Rows (PRow w) post l₂) (hrow : PRow w r2 pa [e1, e2, e3])
    (hact : (ra, act) ∈ pre ++ (r2, pa) :: post) (hra : ra.addr = σ.active) (hback : BackIs (pre ++ (r2, pa) :: post) last σ.back) :
    ∃ l', PSide w σ (pre ++ (r2, pa) :: post) ps l' ∧ News h₀ L h (l' ++ own) ∧ Sep (l' ++ own) := by
  have hkn : (prs.map fun p => Value.ref p.2) = (pre ++ (r2, pa) :: post).map fun p => Value.ref p.2 := by rw [hpr]; simp
  rw [hkn] at N
  have hS' : Sep (e1 :: e2 :: e3 :: (ps, instObj 224 pd) :: (pd, pathsO w k0 k1 k2 k3 k4 k5 k6 (.str σ.role tr) (.bool σ.may) (.ref kn) (.ref act) last (.int σ.top th) (.ref an)) :: (kn, listOf ((pre ++ (r2, pa) :: post).map fun p => Value.ref p.2).toArray c) :: (l₁ ++ (l₂ ++ (an, listOf #[] c2) :: own))) := hS.same (Eq.trans rfl he)
  obtain ⟨N2, hS2⟩ := row_old (A := [_, _, _]) (A0 := [_, _, _]) N hS' rfl rfl rfl rfl
  have hP := PSide.mk (w := w) (σ := σ) (ps := ps) (pd := pd) (kn := kn) (an := an) (c := c) (c2 := c2) (k0 := k0) (k1 := k1) (k2 := k2) (k3 := k3) (k4 := k4) (k5 := k5) (k6 := k6) (tr := tr) (th := th) (h1.append (.cons hrow h2)) hact hra hback
  refine ⟨_, hP, ?_, ?_⟩
  · simpa only [List.cons_append, List.append_assoc, List.nil_append] using N2
  · simpa only [List.cons_append, List.append_assoc, List.nil_append] using hS2
theorem upd_rows {prs pre post : List (Rw × Addr)} {r : Rw} {pa : Addr} {ad : Str} {f : Rw → Rw} (hpr : prs = pre ++ (r, pa) :: post) (hpre : ∀ q ∈ pre, q.1.addr ≠ ad) (hr : r.addr = ad) :
    (pre ++ (f r, pa) :: post).map Prod.fst = upd (isAt ad) f (prs.map Prod.fst) := by
  rw [hpr, List.map_append, List.map_append, List.map_cons, List.map_cons]
  have hr2 : isAt ad r = true := beq_iff_eq.mpr hr
  refine (upd_at hr2 fun q hq => ?_).symm
  obtain ⟨p, hp, rfl⟩ := List.mem_map.mp hq
  exact beq_false_of_ne (hpre p hp)
end
section
theorem ns_at {K : Frag} {h : Heap} {N : Addr} {mg : Str → Option Value} {n : Str} {v : Value} (X : K.In h) (G : h.Ns N mg) (e : nsIn K N n = some (some v)) : mg n = some v := by
  obtain ⟨o, es, ep, ho, hd, _, hf⟩ := G
  unfold nsIn at e
  split at e
  · rename_i c d es' n' sl q
    have := X _ _ q
    rw [ho] at this
    cases this
    cases hd
    split at e
    · rename_i en he
      cases e
      rw [← hf]
      unfold nsFind findBy
      rw [← Array.find?_toList, he]
      rfl
    · split at e <;> cases e
  · cases e
theorem refuse_cls {w : World} {h : Heap} (X : (hd.heap_1 w.params).In h) : ∃ nm q N bs sn sub ab col dd k0 k1 k2 k3 k5 mN, h.get? 38 = some (excClassObj nm q 38 N bs [.type "Exception", .type "BaseException", .type "object"] true sn sub ab col dd k0 k1 k2 k3 k5 "Exception.__new__") ∧ h.Ns N mN ∧ mN "__init__" = some (.ref 35) ∧ mN "__setattr__" = none ∧ mN "text" = none := by
  have hC : h.get? 38 = some (excClassObj _ _ 38 _ _ [.type "Exception", .type "BaseException", .type "object"] true _ _ _ _ _ _ _ _ _ _ "Exception.__new__") := X 38 _ rfl
  have G : ∀ N, nsOkIn (hd.heap_1 w.params) N = true → h.Ns N (h.nsMap N) := fun N e => .of_isNs (isNs_of_in X e)
  exact ⟨_, _, _, _, _, _, _, _, _, _, _, _, _, _, _, hC, G 37 (by kernel_rfl), ns_at X (G 37 (by kernel_rfl)) (by kernel_rfl), ns_none_of X (G 37 (by kernel_rfl)) (by kernel_rfl), ns_none_of X (G 37 (by kernel_rfl)) (by kernel_rfl)⟩
section
variable {prog : Program} {w : World} {M : Model} {A : Around} {E : Value → Shared → Prop} {s : Shared} {env : Env}
variable {nm q : Str} {C N : Addr} {bs bm : List Value} {hdct : Bool} {sn : List Str} {sub : List Value} {ab : Bool} {col : Option Bool} {dd : Option Addr} {k0 k1 k2 k3 k5 : Option Value} {B newId initId : String}
/-- raise, of an exception that may have attributes -/
theorem raise_with {x : Sem Value} {Q : Flow → Shared → Prop} (hbase : bm.contains (.type "BaseException") = true) (hh : A.handled = none)
    (h : wpAny M A x (fun v s₁ => ∃ e oe, v = .ref e ∧ s₁.heap.get? C = some (excClassObj nm q C N bs bm hdct sn sub ab col dd k0 k1 k2 k3 k5 newId) ∧
      s₁.heap.get? e = some oe ∧ oe.cls = .ref C ∧ (∃ t, oe.data = .fields #[.ref t, .none, .none, .none, .bool false, .none]) ∧ E (.ref e) s₁) E s) :
    wpAny M A (raiseStmt env (some x) none) Q E s := by
  have hcB : (Value.ref C :: bm).contains (.type "BaseException") = true := by rw [List.contains_cons, hbase, Bool.or_true]
  unfold raiseStmt
  refine wpAny_bind (wpAny_mono h (fun v s₁ h₁ => ?_) fun _ _ x => x)
  obtain ⟨e, oe, rfl, hC, he, hcls, ⟨t, hdat⟩, hE⟩ := h₁
  obtain ⟨hp, g, d, tk, os⟩ := s₁
  obtain ⟨ocls, odict, odata, oslots⟩ := oe
  dsimp only at hcls hdat
  subst hcls hdat
  repeat (first | with_reducible refine wpAny_loadPart_at he ?_ | with_reducible refine wpAny_loadPart_at hC ?_ | (with_reducible refine wpAny_isSubtype_exc hC ?_; rw [hcB]) | wp_step)
  exact wpAny_raiseNew_none hh hE
theorem Raise_with {x : Expr} {pos : Pos} {Q : Flow → Shared → Prop} (hbase : bm.contains (.type "BaseException") = true) (hh : A.handled = none)
    (h : wpAny M A (eval x env) (fun v s₁ => ∃ e oe, v = .ref e ∧ s₁.heap.get? C = some (excClassObj nm q C N bs bm hdct sn sub ab col dd k0 k1 k2 k3 k5 newId) ∧
      s₁.heap.get? e = some oe ∧ oe.cls = .ref C ∧ (∃ t, oe.data = .fields #[.ref t, .none, .none, .none, .bool false, .none]) ∧ E (.ref e) s₁) E s) :
    wpAny M A (exec (.Raise (some x) none pos) env) Q E s := by
  rw [arm_exec_Raise]
  first
    | exact wpAny_bind (wpAny_standAt (raise_with hbase hh (wpAny_bind (wpAny_mono h (fun v s₁ h₁ => wpAny_bind (wpAny_standAt (wpAny_pure h₁))) fun _ _ x => x))))
    | (simp only [evalOpt, Option.map]; exact wpAny_bind (wpAny_standAt (raise_with hbase hh (wpAny_bind (wpAny_mono h (fun v s₁ h₁ => wpAny_bind (wpAny_standAt (wpAny_pure h₁))) fun _ _ x => x)))))
    | (show wpAny M A (do standAt pos; raiseStmt env (some (do let v ← eval x env; standAt pos; pure v)) none) Q E s; exact wpAny_bind (wpAny_standAt (raise_with hbase hh (wpAny_bind (wpAny_mono h (fun v s₁ h₁ => wpAny_bind (wpAny_standAt (wpAny_pure h₁))) fun _ _ x => x)))))
/-- Exception.__init__(self, v), by name -/
theorem init_by_name {e t : Addr} {sl : Array (Option Value)} {v : Value} {Q : Value → Shared → Prop}
    (hC : s.heap.get? C = some (excClassObj nm q C N bs [.type "Exception", .type "BaseException", .type "object"] hdct sn sub ab col dd k0 k1 k2 k3 k5 "Exception.__new__"))
    (he : s.heap.get? e = some { cls := .ref C, data := .fields #[.ref t, .none, .none, .none, .bool false, .none], slots := sl })
    (h : ∀ h' t2, (∀ b o, b ≠ e → s.heap.get? b = some o → h'.get? b = some o) → s.heap.get? t2 = none → h'.get? e = some { cls := .ref C, data := .fields #[.ref t2, .none, .none, .none, .bool false, .none], slots := sl } →
      h'.get? t2 = some { cls := .type "tuple", data := .seq #[v] } → Q .none { s with heap := h' }) :
    wpAny (model prog w) A (call (.builtin "Exception.__init__") [.ref e, v]) Q E s := by
  obtain ⟨hp, g, d, tk, os⟩ := s
  dsimp only at hC he h
  refine wpAny_call (codeAny_call_builtin PySem.F.excBase_Exception.init.plain PySem.F.excBase_Exception.initEntry (wpAny_check_init_sub PySem.F.excBase_Exception hC he rfl ?_))
  wp_walk
  have hlt : e < hp.objs.size := Heap.lt_size he
  refine h _ hp.objs.size (fun b o hb ho => ?_) (Heap.get?_none_of_le (Nat.le_refl _)) ?_ ?_
  · rw [Heap.get?_update_other _ _ (Ne.symm hb)]
    exact Heap.get?_push_of_some _ ho
  · rw [Heap.get?_update_self _ (Heap.get?_push_of_some _ he) rfl]
    rfl
  · rw [Heap.get?_update_other _ _ (Nat.ne_of_lt hlt)]
    exact Heap.get?_push_at rfl rfl
/-- self.text = v -/
theorem text_set {e : Addr} {vs : Array Value} {sl : Array (Option Value)} {v : Value} {name : Str} {mN : Str → Option Value} {Q : Unit → Shared → Prop}
    (hC : s.heap.get? C = some (excClassObj nm q C N bs [.type "Exception", .type "BaseException", .type "object"] true sn sub ab col dd k0 k1 k2 k3 k5 newId))
    (hn : s.heap.Ns N mN) (hns : mN "__setattr__" = none) (hna : mN name = none) (hB : typeLookup (.type "Exception") name = pure none)
    (he : s.heap.get? e = some { cls := .ref C, data := .fields vs, slots := sl })
    (h : ∀ h' tk' oe, (∀ b o, b ≠ e → s.heap.get? b = some o → h'.get? b = some o) → h'.get? e = some oe → oe.cls = .ref C → oe.data = .fields vs → Q () { s with heap := h', toks := tk' }) :
    wpAny (model prog w) A (setAttr (.ref e) name v) Q E s := by
  obtain ⟨hp, g, d, tk, os⟩ := s
  dsimp only at hC hn he h
  have hne : e ≠ C := fun z => by
    rw [z, hC] at he
    cases he
  have I : Heap.Inst hp e C (fun _ => none) := by
    refine ⟨_, he, rfl, ?_, Or.inl ⟨rfl, fun _ => rfl⟩⟩
    intro c z
    cases z
  refine store_attr (mA := fun _ => none) (ns := []) PySem.F.store_Exception hC hn hns hna hB hne I (fun h' tk' _ hk hs => ?_) Within.nil
  obtain ⟨o₁, h1, h2, h3, _⟩ := hs _ he
  exact h h' tk' o₁ (fun b o hb ho => hk b o hb (fun o₀ dx q1 q2 => by rw [he] at q1; cases q1; cases q2) ho) h1 h2 h3
end
section
variable {g h h' : Heap} {L e : Addr} {m : Str → Option Value}
theorem fr_but (F : Fr g L h m) (hk : ∀ b o, b ≠ e → h.get? b = some o → h'.get? b = some o) (hL : e ≠ L) (hn : g.get? e = none) : Fr g L h' m := by
  obtain ⟨oL, es, ep, ho, r⟩ := F.ns
  exact ⟨⟨oL, es, ep, hk L oL hL.symm ho, r⟩, fun b o q => hk b o (fun z => by rw [z, hn] at q; cases q) (F.keep b o q), F.above⟩
theorem news_but {l : Led} {o' : Obj} {o : Obj} (N : News g L h ((e, o) :: l)) (hap : ∀ p ∈ l, @Ne Nat p.1 e) (hk : ∀ b o, b ≠ e → h.get? b = some o → h'.get? b = some o) (ho : h'.get? e = some o') : News g L h' ((e, o') :: l) := by
  intro p hp
  rcases List.mem_cons.mp hp with rfl | hp
  · exact ⟨ho, (N _ (.head _)).2⟩
  · exact ⟨hk _ _ (hap p hp) (N p (.tail _ hp)).1, (N p (.tail _ hp)).2⟩
end
/-- a refusal as it is made -/
noncomputable abbrev O38 (t : Addr) : Obj := { cls := .ref 38, data := .fields #[.ref t, .none, .none, .none, .bool false, .none] }
noncomputable abbrev tupO (v : Value) : Obj := { cls := .type "tuple", data := .seq #[v] }
theorem ne_of_none {h : Heap} {a b : Addr} {o : Obj} (x : h.get? a = some o) (y : h.get? b = none) : @Ne Nat a b := fun z => by
  have z' : a = b := z
  rw [z', y] at x; cases x
section
variable {prog : Program} {w : World} {A : Around} {E : Value → Shared → Prop} {s : Shared} {h₀ : Heap} {L : Addr} {m : Str → Option Value} {news : Led}
theorem call_refuse {v : Value} {Q : Value → Shared → Prop} (F : Fr h₀ L s.heap m) (X : (hd.heap_1 w.params).In h₀) (N : News h₀ L s.heap news)
    (h : ∀ e t h', Fr h₀ L h' m → News h₀ L h' ((e, O38 t) :: (t, tupO v) :: news) → (∀ p ∈ news, @Ne Nat p.1 e ∧ @Ne Nat p.1 t) → @Ne Nat e t →
      wpAny (model prog w) (A.under (.builtin "type.__call__" ⟨[.ref 38, v], []⟩)) (call (.ref 35) [.ref e, v]) (fun r s' => r = .none ∧ Q (.ref e) s') E { s with heap := h' }) :
    wpAny (model prog w) A (call (.ref 38) [v]) Q E s := by
  obtain ⟨nm, q, N', bs, sn, sub, ab, col, dd, k0, k1, k2, k3, k5, mN, hC, hn, hi, _, _⟩ := refuse_cls (X.keeps F.keep)
  have hf : s.heap.get? 35 = some _ := X.keeps F.keep 35 _ rfl
  obtain ⟨hp, g, d, tk, os⟩ := s
  refine wpAny_call_exc_init PySem.F.excBase_Exception hC hn hi hf rfl (fun h' e hm => ?_)
  obtain ⟨hk, hnew, t, he, htn, ht⟩ := hm
  have F' := F.keeps hk
  have fr : ∀ {b : Addr}, hp.get? b = none → h₀.get? b = none := fun {b} q => by
    cases z : h₀.get? b with
    | none => rfl
    | some o => have := F.keep b o z; rw [q] at this; cases this
  have N1 : News h₀ L h' news := fun p hp => ⟨hk _ _ (N p hp).1, (N p hp).2⟩
  have N2 := News.more F' N1 ht (fun es n q => by cases q) (fr htn)
  have N3 := News.more F' N2 he (fun es n q => by cases q) (fr hnew)
  refine h e t h' F' N3 (fun p hp => ⟨ne_of_none (N p hp).1 hnew, ne_of_none (N p hp).1 htn⟩) (fun z => ?_)
  have z' : e = t := z
  rw [z', ht] at he
  cases he
theorem init_w {e t : Addr} {v : Value} {l : Led} {Q : Value → Shared → Prop} (F : Fr h₀ L s.heap m) (X : (hd.heap_1 w.params).In h₀) (N : News h₀ L s.heap ((e, O38 t) :: l)) (hap : ∀ p ∈ l, @Ne Nat p.1 e)
    (h : ∀ h' t2, Fr h₀ L h' m → News h₀ L h' ((e, O38 t2) :: (t2, tupO v) :: l) → (∀ p ∈ l, @Ne Nat p.1 t2) → @Ne Nat e t2 → Q .none { s with heap := h' }) :
    wpAny (model prog w) A (call (.builtin "Exception.__init__") [.ref e, v]) Q E s := by
  obtain ⟨nm, q, N', bs, sn, sub, ab, col, dd, k0, k1, k2, k3, k5, mN, hC, _, _, _, _⟩ := refuse_cls (X.keeps F.keep)
  refine init_by_name hC (N _ (.head _)).1 (fun h' t2 hk htn he ht => ?_)
  have F' := fr_but F hk (N _ (.head _)).2.1 (N _ (.head _)).2.2
  have N1 := news_but N hap hk he
  have hnt : ∀ p ∈ (e, O38 t) :: l, @Ne Nat p.1 t2 := fun p hp => ne_of_none (N p hp).1 htn
  have fr : h₀.get? t2 = none := by
    cases z : h₀.get? t2 with
    | none => rfl
    | some o => have := F.keep t2 o z; rw [htn] at this; cases this
  have N2 := News.more F' N1 ht (fun es n q => by cases q) fr
  refine h h' t2 F' (fun p hp => N2 p ?_) (fun p hp => hnt p (.tail _ hp)) (hnt _ (.head _))
  rcases List.mem_cons.mp hp with rfl | hp
  · exact .tail _ (.head _)
  · rcases List.mem_cons.mp hp with rfl | hp
    · exact .head _
    · exact .tail _ (.tail _ hp)
theorem text_w {e t : Addr} {v : Value} {l : Led} {Q : Unit → Shared → Prop} (F : Fr h₀ L s.heap m) (X : (hd.heap_1 w.params).In h₀) (N : News h₀ L s.heap ((e, O38 t) :: l)) (hap : ∀ p ∈ l, @Ne Nat p.1 e)
    (h : ∀ h' tk' oe, Fr h₀ L h' m → News h₀ L h' ((e, oe) :: l) → oe.cls = .ref 38 → oe.data = .fields #[.ref t, .none, .none, .none, .bool false, .none] → Q () { s with heap := h', toks := tk' }) :
    wpAny (model prog w) A (setAttr (.ref e) "text" v) Q E s := by
  obtain ⟨nm, q, N', bs, sn, sub, ab, col, dd, k0, k1, k2, k3, k5, mN, hC, hn, _, hs, ht⟩ := refuse_cls (X.keeps F.keep)
  exact text_set hC hn hs ht (by rw [typeLookup_type, builtinLookup_eq_fast]; kernel_rfl) (N _ (.head _)).1 (fun h' tk' oe hk he h1 h2 =>
    h h' tk' oe (fr_but F hk (N _ (.head _)).2.1 (N _ (.head _)).2.2) (news_but N hap hk he) h1 h2)
end
section
variable {M : Model} {A : Around} {E : Value → Shared → Prop} {s' : Shared} {base g : Heap} {outer : List Env} {L a e t : Addr} {m : Str → Option Value} {name : Str} {scope : Scope} {cd : Value} {Q : Unit → Shared → Prop} {news : Led} {cls : Value} {oe : Obj} {vs : List Value}
theorem leave_x (K : Below A base outer g) (F : Fr g L s'.heap m) (N : News g L s'.heap ((e, oe) :: (t, { cls := .type "tuple", data := .seq vs.toArray }) :: news)) (hap : ∀ p ∈ news, @Ne Nat p.1 e ∧ @Ne Nat p.1 t)
    (hcls : oe.cls = cls) (hd : oe.data = .fields #[.ref t, .none, .none, .none, .bool false, .none])
    (hQ : ∀ h', RaisedS base g outer e cls t vs news h' → g.UpToSlots h' → Q () { s' with heap := h' }) (hk : scope.kind = .function := by rfl) :
    wpAny M (A.deeper (envOf name scope L a cd)) (leaving (envOf name scope L a cd) (.ref e)) Q E s' := by
  have K' := K.push (name := name) (a := a) (cd := cd) F hk
  generalize hfs : (envOf name scope L a cd :: outer).filterMap (·.frame) = fs
  have hin : ∀ env ∈ (envOf name scope L a cd :: outer), ∀ b, env.frame = some b → b ∈ e :: t :: fs := fun env he b hb => .tail _ (.tail _ (hfs ▸ List.mem_filterMap.mpr ⟨env, he, hb⟩))
  have hge : g.get? e = none := (N _ (.head _)).2.2
  have hgt : g.get? t = none := (N _ (.tail _ (.head _))).2.2
  have not : ∀ {h : Heap} {b : Addr} {o : Obj}, h.get? e = none → h.get? t = none → h.get? b = some o → b ∉ fs → b ∉ e :: t :: fs := fun he ht hb hf hm => by
    rcases List.mem_cons.mp hm with z | hm
    · rw [z, he] at hb; cases hb
    · rcases List.mem_cons.mp hm with z | hm
      · rw [z, ht] at hb; cases hb
      · exact hf hm
  have hbe := fresh_of_stays K.stays hge
  have hbt := fresh_of_stays K.stays hgt
  have st : base.StaysIn (hideAll s'.heap (e :: t :: fs)) := fun b o q => hideAll_get _ (K'.stays b o q) (not hbe hbt q fun hm => by
    rw [← hfs] at hm; rw [(K'.frames.mem hm).1] at q; cases q)
  have sg : ∀ b o, g.get? b = some o → b ∉ outer.filterMap (·.frame) → (hideAll s'.heap (e :: t :: fs)).get? b = some o := fun b o q nm => hideAll_get _ (F.keep b o q) (not hge hgt q fun hm => by
    rw [← hfs] at hm
    rcases kts_mem hm with z | z
    · rw [z, kts_self F] at q
      cases q
    · exact nm z)
  have hl : ∀ q ∈ news, (hideAll s'.heap (e :: t :: fs)).get? q.1 = some q.2 ∧ g.get? q.1 = none ∧ base.get? q.1 = none := fun q hq => by
    have Nq := N q (.tail _ (.tail _ hq))
    refine ⟨hideAll_get _ Nq.1 fun hm => ?_, Nq.2.2, fresh_of_stays K.stays Nq.2.2⟩
    rcases List.mem_cons.mp hm with z | hm
    · exact (hap q hq).1 z
    · rcases List.mem_cons.mp hm with z | hm
      · exact (hap q hq).2 z
      · rw [← hfs] at hm
        obtain ⟨env, he, hf⟩ := List.mem_filterMap.mp hm
        rcases List.mem_cons.mp he with rfl | he
        · exact Nq.2.1 (Option.some.inj hf).symm
        · obtain ⟨o, ho, _⟩ := (K.frames.mem (List.mem_filterMap.mpr ⟨env, he, hf⟩)).2
          rw [Nq.2.2] at ho; cases ho
  refine wpAny_leaving_firstW (a0 := .ref t) K'.stack (funFrames_hide K'.frames hin) rfl (N _ (.head _)).1 (fun b o hb => of_hideAll _ hb) (hideAll_none _ (.head _) ) hd rfl rfl fun h' hL => ?_
  obtain ⟨k1, ⟨_, _, k2⟩, k3, k4⟩ := hL
  have hu : g.UpToSlots h' := (Heap.UpToSlots.of_keeps F.keep).trans k4
  exact hQ h' ⟨⟨_, st, sg, hl, ⟨k1, hideAll_none _ (.head _), k2, by rw [← hcls]; exact k3⟩, hideAll_none _ (.tail _ (.head _))⟩, Heap.TupAt.of_slots ⟨_, _, (N _ (.tail _ (.head _))).1, rfl, rfl⟩ k4⟩ hu
end
/-- the contract of a def that may refuse -/
noncomputable def SpecR (w : World) (mean : ExcName → Option Value) (mg mb : Str → Option Value) (D U : Nat) (f : Addr) (vs : List Value) (news : Led) (Post : Value → Led → Prop) (Ref : Prop) : Prop :=
  ∀ (dp un : Nat) (gd : Option (List Code)) (cn : Str) (cs : Scope) (a : Addr) (ccd : Value) (outer : List Env) (A₀ : Around) (base h₀ : Heap) (L : Addr) (m : Str → Option Value) (sh : Heap) (sg : Array GenState) (sd : Drawn) (st : Nat) (so : OsState) (Q E : Value → Shared → Prop),
    Below A₀ base outer h₀ → Fr h₀ L sh m → (hd.heap_1 w.params).In h₀ → News h₀ L sh news → Top vw (looseW vw []) mean mg mb h₀ → cs.kind = .function → dp + D < recursionLimit → un + U < cLine →
    (∀ r news' h' tk', Post r news' → Fr h₀ L h' m → News h₀ L h' news' → Q r ⟨h', sg, sd, tk', so⟩) →
    (∀ g e t vs' h' tk', Ref → Fr h₀ L g m → RaisedS base g (envOf cn cs L a ccd :: outer) e (.ref 38) t vs' news h' → g.UpToSlots h' → E (.ref e) ⟨h', sg, sd, tk', so⟩) →
    wpAny (model PySem.Challenge.rw_no0073_01.row.prog w) (ktrTop dp un gd cn cs L a ccd [] outer) (call (.ref f) vs) Q E ⟨sh, sg, sd, st, so⟩
theorem specR_use {w : World} {mean : ExcName → Option Value} {mg mb : Str → Option Value} {D U : Nat} {f : Addr} {vs : List Value} {news : Led} {Post : Value → Led → Prop} {Ref : Prop} {dp un : Nat} {gd : Option (List Code)} {cn : Str} {cs : Scope} {a : Addr} {ccd : Value} {outer : List Env} {A₀ : Around} {base h₀ : Heap} {L : Addr} {m : Str → Option Value} {sh : Heap} {sg : Array GenState} {sd : Drawn} {st : Nat} {so : OsState} {Q E : Value → Shared → Prop}
    (S : SpecR w mean mg mb D U f vs news Post Ref) (B : Below A₀ base outer h₀) (F : Fr h₀ L sh m) (X : (hd.heap_1 w.params).In h₀) (N : News h₀ L sh news) (T : Top vw (looseW vw []) mean mg mb h₀) (hk : cs.kind = .function) (hd : dp + D < recursionLimit) (hu : un + U < cLine)
    (ret : ∀ r news' h' tk', Post r news' → Fr h₀ L h' m → News h₀ L h' news' → Q r ⟨h', sg, sd, tk', so⟩)
    (ref : ∀ g e t vs' h' tk', Ref → Fr h₀ L g m → RaisedS base g (envOf cn cs L a ccd :: outer) e (.ref 38) t vs' news h' → g.UpToSlots h' → E (.ref e) ⟨h', sg, sd, tk', so⟩) :
    wpAny (model PySem.Challenge.rw_no0073_01.row.prog w) (ktrTop dp un gd cn cs L a ccd [] outer) (call (.ref f) vs) Q E ⟨sh, sg, sd, st, so⟩ := S _ _ _ _ _ _ _ _ _ _ _ _ _ _ _ _ _ _ _ _ B F X N T hk hd hu ret ref
noncomputable abbrev fsOf (outer : List Env) : List Addr := outer.filterMap (·.frame)
/-- the contract of a def in which an exception may fly: the frames below may be touched -/
noncomputable def SpecS (w : World) (mean : ExcName → Option Value) (mg mb : Str → Option Value) (D U : Nat) (f : Addr) (vs : List Value) (news : Led) (Post : Value → Led → Prop) : Prop :=
  ∀ (dp un : Nat) (gd : Option (List Code)) (cn : Str) (cs : Scope) (a : Addr) (ccd : Value) (cl : List (Str × Addr)) (outer : List Env) (A₀ : Around) (base h₀ : Heap) (L : Addr) (m : Str → Option Value) (sh : Heap) (sg : Array GenState) (sd : Drawn) (st : Nat) (so : OsState) (Q E : Value → Shared → Prop),
    Below A₀ base outer h₀ → Fr h₀ L sh m → (hd.heap_1 w.params).In h₀ → News h₀ L sh news → Top vw (looseW vw []) mean mg mb h₀ → (hd.heap_1 w.params).In base → Top vw (looseW vw []) mean mg mb base → KtsDicts (fsOf outer) h₀ → cs.kind = .function → dp + D < recursionLimit → un + U < cLine →
    (∀ r news' h' tk' h₁, Post r news' → KtsTurn (fsOf outer) h₀ h₁ → Fr h₁ L h' m → News h₁ L h' news' → Below A₀ base outer h₁ → (hd.heap_1 w.params).In h₁ → Top vw (looseW vw []) mean mg mb h₁ → KtsDicts (fsOf outer) h₁ → Q r ⟨h', sg, sd, tk', so⟩) →
    wpAny (model PySem.Challenge.rw_no0073_01.row.prog w) (ktrTop dp un gd cn cs L a ccd cl outer) (call (.ref f) vs) Q E ⟨sh, sg, sd, st, so⟩
theorem specS_use {w : World} {mean : ExcName → Option Value} {mg mb : Str → Option Value} {D U : Nat} {f : Addr} {vs : List Value} {news : Led} {Post : Value → Led → Prop} {dp un : Nat} {gd : Option (List Code)} {cn : Str} {cs : Scope} {a : Addr} {ccd : Value} {cl : List (Str × Addr)} {outer : List Env} {A₀ : Around} {base h₀ : Heap} {L : Addr} {m : Str → Option Value} {sh : Heap} {sg : Array GenState} {sd : Drawn} {st : Nat} {so : OsState} {Q E : Value → Shared → Prop}
    (S : SpecS w mean mg mb D U f vs news Post) (B : Below A₀ base outer h₀) (F : Fr h₀ L sh m) (X : (hd.heap_1 w.params).In h₀) (N : News h₀ L sh news) (T : Top vw (looseW vw []) mean mg mb h₀) (XB : (hd.heap_1 w.params).In base) (TB : Top vw (looseW vw []) mean mg mb base) (KD : KtsDicts (fsOf outer) h₀) (hk : cs.kind = .function) (hdp : dp + D < recursionLimit) (hu : un + U < cLine)
    (ret : ∀ r news' h' tk' h₁, Post r news' → KtsTurn (fsOf outer) h₀ h₁ → Fr h₁ L h' m → News h₁ L h' news' → Below A₀ base outer h₁ → (hd.heap_1 w.params).In h₁ → Top vw (looseW vw []) mean mg mb h₁ → KtsDicts (fsOf outer) h₁ → Q r ⟨h', sg, sd, tk', so⟩) :
    wpAny (model PySem.Challenge.rw_no0073_01.row.prog w) (ktrTop dp un gd cn cs L a ccd cl outer) (call (.ref f) vs) Q E ⟨sh, sg, sd, st, so⟩ := S _ _ _ _ _ _ _ _ _ _ _ _ _ _ _ _ _ _ _ _ _ B F X N T XB TB KD hk hdp hu ret
/-- from the outermost frame nothing is touched -/
theorem turn_nil_fr {h₀ h₁ h : Heap} {L : Addr} {m : Str → Option Value} (T : KtsTurn [] h₀ h₁) (F : Fr h₁ L h m) : Fr h₀ L h m :=
  ⟨F.ns, fun b o q => F.keep b o (T.other b o q (by simp)), by rw [← T.size]; exact F.above⟩
theorem turn_nil_news {h₀ h₁ h : Heap} {L : Addr} {l : Led} (T : KtsTurn [] h₀ h₁) (N : News h₁ L h l) : News h₀ L h l := fun p hp =>
  ⟨(N p hp).1, (N p hp).2.1, kts_none (fun b o q => T.other b o q (by simp)) (N p hp).2.2⟩
noncomputable def LeaveT (fs : List Addr) (A₀ : Around) (base : Heap) (outer : List Env) (w : World) (mean : ExcName → Option Value) (mg mb : Str → Option Value) (h₀ : Heap) (L : Addr) (m : Str → Option Value) (g : Heap) (R : Result → Shared → Prop) (v : Value) (s' : Shared) : Prop :=
  ∃ g' L' m' news', KtsTurn fs g g' ∧ Fr g' L' s'.heap m' ∧ News g' L' s'.heap news' ∧ ∀ h₁, KtsTurn (fsOf outer) h₀ h₁ → Fr h₁ L s'.heap m → News h₁ L s'.heap news' → Below A₀ base outer h₁ → (hd.heap_1 w.params).In h₁ → Top vw (looseW vw []) mean mg mb h₁ →
    KtsDicts (fsOf outer) h₁ → R (.ok (.ret v)) s'
section
variable {w : World} {A₀ A : Around} {s : Shared} {base h₀ : Heap} {env : Env} {outer : List Env} {L : Addr} {m : Str → Option Value} {news : Led} {mean : ExcName → Option Value} {mg mb : Str → Option Value}
    {R : Result → Shared → Prop} {name qual : Str} {params : Arguments} {body : List Stmt} {scope : Scope} {dV kV doc pm cdv ct oc : Value} {an od : Option Addr} {osl : Array (Option Value)} {f : Addr} {args : Args} {binds : List (Str × Value)}
theorem mem_env {b : Addr} (hf : env.frame = some L) (hm : b ∈ fsOf (env :: outer)) : b = L ∨ b ∈ fsOf outer := by
  obtain ⟨e, he, hf'⟩ := List.mem_filterMap.mp hm
  rcases List.mem_cons.mp he with rfl | he
  · exact .inl (Option.some.inj (hf'.symm.trans hf))
  · exact .inr (List.mem_filterMap.mpr ⟨e, he, hf'⟩)
theorem code_defT (B : Below A₀ base outer h₀) (F : Fr h₀ L s.heap m) (X₀ : (hd.heap_1 w.params).In h₀) (N : News h₀ L s.heap news) (T : Top vw (looseW vw []) mean mg mb h₀) (XB : (hd.heap_1 w.params).In base) (TB : Top vw (looseW vw []) mean mg mb base) (D : KtsDicts (fsOf outer) h₀)
    (hA : A.frames = some (env :: outer)) (hf : env.frame = some L) (hke : env.scope.kind = .function)
    (ho : (hd.heap_1 w.params).lookup f = some ⟨oc, od, .func (fnOf name qual params body scope dV kV doc pm an cdv ct), osl⟩) (hcd : codeIn (hd.heap_1 w.params) cdv qual = true) (hroom : A.depth < recursionLimit)
    (hbind : BindsTo s (fnOf name qual params body scope dV kV doc pm an cdv ct) args binds) (hloc : ∀ y ∈ binds, scope.names.lookup y.1 = some .local)
    (h : ∀ g L' h₁, Fr h₀ L g m → Fr g L' h₁ (fun y => binds.reverse.lookup y) → News g L' h₁ news → Below A base (env :: outer) g → (hd.heap_1 w.params).In g → Top vw (looseW vw []) mean mg mb g → KtsDicts (fsOf (env :: outer)) g →
      wpAny (model PySem.Challenge.rw_no0073_01.row.prog w) (A.deeper (envOf qual scope L' f cdv)) (execs body (envOf qual scope L' f cdv))
        (fun fl s' => LeaveT (fsOf (env :: outer)) A₀ base outer w mean mg mb h₀ L m g R (match fl with | .ret v => v | _ => .none) s')
        (fun e s' => wpAny (model PySem.Challenge.rw_no0073_01.row.prog w) (A.deeper (envOf qual scope L' f cdv)) (leaving (envOf qual scope L' f cdv) e) (fun _ s'' => R (.error e) s'') (fun e' s'' => R (.error e') s'') s')
        { s with heap := h₁, toks := s.toks + binds.length })
    (hco : scope.isCoroutine = false) (hgen : scope.isGenerator = false) (hk : scope.kind = .function)
    (hcell : ∀ x ∈ scope.names, x.2 ≠ .cell) : codeAny (model PySem.Challenge.rw_no0073_01.row.prog w) A (.call (.ref f) args) R s := by
  have X := X₀.keeps F.keep
  refine codeAny_call_def (fd := fnOf name qual params body scope dV kV doc pm an cdv ct) (body := body) (binds := binds) hroom (X _ _ ho) rfl (T.nolimit.keeps F.keep) (codeRec_of X hcd) rfl hbind hcell hloc (fun h₁ hns hk₁ => ?_) hco hgen hk
  obtain ⟨FG, BG, st, _⟩ := groundX (R := R) B F N hA hf hke
  obtain ⟨oL, es, ep, hLg, hLd, hLk, hLf⟩ := FG.ns
  refine wpAny_mono (h _ s.heap.objs.size h₁ FG ⟨hns, fun b o e => hk₁ b o (of_hideAll _ e), Nat.le_of_eq (hideAll_size _ _)⟩
    (fun p hp => ⟨hk₁ _ _ (N p hp).1, Nat.ne_of_lt (Heap.lt_size (N p hp).1), hideAll_none _ (List.mem_map_of_mem hp)⟩) BG (X₀.keeps st) (T.keeps st) (fun b hb => by
      rcases mem_env hf hb with rfl | hb
      · exact ⟨oL, es, ep, hLg, hLd⟩
      · obtain ⟨o, es', n', ho', hd'⟩ := D b hb
        exact ⟨o, es', n', st b o ho', hd'⟩)) (fun fl s' hl => ?_) fun _ _ y => y
  have nL₀ : h₀.get? L = none := kts_self F
  obtain ⟨g', L', m', news', T', F', N', k⟩ := hl
  obtain ⟨sl, hs⟩ := T'.up hLg
  obtain ⟨T₁, S₁⟩ := kts_turn_at (h := s'.heap) (fs := fsOf outer) (g := h₀)
    (fun b hb => by
      obtain ⟨_, o, ho', _⟩ := B.frames.mem hb
      exact ⟨o, ho'⟩)
    (fun b o e nmem => F'.keep b o (T'.other b o (st b o e) (fun q => by
      rcases mem_env hf q with z | z
      · rw [z, nL₀] at e
        cases e
      · exact nmem z)))
    (fun b o e hm => by
      obtain ⟨sl', hs'⟩ := T'.up (st b o e)
      exact ⟨sl', F'.keep _ _ hs'⟩)
  have B₃ : Below A₀ base outer (ktsHeap s'.heap (fsOf outer) h₀) := ⟨B.stack, fun b o e => T₁.other b o (B.stays b o e) (fun hm => by
    rw [(B.frames.mem hm).1] at e
    cases e), B.frames.of_keeps fun b o e _ => by
    obtain ⟨sl', hs'⟩ := T₁.up e
    exact ⟨_, hs', rfl⟩⟩
  have hns' : s'.heap.Ns L m := ⟨_, es, ep, F'.keep _ _ hs, hLd, hLk, hLf⟩
  refine k _ T₁ ⟨hns', S₁, by rw [T₁.size]; exact F.above⟩ (fun p hp => ⟨(N' p hp).1, fun q => ?_, ?_⟩) B₃ (XB.keeps B₃.stays) (TB.keeps B₃.stays) (D.turn T₁)
  · have := (N' p hp).2.2; rw [q, hs] at this; cases this
  · refine T₁.none_ _ ?_
    cases q : h₀.get? p.1 with
    | none => rfl
    | some o =>
      obtain ⟨sl', hs'⟩ := T'.up (st _ _ q)
      have := (N' p hp).2.2
      rw [hs'] at this
      cases this
end
/-- an exception of the class of refusals, ready to fly -/
noncomputable def Refusing (h₀ : Heap) (E : Value → Shared → Prop) (v : Value) (s₁ : Shared) : Prop :=
  ∃ e oe t, v = .ref e ∧ (∀ b o, h₀.get? b = some o → s₁.heap.get? b = some o) ∧ s₁.heap.get? e = some oe ∧ oe.cls = .ref 38 ∧ oe.data = .fields #[.ref t, .none, .none, .none, .bool false, .none] ∧ E (.ref e) s₁
theorem Raise_38 {w : World} {M : Model} {A : Around} {E : Value → Shared → Prop} {s : Shared} {env : Env} {h₀ : Heap} {x : Expr} {pos : Pos} {Q : Flow → Shared → Prop} (X : (hd.heap_1 w.params).In h₀) (hh : A.handled = none)
    (h : wpAny M A (eval x env) (Refusing h₀ E) E s) : wpAny M A (exec (.Raise (some x) none pos) env) Q E s := by
  obtain ⟨nm, q, N', bs, sn, sub, ab, col, dd, k0, k1, k2, k3, k5, mN, hC, _⟩ := refuse_cls X
  refine Raise_with (C := 38) (nm := nm) (q := q) (N := N') (bs := bs) (bm := [.type "Exception", .type "BaseException", .type "object"]) (hdct := true) (sn := sn) (sub := sub) (ab := ab) (col := col) (dd := dd) (k0 := k0) (k1 := k1) (k2 := k2) (k3 := k3) (k5 := k5) (newId := "Exception.__new__") (by decide) hh
    (wpAny_mono h (fun v s₁ h₁ => ?_) fun _ _ x => x)
  obtain ⟨e, oe, t, rfl, hk, he, hc, hd, hE⟩ := h₁
  exact ⟨e, oe, rfl, hk _ _ hC, he, hc, ⟨t, hd⟩, hE⟩
theorem per_e {news : Led} {e t : Addr} {o : Obj} (hap : ∀ p ∈ news, @Ne Nat p.1 e ∧ @Ne Nat p.1 t) (hne : @Ne Nat e t) : ∀ p ∈ (t, o) :: news, @Ne Nat p.1 e := fun p hp => by
  rcases List.mem_cons.mp hp with rfl | hp
  · exact Ne.symm hne
  · exact (hap p hp).1
theorem per_t {news : Led} {e t t2 : Addr} {o o2 : Obj} (hap : ∀ p ∈ news, @Ne Nat p.1 e ∧ @Ne Nat p.1 t) (hne : @Ne Nat e t) (hne2 : @Ne Nat e t2) : ∀ p ∈ (t2, o2) :: (t, o) :: news, @Ne Nat p.1 e := fun p hp => by
  rcases List.mem_cons.mp hp with rfl | hp
  · exact Ne.symm hne2
  · exact per_e hap hne p hp
theorem per_b {news : Led} {e t t2 : Addr} {o : Obj} (hap : ∀ p ∈ news, @Ne Nat p.1 e ∧ @Ne Nat p.1 t) (hne : @Ne Nat e t) (hap2 : ∀ p ∈ (t, o) :: news, @Ne Nat p.1 t2) : ∀ p ∈ (t, o) :: news, @Ne Nat p.1 e ∧ @Ne Nat p.1 t2 := fun p hp =>
  ⟨per_e hap hne p hp, hap2 p hp⟩
theorem RaisedS.sub {base G : Heap} {l : List Env} {e t : Addr} {cls : Value} {vs : List Value} {news news' : Led} {h : Heap} (R : RaisedS base G l e cls t vs news h) (hs : ∀ q ∈ news', q ∈ news) : RaisedS base G l e cls t vs news' h := by
  obtain ⟨⟨B, hB, hBG, hl, hfl, hnew⟩, htup⟩ := R
  exact ⟨⟨B, hB, hBG, fun q hq => hl q (hs q hq), hfl, hnew⟩, htup⟩
noncomputable abbrev gotR (size : Int) (r : Rw) : Rw := { r with inn := r.inn + size }
noncomputable abbrev barB (σ : St) (ad : Str) (rows : List Rw) : Bool := !(rows.any (isAt ad)) && (σ.role == Str.ofString "client" || !σ.may)
theorem any_map {prs : List (Rw × Addr)} {ad : Str} : (prs.map Prod.fst).any (isAt ad) = true ↔ ∃ q ∈ prs, q.1.addr = ad := by
  rw [List.any_eq_true]
  constructor
  · rintro ⟨r, hr, h⟩
    obtain ⟨q, hq, rfl⟩ := List.mem_map.mp hr
    exact ⟨q, hq, eq_of_beq h⟩
  · rintro ⟨q, hq, h⟩
    exact ⟨q.1, List.mem_map.mpr ⟨q, hq, rfl⟩, beq_iff_eq.mpr h⟩
theorem any_no {prs : List (Rw × Addr)} {ad : Str} (h : ∀ q ∈ prs, q.1.addr ≠ ad) : (prs.map Prod.fst).any (isAt ad) = false := by
  rw [← Bool.not_eq_true, any_map]
  rintro ⟨q, hq, e⟩
  exact h q hq e
theorem bar_in {prs : List (Rw × Addr)} {ad : Str} {σ : St} (h : ∃ q ∈ prs, q.1.addr = ad) : barB σ ad (prs.map Prod.fst) = false := by
  unfold barB; rw [any_map.mpr h]; rfl
theorem bar_pos1 {prs : List (Rw × Addr)} {ad : Str} {σ : St} (h : ∀ q ∈ prs, q.1.addr ≠ ad) (h1 : (σ.role == Str.ofString "client") = true) : barB σ ad (prs.map Prod.fst) = true := by
  unfold barB; rw [any_no h, h1]; rfl
theorem bar_pos2 {prs : List (Rw × Addr)} {ad : Str} {σ : St} (h : ∀ q ∈ prs, q.1.addr ≠ ad) (h1 : (σ.role == Str.ofString "client") = false) (h2 : σ.may = false) : barB σ ad (prs.map Prod.fst) = true := by
  unfold barB; rw [any_no h, h1, h2]; rfl
theorem bar_neg {rows : List Rw} {ad : Str} {σ : St} (h1 : (σ.role == Str.ofString "client") = false) (h2 : σ.may = true) : barB σ ad rows = false := by
  unfold barB; rw [h1, h2]; simp
end
section
/-- what holds of the law's world behind k turns -/
structure Fine (k : Nat) (σ : St) (rows : List Rw) : Prop where
  nd : (rows.map (·.addr)).Nodup
  act : ∃ r ∈ rows, r.addr = σ.active
  role : σ.role = Str.ofString "server" ∨ σ.role = Str.ofString "client"
  len : rows.length ≤ k + 1
  ask : σ.asked.length ≤ k
  asks : ∀ r ∈ rows, r.asked.length ≤ k
/-- both sides, with the same rows -/
inductive Both (w : World) (wd ps : Addr) (σ : St) (rows : List Rw) : Led → Prop
  | mk {lrs prs : List (Rw × Addr)} {ll lp : Led} (hL : LSide w σ lrs wd ll) (hP : PSide w σ prs ps lp) (hl : lrs.map Prod.fst = rows) (hp : prs.map Prod.fst = rows) : Both w wd ps σ rows (ll ++ lp)
theorem Fine.next {k : Nat} {σ : St} {rows : List Rw} (h : Fine k σ rows) : Fine (k + 1) σ rows :=
  ⟨h.nd, h.act, h.role, Nat.le_succ_of_le h.len, Nat.le_succ_of_le h.ask, fun r hr => Nat.le_succ_of_le (h.asks r hr)⟩
theorem opn_in {ad : Str} {rows : List Rw} (h : rows.any (isAt ad) = true) : opn ad rows = rows := by unfold opn; rw [if_pos h]
theorem opn_new {ad : Str} {rows : List Rw} (h : rows.any (isAt ad) = false) : opn ad rows = rows ++ [newR ad false] := by unfold opn; rw [if_neg (by rw [h]; exact Bool.false_ne_true)]
theorem upd_new {ad : Str} {rows : List Rw} {f : Rw → Rw} (h : rows.any (isAt ad) = false) : upd (isAt ad) f (rows ++ [newR ad false]) = rows ++ [f (newR ad false)] := by
  refine upd_at (by simp [isAt]) fun q hq => ?_
  cases e : isAt ad q with
  | false => rfl
  | true => exact absurd (List.any_eq_true.mpr ⟨q, hq, e⟩) (by rw [h]; exact Bool.false_ne_true)
theorem upd_mem {p : Rw → Bool} {f : Rw → Rw} {x : Rw} : ∀ {l : List Rw}, x ∈ upd p f l → x ∈ l ∨ ∃ r ∈ l, x = f r
  | [], h => .inl h
  | r :: l, h => by
    unfold upd at h
    split at h
    · rcases List.mem_cons.mp h with rfl | h
      · exact .inr ⟨r, .head _, rfl⟩
      · exact .inl (.tail _ h)
    · rcases List.mem_cons.mp h with rfl | h
      · exact .inl (.head _)
      · rcases upd_mem h with h | ⟨q, hq, e⟩
        · exact .inl (.tail _ h)
        · exact .inr ⟨q, .tail _ hq, e⟩
theorem upd_length {p : Rw → Bool} {f : Rw → Rw} : ∀ l : List Rw, (upd p f l).length = l.length
  | [] => rfl
  | r :: l => by unfold upd; split <;> simp [upd_length l]
theorem mem_addr {rows rows' : List Rw} {a : Str} (e : rows'.map (·.addr) = rows.map (·.addr)) (h : ∃ r ∈ rows, r.addr = a) : ∃ r ∈ rows', r.addr = a := by
  obtain ⟨r, hr, ha⟩ := h
  have : a ∈ rows'.map (·.addr) := by rw [e]; exact List.mem_map.mpr ⟨r, hr, ha⟩
  obtain ⟨q, hq, e2⟩ := List.mem_map.mp this
  exact ⟨q, hq, e2⟩
/-- one row turned -/
theorem Fine.upd {k : Nat} {σ : St} {rows : List Rw} {p : Rw → Bool} {f : Rw → Rw} (h : Fine k σ rows) (hf : ∀ r, (f r).addr = r.addr) (ha : ∀ r ∈ rows, (f r).asked.length ≤ k) : Fine k σ (Mine.upd p f rows) :=
  ⟨by rw [upd_addr hf]; exact h.nd, mem_addr (upd_addr hf rows) h.act, h.role, by rw [upd_length]; exact h.len, h.ask, fun r hr => by
    rcases upd_mem hr with hr | ⟨q, hq, rfl⟩
    · exact h.asks r hr
    · exact ha q hq⟩
theorem Fine.opn {k : Nat} {σ : St} {rows : List Rw} {ad : Str} (h : Fine k σ rows) : Fine (k + 1) σ (Mine.opn ad rows) := by
  cases e : rows.any (isAt ad) with
  | true => rw [opn_in e]; exact h.next
  | false =>
    have hn := opn_nodup (ad := ad) h.nd
    rw [opn_new e] at hn ⊢
    obtain ⟨r, hr, ha⟩ := h.act
    exact ⟨hn, ⟨r, List.mem_append_left _ hr, ha⟩, h.role, by rw [List.length_append]; exact Nat.succ_le_succ h.len, Nat.le_succ_of_le h.ask, fun q hq => by
      rcases List.mem_append.mp hq with hq | hq
      · exact Nat.le_succ_of_le (h.asks q hq)
      · rw [List.mem_singleton.mp hq]; exact Nat.zero_le _⟩
/-- the world turned, its rows as they were -/
theorem Fine.world {k : Nat} {σ σ' : St} {rows : List Rw} (h : Fine k σ rows) (ha : ∃ r ∈ rows, r.addr = σ'.active) (hr : σ'.role = σ.role) (hk : σ'.asked.length ≤ k) : Fine k σ' rows :=
  ⟨h.nd, ha, by rw [hr]; exact h.role, h.len, hk, h.asks⟩
theorem Fine.mapf {k : Nat} {σ : St} {rows : List Rw} {f : Rw → Rw} (h : Fine k σ rows) (hf : ∀ r, (f r).addr = r.addr) (ha : ∀ r ∈ rows, (f r).asked.length ≤ k) : Fine k σ (rows.map f) := by
  have e : (rows.map f).map (·.addr) = rows.map (·.addr) := by rw [List.map_map]; exact List.map_congr_left fun r _ => hf r
  exact ⟨by rw [e]; exact h.nd, mem_addr e h.act, h.role, by rw [List.length_map]; exact h.len, h.ask, fun r hr => by
    obtain ⟨q, hq, rfl⟩ := List.mem_map.mp hr
    exact ha q hq⟩
/-- the same place in the other list -/
inductive MapSplit (pre post : List (Rw × Addr)) (r : Rw) (ys : List (Rw × Addr)) : Prop
  | mk (pre' : List (Rw × Addr)) (b : Addr) (post' : List (Rw × Addr)) (e : ys = pre' ++ (r, b) :: post') (h1 : pre'.map Prod.fst = pre.map Prod.fst) (h2 : post'.map Prod.fst = post.map Prod.fst)
theorem map_split {xs ys pre post : List (Rw × Addr)} {r : Rw} {a : Addr} (e : ys.map Prod.fst = xs.map Prod.fst) (h : xs = pre ++ (r, a) :: post) :
    MapSplit pre post r ys := by
  rw [h, List.map_append, List.map_cons] at e
  obtain ⟨pre', rest, rfl, h1, h2⟩ := List.map_eq_append_iff.mp e
  obtain ⟨⟨q, b⟩, post', rfl, h3, h4⟩ := List.map_eq_cons_iff.mp h2
  dsimp only at h3
  subst h3
  exact ⟨pre', b, post', rfl, h1, h4⟩
theorem not_at {xs ys : List (Rw × Addr)} {ad : Str} (e : ys.map Prod.fst = xs.map Prod.fst) (h : ∀ q ∈ xs, q.1.addr ≠ ad) : ∀ q ∈ ys, q.1.addr ≠ ad := fun q hq z => by
  have : q.1 ∈ xs.map Prod.fst := by rw [← e]; exact List.mem_map.mpr ⟨q, hq, rfl⟩
  obtain ⟨p, hp, e2⟩ := List.mem_map.mp this
  exact h p hp (by rw [e2]; exact z)
theorem nd_of {prs : List (Rw × Addr)} {rows : List Rw} (h : (rows.map (·.addr)).Nodup) (e : prs.map Prod.fst = rows) : (prs.map fun p => p.1.addr).Nodup := by rw [addr_map, e]; exact h
theorem len_of {prs : List (Rw × Addr)} {rows : List Rw} {k : Nat} (h : rows.length ≤ k) (e : prs.map Prod.fst = rows) : prs.length ≤ k := by rw [← e, List.length_map] at h; exact h
theorem perm_back (A : Led) (e1 e2 : Addr × Obj) (l₁ l₂ own : Led) : (e1 :: e2 :: (A ++ (l₁ ++ (l₂ ++ own)))).Perm (A ++ ((l₁ ++ ([e1, e2] ++ l₂)) ++ own)) := (row_perm A l₁ [e1, e2] l₂ own).symm
/-- the law's world put together, one row turned, its list its own or a new one -/
theorem lside_of {w : World} {σ : St} {lrs pre post : List (Rw × Addr)} {r r2 : Rw} {ra wd rl al : Addr} {o : Obj} {us : List Value} {vb : Value} {tr ta tt ts tn : Tok} {c c2 : Nat} {l₁ l₂ own : Led} {e1 e2 : Addr × Obj} {h₀ h : Heap} {L : Addr}
    (N : News h₀ L h (e1 :: e2 :: (wd, o) :: (rl, listOf (lrs.map fun p => Value.ref p.2).toArray c) :: (al, listOf us.toArray c2) :: (l₁ ++ (l₂ ++ own))))
    (hS : Sep (e1 :: e2 :: (wd, o) :: (rl, instObj 0 0) :: (al, instObj 0 0) :: (l₁ ++ (l₂ ++ own))))
    (hpr : lrs = pre ++ (r, ra) :: post) (h1 : Rows (LRow w) pre l₁) (h2 : Rows (LRow w) post l₂) (hrow : LRow w r2 ra [e1, e2])
    (ho : o.IsDictOf (SK w) [("role", .str σ.role tr), ("may", .bool σ.may), ("rows", .ref rl), ("active", .str σ.active ta), ("asked", .ref al), ("back", vb), ("top", .int σ.top tt), ("skip", .int σ.skip ts), ("now", .int σ.now tn)])
    (hb : StrOptIs vb σ.back) (hus : BytesAre us σ.asked) :
    ∃ l', LSide w σ (pre ++ (r2, ra) :: post) wd l' ∧ News h₀ L h (l' ++ own) ∧ Sep (l' ++ own) := by
  have hkn : (lrs.map fun p => Value.ref p.2) = (pre ++ (r2, ra) :: post).map fun p => Value.ref p.2 := by rw [hpr]; simp
  rw [hkn] at N
  have hp := perm_back [(wd, o), (rl, listOf ((pre ++ (r2, ra) :: post).map fun p => Value.ref p.2).toArray c), (al, listOf us.toArray c2)] e1 e2 l₁ l₂ own
  have hS' : Sep (e1 :: e2 :: ([(wd, o), (rl, listOf ((pre ++ (r2, ra) :: post).map fun p => Value.ref p.2).toArray c), (al, listOf us.toArray c2)] ++ (l₁ ++ (l₂ ++ own)))) := hS.same rfl
  refine ⟨_, LSide.mk (c := c) (c2 := c2) ho hb hus (h1.append (.cons hrow h2)), ?_, ?_⟩
  · have N2 := news_sub N (fun p hp' => hp.mem_iff.mpr hp')
    simpa only [List.cons_append, List.append_assoc, List.nil_append] using N2
  · have S2 := hS'.perm hp
    simpa only [List.cons_append, List.append_assoc, List.nil_append] using S2
/-- the law's world put together, a new row behind the others -/
theorem lside_new {w : World} {σ : St} {lrs : List (Rw × Addr)} {r2 : Rw} {ra wd rl al : Addr} {o : Obj} {us : List Value} {vb : Value} {tr ta tt ts tn : Tok} {c c2 : Nat} {ll own : Led} {e1 e2 : Addr × Obj} {h₀ h : Heap} {L : Addr}
    (N : News h₀ L h (e1 :: e2 :: (wd, o) :: (rl, listOf ((lrs ++ [(r2, ra)]).map fun p => Value.ref p.2).toArray c) :: (al, listOf us.toArray c2) :: (ll ++ own)))
    (hS : Sep (e1 :: e2 :: (wd, o) :: (rl, instObj 0 0) :: (al, instObj 0 0) :: (ll ++ own))) (hr : Rows (LRow w) lrs ll) (hrow : LRow w r2 ra [e1, e2])
    (ho : o.IsDictOf (SK w) [("role", .str σ.role tr), ("may", .bool σ.may), ("rows", .ref rl), ("active", .str σ.active ta), ("asked", .ref al), ("back", vb), ("top", .int σ.top tt), ("skip", .int σ.skip ts), ("now", .int σ.now tn)])
    (hb : StrOptIs vb σ.back) (hus : BytesAre us σ.asked) :
    ∃ l', LSide w σ (lrs ++ [(r2, ra)]) wd l' ∧ News h₀ L h (l' ++ own) ∧ Sep (l' ++ own) := by
  have hp := perm_back [(wd, o), (rl, listOf ((lrs ++ [(r2, ra)]).map fun p => Value.ref p.2).toArray c), (al, listOf us.toArray c2)] e1 e2 ll [] own
  simp only [List.append_nil, List.nil_append] at hp
  have hS' : Sep (e1 :: e2 :: ([(wd, o), (rl, listOf ((lrs ++ [(r2, ra)]).map fun p => Value.ref p.2).toArray c), (al, listOf us.toArray c2)] ++ (ll ++ own))) := hS.same rfl
  refine ⟨_, LSide.mk (c := c) (c2 := c2) ho hb hus (hr.append (.one hrow)), ?_, ?_⟩
  · have N2 := news_sub N (fun p hp' => hp.mem_iff.mpr hp')
    simpa only [List.cons_append, List.append_assoc, List.nil_append] using N2
  · have S2 := hS'.perm hp
    simpa only [List.cons_append, List.append_assoc, List.nil_append] using S2
/-- the two sides change places in the ledger -/
theorem swap_perm (a b own : Led) : (a ++ (b ++ own)).Perm (b ++ (a ++ own)) := by
  rw [← List.append_assoc, ← List.append_assoc]
  exact List.perm_append_comm.append_right own
theorem swap_news {a b own : Led} {h₀ h : Heap} {L : Addr} (N : News h₀ L h (a ++ (b ++ own))) : News h₀ L h (b ++ (a ++ own)) := news_sub N fun _ hp => (swap_perm a b own).mem_iff.mpr hp
theorem swap_sep {a b own : Led} (h : Sep (a ++ (b ++ own))) : Sep (b ++ (a ++ own)) := h.perm (swap_perm a b own)
theorem both_perm (a b c : Addr × Obj) (ll : Led) (d e f : Addr × Obj) (lp : Led) (q : Addr × Obj) (own : Led) :
    ((a :: b :: c :: ll) ++ (d :: e :: f :: (lp ++ [q])) ++ own).Perm (a :: b :: c :: d :: e :: f :: (ll ++ (lp ++ (q :: own)))) := by
  have h : (ll ++ ([d, e, f] ++ (lp ++ (q :: own)))).Perm ([d, e, f] ++ (ll ++ (lp ++ (q :: own)))) := swap_perm ll [d, e, f] (lp ++ (q :: own))
  have h2 := ((h.cons c).cons b).cons a
  simpa only [List.cons_append, List.append_assoc, List.nil_append] using h2
theorem both_perm2 (a b c : Addr × Obj) (ll : Led) (d e f : Addr × Obj) (lp : Led) (q : Addr × Obj) (own : Led) :
    (a :: b :: c :: d :: e :: f :: (ll ++ (lp ++ (q :: own)))).Perm ((d :: e :: f :: (lp ++ [q])) ++ (a :: b :: c :: (ll ++ own))) :=
  (both_perm a b c ll d e f lp q own).symm.trans (by rw [List.append_assoc]; exact swap_perm (a :: b :: c :: ll) (d :: e :: f :: (lp ++ [q])) own)
theorem law_out (lp : Led) (a b c : Addr × Obj) (l₁ : Led) (e1 e2 : Addr × Obj) (l₂ own : Led) :
    (lp ++ (a :: b :: c :: ((l₁ ++ ([e1, e2] ++ l₂)) ++ own))).Perm (e1 :: e2 :: a :: b :: c :: (l₁ ++ (l₂ ++ (lp ++ own)))) := by
  have h1 : (lp ++ (([a, b, c] ++ (l₁ ++ ([e1, e2] ++ l₂))) ++ own)).Perm (([a, b, c] ++ (l₁ ++ ([e1, e2] ++ l₂))) ++ (lp ++ own)) := swap_perm lp _ own
  have h2 := (row_perm [a, b, c] l₁ [e1, e2] l₂ (lp ++ own))
  have h3 : (([a, b, c] ++ (l₁ ++ ([e1, e2] ++ l₂))) ++ (lp ++ own)).Perm ([a, b, c] ++ ((l₁ ++ ([e1, e2] ++ l₂)) ++ (lp ++ own))) := by rw [List.append_assoc]
  have h := h1.trans (h3.trans h2)
  simpa only [List.cons_append, List.append_assoc, List.nil_append] using h
theorem law_in (lp : Led) (a b c : Addr × Obj) (ll own : Led) : (lp ++ (a :: b :: c :: (ll ++ own))).Perm (a :: b :: c :: (ll ++ (lp ++ own))) := swap_perm lp (a :: b :: c :: ll) own
end
section
open PySem.SeqAt
theorem Spec.conv {w : World} {mean : ExcName → Option Value} {mg mb : Str → Option Value} {D U : Nat} {f : Addr} {vs : List Value} {news news2 : Led} {Post Post2 : Value → Led → Prop}
    (S : Spec w mean mg mb D U f vs news Post) (hs : ∀ p ∈ news, p ∈ news2) (hp : ∀ r n, Post r n → ∃ n2, Post2 r n2 ∧ ∀ p ∈ n2, p ∈ n) : Spec w mean mg mb D U f vs news2 Post2 := by
  intro dp un gd cn cs a ccd cl outer A₀ base h₀ L m sh sg sd st so Q E B F X N T9 hk hd hu hret
  refine S _ _ _ _ _ _ _ _ _ _ _ _ _ _ _ _ _ _ _ _ _ B F X (news_sub N hs) T9 hk hd hu fun r news' h' tk' hP F' N' => ?_
  obtain ⟨n2, hP2, h2⟩ := hp r news' hP
  exact hret r n2 h' tk' hP2 F' (news_sub N' h2)
noncomputable abbrev bkOf (σ : St) (rows : List Rw) : Option Str := if stOf σ.active rows = "proven" then some σ.active else σ.back
theorem pside_list {w : World} {σ : St} {prs pre post : List (Rw × Addr)} {r r2 : Rw} {pa ps pd kn an act : Addr} {last : Value} {c c2 : Nat} {k0 k1 k2 k3 k4 k5 k6 tr th : Tok} {l₁ l₂ own : Led} {e1 e2 e3 : Addr × Obj} {X : Led} {ra : Rw}
    (hS : Sep X) (he : (e1 :: e2 :: e3 :: (ps, instObj 224 pd) :: (pd, instObj 0 0) :: (kn, instObj 0 0) :: (l₁ ++ (l₂ ++ (an, listOf #[] c2) :: own))).map (·.1) = X.map (·.1))
    (hpr : prs = pre ++ (r, pa) :: post) (h1 : Rows (PRow w) pre l₁) (h2 : Rows (PRow w) post l₂) (hrow : PRow w r2 pa [e1, e2, e3])
    (hact : (ra, act) ∈ pre ++ (r2, pa) :: post) (hra : ra.addr = σ.active) (hback : BackIs (pre ++ (r2, pa) :: post) last σ.back) :
    ∃ l', PSide w σ (pre ++ (r2, pa) :: post) ps l' ∧ (∀ p ∈ l' ++ own, p ∈ e1 :: e2 :: e3 :: (ps, instObj 224 pd) :: (pd, pathsO w k0 k1 k2 k3 k4 k5 k6 (.str σ.role tr) (.bool σ.may) (.ref kn) (.ref act) last (.int σ.top th) (.ref an)) :: (kn, listOf (prs.map fun p => Value.ref p.2).toArray c) :: (l₁ ++ (l₂ ++ (an, listOf #[] c2) :: own))) ∧ Sep (l' ++ own) := by
  have hkn : (prs.map fun p => Value.ref p.2) = (pre ++ (r2, pa) :: post).map fun p => Value.ref p.2 := by rw [hpr]; simp
  rw [hkn]
  have hP := PSide.mk (w := w) (σ := σ) (ps := ps) (pd := pd) (kn := kn) (an := an) (c := c) (c2 := c2) (k0 := k0) (k1 := k1) (k2 := k2) (k3 := k3) (k4 := k4) (k5 := k5) (k6 := k6) (tr := tr) (th := th) (h1.append (.cons hrow h2)) hact hra hback
  have hp := row_perm [(ps, instObj 224 pd), (pd, pathsO w k0 k1 k2 k3 k4 k5 k6 (.str σ.role tr) (.bool σ.may) (.ref kn) (.ref act) last (.int σ.top th) (.ref an)), (kn, listOf ((pre ++ (r2, pa) :: post).map fun p => Value.ref p.2).toArray c)] l₁ [e1, e2, e3] l₂ ((an, listOf #[] c2) :: own)
  have hS' : Sep ([e1, e2, e3] ++ ([(ps, instObj 224 pd), (pd, pathsO w k0 k1 k2 k3 k4 k5 k6 (.str σ.role tr) (.bool σ.may) (.ref kn) (.ref act) last (.int σ.top th) (.ref an)), (kn, listOf ((pre ++ (r2, pa) :: post).map fun p => Value.ref p.2).toArray c)] ++ (l₁ ++ (l₂ ++ (an, listOf #[] c2) :: own)))) := hS.same (Eq.trans rfl he)
  refine ⟨_, hP, fun p hm => ?_, ?_⟩
  · have hm2 := hp.mem_iff (a := p)
    simp only [List.cons_append, List.append_assoc, List.nil_append] at hm hm2
    exact hm2.mp hm
  · have S2 := hS'.perm hp.symm
    simpa only [List.cons_append, List.append_assoc, List.nil_append] using S2
theorem lside_list {w : World} {σ : St} {lrs pre post : List (Rw × Addr)} {r r2 : Rw} {ra wd rl al : Addr} {o : Obj} {us : List Value} {vb : Value} {tr ta tt ts tn : Tok} {c c2 : Nat} {l₁ l₂ own : Led} {e1 e2 : Addr × Obj}
    (hS : Sep (e1 :: e2 :: (wd, o) :: (rl, instObj 0 0) :: (al, instObj 0 0) :: (l₁ ++ (l₂ ++ own))))
    (hpr : lrs = pre ++ (r, ra) :: post) (h1 : Rows (LRow w) pre l₁) (h2 : Rows (LRow w) post l₂) (hrow : LRow w r2 ra [e1, e2])
    (ho : o.IsDictOf (SK w) [("role", .str σ.role tr), ("may", .bool σ.may), ("rows", .ref rl), ("active", .str σ.active ta), ("asked", .ref al), ("back", vb), ("top", .int σ.top tt), ("skip", .int σ.skip ts), ("now", .int σ.now tn)])
    (hb : StrOptIs vb σ.back) (hus : BytesAre us σ.asked) :
    ∃ l', LSide w σ (pre ++ (r2, ra) :: post) wd l' ∧ (∀ p ∈ l' ++ own, p ∈ e1 :: e2 :: (wd, o) :: (rl, listOf (lrs.map fun p => Value.ref p.2).toArray c) :: (al, listOf us.toArray c2) :: (l₁ ++ (l₂ ++ own))) ∧ Sep (l' ++ own) := by
  have hkn : (lrs.map fun p => Value.ref p.2) = (pre ++ (r2, ra) :: post).map fun p => Value.ref p.2 := by rw [hpr]; simp
  rw [hkn]
  have hp := perm_back [(wd, o), (rl, listOf ((pre ++ (r2, ra) :: post).map fun p => Value.ref p.2).toArray c), (al, listOf us.toArray c2)] e1 e2 l₁ l₂ own
  have hS' : Sep (e1 :: e2 :: ([(wd, o), (rl, listOf ((pre ++ (r2, ra) :: post).map fun p => Value.ref p.2).toArray c), (al, listOf us.toArray c2)] ++ (l₁ ++ (l₂ ++ own)))) := hS.same rfl
  refine ⟨_, LSide.mk (c := c) (c2 := c2) ho hb hus (h1.append (.cons hrow h2)), fun p hm => ?_, ?_⟩
  · have hm2 := hp.mem_iff (a := p)
    simp only [List.cons_append, List.append_assoc, List.nil_append] at hm hm2
    exact hm2.mpr hm
  · have S2 := hS'.perm hp
    simpa only [List.cons_append, List.append_assoc, List.nil_append] using S2
/-- a row of the law's taken out of the ledger -/
theorem lrow_out (a b c : Addr × Obj) (l₁ : Led) (e1 e2 : Addr × Obj) (l₂ own : Led) :
    ((a :: b :: c :: (l₁ ++ ([e1, e2] ++ l₂))) ++ own).Perm (e1 :: e2 :: a :: b :: c :: (l₁ ++ (l₂ ++ own))) := by
  have h := row_perm [a, b, c] l₁ [e1, e2] l₂ own
  simpa only [List.cons_append, List.append_assoc, List.nil_append] using h
/-- a row of the paths' taken out of the ledger -/
theorem prow_out (a b c : Addr × Obj) (l₁ : Led) (e1 e2 e3 : Addr × Obj) (l₂ : Led) (q : Addr × Obj) (own : Led) :
    ((a :: b :: c :: ((l₁ ++ ([e1, e2, e3] ++ l₂)) ++ [q])) ++ own).Perm (e1 :: e2 :: e3 :: a :: b :: c :: (l₁ ++ (l₂ ++ (q :: own)))) := by
  have h := row_perm [a, b, c] l₁ [e1, e2, e3] l₂ (q :: own)
  simpa only [List.cons_append, List.append_assoc, List.nil_append] using h
theorem perm_pd (e1 e2 e3 a b c : Addr × Obj) {X : Led} : (e1 :: e2 :: e3 :: a :: b :: c :: X).Perm ([a, b, e1, e2] ++ (e3 :: c :: X)) := by
  have h1 : (e1 :: e2 :: e3 :: a :: b :: c :: X).Perm (a :: e1 :: e2 :: e3 :: b :: c :: X) := List.perm_middle (l₁ := [_, _, _])
  have h2 : (e1 :: e2 :: e3 :: b :: c :: X).Perm (b :: e1 :: e2 :: e3 :: c :: X) := List.perm_middle (l₁ := [_, _, _])
  exact h1.trans (h2.cons a)
/-- the ledger with the paths ahead, put back -/
theorem both_back (lp ll own : Led) (b c d : Addr × Obj) : (lp ++ (b :: c :: d :: (ll ++ own))).Perm (((b :: c :: d :: ll) ++ lp) ++ own) := by
  have h := swap_perm lp (b :: c :: d :: ll) own
  rwa [← List.append_assoc (b :: c :: d :: ll) lp own] at h
theorem lp_back (lp ll own : Led) : (lp ++ (ll ++ own)).Perm ((ll ++ lp) ++ own) := by rw [List.append_assoc]; exact swap_perm lp ll own
theorem lp_swap (lp ll own : Led) (b c d : Addr × Obj) : (lp ++ (b :: c :: d :: (ll ++ own))).Perm ((b :: c :: d :: ll) ++ (lp ++ own)) := swap_perm lp (b :: c :: d :: ll) own
theorem both_perm3 (a b c : Addr × Obj) (ll : Led) (d e f : Addr × Obj) (lp : Led) (q : Addr × Obj) (own : Led) :
    (a :: b :: c :: d :: e :: f :: (ll ++ (lp ++ (q :: own)))).Perm ((a :: b :: c :: ll) ++ ((d :: e :: f :: (lp ++ [q])) ++ own)) := by
  have h := (both_perm a b c ll d e f lp q own).symm
  rwa [List.append_assoc (a :: b :: c :: ll)] at h
theorem time_perm (a b c d e f : Addr × Obj) (ll X : Led) : (a :: b :: c :: d :: e :: f :: (ll ++ X)).Perm (a :: b :: (ll ++ (c :: d :: e :: f :: X))) := by
  have h := swap_perm [c, d, e, f] ll X
  exact (h.cons b).cons a
section
variable {prog : Program} {w : World} {A : Around} {E : Value → Shared → Prop} {s : Shared} {h₀ : Heap} {L : Addr} {news : Led}
theorem none_in_pair {D : Addr} {a : Str} {t : Tok} {Q : Value → Shared → Prop} (N : News h₀ L s.heap news) (hm : (D, ({ cls := .type "tuple", data := .seq #[.none, .str a t] } : Obj)) ∈ news) (h : Q (.bool true) s) :
    wpAny (model prog w) A (compareOp .In .none (.ref D)) Q E s := by
  refine in_tupleAt (items := #[.none, .str a t]) (fun v => match v with | .none => true | _ => false) ⟨_, (N _ hm).1, rfl, _, rfl⟩ ?_ ?_
  · intro y hy
    rcases List.mem_cons.mp (Array.mem_toList_iff.mpr hy) with rfl | hy
    · exact .same _
    · rcases List.mem_cons.mp hy with rfl | hy
      · exact .str_none _ _
      · cases hy
  · have e : ((#[.none, .str a t] : Array Value).any fun v => match v with | .none => true | _ => false) = true := by simp
    rw [e]; exact h
theorem str_in_pair {D : Addr} {a b : Str} {t u : Tok} {Q : Value → Shared → Prop} (N : News h₀ L s.heap news) (hm : (D, ({ cls := .type "tuple", data := .seq #[.none, .str a t] } : Obj)) ∈ news) (h : Q (.bool (a == b)) s) :
    wpAny (model prog w) A (compareOp .In (.str b u) (.ref D)) Q E s := by
  refine in_tupleAt (items := #[.none, .str a t]) (fun v => match v with | .str c _ => c == b | _ => false) ⟨_, (N _ hm).1, rfl, _, rfl⟩ ?_ ?_
  · intro y hy
    rcases List.mem_cons.mp (Array.mem_toList_iff.mpr hy) with rfl | hy
    · exact .none_str _ _
    · rcases List.mem_cons.mp hy with rfl | hy
      · exact .str_str _ _ _ _
      · cases hy
  · have e : ((#[.none, .str a t] : Array Value).any fun v => match v with | .str c _ => c == b | _ => false) = (a == b) := by simp
    rw [e]; exact h
end
theorem off1_all {D : Addr} : ∀ {l : Led}, LCg.Off1 D l → ∀ q ∈ l, @Ne Nat q.1 D
  | [], _, _, h => nomatch h
  | _ :: _, x, q, h => by
    rcases List.mem_cons.mp h with rfl | h
    · exact x.1
    · exact off1_all x.2 q h
theorem ans_perm {X lp Y : Led} (d e : Addr × Obj) (h : X.Perm (lp ++ Y)) : (d :: e :: X).Perm (lp ++ (d :: e :: Y)) := by
  have h1 : (e :: (lp ++ Y)).Perm (lp ++ e :: Y) := List.perm_middle.symm
  have h2 : (d :: (lp ++ e :: Y)).Perm (lp ++ d :: e :: Y) := List.perm_middle.symm
  exact (((h.cons e).trans h1).cons d).trans h2
theorem ans_out (lp : Led) (d e a b c : Addr × Obj) (l₁ : Led) (e1 e2 : Addr × Obj) (l₂ own : Led) :
    (lp ++ (d :: e :: a :: b :: c :: ((l₁ ++ ([e1, e2] ++ l₂)) ++ own))).Perm (d :: e :: e1 :: e2 :: a :: b :: c :: (l₁ ++ (l₂ ++ (lp ++ own)))) :=
  (ans_perm d e (law_out lp a b c l₁ e1 e2 l₂ own).symm).symm
section
variable {prog : Program} {w : World} {A : Around} {E : Value → Shared → Prop} {s : Shared} {h₀ : Heap} {L : Addr} {news : Led}
theorem eq_nil {l b : Addr} {us : List Value} {n n2 : Nat} {Q : Value → Shared → Prop} (N : News h₀ L s.heap news) (hl : (l, listOf us.toArray n) ∈ news) (hb : (b, listOf #[] n2) ∈ news) (hu : A.units < cLine)
    (h : Q (.bool us.isEmpty) s) : wpAny (model prog w) A (compareOp .Eq (.ref l) (.ref b)) Q E s := by
  have h2 : s.heap.IsList b ([] : List Value).toArray := isList_of N hb
  cases us with
  | nil => exact eq_listAt (e := fun _ => true) (isList_of N hl) h2 rfl hu (fun j h1 _ => absurd h1 (by simp)) h
  | cons v r => exact eq_list_lengthsAt (isList_of N hl) h2 (by simp) hu h
end
theorem sep_comp {g h : Heap} {L L' D : Addr} {x y : Obj} {l : Led} (_ : News g L h ((D, x) :: (L' + 1, y) :: l)) (o : LCg.Off1 D ((L' + 1, y) :: l)) (hlow : ∀ p ∈ l, p.1 < L') (hS : Sep l) : Sep ((D, x) :: (L' + 1, y) :: l) :=
  Sep.cons.mpr ⟨off1_all o, Sep.cons.mpr ⟨fun q hq => Nat.ne_of_lt (Nat.lt_succ_of_lt (hlow q hq)), hS⟩⟩
theorem tail_mem {l₁ l₂ lp own T : Led} {a b c q p : Addr × Obj} (e : l₁ ++ (l₂ ++ ((a :: b :: c :: (lp ++ [q])) ++ own)) = T) (h : p ∈ lp) : p ∈ T := by
  subst e
  exact List.mem_append_right _ (List.mem_append_right _ (List.mem_append_left _ (.tail _ (.tail _ (.tail _ (List.mem_append_left _ h))))))
/-- the draws ahead -/
theorem dd_first (a b c d e f : Addr × Obj) (ll lp : Led) (q dq : Addr × Obj) (own : Led) :
    (a :: b :: c :: d :: e :: f :: (ll ++ (lp ++ (q :: dq :: own)))).Perm (dq :: a :: b :: c :: d :: e :: f :: (ll ++ (lp ++ (q :: own)))) := by
  have h : ((a :: b :: c :: d :: e :: f :: (ll ++ (lp ++ [q]))) ++ dq :: own).Perm (dq :: ((a :: b :: c :: d :: e :: f :: (ll ++ (lp ++ [q]))) ++ own)) := List.perm_middle
  simpa only [List.cons_append, List.append_assoc, List.nil_append] using h
theorem sep_new {g h : Heap} {L a : Addr} {x : Obj} {l : Led} (_ : News g L h ((a, x) :: l)) (hl : AllLt a l) (hS : Sep l) : Sep ((a, x) :: l) := Sep.cons.mpr ⟨off_of_lt hl, hS⟩
theorem one_of_three {f : Int} {a b c : Str} {t1 t2 t3 : Tok} (h0 : 0 ≤ f) (h3 : f < 3) : ∃ ad t, ([.str a t1, .str b t2, .str c t3] : List Value)[f.toNat]? = some (.str ad t) := by
  have : f = 0 ∨ f = 1 ∨ f = 2 := by omega
  rcases this with rfl | rfl | rfl
  · exact ⟨_, _, rfl⟩
  · exact ⟨_, _, rfl⟩
  · exact ⟨_, _, rfl⟩
theorem ev_perm (a b c d e f : Addr × Obj) (ll lp : Led) (q dq : Addr × Obj) (own : Led) :
    (((a :: b :: c :: ll) ++ (d :: e :: f :: (lp ++ [q]))) ++ (dq :: own)).Perm (dq :: a :: b :: c :: d :: e :: f :: (ll ++ (lp ++ (q :: own)))) :=
  (both_perm a b c ll d e f lp q (dq :: own)).trans (dd_first a b c d e f ll lp q dq own)
/-- the paths know nothing of the clock, the skip and the octets asked -/
theorem pside_world {w : World} {σ σ' : St} {prs : List (Rw × Addr)} {ps : Addr} {l : Led} (h : PSide w σ prs ps l) (h1 : σ'.role = σ.role) (h2 : σ'.may = σ.may) (h3 : σ'.active = σ.active) (h4 : σ'.back = σ.back) (h5 : σ'.top = σ.top) : PSide w σ' prs ps l := by
  cases h with
  | mk hr hact hra hback =>
    rw [← h1, ← h2, ← h5]
    exact .mk hr hact (hra.trans h3.symm) (h4 ▸ hback)
end
section
open PySem.SeqAt
theorem lside_intro {w : World} {σ : St} {lrs lrs' : List (Rw × Addr)} {wd rl al : Addr} {o : Obj} {us : List Value} {vb : Value} {tr ta tt ts tn : Tok} {c c2 : Nat} {ll : Led} (he : (lrs'.map fun p => Value.ref p.2) = lrs.map fun p => Value.ref p.2)
    (ho : o.IsDictOf (SK w) [("role", .str σ.role tr), ("may", .bool σ.may), ("rows", .ref rl), ("active", .str σ.active ta), ("asked", .ref al), ("back", vb), ("top", .int σ.top tt), ("skip", .int σ.skip ts), ("now", .int σ.now tn)])
    (hb : StrOptIs vb σ.back) (hus : BytesAre us σ.asked) (hr : Rows (LRow w) lrs' ll) :
    LSide w σ lrs' wd ((wd, o) :: (rl, listOf (lrs.map fun p => Value.ref p.2).toArray c) :: (al, listOf us.toArray c2) :: ll) := by
  rw [← he]; exact .mk ho hb hus hr
theorem refs_same {pre post prs : List (Rw × Addr)} {r r2 : Rw} {a : Addr} (h : prs = pre ++ (r, a) :: post) : ((pre ++ (r2, a) :: post).map fun p => Value.ref p.2) = prs.map fun p => Value.ref p.2 := by rw [h]; simp
/-- the two rows at hand ahead, the draws, the rest -/
theorem ev_row (l₁ : Led) (e1 e2 : Addr × Obj) (l₂ p₁ : Led) (f1 f2 f3 : Addr × Obj) (p₂ : Led) (q a b c d e f : Addr × Obj) (own : Led) :
    (q :: a :: b :: c :: d :: e :: f :: ((l₁ ++ ([e1, e2] ++ l₂)) ++ ((p₁ ++ ([f1, f2, f3] ++ p₂)) ++ own))).Perm
      (e1 :: e2 :: f1 :: f2 :: f3 :: q :: a :: b :: c :: d :: e :: f :: (l₁ ++ (l₂ ++ (p₁ ++ (p₂ ++ own))))) := by
  have h1 := row_perm [q, a, b, c, d, e, f] l₁ [e1, e2] l₂ ((p₁ ++ ([f1, f2, f3] ++ p₂)) ++ own)
  have h2 := row_perm ([q, a, b, c, d, e, f] ++ (l₁ ++ l₂)) p₁ [f1, f2, f3] p₂ own
  have h3 := h2.append_left [e1, e2]
  have h4 : ([q, a, b, c, d, e, f] ++ (l₁ ++ l₂)) ++ ((p₁ ++ ([f1, f2, f3] ++ p₂)) ++ own) = [q, a, b, c, d, e, f] ++ (l₁ ++ (l₂ ++ ((p₁ ++ ([f1, f2, f3] ++ p₂)) ++ own))) := by simp only [List.append_assoc]
  rw [h4] at h3
  have h := h1.trans h3
  simpa only [List.cons_append, List.append_assoc, List.nil_append] using h
/-- both sides ahead of the draws, and the two rows at hand ahead of all -/
theorem ev_all (l₁ : Led) (e1 e2 : Addr × Obj) (l₂ p₁ : Led) (f1 f2 f3 : Addr × Obj) (p₂ : Led) (dq a b c d e f q : Addr × Obj) (own : Led) :
    (((a :: b :: c :: (l₁ ++ ([e1, e2] ++ l₂))) ++ (d :: e :: f :: ((p₁ ++ ([f1, f2, f3] ++ p₂)) ++ [q]))) ++ (dq :: own)).Perm
      (e1 :: e2 :: f1 :: f2 :: f3 :: dq :: a :: b :: c :: d :: e :: f :: (l₁ ++ (l₂ ++ (p₁ ++ (p₂ ++ (q :: own)))))) :=
  (ev_perm a b c d e f _ _ q dq own).trans (ev_row l₁ e1 e2 l₂ p₁ f1 f2 f3 p₂ dq a b c d e f (q :: own))
theorem prow_mem {p₁ p₂ X : Led} {f1 f2 f3 : Addr × Obj} (h1 : ∀ p ∈ p₁, p ∈ X) (h2 : ∀ p ∈ p₂, p ∈ X) : ∀ p ∈ p₁ ++ ([f1, f2, f3] ++ p₂), p ∈ f1 :: f2 :: f3 :: X := fun p hp => by
  rcases List.mem_append.mp hp with h | h
  · exact .tail _ (.tail _ (.tail _ (h1 p h)))
  · rcases List.mem_cons.mp h with rfl | h
    · exact .head _
    · rcases List.mem_cons.mp h with rfl | h
      · exact .tail _ (.head _)
      · rcases List.mem_cons.mp h with rfl | h
        · exact .tail _ (.tail _ (.head _))
        · exact .tail _ (.tail _ (.tail _ (h2 p h)))
theorem tail_p₁ {l₁ l₂ p₁ p₂ own : Led} : ∀ p ∈ p₁, p ∈ l₁ ++ (l₂ ++ (p₁ ++ (p₂ ++ own))) := fun _ h => List.mem_append_right _ (List.mem_append_right _ (List.mem_append_left _ h))
theorem tail_p₂ {l₁ l₂ p₁ p₂ own : Led} : ∀ p ∈ p₂, p ∈ l₁ ++ (l₂ ++ (p₁ ++ (p₂ ++ own))) := fun _ h => List.mem_append_right _ (List.mem_append_right _ (List.mem_append_right _ (List.mem_append_left _ h)))
theorem cons7 {a b c d e f g : Addr × Obj} {T l : Led} (h : ∀ p ∈ l, p ∈ T) : ∀ p ∈ l, p ∈ a :: b :: c :: d :: e :: f :: g :: T := fun p hp => .tail _ (.tail _ (.tail _ (.tail _ (.tail _ (.tail _ (.tail _ (h p hp)))))))
noncomputable abbrev sentR (n : Int) (r : Rw) : Rw := { r with out := r.out + n }
end
local macro_rules | `(tactic| k_mem) => `(tactic| assumption)
local macro_rules | `(tactic| k_ne) => `(tactic| k_extra "MINE ne")
local macro_rules | `(tactic| k_in) => `(tactic| k_extra "MINE in")
local macro_rules | `(tactic| walk_at $s:str) => `(tactic| k_extra $s)
section
theorem path_of_spec {w mean mg mb} {ps pd kn : Addr} {news lp : Led} {prs : List (Rw × Addr)} {k0 k1 k2 k3 k4 k5 k6 : Tok} {vr vm va vl vh vn : Value} {c : Nat} {ad : Str} {t1 : Tok}
    (h1 : (ps, instObj 224 pd) ∈ news) (h2 : (pd, pathsO w k0 k1 k2 k3 k4 k5 k6 vr vm (.ref kn) va vl vh vn) ∈ news) (h3 : (kn, listOf (prs.map fun p => Value.ref p.2).toArray c) ∈ news)
    (hr : Rows (PRow w) prs lp) (hs : ∀ p ∈ lp, p ∈ news) :
    Spec w mean mg mb 3 20 146 [.ref ps, .str ad t1] news (fun r n => n = news ∧ ((∃ p pre post, prs = pre ++ p :: post ∧ (∀ q ∈ pre, q.1.addr ≠ ad) ∧ p.1.addr = ad ∧ r = .ref p.2) ∨ (r = .none ∧ ∀ q ∈ prs, q.1.addr ≠ ad))) := by
  unfold Spec; k_fill; intro dp un gd cn cs a ccd cl outer A₀ base h₀ L m sh sg sd st so Q E B F X N T hk hd hu hret; have kM := kstMark; w_top off; k_with_none; (k_with "MINE enter" => (k_dflt (refine' code_def ?zqk1 ?zqk2 ?zqk3 ?zqk4 ?zqk5 ?zqkA ?zqkF ?zqkK ?zqk6 ?zqk7 ?zqk8 ?zqk9 ?zqkB ?_ ?zqc2 ?zqc3 ?zqc4 ?zqc5; (case zqkA => exact rfl); (case zqkF => exact rfl); (case zqkK => first | exact rfl | assumption); (case zqk1 => k_asm); (case zqk2 => k_asm); (case zqk3 => k_asm); (case zqk4 => k_asm); (case zqk5 => k_asm); (case zqk6 => k_is); (case zqk7 => k_is); (case zqk8 => ktr_room); (case zqk9 => first | exact BindsTo.of_eq (binds := [(_, _)]) rfl | exact BindsTo.of_eq (binds := [(_, _), (_, _)]) rfl | exact BindsTo.of_eq (binds := [(_, _), (_, _), (_, _)]) rfl | exact BindsTo.of_eq (binds := [(_, _), (_, _), (_, _), (_, _)]) rfl | exact BindsTo.of_eq rfl); (case zqc5 => decide); (case zqkB => exact locs rfl); (case zqc2 => exact rfl); (case zqc3 => exact rfl); (case zqc4 => exact rfl); k_whole; intro g' L' h' FG' F' N' B' X' T'; (try dsimp only); (try k_lift B'); (try k_fold)))); (k_with "call ref" => (k_here; first | k_extra "MINE call" | (refine wpAny_call ?_; walk_at "MINE enter"))); (k_with "call ref" => (k_here; k_dflt (refine' call_cls ?zqk1 ?zqk2 ?zqk3 ?zqk4 ?zqk5 ?zqk6 ?_; (case zqk1 => k_asm); (case zqk2 => k_asm); (case zqk3 => k_asm); (case zqk4 => k_is); (case zqk5 => k_is); (case zqk6 => k_is); k_whole; intro x' d' h' F' N' l1 l2; (try k_lt l1); (try k_lt2 l2); (try k_sweep)); walk_at "MINE enter")); (k_with "TPost" => dsimp only [TPost]); (k_with "MINE enterC" => (k_dflt (refine' code_defC ?zqk1 ?zqk2 ?zqk3 ?zqk4 ?zqk5 ?zqkA ?zqkF ?zqkK ?zqk6 ?zqk7 ?zqk8 ?zqk9 ?zqkB ?zqkD ?_ ?zqc2 ?zqc3 ?zqc4; (case zqkA => exact rfl); (case zqkF => exact rfl); (case zqkK => first | exact rfl | assumption); (case zqk1 => k_asm); (case zqk2 => k_asm); (case zqk3 => k_asm); (case zqk4 => k_asm); (case zqk5 => k_asm); (case zqk6 => k_is); (case zqk7 => k_is); (case zqk8 => ktr_room); (case zqk9 => first | exact BindsTo.of_eq (binds := [(_, _)]) rfl | exact BindsTo.of_eq (binds := [(_, _), (_, _)]) rfl | exact BindsTo.of_eq (binds := [(_, _), (_, _), (_, _)]) rfl | exact BindsTo.of_eq (binds := [(_, _), (_, _), (_, _), (_, _)]) rfl | exact BindsTo.of_eq rfl); (case zqkB => exact rfl); (case zqkD => decide +kernel); (case zqc2 => exact rfl); (case zqc3 => exact rfl); (case zqc4 => exact rfl); k_whole; intro g' L' h' tk' cells' FG' F' N' Y' B' X' T' l1; k_cells Y'; (try simp only [List.cons_append, List.nil_append] at N'); (try dsimp only); (try k_lift B'); (try k_fold)))); (k_with "exec Assign cons ListComp" => (k_here; k_dflt (refine LCt.Assign_ListComp_T (F₀ := by k_asm) (by rfl) (by with_unfolding_all rfl) (by with_unfolding_all rfl) (by decide) (by rfl) (by decide) (by rfl) (by rfl) (by rfl) ?_))); (k_with "subscriptTail" => (k_here; (with_reducible show wpAny _ _ (subscriptTail _ _ (Value.ref _) (Value.str _ _)) _ _ _); k_dflt (refine' kda_item (knd := PySem.strKind _ _) ?zqk1 ?zqk2 ?zqk3 (strKind_is _ _ _ _) ?zqk4 ?_; (case zqk1 => k_asm); (case zqk2 => k_mem); (case zqk3 => assumption); (case zqk4 => rfl); k_whole))); (k_with "setItem ref str" => (k_here; k_dflt (refine' kda_set (knd := PySem.strKind _ _) ?zqF ?zqN ?zqU ?zqd (strKind_is _ _ _ _) ?zqz ?_; (case zqF => k_asm); (case zqN => k_asm); (case zqU => k_updF); (case zqd => assumption); (case zqz => kob_size)); intro h' o' F' N' hd'; (try kob_lit); (try dsimp only at N'); (try dsimp only); (try k_gentoks))); (k_with "compareOp NotEq ref ref" => (k_here; k_dflt (refine' ne_nil ?zqk1 ?zqk2 ?zqk3 ?zqk4 ?_; (case zqk1 => k_asm); (case zqk2 => k_mem); (case zqk3 => k_mem); (case zqk4 => ktr_units)); (try dsimp only [List.isEmpty, Bool.not_true, Bool.not_false, List.map]))); (k_with "MINE ne" => (refine neN ?_; (try dsimp only); first | exact NeA.ne (by assumption) | exact (NeA.ne (by assumption)).symm | omega)); (k_with "compareOp In bytes ref" => (k_here; k_dflt (refine' in_bytes ?zqk1 ?zqk2 ?zqk3 ?_; (case zqk1 => k_asm); (case zqk2 => k_mem); (case zqk3 => assumption)))); (k_with "exec Raise some none" => (k_here; k_dflt (refine' Raise_38 ?zqk1 ?zqk2 ?_; (case zqk1 => k_asm); (case zqk2 => first | rfl | assumption)))); (k_with "call ref" => (k_here; (with_reducible show wpAny _ _ (call (Value.ref 38) _) _ _ _); k_dflt (refine' call_refuse ?zqk1 ?zqk2 ?zqk3 ?_; (case zqk1 => k_asm); (case zqk2 => k_asm); (case zqk3 => k_asm); k_whole); intro e38 t38 h38 F38 N38 hap38 hne38; refine wpAny_call ?_; walk_at "MINE enter")); (k_with "getMethod type:Exception" => (k_here; refine' method_type ?zqF ?zqX ?zqm (by decide +kernel) ?zqe ?zqh ?_; (case zqF => k_asm); (case zqX => k_asm); (case zqm => kernel_rfl); (case zqe => k_dflt k_is); (case zqh => k_handed))); (k_with "call builtin:Exception.__init__" => (k_here; k_dflt (refine' init_w ?zqk1 ?zqk2 ?zqk3 ?zqk4 ?_; (case zqk1 => k_asm); (case zqk2 => k_asm); (case zqk3 => k_asm); (case zqk4 => exact per_e (by assumption) (by assumption)); k_whole); intro h39 t39 F39 N39 hap39 hne39)); (k_with "setAttr ref" => (k_here; (with_reducible show wpAny _ _ (setAttr (Value.ref _) (PySem.Str.ofString "text") _) _ _ _); k_dflt (refine' text_w ?zqk1 ?zqk2 ?zqk3 ?zqk4 ?_; (case zqk1 => k_asm); (case zqk2 => k_asm); (case zqk3 => k_asm); (case zqk4 => exact per_t (by assumption) (by assumption) (by assumption)); k_whole); intro h40 tk40 o40 F40 N40 hc40 hd40)); (k_with "Refusing" => ((rename News _ _ _ (_ :: (_, tupO _) :: _ :: _) => N41); (rename (_ = Data.fields _) => hd41); refine ⟨_, _, _, rfl, Fr.keep (by k_asm), (N41 _ (.head _)).1, by assumption, hd41, ?_⟩)); (k_with "leaving ref" => (k_here; (rename News _ _ _ (_ :: (_, tupO _) :: _ :: _) => N41); (rename (_ = Data.fields _) => hd41); k_dflt (refine' leave_x ?zqk1 ?zqk2 (vs := [_]) N41 ?zqk4 ?zqk5 hd41 ?_; (case zqk1 => assumption); (case zqk2 => k_asm); (case zqk4 => exact per_b (by assumption) (by assumption) (by assumption)); (case zqk5 => assumption); k_whole); intro h42 R42 U42)); (k_with "MINE enterS" => (k_dflt (refine' code_defT ?zqk1 ?zqk2 ?zqk3 ?zqk4 ?zqk5 ?zqkXB ?zqkTB ?zqkD ?zqkA ?zqkF ?zqkK ?zqk6 ?zqk7 ?zqk8 ?zqk9 ?zqkB ?_ ?zqc2 ?zqc3 ?zqc4 ?zqc5; (case zqkA => exact rfl); (case zqkF => exact rfl); (case zqkK => first | exact rfl | assumption); (case zqk1 => k_asm); (case zqk2 => k_asm); (case zqk3 => k_asm); (case zqk4 => k_asm); (case zqk5 => k_asm); (case zqkXB => assumption); (case zqkTB => assumption); (case zqkD => assumption); (case zqk6 => k_is); (case zqk7 => k_is); (case zqk8 => ktr_room); (case zqk9 => first | exact BindsTo.of_eq (binds := [(_, _)]) rfl | exact BindsTo.of_eq (binds := [(_, _), (_, _)]) rfl | exact BindsTo.of_eq (binds := [(_, _), (_, _), (_, _)]) rfl | exact BindsTo.of_eq (binds := [(_, _), (_, _), (_, _), (_, _)]) rfl | exact BindsTo.of_eq rfl); (case zqc5 => decide); (case zqkB => exact locs rfl); (case zqc2 => exact rfl); (case zqc3 => exact rfl); (case zqc4 => exact rfl); k_whole; intro g' L' h' FG' F' N' B' X' T' D'; (try dsimp only); (try k_lift B'); (try k_fold)))); (k_with "exec For Name Subscript cons nil" => (k_here; (rename Fr _ _ _ _ => lF'); (with_unfolding_all refine' For_invVF lF' ?zqk1 ?zqk2 ?_; (case zqk1 => exact rfl); (case zqk2 => exact rfl); k_whole))); (k_with "compareOp In none ref" => (k_here; k_dflt (refine' none_in_pair ?zqk1 ?zqk2 ?_; (case zqk1 => k_asm); (case zqk2 => k_mem)))); (k_with "compareOp In str ref" => (k_here; k_dflt (refine' str_in_pair ?zqk1 ?zqk2 ?_; (case zqk1 => k_asm); (case zqk2 => k_mem)))); (k_with "compareOp Eq ref ref" => (k_here; k_dflt (refine' eq_nil ?zqk1 ?zqk2 ?zqk3 ?zqk4 ?_; (case zqk1 => k_asm); (case zqk2 => k_mem); (case zqk3 => k_mem); (case zqk4 => ktr_units)); (try dsimp only [List.isEmpty, List.map]))); (k_with "call builtin:len" => (k_here; (with_reducible show wpAny _ _ (call (Value.builtin "len") [Value.ref _]) _ _ _); k_dflt (refine' len_led ?zqk1 ?zqk2 ?zqk3 ?_; (case zqk1 => k_asm); (case zqk2 => k_mem); (case zqk3 => exact Nat.le_trans (by assumption) (by decide))))); (k_with "eval ListComp" => (k_here; k_dflt (refine LCt.ListComp_T (F₀ := by k_asm) (by with_unfolding_all rfl) (by decide) (by rfl) (by decide) (by rfl) ?_))); (k_with "subscriptTail" => (k_here; (with_reducible show wpAny _ _ (subscriptTail _ _ (Value.ref _) (Value.int _ _)) _ _ _); k_dflt (refine' item_led ?zqk1 ?zqk2 ?zqk3 ?zqk4 ?zqk5 ?_; (case zqk1 => k_asm); (case zqk2 => k_mem); (case zqk5 => assumption); (case zqk3 => assumption); (case zqk4 => omega)))); (k_with "MINE in" => (refine' Frag.In.keeps ?zqk1 (Fr.keep ?zqk2); (case zqk2 => with_reducible assumption); (case zqk1 => with_reducible assumption))); (k_with "storeName" => (k_here; (try dsimp only); k_dflt (refine' storeX_L ?zqF ?zqN ?_ ?zqa ?zqb; (case zqF => k_asm); (case zqN => k_asm); (case zqa => rfl); (case zqb => rfl); k_whole); intro h' F' N'; (try k_sweep))); (k_with "setAttr ref" => (dsimp only; walk1)); (k_with "call ref" => (dsimp only; walk1)); (k_with "setItem ref str" => (dsimp only; walk1)); refine wpAny_call ?_
  walk_at "MINE enter"
  k_steps
  refine loop_led [] (fun i n => n = news ∧ ∀ q ∈ prs.take i, q.1.addr ≠ ad) rfl (by k_asm) (by k_asm) h3 ⟨rfl, by simp⟩ (fun i n h => h.1 ▸ h3) ?_ ?_
  · rintro I it i v u n1 h tk hv hlow ⟨rfl, hbef⟩ hoff F1 N1
    rw [List.getElem?_map] at hv
    cases hi : prs[i]? with
    | none => rw [hi] at hv; cases hv
    | some p =>
      obtain ⟨r, pa⟩ := p
      rw [hi] at hv
      have hv' := Option.some.inj hv
      dsimp only at hv'
      subst hv'
      clear hv
      obtain ⟨lr, hpr, hlr⟩ := hr.mem (List.mem_of_getElem? hi)
      have e : prs = prs.take i ++ (r, pa) :: prs.drop (i + 1) := by
        have ht := List.take_append_drop i prs
        obtain ⟨hlt, he⟩ := List.getElem?_eq_some_iff.mp hi
        rw [List.drop_eq_getElem_cons hlt, he] at ht
        exact ht.symm
      cases hpr with
      | mk hus hv =>
        have m1 := hs _ (hlr _ (.head _))
        have m2 := hs _ (hlr _ (.tail _ (.head _)))
        clear hlr
        dsimp only at m1 m2
        k_steps
        · rename News h₀ L _ _ => N9
          rename (r.addr == ad) = true => hq
          exact hret _ _ _ _ ⟨rfl, .inl ⟨_, _, _, e, hbef, eq_of_beq hq, rfl⟩⟩ (by k_asm) (fun p hp => N9 p (.tail _ hp))
        · rename (r.addr == ad) = false => hq
          refine TEnd.intro (by k_asm) N1 n1 (.head _) (fun p hp => .tail _ hp) hoff ⟨⟨rfl, ?_⟩, fun y h1 h2 => ?_⟩
          · rw [List.take_add_one, hi]
            intro q hq'
            rcases List.mem_append.mp hq' with h | h
            · exact hbef q h
            · simp at h
              subst h
              exact fun z => by rw [z] at hq; simp at hq
          · rw [if_neg h1]; rfl
  · rintro u n1 h tk ⟨rfl, hbef⟩ F1 N1
    k_steps
    rw [show (prs.map fun p => Value.ref p.2).length = prs.length from List.length_map .., List.take_length] at hbef
    exact hret _ _ _ _ ⟨rfl, .inr ⟨rfl, hbef⟩⟩ (by k_asm) (by k_asm)
theorem path_known {w : World} {mean : ExcName → Option Value} {mg mb : Str → Option Value} {dp un : Nat} {gd : Option (List Code)} {cn : Str} {cs : Scope} {a : Addr} {ccd : Value} {cl : List (Str × Addr)} {outer : List Env} {A₀ : Around} {base h₀ : Heap} {L : Addr} {m : Str → Option Value} {sh : Heap} {sg : Array GenState} {sd : Drawn} {st : Nat} {so : OsState} {Q E : Value → Shared → Prop} {ps pd kn : Addr} {news lp : Led} {prs : List (Rw × Addr)} {k0 k1 k2 k3 k4 k5 k6 : Tok} {vr vm va vl vh vn : Value} {c : Nat} {r : Rw} {pa : Addr} {t1 : Tok}
    (h1 : (ps, instObj 224 pd) ∈ news) (h2 : (pd, pathsO w k0 k1 k2 k3 k4 k5 k6 vr vm (.ref kn) va vl vh vn) ∈ news) (h3 : (kn, listOf (prs.map fun p => Value.ref p.2).toArray c) ∈ news) (hr : Rows (PRow w) prs lp) (hs : ∀ p ∈ lp, p ∈ news) (hnd : (prs.map fun p => p.1.addr).Nodup) (hin : (r, pa) ∈ prs)
    (B : Below A₀ base outer h₀) (F : Fr h₀ L sh m) (X : (hd.heap_1 w.params).In h₀) (N : News h₀ L sh (news)) (T : Top vw (looseW vw []) mean mg mb h₀) (hk : cs.kind = .function) (hdp : dp + 3 < recursionLimit) (hu : un + 20 < cLine)
    (ret : ∀ h' tk', Fr h₀ L h' m → News h₀ L h' news → Q (.ref pa) ⟨h', sg, sd, tk', so⟩) :
    wpAny (model PySem.Challenge.rw_no0073_01.row.prog w) (ktrTop dp un gd cn cs L a ccd cl outer) (call (.ref 146) [.ref ps, .str r.addr t1]) Q E ⟨sh, sg, sd, st, so⟩ :=
  spec_use (path_of_spec (ad := r.addr) h1 h2 h3 hr hs) B F X N T hk hdp hu (by
    rintro v n h' tk' ⟨rfl, hres⟩ F' N'
    have hv : v = .ref pa := by
      rcases hres with ⟨p, pre, post, e, _, hpa, hq⟩ | ⟨_, hno⟩
      · rw [hq, uniq hnd (p := p) (q := (r, pa)) (by rw [e]; exact List.mem_append_right _ (.head _)) hin hpa]
      · exact absurd rfl (hno _ hin)
    subst hv
    exact ret h' tk' F' N')
theorem path_any {w : World} {mean : ExcName → Option Value} {mg mb : Str → Option Value} {dp un : Nat} {gd : Option (List Code)} {cn : Str} {cs : Scope} {a : Addr} {ccd : Value} {cl : List (Str × Addr)} {outer : List Env} {A₀ : Around} {base h₀ : Heap} {L : Addr} {m : Str → Option Value} {sh : Heap} {sg : Array GenState} {sd : Drawn} {st : Nat} {so : OsState} {Q E : Value → Shared → Prop} {ps pd kn : Addr} {news lp : Led} {prs : List (Rw × Addr)} {k0 k1 k2 k3 k4 k5 k6 : Tok} {vr vm va vl vh vn : Value} {c : Nat} {ad : Str} {t1 : Tok}
    (h1 : (ps, instObj 224 pd) ∈ news) (h2 : (pd, pathsO w k0 k1 k2 k3 k4 k5 k6 vr vm (.ref kn) va vl vh vn) ∈ news) (h3 : (kn, listOf (prs.map fun p => Value.ref p.2).toArray c) ∈ news) (hr : Rows (PRow w) prs lp) (hs : ∀ p ∈ lp, p ∈ news)
    (B : Below A₀ base outer h₀) (F : Fr h₀ L sh m) (X : (hd.heap_1 w.params).In h₀) (N : News h₀ L sh (news)) (T : Top vw (looseW vw []) mean mg mb h₀) (hk : cs.kind = .function) (hdp : dp + 3 < recursionLimit) (hu : un + 20 < cLine)
    (ret : ∀ r pa pre post h' tk', prs = pre ++ (r, pa) :: post → (∀ q ∈ pre, q.1.addr ≠ ad) → r.addr = ad → Fr h₀ L h' m → News h₀ L h' news → Q (.ref pa) ⟨h', sg, sd, tk', so⟩)
    (ret2 : (∀ q ∈ prs, q.1.addr ≠ ad) → ∀ h' tk', Fr h₀ L h' m → News h₀ L h' news → Q .none ⟨h', sg, sd, tk', so⟩) :
    wpAny (model PySem.Challenge.rw_no0073_01.row.prog w) (ktrTop dp un gd cn cs L a ccd cl outer) (call (.ref 146) [.ref ps, .str ad t1]) Q E ⟨sh, sg, sd, st, so⟩ :=
  spec_use (path_of_spec (ad := ad) h1 h2 h3 hr hs) B F X N T hk hdp hu (by
    rintro v n h' tk' ⟨rfl, ⟨⟨r, pa⟩, pre, post, e, hpre, hpa, rfl⟩ | ⟨rfl, hno⟩⟩ F' N'
    · exact ret r pa pre post h' tk' e hpre hpa F' N'
    · exact ret2 hno h' tk' F' N')
end
section
theorem law_of_spec {w mean mg mb} {wd rl : Addr} {news ll : Led} {lrs : List (Rw × Addr)} {o : Obj} {σ : St} {al : Addr} {vb : Value} {tr ta tt ts tn : Tok} {c : Nat} {ad : Str} {t1 : Tok}
    (h1 : (wd, o) ∈ news) (ho : o.IsDictOf (SK w) [("role", .str σ.role tr), ("may", .bool σ.may), ("rows", .ref rl), ("active", .str σ.active ta), ("asked", .ref al), ("back", vb), ("top", .int σ.top tt), ("skip", .int σ.skip ts), ("now", .int σ.now tn)])
    (h3 : (rl, listOf (lrs.map fun p => Value.ref p.2).toArray c) ∈ news)
    (hr : Rows (LRow w) lrs ll) (hs : ∀ p ∈ ll, p ∈ news) (hsz : lrs.length ≤ 63) :
    Spec w mean mg mb 3 20 252 [.ref wd, .str ad t1] news (fun r n => n = news ∧ ((∃ p pre post, lrs = pre ++ p :: post ∧ (∀ q ∈ pre, q.1.addr ≠ ad) ∧ p.1.addr = ad ∧ r = .ref p.2) ∨ (r = .none ∧ ∀ q ∈ lrs, q.1.addr ≠ ad))) := by
  unfold Spec; k_fill; intro dp un gd cn cs a ccd cl outer A₀ base h₀ L m sh sg sd st so Q E B F X N T hk hd hu hret; have kM := kstMark; w_top off; k_with_none; (k_with "MINE enter" => (k_dflt (refine' code_def ?zqk1 ?zqk2 ?zqk3 ?zqk4 ?zqk5 ?zqkA ?zqkF ?zqkK ?zqk6 ?zqk7 ?zqk8 ?zqk9 ?zqkB ?_ ?zqc2 ?zqc3 ?zqc4 ?zqc5; (case zqkA => exact rfl); (case zqkF => exact rfl); (case zqkK => first | exact rfl | assumption); (case zqk1 => k_asm); (case zqk2 => k_asm); (case zqk3 => k_asm); (case zqk4 => k_asm); (case zqk5 => k_asm); (case zqk6 => k_is); (case zqk7 => k_is); (case zqk8 => ktr_room); (case zqk9 => first | exact BindsTo.of_eq (binds := [(_, _)]) rfl | exact BindsTo.of_eq (binds := [(_, _), (_, _)]) rfl | exact BindsTo.of_eq (binds := [(_, _), (_, _), (_, _)]) rfl | exact BindsTo.of_eq (binds := [(_, _), (_, _), (_, _), (_, _)]) rfl | exact BindsTo.of_eq rfl); (case zqc5 => decide); (case zqkB => exact locs rfl); (case zqc2 => exact rfl); (case zqc3 => exact rfl); (case zqc4 => exact rfl); k_whole; intro g' L' h' FG' F' N' B' X' T'; (try dsimp only); (try k_lift B'); (try k_fold)))); (k_with "call ref" => (k_here; first | k_extra "MINE call" | (refine wpAny_call ?_; walk_at "MINE enter"))); (k_with "call ref" => (k_here; k_dflt (refine' call_cls ?zqk1 ?zqk2 ?zqk3 ?zqk4 ?zqk5 ?zqk6 ?_; (case zqk1 => k_asm); (case zqk2 => k_asm); (case zqk3 => k_asm); (case zqk4 => k_is); (case zqk5 => k_is); (case zqk6 => k_is); k_whole; intro x' d' h' F' N' l1 l2; (try k_lt l1); (try k_lt2 l2); (try k_sweep)); walk_at "MINE enter")); (k_with "TPost" => dsimp only [TPost]); (k_with "MINE enterC" => (k_dflt (refine' code_defC ?zqk1 ?zqk2 ?zqk3 ?zqk4 ?zqk5 ?zqkA ?zqkF ?zqkK ?zqk6 ?zqk7 ?zqk8 ?zqk9 ?zqkB ?zqkD ?_ ?zqc2 ?zqc3 ?zqc4; (case zqkA => exact rfl); (case zqkF => exact rfl); (case zqkK => first | exact rfl | assumption); (case zqk1 => k_asm); (case zqk2 => k_asm); (case zqk3 => k_asm); (case zqk4 => k_asm); (case zqk5 => k_asm); (case zqk6 => k_is); (case zqk7 => k_is); (case zqk8 => ktr_room); (case zqk9 => first | exact BindsTo.of_eq (binds := [(_, _)]) rfl | exact BindsTo.of_eq (binds := [(_, _), (_, _)]) rfl | exact BindsTo.of_eq (binds := [(_, _), (_, _), (_, _)]) rfl | exact BindsTo.of_eq (binds := [(_, _), (_, _), (_, _), (_, _)]) rfl | exact BindsTo.of_eq rfl); (case zqkB => exact rfl); (case zqkD => decide +kernel); (case zqc2 => exact rfl); (case zqc3 => exact rfl); (case zqc4 => exact rfl); k_whole; intro g' L' h' tk' cells' FG' F' N' Y' B' X' T' l1; k_cells Y'; (try simp only [List.cons_append, List.nil_append] at N'); (try dsimp only); (try k_lift B'); (try k_fold)))); (k_with "exec Assign cons ListComp" => (k_here; k_dflt (refine LCt.Assign_ListComp_T (F₀ := by k_asm) (by rfl) (by with_unfolding_all rfl) (by with_unfolding_all rfl) (by decide) (by rfl) (by decide) (by rfl) (by rfl) (by rfl) ?_))); (k_with "subscriptTail" => (k_here; (with_reducible show wpAny _ _ (subscriptTail _ _ (Value.ref _) (Value.str _ _)) _ _ _); k_dflt (refine' kda_item (knd := PySem.strKind _ _) ?zqk1 ?zqk2 ?zqk3 (strKind_is _ _ _ _) ?zqk4 ?_; (case zqk1 => k_asm); (case zqk2 => k_mem); (case zqk3 => assumption); (case zqk4 => rfl); k_whole))); (k_with "setItem ref str" => (k_here; k_dflt (refine' kda_set (knd := PySem.strKind _ _) ?zqF ?zqN ?zqU ?zqd (strKind_is _ _ _ _) ?zqz ?_; (case zqF => k_asm); (case zqN => k_asm); (case zqU => k_updF); (case zqd => assumption); (case zqz => kob_size)); intro h' o' F' N' hd'; (try kob_lit); (try dsimp only at N'); (try dsimp only); (try k_gentoks))); (k_with "compareOp NotEq ref ref" => (k_here; k_dflt (refine' ne_nil ?zqk1 ?zqk2 ?zqk3 ?zqk4 ?_; (case zqk1 => k_asm); (case zqk2 => k_mem); (case zqk3 => k_mem); (case zqk4 => ktr_units)); (try dsimp only [List.isEmpty, Bool.not_true, Bool.not_false, List.map]))); (k_with "MINE ne" => (refine neN ?_; (try dsimp only); first | exact NeA.ne (by assumption) | exact (NeA.ne (by assumption)).symm | omega)); (k_with "compareOp In bytes ref" => (k_here; k_dflt (refine' in_bytes ?zqk1 ?zqk2 ?zqk3 ?_; (case zqk1 => k_asm); (case zqk2 => k_mem); (case zqk3 => assumption)))); (k_with "exec Raise some none" => (k_here; k_dflt (refine' Raise_38 ?zqk1 ?zqk2 ?_; (case zqk1 => k_asm); (case zqk2 => first | rfl | assumption)))); (k_with "call ref" => (k_here; (with_reducible show wpAny _ _ (call (Value.ref 38) _) _ _ _); k_dflt (refine' call_refuse ?zqk1 ?zqk2 ?zqk3 ?_; (case zqk1 => k_asm); (case zqk2 => k_asm); (case zqk3 => k_asm); k_whole); intro e38 t38 h38 F38 N38 hap38 hne38; refine wpAny_call ?_; walk_at "MINE enter")); (k_with "getMethod type:Exception" => (k_here; refine' method_type ?zqF ?zqX ?zqm (by decide +kernel) ?zqe ?zqh ?_; (case zqF => k_asm); (case zqX => k_asm); (case zqm => kernel_rfl); (case zqe => k_dflt k_is); (case zqh => k_handed))); (k_with "call builtin:Exception.__init__" => (k_here; k_dflt (refine' init_w ?zqk1 ?zqk2 ?zqk3 ?zqk4 ?_; (case zqk1 => k_asm); (case zqk2 => k_asm); (case zqk3 => k_asm); (case zqk4 => exact per_e (by assumption) (by assumption)); k_whole); intro h39 t39 F39 N39 hap39 hne39)); (k_with "setAttr ref" => (k_here; (with_reducible show wpAny _ _ (setAttr (Value.ref _) (PySem.Str.ofString "text") _) _ _ _); k_dflt (refine' text_w ?zqk1 ?zqk2 ?zqk3 ?zqk4 ?_; (case zqk1 => k_asm); (case zqk2 => k_asm); (case zqk3 => k_asm); (case zqk4 => exact per_t (by assumption) (by assumption) (by assumption)); k_whole); intro h40 tk40 o40 F40 N40 hc40 hd40)); (k_with "Refusing" => ((rename News _ _ _ (_ :: (_, tupO _) :: _ :: _) => N41); (rename (_ = Data.fields _) => hd41); refine ⟨_, _, _, rfl, Fr.keep (by k_asm), (N41 _ (.head _)).1, by assumption, hd41, ?_⟩)); (k_with "leaving ref" => (k_here; (rename News _ _ _ (_ :: (_, tupO _) :: _ :: _) => N41); (rename (_ = Data.fields _) => hd41); k_dflt (refine' leave_x ?zqk1 ?zqk2 (vs := [_]) N41 ?zqk4 ?zqk5 hd41 ?_; (case zqk1 => assumption); (case zqk2 => k_asm); (case zqk4 => exact per_b (by assumption) (by assumption) (by assumption)); (case zqk5 => assumption); k_whole); intro h42 R42 U42)); (k_with "MINE enterS" => (k_dflt (refine' code_defT ?zqk1 ?zqk2 ?zqk3 ?zqk4 ?zqk5 ?zqkXB ?zqkTB ?zqkD ?zqkA ?zqkF ?zqkK ?zqk6 ?zqk7 ?zqk8 ?zqk9 ?zqkB ?_ ?zqc2 ?zqc3 ?zqc4 ?zqc5; (case zqkA => exact rfl); (case zqkF => exact rfl); (case zqkK => first | exact rfl | assumption); (case zqk1 => k_asm); (case zqk2 => k_asm); (case zqk3 => k_asm); (case zqk4 => k_asm); (case zqk5 => k_asm); (case zqkXB => assumption); (case zqkTB => assumption); (case zqkD => assumption); (case zqk6 => k_is); (case zqk7 => k_is); (case zqk8 => ktr_room); (case zqk9 => first | exact BindsTo.of_eq (binds := [(_, _)]) rfl | exact BindsTo.of_eq (binds := [(_, _), (_, _)]) rfl | exact BindsTo.of_eq (binds := [(_, _), (_, _), (_, _)]) rfl | exact BindsTo.of_eq (binds := [(_, _), (_, _), (_, _), (_, _)]) rfl | exact BindsTo.of_eq rfl); (case zqc5 => decide); (case zqkB => exact locs rfl); (case zqc2 => exact rfl); (case zqc3 => exact rfl); (case zqc4 => exact rfl); k_whole; intro g' L' h' FG' F' N' B' X' T' D'; (try dsimp only); (try k_lift B'); (try k_fold)))); (k_with "exec For Name Subscript cons nil" => (k_here; (rename Fr _ _ _ _ => lF'); (with_unfolding_all refine' For_invVF lF' ?zqk1 ?zqk2 ?_; (case zqk1 => exact rfl); (case zqk2 => exact rfl); k_whole))); (k_with "compareOp In none ref" => (k_here; k_dflt (refine' none_in_pair ?zqk1 ?zqk2 ?_; (case zqk1 => k_asm); (case zqk2 => k_mem)))); (k_with "compareOp In str ref" => (k_here; k_dflt (refine' str_in_pair ?zqk1 ?zqk2 ?_; (case zqk1 => k_asm); (case zqk2 => k_mem)))); (k_with "compareOp Eq ref ref" => (k_here; k_dflt (refine' eq_nil ?zqk1 ?zqk2 ?zqk3 ?zqk4 ?_; (case zqk1 => k_asm); (case zqk2 => k_mem); (case zqk3 => k_mem); (case zqk4 => ktr_units)); (try dsimp only [List.isEmpty, List.map]))); (k_with "call builtin:len" => (k_here; (with_reducible show wpAny _ _ (call (Value.builtin "len") [Value.ref _]) _ _ _); k_dflt (refine' len_led ?zqk1 ?zqk2 ?zqk3 ?_; (case zqk1 => k_asm); (case zqk2 => k_mem); (case zqk3 => exact Nat.le_trans (by assumption) (by decide))))); (k_with "eval ListComp" => (k_here; k_dflt (refine LCt.ListComp_T (F₀ := by k_asm) (by with_unfolding_all rfl) (by decide) (by rfl) (by decide) (by rfl) ?_))); (k_with "subscriptTail" => (k_here; (with_reducible show wpAny _ _ (subscriptTail _ _ (Value.ref _) (Value.int _ _)) _ _ _); k_dflt (refine' item_led ?zqk1 ?zqk2 ?zqk3 ?zqk4 ?zqk5 ?_; (case zqk1 => k_asm); (case zqk2 => k_mem); (case zqk5 => assumption); (case zqk3 => assumption); (case zqk4 => omega)))); (k_with "MINE in" => (refine' Frag.In.keeps ?zqk1 (Fr.keep ?zqk2); (case zqk2 => with_reducible assumption); (case zqk1 => with_reducible assumption))); (k_with "storeName" => (k_here; (try dsimp only); k_dflt (refine' storeX_L ?zqF ?zqN ?_ ?zqa ?zqb; (case zqF => k_asm); (case zqN => k_asm); (case zqa => rfl); (case zqb => rfl); k_whole); intro h' F' N'; (try k_sweep))); (k_with "setAttr ref" => (dsimp only; walk1)); (k_with "call ref" => (dsimp only; walk1)); (k_with "setItem ref str" => (dsimp only; walk1)); refine wpAny_call ?_
  walk_at "MINE enterC"
  k_steps
  refine LCt.CompSrcT.ledger rfl (by k_asm) (by k_asm) (.tail _ h3) (by rw [List.size_toArray, List.length_map, sizeLine_eq]; omega) ?_
  intro g9
  refine rest_of lrs _ (fun p => p.1.addr == ad) (fun p => Value.ref p.2) ?_ ?_ ?_
  · exact .inr ⟨_, .tail _ h3, rfl, _, rfl⟩
  · rintro i ⟨r, pa⟩ I oI C oC D m₂ ys h tk E' hi hC hx F1 N1
    dsimp only at hx
    obtain ⟨lr, hpr, hlr⟩ := hr.mem (List.mem_of_getElem? hi)
    cases hpr with
    | mk ho' hus hv =>
      have m1 := hs _ (hlr _ (.head _))
      clear hlr
      dsimp only at m1 ho'
      k_steps
      · exact ⟨_, _, rfl, by k_asm, by k_asm, by assumption, rfl⟩
      · exact ⟨_, _, rfl, by k_asm, by k_asm, by assumption⟩
  have hcase : (lrs.filter fun p => p.1.addr == ad) = [] ∨ ∃ p pre post rest, (lrs.filter fun p => p.1.addr == ad) = p :: rest ∧ lrs = pre ++ p :: post ∧ (∀ q ∈ pre, q.1.addr ≠ ad) ∧ p.1.addr = ad := by
    cases hf : lrs.filter fun p => p.1.addr == ad with
    | nil => exact .inl rfl
    | cons p rest =>
      obtain ⟨pre, post, e, h1, h2, _⟩ := List.filter_eq_cons_iff.mp hf
      exact .inr ⟨p, pre, post, rest, rfl, e, fun q hq => by simpa using h1 q hq, by simpa using h2⟩
  rcases hcase with he | ⟨p, pre, post, rest, he, e, hpre, hp⟩
  · have hno : ∀ q ∈ lrs, q.1.addr ≠ ad := fun q hq z => by
      have := List.filter_eq_nil_iff.mp he q hq
      simp [z] at this
    rw [he]
    k_steps
    rename News h₀ L _ _ => N9
    exact hret _ _ _ _ ⟨rfl, .inr ⟨rfl, hno⟩⟩ (by k_asm) (fun p hp => N9 p (.tail _ (.tail _ (.tail _ hp))))
  · rw [he]
    k_steps
    rename News h₀ L _ _ => N9
    exact hret _ _ _ _ ⟨rfl, .inl ⟨p, pre, post, e, hpre, hp, rfl⟩⟩ (by k_asm) (fun p hp => N9 p (.tail _ (.tail _ (.tail _ hp))))
theorem law_known {w : World} {mean : ExcName → Option Value} {mg mb : Str → Option Value} {dp un : Nat} {gd : Option (List Code)} {cn : Str} {cs : Scope} {a : Addr} {ccd : Value} {cl : List (Str × Addr)} {outer : List Env} {A₀ : Around} {base h₀ : Heap} {L : Addr} {m : Str → Option Value} {sh : Heap} {sg : Array GenState} {sd : Drawn} {st : Nat} {so : OsState} {Q E : Value → Shared → Prop} {wd rl : Addr} {news ll : Led} {lrs : List (Rw × Addr)} {o : Obj} {σ : St} {al : Addr} {vb : Value} {tr ta tt ts tn : Tok} {c : Nat} {ad : Str} {t1 : Tok} {p : Rw × Addr}
    (h1 : (wd, o) ∈ news) (ho : o.IsDictOf (SK w) [("role", .str σ.role tr), ("may", .bool σ.may), ("rows", .ref rl), ("active", .str σ.active ta), ("asked", .ref al), ("back", vb), ("top", .int σ.top tt), ("skip", .int σ.skip ts), ("now", .int σ.now tn)]) (h3 : (rl, listOf (lrs.map fun p => Value.ref p.2).toArray c) ∈ news) (hr : Rows (LRow w) lrs ll) (hs : ∀ p ∈ ll, p ∈ news) (hsz : lrs.length ≤ 63) (hnd : (lrs.map fun p => p.1.addr).Nodup) (hin : p ∈ lrs) (hpa : p.1.addr = ad)
    (B : Below A₀ base outer h₀) (F : Fr h₀ L sh m) (X : (hd.heap_1 w.params).In h₀) (N : News h₀ L sh (news)) (T : Top vw (looseW vw []) mean mg mb h₀) (hk : cs.kind = .function) (hdp : dp + 3 < recursionLimit) (hu : un + 20 < cLine)
    (ret : ∀ h' tk', Fr h₀ L h' m → News h₀ L h' news → Q (.ref p.2) ⟨h', sg, sd, tk', so⟩) :
    wpAny (model PySem.Challenge.rw_no0073_01.row.prog w) (ktrTop dp un gd cn cs L a ccd cl outer) (call (.ref 252) [.ref wd, .str ad t1]) Q E ⟨sh, sg, sd, st, so⟩ :=
  spec_use (law_of_spec (ad := ad) h1 ho h3 hr hs hsz) B F X N T hk hdp hu (by
    rintro v n h' tk' ⟨rfl, hres⟩ F' N'
    have hv : v = .ref p.2 := by
      rcases hres with ⟨q, pre, post, e, _, hqa, hq⟩ | ⟨_, hno⟩
      · rw [hq, uniq hnd (p := q) (q := p) (by rw [e]; exact List.mem_append_right _ (.head _)) hin (hqa.trans hpa.symm)]
      · exact absurd hpa (hno _ hin)
    subst hv
    exact ret h' tk' F' N')
theorem law_any {w : World} {mean : ExcName → Option Value} {mg mb : Str → Option Value} {dp un : Nat} {gd : Option (List Code)} {cn : Str} {cs : Scope} {a : Addr} {ccd : Value} {cl : List (Str × Addr)} {outer : List Env} {A₀ : Around} {base h₀ : Heap} {L : Addr} {m : Str → Option Value} {sh : Heap} {sg : Array GenState} {sd : Drawn} {st : Nat} {so : OsState} {Q E : Value → Shared → Prop} {wd rl : Addr} {news ll : Led} {lrs : List (Rw × Addr)} {o : Obj} {σ : St} {al : Addr} {vb : Value} {tr ta tt ts tn : Tok} {c : Nat} {ad : Str} {t1 : Tok}
    (h1 : (wd, o) ∈ news) (ho : o.IsDictOf (SK w) [("role", .str σ.role tr), ("may", .bool σ.may), ("rows", .ref rl), ("active", .str σ.active ta), ("asked", .ref al), ("back", vb), ("top", .int σ.top tt), ("skip", .int σ.skip ts), ("now", .int σ.now tn)]) (h3 : (rl, listOf (lrs.map fun p => Value.ref p.2).toArray c) ∈ news) (hr : Rows (LRow w) lrs ll) (hs : ∀ p ∈ ll, p ∈ news) (hsz : lrs.length ≤ 63)
    (B : Below A₀ base outer h₀) (F : Fr h₀ L sh m) (X : (hd.heap_1 w.params).In h₀) (N : News h₀ L sh (news)) (T : Top vw (looseW vw []) mean mg mb h₀) (hk : cs.kind = .function) (hdp : dp + 3 < recursionLimit) (hu : un + 20 < cLine)
    (ret : ∀ r ra pre post h' tk', lrs = pre ++ (r, ra) :: post → (∀ q ∈ pre, q.1.addr ≠ ad) → r.addr = ad → Fr h₀ L h' m → News h₀ L h' news → Q (.ref ra) ⟨h', sg, sd, tk', so⟩)
    (ret2 : (∀ q ∈ lrs, q.1.addr ≠ ad) → ∀ h' tk', Fr h₀ L h' m → News h₀ L h' news → Q .none ⟨h', sg, sd, tk', so⟩) :
    wpAny (model PySem.Challenge.rw_no0073_01.row.prog w) (ktrTop dp un gd cn cs L a ccd cl outer) (call (.ref 252) [.ref wd, .str ad t1]) Q E ⟨sh, sg, sd, st, so⟩ :=
  spec_use (law_of_spec (ad := ad) h1 ho h3 hr hs hsz) B F X N T hk hdp hu (by
    rintro v n h' tk' ⟨rfl, ⟨⟨r, pa⟩, pre, post, e, hpre, hpa, rfl⟩ | ⟨rfl, hno⟩⟩ F' N'
    · exact ret r pa pre post h' tk' e hpre hpa F' N'
    · exact ret2 hno h' tk' F' N')
end
section
theorem take_spec {w mean mg mb} {many : Int} {tk : Tok} {d : Addr} {o : Obj} {own : Led} {g mx : Int} {t1 t2 : Tok}
  (ho : o.IsDictOf (SK w) [("great", .int g t1), ("mixed", .int mx t2)]) (hoff : OwnOff own [d]) (hm : 0 < many) (hm2 : many < 1000) :
  Spec w mean mg mb 1 20 235 [.ref d, .int many tk] ((d, o) :: own) (fun r n => ∃ rv rt o' g' mx' t1' t2', r = .int rv rt ∧ 0 ≤ rv ∧ rv < many ∧ n = (d, o') :: own ∧ o'.IsDictOf (SK w) [("great", .int g' t1'), ("mixed", .int mx' t2')]) := by
  unfold Spec; k_fill; intro dp un gd cn cs a ccd cl outer A₀ base h₀ L m sh sg sd st so Q E B F X N T hk hd hu hret; have kM := kstMark; w_top off; k_with_none; (k_with "MINE enter" => (k_dflt (refine' code_def ?zqk1 ?zqk2 ?zqk3 ?zqk4 ?zqk5 ?zqkA ?zqkF ?zqkK ?zqk6 ?zqk7 ?zqk8 ?zqk9 ?zqkB ?_ ?zqc2 ?zqc3 ?zqc4 ?zqc5; (case zqkA => exact rfl); (case zqkF => exact rfl); (case zqkK => first | exact rfl | assumption); (case zqk1 => k_asm); (case zqk2 => k_asm); (case zqk3 => k_asm); (case zqk4 => k_asm); (case zqk5 => k_asm); (case zqk6 => k_is); (case zqk7 => k_is); (case zqk8 => ktr_room); (case zqk9 => first | exact BindsTo.of_eq (binds := [(_, _)]) rfl | exact BindsTo.of_eq (binds := [(_, _), (_, _)]) rfl | exact BindsTo.of_eq (binds := [(_, _), (_, _), (_, _)]) rfl | exact BindsTo.of_eq (binds := [(_, _), (_, _), (_, _), (_, _)]) rfl | exact BindsTo.of_eq rfl); (case zqc5 => decide); (case zqkB => exact locs rfl); (case zqc2 => exact rfl); (case zqc3 => exact rfl); (case zqc4 => exact rfl); k_whole; intro g' L' h' FG' F' N' B' X' T'; (try dsimp only); (try k_lift B'); (try k_fold)))); (k_with "call ref" => (k_here; first | k_extra "MINE call" | (refine wpAny_call ?_; walk_at "MINE enter"))); (k_with "call ref" => (k_here; k_dflt (refine' call_cls ?zqk1 ?zqk2 ?zqk3 ?zqk4 ?zqk5 ?zqk6 ?_; (case zqk1 => k_asm); (case zqk2 => k_asm); (case zqk3 => k_asm); (case zqk4 => k_is); (case zqk5 => k_is); (case zqk6 => k_is); k_whole; intro x' d' h' F' N' l1 l2; (try k_lt l1); (try k_lt2 l2); (try k_sweep)); walk_at "MINE enter")); (k_with "TPost" => dsimp only [TPost]); (k_with "MINE enterC" => (k_dflt (refine' code_defC ?zqk1 ?zqk2 ?zqk3 ?zqk4 ?zqk5 ?zqkA ?zqkF ?zqkK ?zqk6 ?zqk7 ?zqk8 ?zqk9 ?zqkB ?zqkD ?_ ?zqc2 ?zqc3 ?zqc4; (case zqkA => exact rfl); (case zqkF => exact rfl); (case zqkK => first | exact rfl | assumption); (case zqk1 => k_asm); (case zqk2 => k_asm); (case zqk3 => k_asm); (case zqk4 => k_asm); (case zqk5 => k_asm); (case zqk6 => k_is); (case zqk7 => k_is); (case zqk8 => ktr_room); (case zqk9 => first | exact BindsTo.of_eq (binds := [(_, _)]) rfl | exact BindsTo.of_eq (binds := [(_, _), (_, _)]) rfl | exact BindsTo.of_eq (binds := [(_, _), (_, _), (_, _)]) rfl | exact BindsTo.of_eq (binds := [(_, _), (_, _), (_, _), (_, _)]) rfl | exact BindsTo.of_eq rfl); (case zqkB => exact rfl); (case zqkD => decide +kernel); (case zqc2 => exact rfl); (case zqc3 => exact rfl); (case zqc4 => exact rfl); k_whole; intro g' L' h' tk' cells' FG' F' N' Y' B' X' T' l1; k_cells Y'; (try simp only [List.cons_append, List.nil_append] at N'); (try dsimp only); (try k_lift B'); (try k_fold)))); (k_with "exec Assign cons ListComp" => (k_here; k_dflt (refine LCt.Assign_ListComp_T (F₀ := by k_asm) (by rfl) (by with_unfolding_all rfl) (by with_unfolding_all rfl) (by decide) (by rfl) (by decide) (by rfl) (by rfl) (by rfl) ?_))); (k_with "subscriptTail" => (k_here; (with_reducible show wpAny _ _ (subscriptTail _ _ (Value.ref _) (Value.str _ _)) _ _ _); k_dflt (refine' kda_item (knd := PySem.strKind _ _) ?zqk1 ?zqk2 ?zqk3 (strKind_is _ _ _ _) ?zqk4 ?_; (case zqk1 => k_asm); (case zqk2 => k_mem); (case zqk3 => assumption); (case zqk4 => rfl); k_whole))); (k_with "setItem ref str" => (k_here; k_dflt (refine' kda_set (knd := PySem.strKind _ _) ?zqF ?zqN ?zqU ?zqd (strKind_is _ _ _ _) ?zqz ?_; (case zqF => k_asm); (case zqN => k_asm); (case zqU => k_updF); (case zqd => assumption); (case zqz => kob_size)); intro h' o' F' N' hd'; (try kob_lit); (try dsimp only at N'); (try dsimp only); (try k_gentoks))); (k_with "compareOp NotEq ref ref" => (k_here; k_dflt (refine' ne_nil ?zqk1 ?zqk2 ?zqk3 ?zqk4 ?_; (case zqk1 => k_asm); (case zqk2 => k_mem); (case zqk3 => k_mem); (case zqk4 => ktr_units)); (try dsimp only [List.isEmpty, Bool.not_true, Bool.not_false, List.map]))); (k_with "MINE ne" => (refine neN ?_; (try dsimp only); first | exact NeA.ne (by assumption) | exact (NeA.ne (by assumption)).symm | omega)); (k_with "compareOp In bytes ref" => (k_here; k_dflt (refine' in_bytes ?zqk1 ?zqk2 ?zqk3 ?_; (case zqk1 => k_asm); (case zqk2 => k_mem); (case zqk3 => assumption)))); (k_with "exec Raise some none" => (k_here; k_dflt (refine' Raise_38 ?zqk1 ?zqk2 ?_; (case zqk1 => k_asm); (case zqk2 => first | rfl | assumption)))); (k_with "call ref" => (k_here; (with_reducible show wpAny _ _ (call (Value.ref 38) _) _ _ _); k_dflt (refine' call_refuse ?zqk1 ?zqk2 ?zqk3 ?_; (case zqk1 => k_asm); (case zqk2 => k_asm); (case zqk3 => k_asm); k_whole); intro e38 t38 h38 F38 N38 hap38 hne38; refine wpAny_call ?_; walk_at "MINE enter")); (k_with "getMethod type:Exception" => (k_here; refine' method_type ?zqF ?zqX ?zqm (by decide +kernel) ?zqe ?zqh ?_; (case zqF => k_asm); (case zqX => k_asm); (case zqm => kernel_rfl); (case zqe => k_dflt k_is); (case zqh => k_handed))); (k_with "call builtin:Exception.__init__" => (k_here; k_dflt (refine' init_w ?zqk1 ?zqk2 ?zqk3 ?zqk4 ?_; (case zqk1 => k_asm); (case zqk2 => k_asm); (case zqk3 => k_asm); (case zqk4 => exact per_e (by assumption) (by assumption)); k_whole); intro h39 t39 F39 N39 hap39 hne39)); (k_with "setAttr ref" => (k_here; (with_reducible show wpAny _ _ (setAttr (Value.ref _) (PySem.Str.ofString "text") _) _ _ _); k_dflt (refine' text_w ?zqk1 ?zqk2 ?zqk3 ?zqk4 ?_; (case zqk1 => k_asm); (case zqk2 => k_asm); (case zqk3 => k_asm); (case zqk4 => exact per_t (by assumption) (by assumption) (by assumption)); k_whole); intro h40 tk40 o40 F40 N40 hc40 hd40)); (k_with "Refusing" => ((rename News _ _ _ (_ :: (_, tupO _) :: _ :: _) => N41); (rename (_ = Data.fields _) => hd41); refine ⟨_, _, _, rfl, Fr.keep (by k_asm), (N41 _ (.head _)).1, by assumption, hd41, ?_⟩)); (k_with "leaving ref" => (k_here; (rename News _ _ _ (_ :: (_, tupO _) :: _ :: _) => N41); (rename (_ = Data.fields _) => hd41); k_dflt (refine' leave_x ?zqk1 ?zqk2 (vs := [_]) N41 ?zqk4 ?zqk5 hd41 ?_; (case zqk1 => assumption); (case zqk2 => k_asm); (case zqk4 => exact per_b (by assumption) (by assumption) (by assumption)); (case zqk5 => assumption); k_whole); intro h42 R42 U42)); (k_with "MINE enterS" => (k_dflt (refine' code_defT ?zqk1 ?zqk2 ?zqk3 ?zqk4 ?zqk5 ?zqkXB ?zqkTB ?zqkD ?zqkA ?zqkF ?zqkK ?zqk6 ?zqk7 ?zqk8 ?zqk9 ?zqkB ?_ ?zqc2 ?zqc3 ?zqc4 ?zqc5; (case zqkA => exact rfl); (case zqkF => exact rfl); (case zqkK => first | exact rfl | assumption); (case zqk1 => k_asm); (case zqk2 => k_asm); (case zqk3 => k_asm); (case zqk4 => k_asm); (case zqk5 => k_asm); (case zqkXB => assumption); (case zqkTB => assumption); (case zqkD => assumption); (case zqk6 => k_is); (case zqk7 => k_is); (case zqk8 => ktr_room); (case zqk9 => first | exact BindsTo.of_eq (binds := [(_, _)]) rfl | exact BindsTo.of_eq (binds := [(_, _), (_, _)]) rfl | exact BindsTo.of_eq (binds := [(_, _), (_, _), (_, _)]) rfl | exact BindsTo.of_eq (binds := [(_, _), (_, _), (_, _), (_, _)]) rfl | exact BindsTo.of_eq rfl); (case zqc5 => decide); (case zqkB => exact locs rfl); (case zqc2 => exact rfl); (case zqc3 => exact rfl); (case zqc4 => exact rfl); k_whole; intro g' L' h' FG' F' N' B' X' T' D'; (try dsimp only); (try k_lift B'); (try k_fold)))); (k_with "exec For Name Subscript cons nil" => (k_here; (rename Fr _ _ _ _ => lF'); (with_unfolding_all refine' For_invVF lF' ?zqk1 ?zqk2 ?_; (case zqk1 => exact rfl); (case zqk2 => exact rfl); k_whole))); (k_with "compareOp In none ref" => (k_here; k_dflt (refine' none_in_pair ?zqk1 ?zqk2 ?_; (case zqk1 => k_asm); (case zqk2 => k_mem)))); (k_with "compareOp In str ref" => (k_here; k_dflt (refine' str_in_pair ?zqk1 ?zqk2 ?_; (case zqk1 => k_asm); (case zqk2 => k_mem)))); (k_with "compareOp Eq ref ref" => (k_here; k_dflt (refine' eq_nil ?zqk1 ?zqk2 ?zqk3 ?zqk4 ?_; (case zqk1 => k_asm); (case zqk2 => k_mem); (case zqk3 => k_mem); (case zqk4 => ktr_units)); (try dsimp only [List.isEmpty, List.map]))); (k_with "call builtin:len" => (k_here; (with_reducible show wpAny _ _ (call (Value.builtin "len") [Value.ref _]) _ _ _); k_dflt (refine' len_led ?zqk1 ?zqk2 ?zqk3 ?_; (case zqk1 => k_asm); (case zqk2 => k_mem); (case zqk3 => exact Nat.le_trans (by assumption) (by decide))))); (k_with "eval ListComp" => (k_here; k_dflt (refine LCt.ListComp_T (F₀ := by k_asm) (by with_unfolding_all rfl) (by decide) (by rfl) (by decide) (by rfl) ?_))); (k_with "subscriptTail" => (k_here; (with_reducible show wpAny _ _ (subscriptTail _ _ (Value.ref _) (Value.int _ _)) _ _ _); k_dflt (refine' item_led ?zqk1 ?zqk2 ?zqk3 ?zqk4 ?zqk5 ?_; (case zqk1 => k_asm); (case zqk2 => k_mem); (case zqk5 => assumption); (case zqk3 => assumption); (case zqk4 => omega)))); (k_with "MINE in" => (refine' Frag.In.keeps ?zqk1 (Fr.keep ?zqk2); (case zqk2 => with_reducible assumption); (case zqk1 => with_reducible assumption))); (k_with "storeName" => (k_here; (try dsimp only); k_dflt (refine' storeX_L ?zqF ?zqN ?_ ?zqa ?zqb; (case zqF => k_asm); (case zqN => k_asm); (case zqa => rfl); (case zqb => rfl); k_whole); intro h' F' N'; (try k_sweep))); (k_with "setAttr ref" => (dsimp only; walk1)); (k_with "call ref" => (dsimp only; walk1)); (k_with "setItem ref str" => (dsimp only; walk1)); refine wpAny_call ?_
  walk_at "MINE enter"
  k_steps
  · rename News h₀ L _ _ => N9
    exact hret _ _ _ _ ⟨_, _, _, _, _, _, _, rfl, fmod_lo _ hm, fmod_hi _ hm, rfl, by assumption⟩ (by k_asm) (fun p hp => N9 p (.tail _ hp))
  · rename News h₀ L _ _ => N9
    exact hret _ _ _ _ ⟨_, _, _, _, _, _, _, rfl, fmod_lo _ hm, fmod_hi _ hm, rfl, by assumption⟩ (by k_asm) N9
theorem take_use {w : World} {mean : ExcName → Option Value} {mg mb : Str → Option Value} {dp un : Nat} {gd : Option (List Code)} {cn : Str} {cs : Scope} {a : Addr} {ccd : Value} {cl : List (Str × Addr)} {outer : List Env} {A₀ : Around} {base h₀ : Heap} {L : Addr} {m : Str → Option Value} {sh : Heap} {sg : Array GenState} {sd : Drawn} {st : Nat} {so : OsState} {Q E : Value → Shared → Prop} {many : Int} {tk : Tok} {d : Addr} {o : Obj} {own : Led} {g mx : Int} {t1 t2 : Tok}
    (ho : o.IsDictOf (SK w) [("great", .int g t1), ("mixed", .int mx t2)]) (hoff : OwnOff own [d]) (hm : 0 < many) (hm2 : many < 1000)
    (B : Below A₀ base outer h₀) (F : Fr h₀ L sh m) (X : (hd.heap_1 w.params).In h₀) (N : News h₀ L sh ((d, o) :: own)) (T : Top vw (looseW vw []) mean mg mb h₀) (hk : cs.kind = .function) (hdp : dp + 1 < recursionLimit) (hu : un + 20 < cLine)
    (ret : ∀ v vt o' g' x' t1' t2' h' tk', 0 ≤ v → v < many → o'.IsDictOf (SK w) [("great", .int g' t1'), ("mixed", .int x' t2')] → Fr h₀ L h' m → News h₀ L h' ((d, o') :: own) → Q (.int v vt) ⟨h', sg, sd, tk', so⟩) :
    wpAny (model PySem.Challenge.rw_no0073_01.row.prog w) (ktrTop dp un gd cn cs L a ccd cl outer) (call (.ref 235) [.ref d, .int many tk]) Q E ⟨sh, sg, sd, st, so⟩ :=
  spec_use (take_spec ho hoff hm hm2) B F X N T hk hdp hu (by
    rintro r n h' tk' ⟨v, vt, o', g', x', t1', t2', rfl, h0, h1, rfl, hd'⟩ F' N'
    exact ret v vt o' g' x' t1' t2' h' tk' h0 h1 hd' F' N')
end
section
theorem law_row_spec {w mean mg mb} {own : Led} {ad : Str} {t1 : Tok} {b : Bool} :
  Spec w mean mg mb 1 20 247 [.str ad t1, .bool b] own (fun r n => ∃ ra o aa c v ta ts ti tq, r = .ref ra ∧ n = (ra, o) :: (aa, listOf ([] : List Value).toArray c) :: own ∧
    o.IsDictOf (SK w) [("address", .str ad ta), ("state", .str (if b = true then "proven" else "unproven") ts), ("free", .bool b), ("in", .int 0 ti), ("out", .int 0 tq), ("asked", .ref aa), ("end", v)] ∧ OptIs v none ∧
    (∀ q ∈ own, @Ne Nat q.1 ra) ∧ (∀ q ∈ own, @Ne Nat q.1 aa) ∧ @Ne Nat ra aa) := by
  unfold Spec; k_fill; intro dp un gd cn cs a ccd cl outer A₀ base h₀ L m sh sg sd st so Q E B F X N T hk hd hu hret; have kM := kstMark; w_top off; k_with_none; (k_with "MINE enter" => (k_dflt (refine' code_def ?zqk1 ?zqk2 ?zqk3 ?zqk4 ?zqk5 ?zqkA ?zqkF ?zqkK ?zqk6 ?zqk7 ?zqk8 ?zqk9 ?zqkB ?_ ?zqc2 ?zqc3 ?zqc4 ?zqc5; (case zqkA => exact rfl); (case zqkF => exact rfl); (case zqkK => first | exact rfl | assumption); (case zqk1 => k_asm); (case zqk2 => k_asm); (case zqk3 => k_asm); (case zqk4 => k_asm); (case zqk5 => k_asm); (case zqk6 => k_is); (case zqk7 => k_is); (case zqk8 => ktr_room); (case zqk9 => first | exact BindsTo.of_eq (binds := [(_, _)]) rfl | exact BindsTo.of_eq (binds := [(_, _), (_, _)]) rfl | exact BindsTo.of_eq (binds := [(_, _), (_, _), (_, _)]) rfl | exact BindsTo.of_eq (binds := [(_, _), (_, _), (_, _), (_, _)]) rfl | exact BindsTo.of_eq rfl); (case zqc5 => decide); (case zqkB => exact locs rfl); (case zqc2 => exact rfl); (case zqc3 => exact rfl); (case zqc4 => exact rfl); k_whole; intro g' L' h' FG' F' N' B' X' T'; (try dsimp only); (try k_lift B'); (try k_fold)))); (k_with "call ref" => (k_here; first | k_extra "MINE call" | (refine wpAny_call ?_; walk_at "MINE enter"))); (k_with "call ref" => (k_here; k_dflt (refine' call_cls ?zqk1 ?zqk2 ?zqk3 ?zqk4 ?zqk5 ?zqk6 ?_; (case zqk1 => k_asm); (case zqk2 => k_asm); (case zqk3 => k_asm); (case zqk4 => k_is); (case zqk5 => k_is); (case zqk6 => k_is); k_whole; intro x' d' h' F' N' l1 l2; (try k_lt l1); (try k_lt2 l2); (try k_sweep)); walk_at "MINE enter")); (k_with "TPost" => dsimp only [TPost]); (k_with "MINE enterC" => (k_dflt (refine' code_defC ?zqk1 ?zqk2 ?zqk3 ?zqk4 ?zqk5 ?zqkA ?zqkF ?zqkK ?zqk6 ?zqk7 ?zqk8 ?zqk9 ?zqkB ?zqkD ?_ ?zqc2 ?zqc3 ?zqc4; (case zqkA => exact rfl); (case zqkF => exact rfl); (case zqkK => first | exact rfl | assumption); (case zqk1 => k_asm); (case zqk2 => k_asm); (case zqk3 => k_asm); (case zqk4 => k_asm); (case zqk5 => k_asm); (case zqk6 => k_is); (case zqk7 => k_is); (case zqk8 => ktr_room); (case zqk9 => first | exact BindsTo.of_eq (binds := [(_, _)]) rfl | exact BindsTo.of_eq (binds := [(_, _), (_, _)]) rfl | exact BindsTo.of_eq (binds := [(_, _), (_, _), (_, _)]) rfl | exact BindsTo.of_eq (binds := [(_, _), (_, _), (_, _), (_, _)]) rfl | exact BindsTo.of_eq rfl); (case zqkB => exact rfl); (case zqkD => decide +kernel); (case zqc2 => exact rfl); (case zqc3 => exact rfl); (case zqc4 => exact rfl); k_whole; intro g' L' h' tk' cells' FG' F' N' Y' B' X' T' l1; k_cells Y'; (try simp only [List.cons_append, List.nil_append] at N'); (try dsimp only); (try k_lift B'); (try k_fold)))); (k_with "exec Assign cons ListComp" => (k_here; k_dflt (refine LCt.Assign_ListComp_T (F₀ := by k_asm) (by rfl) (by with_unfolding_all rfl) (by with_unfolding_all rfl) (by decide) (by rfl) (by decide) (by rfl) (by rfl) (by rfl) ?_))); (k_with "subscriptTail" => (k_here; (with_reducible show wpAny _ _ (subscriptTail _ _ (Value.ref _) (Value.str _ _)) _ _ _); k_dflt (refine' kda_item (knd := PySem.strKind _ _) ?zqk1 ?zqk2 ?zqk3 (strKind_is _ _ _ _) ?zqk4 ?_; (case zqk1 => k_asm); (case zqk2 => k_mem); (case zqk3 => assumption); (case zqk4 => rfl); k_whole))); (k_with "setItem ref str" => (k_here; k_dflt (refine' kda_set (knd := PySem.strKind _ _) ?zqF ?zqN ?zqU ?zqd (strKind_is _ _ _ _) ?zqz ?_; (case zqF => k_asm); (case zqN => k_asm); (case zqU => k_updF); (case zqd => assumption); (case zqz => kob_size)); intro h' o' F' N' hd'; (try kob_lit); (try dsimp only at N'); (try dsimp only); (try k_gentoks))); (k_with "compareOp NotEq ref ref" => (k_here; k_dflt (refine' ne_nil ?zqk1 ?zqk2 ?zqk3 ?zqk4 ?_; (case zqk1 => k_asm); (case zqk2 => k_mem); (case zqk3 => k_mem); (case zqk4 => ktr_units)); (try dsimp only [List.isEmpty, Bool.not_true, Bool.not_false, List.map]))); (k_with "MINE ne" => (refine neN ?_; (try dsimp only); first | exact NeA.ne (by assumption) | exact (NeA.ne (by assumption)).symm | omega)); (k_with "compareOp In bytes ref" => (k_here; k_dflt (refine' in_bytes ?zqk1 ?zqk2 ?zqk3 ?_; (case zqk1 => k_asm); (case zqk2 => k_mem); (case zqk3 => assumption)))); (k_with "exec Raise some none" => (k_here; k_dflt (refine' Raise_38 ?zqk1 ?zqk2 ?_; (case zqk1 => k_asm); (case zqk2 => first | rfl | assumption)))); (k_with "call ref" => (k_here; (with_reducible show wpAny _ _ (call (Value.ref 38) _) _ _ _); k_dflt (refine' call_refuse ?zqk1 ?zqk2 ?zqk3 ?_; (case zqk1 => k_asm); (case zqk2 => k_asm); (case zqk3 => k_asm); k_whole); intro e38 t38 h38 F38 N38 hap38 hne38; refine wpAny_call ?_; walk_at "MINE enter")); (k_with "getMethod type:Exception" => (k_here; refine' method_type ?zqF ?zqX ?zqm (by decide +kernel) ?zqe ?zqh ?_; (case zqF => k_asm); (case zqX => k_asm); (case zqm => kernel_rfl); (case zqe => k_dflt k_is); (case zqh => k_handed))); (k_with "call builtin:Exception.__init__" => (k_here; k_dflt (refine' init_w ?zqk1 ?zqk2 ?zqk3 ?zqk4 ?_; (case zqk1 => k_asm); (case zqk2 => k_asm); (case zqk3 => k_asm); (case zqk4 => exact per_e (by assumption) (by assumption)); k_whole); intro h39 t39 F39 N39 hap39 hne39)); (k_with "setAttr ref" => (k_here; (with_reducible show wpAny _ _ (setAttr (Value.ref _) (PySem.Str.ofString "text") _) _ _ _); k_dflt (refine' text_w ?zqk1 ?zqk2 ?zqk3 ?zqk4 ?_; (case zqk1 => k_asm); (case zqk2 => k_asm); (case zqk3 => k_asm); (case zqk4 => exact per_t (by assumption) (by assumption) (by assumption)); k_whole); intro h40 tk40 o40 F40 N40 hc40 hd40)); (k_with "Refusing" => ((rename News _ _ _ (_ :: (_, tupO _) :: _ :: _) => N41); (rename (_ = Data.fields _) => hd41); refine ⟨_, _, _, rfl, Fr.keep (by k_asm), (N41 _ (.head _)).1, by assumption, hd41, ?_⟩)); (k_with "leaving ref" => (k_here; (rename News _ _ _ (_ :: (_, tupO _) :: _ :: _) => N41); (rename (_ = Data.fields _) => hd41); k_dflt (refine' leave_x ?zqk1 ?zqk2 (vs := [_]) N41 ?zqk4 ?zqk5 hd41 ?_; (case zqk1 => assumption); (case zqk2 => k_asm); (case zqk4 => exact per_b (by assumption) (by assumption) (by assumption)); (case zqk5 => assumption); k_whole); intro h42 R42 U42)); (k_with "MINE enterS" => (k_dflt (refine' code_defT ?zqk1 ?zqk2 ?zqk3 ?zqk4 ?zqk5 ?zqkXB ?zqkTB ?zqkD ?zqkA ?zqkF ?zqkK ?zqk6 ?zqk7 ?zqk8 ?zqk9 ?zqkB ?_ ?zqc2 ?zqc3 ?zqc4 ?zqc5; (case zqkA => exact rfl); (case zqkF => exact rfl); (case zqkK => first | exact rfl | assumption); (case zqk1 => k_asm); (case zqk2 => k_asm); (case zqk3 => k_asm); (case zqk4 => k_asm); (case zqk5 => k_asm); (case zqkXB => assumption); (case zqkTB => assumption); (case zqkD => assumption); (case zqk6 => k_is); (case zqk7 => k_is); (case zqk8 => ktr_room); (case zqk9 => first | exact BindsTo.of_eq (binds := [(_, _)]) rfl | exact BindsTo.of_eq (binds := [(_, _), (_, _)]) rfl | exact BindsTo.of_eq (binds := [(_, _), (_, _), (_, _)]) rfl | exact BindsTo.of_eq (binds := [(_, _), (_, _), (_, _), (_, _)]) rfl | exact BindsTo.of_eq rfl); (case zqc5 => decide); (case zqkB => exact locs rfl); (case zqc2 => exact rfl); (case zqc3 => exact rfl); (case zqc4 => exact rfl); k_whole; intro g' L' h' FG' F' N' B' X' T' D'; (try dsimp only); (try k_lift B'); (try k_fold)))); (k_with "exec For Name Subscript cons nil" => (k_here; (rename Fr _ _ _ _ => lF'); (with_unfolding_all refine' For_invVF lF' ?zqk1 ?zqk2 ?_; (case zqk1 => exact rfl); (case zqk2 => exact rfl); k_whole))); (k_with "compareOp In none ref" => (k_here; k_dflt (refine' none_in_pair ?zqk1 ?zqk2 ?_; (case zqk1 => k_asm); (case zqk2 => k_mem)))); (k_with "compareOp In str ref" => (k_here; k_dflt (refine' str_in_pair ?zqk1 ?zqk2 ?_; (case zqk1 => k_asm); (case zqk2 => k_mem)))); (k_with "compareOp Eq ref ref" => (k_here; k_dflt (refine' eq_nil ?zqk1 ?zqk2 ?zqk3 ?zqk4 ?_; (case zqk1 => k_asm); (case zqk2 => k_mem); (case zqk3 => k_mem); (case zqk4 => ktr_units)); (try dsimp only [List.isEmpty, List.map]))); (k_with "call builtin:len" => (k_here; (with_reducible show wpAny _ _ (call (Value.builtin "len") [Value.ref _]) _ _ _); k_dflt (refine' len_led ?zqk1 ?zqk2 ?zqk3 ?_; (case zqk1 => k_asm); (case zqk2 => k_mem); (case zqk3 => exact Nat.le_trans (by assumption) (by decide))))); (k_with "eval ListComp" => (k_here; k_dflt (refine LCt.ListComp_T (F₀ := by k_asm) (by with_unfolding_all rfl) (by decide) (by rfl) (by decide) (by rfl) ?_))); (k_with "subscriptTail" => (k_here; (with_reducible show wpAny _ _ (subscriptTail _ _ (Value.ref _) (Value.int _ _)) _ _ _); k_dflt (refine' item_led ?zqk1 ?zqk2 ?zqk3 ?zqk4 ?zqk5 ?_; (case zqk1 => k_asm); (case zqk2 => k_mem); (case zqk5 => assumption); (case zqk3 => assumption); (case zqk4 => omega)))); (k_with "MINE in" => (refine' Frag.In.keeps ?zqk1 (Fr.keep ?zqk2); (case zqk2 => with_reducible assumption); (case zqk1 => with_reducible assumption))); (k_with "storeName" => (k_here; (try dsimp only); k_dflt (refine' storeX_L ?zqF ?zqN ?_ ?zqa ?zqb; (case zqF => k_asm); (case zqN => k_asm); (case zqa => rfl); (case zqb => rfl); k_whole); intro h' F' N'; (try k_sweep))); (k_with "setAttr ref" => (dsimp only; walk1)); (k_with "call ref" => (dsimp only; walk1)); (k_with "setItem ref str" => (dsimp only; walk1)); (k_with "getMethod ref" => (k_here; (with_reducible show wpAny _ _ (getMethod (Value.ref _) (PySem.Str.ofString "update") _) _ _ _); refine stop_of ?_)); refine wpAny_call ?_
  walk_at "MINE enter"
  k_steps
  all_goals refine Stop.go ?_
  all_goals (
    rename FlatPairs _ _ _ => hf'
    clear hf'
    rename Obj.IsDictOf _ _ [] => hz'
    clear hz'
    rename Obj.IsDictOf _ _ _ => hd'
    have hd2 : ∃ ta ts ti tq sv, Obj.IsDictOf (SK w) _ [("address", .str ad ta), ("state", .str sv ts), ("free", .bool b), ("in", .int 0 ti), ("out", .int 0 tq)] ∧ sv = (if b = true then Str.ofString "proven" else Str.ofString "unproven") := ⟨_, _, _, _, _, hd', by simp [*]⟩
    clear hd'
    obtain ⟨ta, ts, ti, tq, sv, hd3, hsv⟩ := hd2)
  all_goals (
    k_dflt (refine kob_method (knd := PySem.strKind _ _) PySem.F.slot_dict_update PySem.F.type_dict_update (by k_asm) (by k_mem) (by assumption) ?_)
    refine callWith_dict ?_
    k_steps
    k_dflt (refine dict_upd (knd := PySem.strKind _ _) (by k_asm) (by k_asm) (by k_updF) hd3 (by k_mem) (by assumption) (by assumption) (by k_ne) (by kob_size) ?_)
    intro h' o' F' N' hd'
    have hd4 : ∃ t6 t7, Obj.IsDictOf (SK w) o' [("address", .str ad ta), ("state", .str sv ts), ("free", .bool b), ("in", .int 0 ti), ("out", .int 0 tq), ("asked", .ref _), ("end", .none)] := ⟨0, 0, hd'⟩
    obtain ⟨_, _, hd5⟩ := hd4
    subst hsv
    k_steps
    rename News h₀ L _ _ => N9
    rename ∀ p ∈ own, p.1 < _ => hlow
    rename (_ ∧ _ ∧ AllLt _ own) => hl2
    exact hret _ _ _ _ ⟨_, _, _, _, _, _, _, _, _, rfl, rfl, hd5, .none, off_of_lt' hlow, off_of_lt hl2.2.2, Nat.ne_of_lt hl2.2.1⟩ (by k_asm) (fun p hp => by
      rcases List.mem_cons.mp hp with rfl | hp
      · exact N9 _ (.tail _ (.tail _ (.head _)))
      · rcases List.mem_cons.mp hp with rfl | hp
        · exact N9 _ (.head _)
        · exact N9 _ (.tail _ (.tail _ (.tail _ hp)))))
theorem row_use {w : World} {mean : ExcName → Option Value} {mg mb : Str → Option Value} {dp un : Nat} {gd : Option (List Code)} {cn : Str} {cs : Scope} {a : Addr} {ccd : Value} {cl : List (Str × Addr)} {outer : List Env} {A₀ : Around} {base h₀ : Heap} {L : Addr} {m : Str → Option Value} {sh : Heap} {sg : Array GenState} {sd : Drawn} {st : Nat} {so : OsState} {Q E : Value → Shared → Prop} {own : Led} {ad : Str} {t1 : Tok} {b : Bool}
    
    (B : Below A₀ base outer h₀) (F : Fr h₀ L sh m) (X : (hd.heap_1 w.params).In h₀) (N : News h₀ L sh (own)) (T : Top vw (looseW vw []) mean mg mb h₀) (hk : cs.kind = .function) (hdp : dp + 1 < recursionLimit) (hu : un + 20 < cLine)
    (ret : ∀ ra o aa c v ta ts ti tq h' tk', o.IsDictOf (SK w) [("address", .str ad ta), ("state", .str (if b = true then "proven" else "unproven") ts), ("free", .bool b), ("in", .int 0 ti), ("out", .int 0 tq), ("asked", .ref aa), ("end", v)] → OptIs v none → (∀ q ∈ own, @Ne Nat q.1 ra) → (∀ q ∈ own, @Ne Nat q.1 aa) → @Ne Nat ra aa → Fr h₀ L h' m → News h₀ L h' ((ra, o) :: (aa, listOf ([] : List Value).toArray c) :: own) → Q (.ref ra) ⟨h', sg, sd, tk', so⟩) :
    wpAny (model PySem.Challenge.rw_no0073_01.row.prog w) (ktrTop dp un gd cn cs L a ccd cl outer) (call (.ref 247) [.str ad t1, .bool b]) Q E ⟨sh, sg, sd, st, so⟩ :=
  spec_use law_row_spec B F X N T hk hdp hu (by
    rintro r n h' tk' ⟨ra, o, aa, c, v, ta, ts, ti, tq, rfl, rfl, ho, hv, h1, h2, h3⟩ F' N'
    exact ret ra o aa c v ta ts ti tq h' tk' ho hv h1 h2 h3 F' N')
end
section
noncomputable abbrev worldK (σ : St) (rl al : Addr) (vb : Value) (tr ta tt ts tn : Tok) : List (Str × Value) :=
  [("role", .str σ.role tr), ("may", .bool σ.may), ("rows", .ref rl), ("active", .str σ.active ta), ("asked", .ref al), ("back", vb), ("top", .int σ.top tt), ("skip", .int σ.skip ts), ("now", .int σ.now tn)]
noncomputable abbrev rowK (r : Rw) (aa : Addr) (v : Value) (ta ts ti tq : Tok) : List (Str × Value) :=
  [("address", .str r.addr ta), ("state", .str r.st ts), ("free", .bool r.free), ("in", .int r.inn ti), ("out", .int r.out tq), ("asked", .ref aa), ("end", v)]
noncomputable abbrev rowS (ad st : Str) (fr : Bool) (inn out : Int) (aa : Addr) (v : Value) (ta ts ti tq : Tok) : List (Str × Value) :=
  [("address", .str ad ta), ("state", .str st ts), ("free", .bool fr), ("in", .int inn ti), ("out", .int out tq), ("asked", .ref aa), ("end", v)]
theorem law_moved_spec {w mean mg mb} {wd ra rl al aa : Addr} {T ll : Led} {lrs : List (Rw × Addr)} {o ro : Obj} {σ : St} {vb v : Value} {tr ta tt ts tn ta2 ts2 ti tq : Tok} {c : Nat} {r : Rw} {hp : Rw × Addr}
    (ho : o.IsDictOf (SK w) (worldK σ rl al vb tr ta tt ts tn))
    (hro : ro.IsDictOf (SK w) (rowK r aa v ta2 ts2 ti tq))
    (h3 : (rl, listOf (lrs.map fun p => Value.ref p.2).toArray c) ∈ (wd, o) :: (ra, ro) :: T)
    (hr : Rows (LRow w) lrs ll) (hs : ∀ p ∈ ll, p ∈ (wd, o) :: (ra, ro) :: T) (hsz : lrs.length ≤ 63) (hnd : (lrs.map fun p => p.1.addr).Nodup) (hh : hp ∈ lrs) (hha : hp.1.addr = σ.active)
    (hne : NeA wd ra) (hoff : OwnOff T [wd, ra]) (hb : StrOptIs vb σ.back) :
    Spec w mean mg mb 5 40 259 [.ref wd, .ref ra] ((wd, o) :: (ra, ro) :: T) (fun r9 n => ∃ o' ro' vb' ta' ts2' bk st', r9 = .none ∧ n = (wd, o') :: (ra, ro') :: T ∧
      o'.IsDictOf (SK w) (worldK { σ with active := r.addr } rl al vb' tr ta' tt ts tn) ∧ StrOptIs vb' bk ∧ bk = (if hp.1.st = "proven" then some σ.active else σ.back) ∧
      ro'.IsDictOf (SK w) (rowS r.addr st' r.free r.inn r.out aa v ta2 ts2' ti tq) ∧ st' = (renew r).st) := by
  unfold Spec; k_fill; intro dp un gd cn cs a ccd cl outer A₀ base h₀ L m sh sg sd st so Q E B F X N T9 hk hd hu hret; have kM := kstMark; w_top off; k_with_none; (k_with "MINE enter" => (k_dflt (refine' code_def ?zqk1 ?zqk2 ?zqk3 ?zqk4 ?zqk5 ?zqkA ?zqkF ?zqkK ?zqk6 ?zqk7 ?zqk8 ?zqk9 ?zqkB ?_ ?zqc2 ?zqc3 ?zqc4 ?zqc5; (case zqkA => exact rfl); (case zqkF => exact rfl); (case zqkK => first | exact rfl | assumption); (case zqk1 => k_asm); (case zqk2 => k_asm); (case zqk3 => k_asm); (case zqk4 => k_asm); (case zqk5 => k_asm); (case zqk6 => k_is); (case zqk7 => k_is); (case zqk8 => ktr_room); (case zqk9 => first | exact BindsTo.of_eq (binds := [(_, _)]) rfl | exact BindsTo.of_eq (binds := [(_, _), (_, _)]) rfl | exact BindsTo.of_eq (binds := [(_, _), (_, _), (_, _)]) rfl | exact BindsTo.of_eq (binds := [(_, _), (_, _), (_, _), (_, _)]) rfl | exact BindsTo.of_eq rfl); (case zqc5 => decide); (case zqkB => exact locs rfl); (case zqc2 => exact rfl); (case zqc3 => exact rfl); (case zqc4 => exact rfl); k_whole; intro g' L' h' FG' F' N' B' X' T'; (try dsimp only); (try k_lift B'); (try k_fold)))); (k_with "call ref" => (k_here; first | k_extra "MINE call" | (refine wpAny_call ?_; walk_at "MINE enter"))); (k_with "call ref" => (k_here; k_dflt (refine' call_cls ?zqk1 ?zqk2 ?zqk3 ?zqk4 ?zqk5 ?zqk6 ?_; (case zqk1 => k_asm); (case zqk2 => k_asm); (case zqk3 => k_asm); (case zqk4 => k_is); (case zqk5 => k_is); (case zqk6 => k_is); k_whole; intro x' d' h' F' N' l1 l2; (try k_lt l1); (try k_lt2 l2); (try k_sweep)); walk_at "MINE enter")); (k_with "TPost" => dsimp only [TPost]); (k_with "MINE enterC" => (k_dflt (refine' code_defC ?zqk1 ?zqk2 ?zqk3 ?zqk4 ?zqk5 ?zqkA ?zqkF ?zqkK ?zqk6 ?zqk7 ?zqk8 ?zqk9 ?zqkB ?zqkD ?_ ?zqc2 ?zqc3 ?zqc4; (case zqkA => exact rfl); (case zqkF => exact rfl); (case zqkK => first | exact rfl | assumption); (case zqk1 => k_asm); (case zqk2 => k_asm); (case zqk3 => k_asm); (case zqk4 => k_asm); (case zqk5 => k_asm); (case zqk6 => k_is); (case zqk7 => k_is); (case zqk8 => ktr_room); (case zqk9 => first | exact BindsTo.of_eq (binds := [(_, _)]) rfl | exact BindsTo.of_eq (binds := [(_, _), (_, _)]) rfl | exact BindsTo.of_eq (binds := [(_, _), (_, _), (_, _)]) rfl | exact BindsTo.of_eq (binds := [(_, _), (_, _), (_, _), (_, _)]) rfl | exact BindsTo.of_eq rfl); (case zqkB => exact rfl); (case zqkD => decide +kernel); (case zqc2 => exact rfl); (case zqc3 => exact rfl); (case zqc4 => exact rfl); k_whole; intro g' L' h' tk' cells' FG' F' N' Y' B' X' T' l1; k_cells Y'; (try simp only [List.cons_append, List.nil_append] at N'); (try dsimp only); (try k_lift B'); (try k_fold)))); (k_with "exec Assign cons ListComp" => (k_here; k_dflt (refine LCt.Assign_ListComp_T (F₀ := by k_asm) (by rfl) (by with_unfolding_all rfl) (by with_unfolding_all rfl) (by decide) (by rfl) (by decide) (by rfl) (by rfl) (by rfl) ?_))); (k_with "subscriptTail" => (k_here; (with_reducible show wpAny _ _ (subscriptTail _ _ (Value.ref _) (Value.str _ _)) _ _ _); k_dflt (refine' kda_item (knd := PySem.strKind _ _) ?zqk1 ?zqk2 ?zqk3 (strKind_is _ _ _ _) ?zqk4 ?_; (case zqk1 => k_asm); (case zqk2 => k_mem); (case zqk3 => assumption); (case zqk4 => rfl); k_whole))); (k_with "setItem ref str" => (k_here; k_dflt (refine' kda_set (knd := PySem.strKind _ _) ?zqF ?zqN ?zqU ?zqd (strKind_is _ _ _ _) ?zqz ?_; (case zqF => k_asm); (case zqN => k_asm); (case zqU => k_updF); (case zqd => assumption); (case zqz => kob_size)); intro h' o' F' N' hd'; (try kob_lit); (try dsimp only at N'); (try dsimp only); (try k_gentoks))); (k_with "compareOp NotEq ref ref" => (k_here; k_dflt (refine' ne_nil ?zqk1 ?zqk2 ?zqk3 ?zqk4 ?_; (case zqk1 => k_asm); (case zqk2 => k_mem); (case zqk3 => k_mem); (case zqk4 => ktr_units)); (try dsimp only [List.isEmpty, Bool.not_true, Bool.not_false, List.map]))); (k_with "MINE ne" => (refine neN ?_; (try dsimp only); first | exact NeA.ne (by assumption) | exact (NeA.ne (by assumption)).symm | omega)); (k_with "compareOp In bytes ref" => (k_here; k_dflt (refine' in_bytes ?zqk1 ?zqk2 ?zqk3 ?_; (case zqk1 => k_asm); (case zqk2 => k_mem); (case zqk3 => assumption)))); (k_with "exec Raise some none" => (k_here; k_dflt (refine' Raise_38 ?zqk1 ?zqk2 ?_; (case zqk1 => k_asm); (case zqk2 => first | rfl | assumption)))); (k_with "call ref" => (k_here; (with_reducible show wpAny _ _ (call (Value.ref 38) _) _ _ _); k_dflt (refine' call_refuse ?zqk1 ?zqk2 ?zqk3 ?_; (case zqk1 => k_asm); (case zqk2 => k_asm); (case zqk3 => k_asm); k_whole); intro e38 t38 h38 F38 N38 hap38 hne38; refine wpAny_call ?_; walk_at "MINE enter")); (k_with "getMethod type:Exception" => (k_here; refine' method_type ?zqF ?zqX ?zqm (by decide +kernel) ?zqe ?zqh ?_; (case zqF => k_asm); (case zqX => k_asm); (case zqm => kernel_rfl); (case zqe => k_dflt k_is); (case zqh => k_handed))); (k_with "call builtin:Exception.__init__" => (k_here; k_dflt (refine' init_w ?zqk1 ?zqk2 ?zqk3 ?zqk4 ?_; (case zqk1 => k_asm); (case zqk2 => k_asm); (case zqk3 => k_asm); (case zqk4 => exact per_e (by assumption) (by assumption)); k_whole); intro h39 t39 F39 N39 hap39 hne39)); (k_with "setAttr ref" => (k_here; (with_reducible show wpAny _ _ (setAttr (Value.ref _) (PySem.Str.ofString "text") _) _ _ _); k_dflt (refine' text_w ?zqk1 ?zqk2 ?zqk3 ?zqk4 ?_; (case zqk1 => k_asm); (case zqk2 => k_asm); (case zqk3 => k_asm); (case zqk4 => exact per_t (by assumption) (by assumption) (by assumption)); k_whole); intro h40 tk40 o40 F40 N40 hc40 hd40)); (k_with "Refusing" => ((rename News _ _ _ (_ :: (_, tupO _) :: _ :: _) => N41); (rename (_ = Data.fields _) => hd41); refine ⟨_, _, _, rfl, Fr.keep (by k_asm), (N41 _ (.head _)).1, by assumption, hd41, ?_⟩)); (k_with "leaving ref" => (k_here; (rename News _ _ _ (_ :: (_, tupO _) :: _ :: _) => N41); (rename (_ = Data.fields _) => hd41); k_dflt (refine' leave_x ?zqk1 ?zqk2 (vs := [_]) N41 ?zqk4 ?zqk5 hd41 ?_; (case zqk1 => assumption); (case zqk2 => k_asm); (case zqk4 => exact per_b (by assumption) (by assumption) (by assumption)); (case zqk5 => assumption); k_whole); intro h42 R42 U42)); (k_with "MINE enterS" => (k_dflt (refine' code_defT ?zqk1 ?zqk2 ?zqk3 ?zqk4 ?zqk5 ?zqkXB ?zqkTB ?zqkD ?zqkA ?zqkF ?zqkK ?zqk6 ?zqk7 ?zqk8 ?zqk9 ?zqkB ?_ ?zqc2 ?zqc3 ?zqc4 ?zqc5; (case zqkA => exact rfl); (case zqkF => exact rfl); (case zqkK => first | exact rfl | assumption); (case zqk1 => k_asm); (case zqk2 => k_asm); (case zqk3 => k_asm); (case zqk4 => k_asm); (case zqk5 => k_asm); (case zqkXB => assumption); (case zqkTB => assumption); (case zqkD => assumption); (case zqk6 => k_is); (case zqk7 => k_is); (case zqk8 => ktr_room); (case zqk9 => first | exact BindsTo.of_eq (binds := [(_, _)]) rfl | exact BindsTo.of_eq (binds := [(_, _), (_, _)]) rfl | exact BindsTo.of_eq (binds := [(_, _), (_, _), (_, _)]) rfl | exact BindsTo.of_eq (binds := [(_, _), (_, _), (_, _), (_, _)]) rfl | exact BindsTo.of_eq rfl); (case zqc5 => decide); (case zqkB => exact locs rfl); (case zqc2 => exact rfl); (case zqc3 => exact rfl); (case zqc4 => exact rfl); k_whole; intro g' L' h' FG' F' N' B' X' T' D'; (try dsimp only); (try k_lift B'); (try k_fold)))); (k_with "exec For Name Subscript cons nil" => (k_here; (rename Fr _ _ _ _ => lF'); (with_unfolding_all refine' For_invVF lF' ?zqk1 ?zqk2 ?_; (case zqk1 => exact rfl); (case zqk2 => exact rfl); k_whole))); (k_with "compareOp In none ref" => (k_here; k_dflt (refine' none_in_pair ?zqk1 ?zqk2 ?_; (case zqk1 => k_asm); (case zqk2 => k_mem)))); (k_with "compareOp In str ref" => (k_here; k_dflt (refine' str_in_pair ?zqk1 ?zqk2 ?_; (case zqk1 => k_asm); (case zqk2 => k_mem)))); (k_with "compareOp Eq ref ref" => (k_here; k_dflt (refine' eq_nil ?zqk1 ?zqk2 ?zqk3 ?zqk4 ?_; (case zqk1 => k_asm); (case zqk2 => k_mem); (case zqk3 => k_mem); (case zqk4 => ktr_units)); (try dsimp only [List.isEmpty, List.map]))); (k_with "call builtin:len" => (k_here; (with_reducible show wpAny _ _ (call (Value.builtin "len") [Value.ref _]) _ _ _); k_dflt (refine' len_led ?zqk1 ?zqk2 ?zqk3 ?_; (case zqk1 => k_asm); (case zqk2 => k_mem); (case zqk3 => exact Nat.le_trans (by assumption) (by decide))))); (k_with "eval ListComp" => (k_here; k_dflt (refine LCt.ListComp_T (F₀ := by k_asm) (by with_unfolding_all rfl) (by decide) (by rfl) (by decide) (by rfl) ?_))); (k_with "subscriptTail" => (k_here; (with_reducible show wpAny _ _ (subscriptTail _ _ (Value.ref _) (Value.int _ _)) _ _ _); k_dflt (refine' item_led ?zqk1 ?zqk2 ?zqk3 ?zqk4 ?zqk5 ?_; (case zqk1 => k_asm); (case zqk2 => k_mem); (case zqk5 => assumption); (case zqk3 => assumption); (case zqk4 => omega)))); (k_with "MINE in" => (refine' Frag.In.keeps ?zqk1 (Fr.keep ?zqk2); (case zqk2 => with_reducible assumption); (case zqk1 => with_reducible assumption))); (k_with "storeName" => (k_here; (try dsimp only); k_dflt (refine' storeX_L ?zqF ?zqN ?_ ?zqa ?zqb; (case zqF => k_asm); (case zqN => k_asm); (case zqa => rfl); (case zqb => rfl); k_whole); intro h' F' N'; (try k_sweep))); (k_with "setAttr ref" => (dsimp only; walk1)); (k_with "call ref" => (dsimp only; walk1)); (k_with "setItem ref str" => (dsimp only; walk1)); have hend := fun r n h t a b c => hret r n h t c a b; refine wpAny_call ?_
  walk_at "MINE enter"
  k_with "MINE call" => ((with_reducible show wpAny _ _ (call (Value.ref 252) _) _ _ _); (try (refine (?_ : wpAny _ _ _ _ _ _); k_fold)); k_dflt (refine' law_known (σ := σ) ?zqh1 ho h3 hr hs hsz hnd hh hha ?zqk1 ?zqk2 ?zqk3 ?zqk4 ?zqk5 ?zqk6 ?zqk7 ?zqk8 ?_; (case zqk1 => k_asm); (case zqk2 => k_asm); (case zqk3 => k_asm); (case zqk4 => k_asm); (case zqk5 => k_asm); (case zqk6 => first | exact rfl | assumption); (case zqk7 => ktr_room); (case zqk8 => ktr_units); (case zqh1 => k_mem); refine stop_of ?_))
  k_steps
  refine Stop.go ?_
  intro h9 tk9 F9 N9
  obtain ⟨hr1, hr2⟩ := hp
  dsimp only at hha ⊢
  obtain ⟨lr, hpr, hlr⟩ := hr.mem hh
  cases hpr with
  | mk ho' hus hv =>
    have m1 := hs _ (hlr _ (.head _))
    clear hlr
    dsimp only at m1 ho'
    k_steps
    all_goals (
      rename (hr1.st == _) = _ => hq1
      rename (r.st == _) = _ => hq2
      exact hend _ _ _ _ (by k_asm) (by k_asm) ⟨_, _, _, _, _, _, _, rfl, rfl, by assumption, by first | exact hb | exact .some _ _, by simp at hq1; simp [hq1, hha], by first | exact hro | assumption, by simp at hq2; simp [hq2]⟩)
end
section
theorem renew_pos {r : Rw} (h : (r.st == Str.ofString "failed") = true) : (renew r).st = Str.ofString "unproven" := if_pos (eq_of_beq h)
theorem renew_neg {r : Rw} (h : (r.st == Str.ofString "failed") = false) : (renew r).st = r.st := if_neg fun z => by rw [z] at h; simp at h
theorem last_pos {x : Str} {v v' : Value} (h : (x == Str.ofString "proven") = true) : v = if true = true ∧ x = Str.ofString "proven" then v else v' := (if_pos ⟨rfl, eq_of_beq h⟩).symm
theorem last_neg {x : Str} {v v' : Value} (h : (x == Str.ofString "proven") = false) : v' = if true = true ∧ x = Str.ofString "proven" then v else v' := (if_neg fun z => by rw [z.2] at h; simp at h).symm
theorem last_no {x : Str} {v v' : Value} : v' = if false = true ∧ x = Str.ofString "proven" then v else v' := (if_neg fun z => nomatch z.1).symm
theorem on_packet_fin {w : World} {ps pd kn an act pa pdr ca : Addr} {T : Led} {σ : St} {last v : Value} {k0 k1 k2 k3 k4 k5 k6 tr j0 j1 j2 j3 j4 j5 j6 ta ti tq : Tok} {r ra : Rw} {number : Int} {pb : Bool}
    {st' : Str} {ts' th' : Tok} {act' : Addr} {last' : Value} {hi' : Int} {mv : Bool}
    (e1 : mv = (!(σ.role == "client") && !pb && decide (number > σ.top) && !(r.addr == σ.active))) (e2 : hi' = max σ.top number) (e3 : st' = (if mv = true then (renew r).st else r.st)) (e4 : act' = (if mv = true then pa else act)) (e5 : last' = (if mv = true ∧ ra.st = "proven" then .ref act else last)) :
    ∃ st₂ ts₂ th₂ act₂ last₂ hi₂ mv₂, Value.bool mv = .bool mv₂ ∧ (ps, instObj 224 pd) :: (pd, pathsO w k0 k1 k2 k3 k4 k5 k6 (.str σ.role tr) (.bool σ.may) (.ref kn) (.ref act') last' (.int hi' th') (.ref an)) ::
          (pa, instObj 121 pdr) :: (pdr, pathO w j0 j1 j2 j3 j4 j5 j6 (.str r.addr ta) (.str st' ts') (.bool r.free) (.int r.inn ti) (.int r.out tq) (.ref ca) v) :: T = (ps, instObj 224 pd) :: (pd, pathsO w k0 k1 k2 k3 k4 k5 k6 (.str σ.role tr) (.bool σ.may) (.ref kn) (.ref act₂) last₂ (.int hi₂ th₂) (.ref an)) ::
          (pa, instObj 121 pdr) :: (pdr, pathO w j0 j1 j2 j3 j4 j5 j6 (.str r.addr ta) (.str st₂ ts₂) (.bool r.free) (.int r.inn ti) (.int r.out tq) (.ref ca) v) :: T ∧
        mv₂ = (!(σ.role == "client") && !pb && decide (number > σ.top) && !(r.addr == σ.active)) ∧ hi₂ = max σ.top number ∧
        st₂ = (if mv₂ = true then (renew r).st else r.st) ∧ act₂ = (if mv₂ = true then pa else act) ∧ last₂ = (if mv₂ = true ∧ ra.st = "proven" then .ref act else last) :=
  ⟨_, _, _, _, _, _, _, rfl, rfl, e1, e2, e3, e4, e5⟩
theorem on_packet_spec {w mean mg mb} {ps pd kn an act pa pdr ca : Addr} {T lp : Led} {prs : List (Rw × Addr)} {σ : St} {last v : Value} {k0 k1 k2 k3 k4 k5 k6 tr th j0 j1 j2 j3 j4 j5 j6 ta ts ti tq : Tok} {c : Nat} {r ra : Rw} {number : Int} {t1 t2 : Tok} {pb : Bool} {R : Led}
    (hR : R = (pa, instObj 121 pdr) :: (pdr, pathO w j0 j1 j2 j3 j4 j5 j6 (.str r.addr ta) (.str r.st ts) (.bool r.free) (.int r.inn ti) (.int r.out tq) (.ref ca) v) :: T)
    (h3 : (kn, listOf (prs.map fun p => Value.ref p.2).toArray c) ∈ R)
    (hr : Rows (PRow w) prs lp) (hs : ∀ p ∈ lp, p ∈ R) (hnd : (prs.map fun p => p.1.addr).Nodup) (hin : (r, pa) ∈ prs) (hact : (ra, act) ∈ prs) (hra : ra.addr = σ.active)
    (hne1 : NeA ps pd) (hne2 : NeA ps pa) (hne3 : NeA ps pdr) (hne4 : NeA pd pa) (hne5 : NeA pd pdr) (hne6 : NeA pa pdr) (hoff : OwnOff T [ps, pd, pa, pdr]) :
    Spec w mean mg mb 5 40 167 [.ref ps, .str r.addr t1, .int number t2, .bool pb] ((ps, instObj 224 pd) :: (pd, pathsO w k0 k1 k2 k3 k4 k5 k6 (.str σ.role tr) (.bool σ.may) (.ref kn) (.ref act) last (.int σ.top th) (.ref an)) :: R)
      (fun r9 n => ∃ st' ts' th' act' last' hi' mv, r9 = .bool mv ∧ n = (ps, instObj 224 pd) :: (pd, pathsO w k0 k1 k2 k3 k4 k5 k6 (.str σ.role tr) (.bool σ.may) (.ref kn) (.ref act') last' (.int hi' th') (.ref an)) ::
          (pa, instObj 121 pdr) :: (pdr, pathO w j0 j1 j2 j3 j4 j5 j6 (.str r.addr ta) (.str st' ts') (.bool r.free) (.int r.inn ti) (.int r.out tq) (.ref ca) v) :: T ∧
        mv = (!(σ.role == "client") && !pb && decide (number > σ.top) && !(r.addr == σ.active)) ∧ hi' = max σ.top number ∧
        st' = (if mv = true then (renew r).st else r.st) ∧ act' = (if mv = true then pa else act) ∧ last' = (if mv = true ∧ ra.st = "proven" then .ref act else last)) := by
  subst hR
  unfold Spec; k_fill; intro dp un gd cn cs a ccd cl outer A₀ base h₀ L m sh sg sd st so Q E B F X N T9 hk hd hu hret; have kM := kstMark; w_top off; k_with_none; (k_with "MINE enter" => (k_dflt (refine' code_def ?zqk1 ?zqk2 ?zqk3 ?zqk4 ?zqk5 ?zqkA ?zqkF ?zqkK ?zqk6 ?zqk7 ?zqk8 ?zqk9 ?zqkB ?_ ?zqc2 ?zqc3 ?zqc4 ?zqc5; (case zqkA => exact rfl); (case zqkF => exact rfl); (case zqkK => first | exact rfl | assumption); (case zqk1 => k_asm); (case zqk2 => k_asm); (case zqk3 => k_asm); (case zqk4 => k_asm); (case zqk5 => k_asm); (case zqk6 => k_is); (case zqk7 => k_is); (case zqk8 => ktr_room); (case zqk9 => first | exact BindsTo.of_eq (binds := [(_, _)]) rfl | exact BindsTo.of_eq (binds := [(_, _), (_, _)]) rfl | exact BindsTo.of_eq (binds := [(_, _), (_, _), (_, _)]) rfl | exact BindsTo.of_eq (binds := [(_, _), (_, _), (_, _), (_, _)]) rfl | exact BindsTo.of_eq rfl); (case zqc5 => decide); (case zqkB => exact locs rfl); (case zqc2 => exact rfl); (case zqc3 => exact rfl); (case zqc4 => exact rfl); k_whole; intro g' L' h' FG' F' N' B' X' T'; (try dsimp only); (try k_lift B'); (try k_fold)))); (k_with "call ref" => (k_here; first | k_extra "MINE call" | (refine wpAny_call ?_; walk_at "MINE enter"))); (k_with "call ref" => (k_here; k_dflt (refine' call_cls ?zqk1 ?zqk2 ?zqk3 ?zqk4 ?zqk5 ?zqk6 ?_; (case zqk1 => k_asm); (case zqk2 => k_asm); (case zqk3 => k_asm); (case zqk4 => k_is); (case zqk5 => k_is); (case zqk6 => k_is); k_whole; intro x' d' h' F' N' l1 l2; (try k_lt l1); (try k_lt2 l2); (try k_sweep)); walk_at "MINE enter")); (k_with "TPost" => dsimp only [TPost]); (k_with "MINE enterC" => (k_dflt (refine' code_defC ?zqk1 ?zqk2 ?zqk3 ?zqk4 ?zqk5 ?zqkA ?zqkF ?zqkK ?zqk6 ?zqk7 ?zqk8 ?zqk9 ?zqkB ?zqkD ?_ ?zqc2 ?zqc3 ?zqc4; (case zqkA => exact rfl); (case zqkF => exact rfl); (case zqkK => first | exact rfl | assumption); (case zqk1 => k_asm); (case zqk2 => k_asm); (case zqk3 => k_asm); (case zqk4 => k_asm); (case zqk5 => k_asm); (case zqk6 => k_is); (case zqk7 => k_is); (case zqk8 => ktr_room); (case zqk9 => first | exact BindsTo.of_eq (binds := [(_, _)]) rfl | exact BindsTo.of_eq (binds := [(_, _), (_, _)]) rfl | exact BindsTo.of_eq (binds := [(_, _), (_, _), (_, _)]) rfl | exact BindsTo.of_eq (binds := [(_, _), (_, _), (_, _), (_, _)]) rfl | exact BindsTo.of_eq rfl); (case zqkB => exact rfl); (case zqkD => decide +kernel); (case zqc2 => exact rfl); (case zqc3 => exact rfl); (case zqc4 => exact rfl); k_whole; intro g' L' h' tk' cells' FG' F' N' Y' B' X' T' l1; k_cells Y'; (try simp only [List.cons_append, List.nil_append] at N'); (try dsimp only); (try k_lift B'); (try k_fold)))); (k_with "exec Assign cons ListComp" => (k_here; k_dflt (refine LCt.Assign_ListComp_T (F₀ := by k_asm) (by rfl) (by with_unfolding_all rfl) (by with_unfolding_all rfl) (by decide) (by rfl) (by decide) (by rfl) (by rfl) (by rfl) ?_))); (k_with "subscriptTail" => (k_here; (with_reducible show wpAny _ _ (subscriptTail _ _ (Value.ref _) (Value.str _ _)) _ _ _); k_dflt (refine' kda_item (knd := PySem.strKind _ _) ?zqk1 ?zqk2 ?zqk3 (strKind_is _ _ _ _) ?zqk4 ?_; (case zqk1 => k_asm); (case zqk2 => k_mem); (case zqk3 => assumption); (case zqk4 => rfl); k_whole))); (k_with "setItem ref str" => (k_here; k_dflt (refine' kda_set (knd := PySem.strKind _ _) ?zqF ?zqN ?zqU ?zqd (strKind_is _ _ _ _) ?zqz ?_; (case zqF => k_asm); (case zqN => k_asm); (case zqU => k_updF); (case zqd => assumption); (case zqz => kob_size)); intro h' o' F' N' hd'; (try kob_lit); (try dsimp only at N'); (try dsimp only); (try k_gentoks))); (k_with "compareOp NotEq ref ref" => (k_here; k_dflt (refine' ne_nil ?zqk1 ?zqk2 ?zqk3 ?zqk4 ?_; (case zqk1 => k_asm); (case zqk2 => k_mem); (case zqk3 => k_mem); (case zqk4 => ktr_units)); (try dsimp only [List.isEmpty, Bool.not_true, Bool.not_false, List.map]))); (k_with "MINE ne" => (refine neN ?_; (try dsimp only); first | exact NeA.ne (by assumption) | exact (NeA.ne (by assumption)).symm | omega)); (k_with "compareOp In bytes ref" => (k_here; k_dflt (refine' in_bytes ?zqk1 ?zqk2 ?zqk3 ?_; (case zqk1 => k_asm); (case zqk2 => k_mem); (case zqk3 => assumption)))); (k_with "exec Raise some none" => (k_here; k_dflt (refine' Raise_38 ?zqk1 ?zqk2 ?_; (case zqk1 => k_asm); (case zqk2 => first | rfl | assumption)))); (k_with "call ref" => (k_here; (with_reducible show wpAny _ _ (call (Value.ref 38) _) _ _ _); k_dflt (refine' call_refuse ?zqk1 ?zqk2 ?zqk3 ?_; (case zqk1 => k_asm); (case zqk2 => k_asm); (case zqk3 => k_asm); k_whole); intro e38 t38 h38 F38 N38 hap38 hne38; refine wpAny_call ?_; walk_at "MINE enter")); (k_with "getMethod type:Exception" => (k_here; refine' method_type ?zqF ?zqX ?zqm (by decide +kernel) ?zqe ?zqh ?_; (case zqF => k_asm); (case zqX => k_asm); (case zqm => kernel_rfl); (case zqe => k_dflt k_is); (case zqh => k_handed))); (k_with "call builtin:Exception.__init__" => (k_here; k_dflt (refine' init_w ?zqk1 ?zqk2 ?zqk3 ?zqk4 ?_; (case zqk1 => k_asm); (case zqk2 => k_asm); (case zqk3 => k_asm); (case zqk4 => exact per_e (by assumption) (by assumption)); k_whole); intro h39 t39 F39 N39 hap39 hne39)); (k_with "setAttr ref" => (k_here; (with_reducible show wpAny _ _ (setAttr (Value.ref _) (PySem.Str.ofString "text") _) _ _ _); k_dflt (refine' text_w ?zqk1 ?zqk2 ?zqk3 ?zqk4 ?_; (case zqk1 => k_asm); (case zqk2 => k_asm); (case zqk3 => k_asm); (case zqk4 => exact per_t (by assumption) (by assumption) (by assumption)); k_whole); intro h40 tk40 o40 F40 N40 hc40 hd40)); (k_with "Refusing" => ((rename News _ _ _ (_ :: (_, tupO _) :: _ :: _) => N41); (rename (_ = Data.fields _) => hd41); refine ⟨_, _, _, rfl, Fr.keep (by k_asm), (N41 _ (.head _)).1, by assumption, hd41, ?_⟩)); (k_with "leaving ref" => (k_here; (rename News _ _ _ (_ :: (_, tupO _) :: _ :: _) => N41); (rename (_ = Data.fields _) => hd41); k_dflt (refine' leave_x ?zqk1 ?zqk2 (vs := [_]) N41 ?zqk4 ?zqk5 hd41 ?_; (case zqk1 => assumption); (case zqk2 => k_asm); (case zqk4 => exact per_b (by assumption) (by assumption) (by assumption)); (case zqk5 => assumption); k_whole); intro h42 R42 U42)); (k_with "MINE enterS" => (k_dflt (refine' code_defT ?zqk1 ?zqk2 ?zqk3 ?zqk4 ?zqk5 ?zqkXB ?zqkTB ?zqkD ?zqkA ?zqkF ?zqkK ?zqk6 ?zqk7 ?zqk8 ?zqk9 ?zqkB ?_ ?zqc2 ?zqc3 ?zqc4 ?zqc5; (case zqkA => exact rfl); (case zqkF => exact rfl); (case zqkK => first | exact rfl | assumption); (case zqk1 => k_asm); (case zqk2 => k_asm); (case zqk3 => k_asm); (case zqk4 => k_asm); (case zqk5 => k_asm); (case zqkXB => assumption); (case zqkTB => assumption); (case zqkD => assumption); (case zqk6 => k_is); (case zqk7 => k_is); (case zqk8 => ktr_room); (case zqk9 => first | exact BindsTo.of_eq (binds := [(_, _)]) rfl | exact BindsTo.of_eq (binds := [(_, _), (_, _)]) rfl | exact BindsTo.of_eq (binds := [(_, _), (_, _), (_, _)]) rfl | exact BindsTo.of_eq (binds := [(_, _), (_, _), (_, _), (_, _)]) rfl | exact BindsTo.of_eq rfl); (case zqc5 => decide); (case zqkB => exact locs rfl); (case zqc2 => exact rfl); (case zqc3 => exact rfl); (case zqc4 => exact rfl); k_whole; intro g' L' h' FG' F' N' B' X' T' D'; (try dsimp only); (try k_lift B'); (try k_fold)))); (k_with "exec For Name Subscript cons nil" => (k_here; (rename Fr _ _ _ _ => lF'); (with_unfolding_all refine' For_invVF lF' ?zqk1 ?zqk2 ?_; (case zqk1 => exact rfl); (case zqk2 => exact rfl); k_whole))); (k_with "compareOp In none ref" => (k_here; k_dflt (refine' none_in_pair ?zqk1 ?zqk2 ?_; (case zqk1 => k_asm); (case zqk2 => k_mem)))); (k_with "compareOp In str ref" => (k_here; k_dflt (refine' str_in_pair ?zqk1 ?zqk2 ?_; (case zqk1 => k_asm); (case zqk2 => k_mem)))); (k_with "compareOp Eq ref ref" => (k_here; k_dflt (refine' eq_nil ?zqk1 ?zqk2 ?zqk3 ?zqk4 ?_; (case zqk1 => k_asm); (case zqk2 => k_mem); (case zqk3 => k_mem); (case zqk4 => ktr_units)); (try dsimp only [List.isEmpty, List.map]))); (k_with "call builtin:len" => (k_here; (with_reducible show wpAny _ _ (call (Value.builtin "len") [Value.ref _]) _ _ _); k_dflt (refine' len_led ?zqk1 ?zqk2 ?zqk3 ?_; (case zqk1 => k_asm); (case zqk2 => k_mem); (case zqk3 => exact Nat.le_trans (by assumption) (by decide))))); (k_with "eval ListComp" => (k_here; k_dflt (refine LCt.ListComp_T (F₀ := by k_asm) (by with_unfolding_all rfl) (by decide) (by rfl) (by decide) (by rfl) ?_))); (k_with "subscriptTail" => (k_here; (with_reducible show wpAny _ _ (subscriptTail _ _ (Value.ref _) (Value.int _ _)) _ _ _); k_dflt (refine' item_led ?zqk1 ?zqk2 ?zqk3 ?zqk4 ?zqk5 ?_; (case zqk1 => k_asm); (case zqk2 => k_mem); (case zqk5 => assumption); (case zqk3 => assumption); (case zqk4 => omega)))); (k_with "MINE in" => (refine' Frag.In.keeps ?zqk1 (Fr.keep ?zqk2); (case zqk2 => with_reducible assumption); (case zqk1 => with_reducible assumption))); (k_with "storeName" => (k_here; (try dsimp only); k_dflt (refine' storeX_L ?zqF ?zqN ?_ ?zqa ?zqb; (case zqF => k_asm); (case zqN => k_asm); (case zqa => rfl); (case zqb => rfl); k_whole); intro h' F' N'; (try k_sweep))); (k_with "setAttr ref" => (dsimp only; walk1)); (k_with "call ref" => (dsimp only; walk1)); (k_with "setItem ref str" => (dsimp only; walk1)); have hend := fun r n h t a b c => hret r n h t c a b; refine wpAny_call ?_
  walk_at "MINE enter"
  obtain ⟨lr, hpr, hlr⟩ := hr.mem hact
  cases hpr with
  | mk husA hvA =>
  have mA1 := hs _ (hlr _ (.head _))
  have mA2 := hs _ (hlr _ (.tail _ (.head _)))
  clear hlr
  dsimp only at mA1 mA2
  k_with "MINE call" => ((with_reducible show wpAny _ _ (call (Value.ref 146) _) _ _ _); (try (refine (?_ : wpAny _ _ _ _ _ _); k_fold)); k_dflt (refine' path_known ?zqh1 ?zqh2 (.tail _ (.tail _ h3)) hr (fun p hp => .tail _ (.tail _ (hs p hp))) hnd hin ?zqk1 ?zqk2 ?zqk3 ?zqk4 ?zqk5 ?zqk6 ?zqk7 ?zqk8 ?_; (case zqk1 => k_asm); (case zqk2 => k_asm); (case zqk3 => k_asm); (case zqk4 => k_asm); (case zqk5 => k_asm); (case zqk6 => first | exact rfl | assumption); (case zqk7 => ktr_room); (case zqk8 => ktr_units); (case zqh1 => k_mem); (case zqh2 => k_mem); refine stop_of ?_))
  k_steps
  refine Stop.go ?_
  intro h9 tk9 F9 N9
  k_steps
  all_goals (
    (try rename (σ.role == _) = _ => q1)
    (try rename pb = _ => q2)
    (try rename σ.top < number => q3)
    (try rename ¬ σ.top < number => q3)
    (try rename (r.addr == ra.addr) = _ => q4)
    (try rename (ra.st == _) = _ => q5)
    (try rename (r.st == _) = _ => q6)
    refine hend _ _ _ _ (by k_asm) (by k_asm) (on_packet_fin ?_ ?_ ?_ ?_ ?_)
    · first | (rw [q1]; rfl) | (rw [q1, q2]; rfl) | (rw [q1, q2, decide_eq_true q3, ← hra, q4]; rfl) | (rw [q1, q2, decide_eq_false q3]; rfl)
    · first | rfl | omega
    · first | rfl | exact (renew_pos q6).symm | exact (renew_neg q6).symm
    · rfl
    · first | exact last_no | exact last_pos q5 | exact last_neg q5)
end
section
/-- a row whose time is come -/
noncomputable def failR (now : Int) (r : Rw) : Rw := match r.fin with
  | some d => if d ≤ now then { r with st := "failed", free := false, asked := [], fin := none } else r
  | none => r
noncomputable abbrev failP (now : Int) (p : Rw × Addr) : Rw × Addr := (failR now p.1, p.2)
theorem failR_none {now : Int} {r : Rw} (h : r.fin = none) : failR now r = r := by unfold failR; rw [h]
theorem failR_due {now d : Int} {r : Rw} (h : r.fin = some d) (hd : d ≤ now) : failR now r = { r with st := "failed", free := false, asked := [], fin := none } := by unfold failR; rw [h]; exact if_pos hd
theorem failR_not {now d : Int} {r : Rw} (h : r.fin = some d) (hd : ¬ d ≤ now) : failR now r = r := by unfold failR; rw [h]; exact if_neg hd
theorem failR_addr {now : Int} {r : Rw} : (failR now r).addr = r.addr := by
  unfold failR; split
  · split <;> rfl
  · rfl
theorem split_at {α : Type} {l : List α} {i : Nat} {x : α} (h : l[i]? = some x) : l.drop i = x :: l.drop (i + 1) ∧ l.take (i + 1) = l.take i ++ [x] := by
  obtain ⟨hlt, he⟩ := List.getElem?_eq_some_iff.mp h
  exact ⟨by rw [List.drop_eq_getElem_cons hlt, he], by rw [List.take_add_one, h]; rfl⟩
theorem on_time_spec {w mean mg mb} {ps pd kn an act : Addr} {lp own : Led} {prs : List (Rw × Addr)} {σ : St} {last : Value} {k0 k1 k2 k3 k4 k5 k6 tr th : Tok} {c : Nat} {ra : Rw} {now : Int} {t1 : Tok}
    (hr : Rows (PRow w) prs lp) (hact : (ra, act) ∈ prs) (hra : ra.addr = σ.active) (hback : BackIs prs last σ.back)
    (hsep : Sep ((ps, instObj 224 pd) :: (pd, pathsO w k0 k1 k2 k3 k4 k5 k6 (.str σ.role tr) (.bool σ.may) (.ref kn) (.ref act) last (.int σ.top th) (.ref an)) :: (kn, listOf (prs.map fun p => Value.ref p.2).toArray c) :: (lp ++ own))) :
    Spec w mean mg mb 5 40 221 [.ref ps, .int now t1] ((ps, instObj 224 pd) :: (pd, pathsO w k0 k1 k2 k3 k4 k5 k6 (.str σ.role tr) (.bool σ.may) (.ref kn) (.ref act) last (.int σ.top th) (.ref an)) :: (kn, listOf (prs.map fun p => Value.ref p.2).toArray c) :: (lp ++ own))
      (fun r9 n => ∃ res tk act' lp', r9 = .str res tk ∧ n = (ps, instObj 224 pd) :: (pd, pathsO w k0 k1 k2 k3 k4 k5 k6 (.str σ.role tr) (.bool σ.may) (.ref kn) (.ref act') last (.int σ.top th) (.ref an)) :: (kn, listOf (prs.map fun p => Value.ref p.2).toArray c) :: (lp' ++ own) ∧
        Rows (PRow w) (prs.map (failP now)) lp' ∧ Sep n ∧
        (((failR now ra).st ≠ "failed" ∧ res = "same" ∧ act' = act) ∨ ((failR now ra).st = "failed" ∧ (σ.back = none ∨ σ.back = some σ.active) ∧ res = "lost" ∧ act' = act) ∨
          ((failR now ra).st = "failed" ∧ (∃ b, σ.back = some b ∧ b ≠ σ.active) ∧ res = "back" ∧ last = .ref act'))) := by
  unfold Spec; k_fill; intro dp un gd cn cs a ccd cl outer A₀ base h₀ L m sh sg sd st so Q E B F X N T9 hk hd hu hret; have kM := kstMark; w_top off; k_with_none; (k_with "MINE enter" => (k_dflt (refine' code_def ?zqk1 ?zqk2 ?zqk3 ?zqk4 ?zqk5 ?zqkA ?zqkF ?zqkK ?zqk6 ?zqk7 ?zqk8 ?zqk9 ?zqkB ?_ ?zqc2 ?zqc3 ?zqc4 ?zqc5; (case zqkA => exact rfl); (case zqkF => exact rfl); (case zqkK => first | exact rfl | assumption); (case zqk1 => k_asm); (case zqk2 => k_asm); (case zqk3 => k_asm); (case zqk4 => k_asm); (case zqk5 => k_asm); (case zqk6 => k_is); (case zqk7 => k_is); (case zqk8 => ktr_room); (case zqk9 => first | exact BindsTo.of_eq (binds := [(_, _)]) rfl | exact BindsTo.of_eq (binds := [(_, _), (_, _)]) rfl | exact BindsTo.of_eq (binds := [(_, _), (_, _), (_, _)]) rfl | exact BindsTo.of_eq (binds := [(_, _), (_, _), (_, _), (_, _)]) rfl | exact BindsTo.of_eq rfl); (case zqc5 => decide); (case zqkB => exact locs rfl); (case zqc2 => exact rfl); (case zqc3 => exact rfl); (case zqc4 => exact rfl); k_whole; intro g' L' h' FG' F' N' B' X' T'; (try dsimp only); (try k_lift B'); (try k_fold)))); (k_with "call ref" => (k_here; first | k_extra "MINE call" | (refine wpAny_call ?_; walk_at "MINE enter"))); (k_with "call ref" => (k_here; k_dflt (refine' call_cls ?zqk1 ?zqk2 ?zqk3 ?zqk4 ?zqk5 ?zqk6 ?_; (case zqk1 => k_asm); (case zqk2 => k_asm); (case zqk3 => k_asm); (case zqk4 => k_is); (case zqk5 => k_is); (case zqk6 => k_is); k_whole; intro x' d' h' F' N' l1 l2; (try k_lt l1); (try k_lt2 l2); (try k_sweep)); walk_at "MINE enter")); (k_with "TPost" => dsimp only [TPost]); (k_with "MINE enterC" => (k_dflt (refine' code_defC ?zqk1 ?zqk2 ?zqk3 ?zqk4 ?zqk5 ?zqkA ?zqkF ?zqkK ?zqk6 ?zqk7 ?zqk8 ?zqk9 ?zqkB ?zqkD ?_ ?zqc2 ?zqc3 ?zqc4; (case zqkA => exact rfl); (case zqkF => exact rfl); (case zqkK => first | exact rfl | assumption); (case zqk1 => k_asm); (case zqk2 => k_asm); (case zqk3 => k_asm); (case zqk4 => k_asm); (case zqk5 => k_asm); (case zqk6 => k_is); (case zqk7 => k_is); (case zqk8 => ktr_room); (case zqk9 => first | exact BindsTo.of_eq (binds := [(_, _)]) rfl | exact BindsTo.of_eq (binds := [(_, _), (_, _)]) rfl | exact BindsTo.of_eq (binds := [(_, _), (_, _), (_, _)]) rfl | exact BindsTo.of_eq (binds := [(_, _), (_, _), (_, _), (_, _)]) rfl | exact BindsTo.of_eq rfl); (case zqkB => exact rfl); (case zqkD => decide +kernel); (case zqc2 => exact rfl); (case zqc3 => exact rfl); (case zqc4 => exact rfl); k_whole; intro g' L' h' tk' cells' FG' F' N' Y' B' X' T' l1; k_cells Y'; (try simp only [List.cons_append, List.nil_append] at N'); (try dsimp only); (try k_lift B'); (try k_fold)))); (k_with "exec Assign cons ListComp" => (k_here; k_dflt (refine LCt.Assign_ListComp_T (F₀ := by k_asm) (by rfl) (by with_unfolding_all rfl) (by with_unfolding_all rfl) (by decide) (by rfl) (by decide) (by rfl) (by rfl) (by rfl) ?_))); (k_with "subscriptTail" => (k_here; (with_reducible show wpAny _ _ (subscriptTail _ _ (Value.ref _) (Value.str _ _)) _ _ _); k_dflt (refine' kda_item (knd := PySem.strKind _ _) ?zqk1 ?zqk2 ?zqk3 (strKind_is _ _ _ _) ?zqk4 ?_; (case zqk1 => k_asm); (case zqk2 => k_mem); (case zqk3 => assumption); (case zqk4 => rfl); k_whole))); (k_with "setItem ref str" => (k_here; k_dflt (refine' kda_set (knd := PySem.strKind _ _) ?zqF ?zqN ?zqU ?zqd (strKind_is _ _ _ _) ?zqz ?_; (case zqF => k_asm); (case zqN => k_asm); (case zqU => k_updF); (case zqd => assumption); (case zqz => kob_size)); intro h' o' F' N' hd'; (try kob_lit); (try dsimp only at N'); (try dsimp only); (try k_gentoks))); (k_with "compareOp NotEq ref ref" => (k_here; k_dflt (refine' ne_nil ?zqk1 ?zqk2 ?zqk3 ?zqk4 ?_; (case zqk1 => k_asm); (case zqk2 => k_mem); (case zqk3 => k_mem); (case zqk4 => ktr_units)); (try dsimp only [List.isEmpty, Bool.not_true, Bool.not_false, List.map]))); (k_with "MINE ne" => (refine neN ?_; (try dsimp only); first | exact NeA.ne (by assumption) | exact (NeA.ne (by assumption)).symm | omega)); (k_with "compareOp In bytes ref" => (k_here; k_dflt (refine' in_bytes ?zqk1 ?zqk2 ?zqk3 ?_; (case zqk1 => k_asm); (case zqk2 => k_mem); (case zqk3 => assumption)))); (k_with "exec Raise some none" => (k_here; k_dflt (refine' Raise_38 ?zqk1 ?zqk2 ?_; (case zqk1 => k_asm); (case zqk2 => first | rfl | assumption)))); (k_with "call ref" => (k_here; (with_reducible show wpAny _ _ (call (Value.ref 38) _) _ _ _); k_dflt (refine' call_refuse ?zqk1 ?zqk2 ?zqk3 ?_; (case zqk1 => k_asm); (case zqk2 => k_asm); (case zqk3 => k_asm); k_whole); intro e38 t38 h38 F38 N38 hap38 hne38; refine wpAny_call ?_; walk_at "MINE enter")); (k_with "getMethod type:Exception" => (k_here; refine' method_type ?zqF ?zqX ?zqm (by decide +kernel) ?zqe ?zqh ?_; (case zqF => k_asm); (case zqX => k_asm); (case zqm => kernel_rfl); (case zqe => k_dflt k_is); (case zqh => k_handed))); (k_with "call builtin:Exception.__init__" => (k_here; k_dflt (refine' init_w ?zqk1 ?zqk2 ?zqk3 ?zqk4 ?_; (case zqk1 => k_asm); (case zqk2 => k_asm); (case zqk3 => k_asm); (case zqk4 => exact per_e (by assumption) (by assumption)); k_whole); intro h39 t39 F39 N39 hap39 hne39)); (k_with "setAttr ref" => (k_here; (with_reducible show wpAny _ _ (setAttr (Value.ref _) (PySem.Str.ofString "text") _) _ _ _); k_dflt (refine' text_w ?zqk1 ?zqk2 ?zqk3 ?zqk4 ?_; (case zqk1 => k_asm); (case zqk2 => k_asm); (case zqk3 => k_asm); (case zqk4 => exact per_t (by assumption) (by assumption) (by assumption)); k_whole); intro h40 tk40 o40 F40 N40 hc40 hd40)); (k_with "Refusing" => ((rename News _ _ _ (_ :: (_, tupO _) :: _ :: _) => N41); (rename (_ = Data.fields _) => hd41); refine ⟨_, _, _, rfl, Fr.keep (by k_asm), (N41 _ (.head _)).1, by assumption, hd41, ?_⟩)); (k_with "leaving ref" => (k_here; (rename News _ _ _ (_ :: (_, tupO _) :: _ :: _) => N41); (rename (_ = Data.fields _) => hd41); k_dflt (refine' leave_x ?zqk1 ?zqk2 (vs := [_]) N41 ?zqk4 ?zqk5 hd41 ?_; (case zqk1 => assumption); (case zqk2 => k_asm); (case zqk4 => exact per_b (by assumption) (by assumption) (by assumption)); (case zqk5 => assumption); k_whole); intro h42 R42 U42)); (k_with "MINE enterS" => (k_dflt (refine' code_defT ?zqk1 ?zqk2 ?zqk3 ?zqk4 ?zqk5 ?zqkXB ?zqkTB ?zqkD ?zqkA ?zqkF ?zqkK ?zqk6 ?zqk7 ?zqk8 ?zqk9 ?zqkB ?_ ?zqc2 ?zqc3 ?zqc4 ?zqc5; (case zqkA => exact rfl); (case zqkF => exact rfl); (case zqkK => first | exact rfl | assumption); (case zqk1 => k_asm); (case zqk2 => k_asm); (case zqk3 => k_asm); (case zqk4 => k_asm); (case zqk5 => k_asm); (case zqkXB => assumption); (case zqkTB => assumption); (case zqkD => assumption); (case zqk6 => k_is); (case zqk7 => k_is); (case zqk8 => ktr_room); (case zqk9 => first | exact BindsTo.of_eq (binds := [(_, _)]) rfl | exact BindsTo.of_eq (binds := [(_, _), (_, _)]) rfl | exact BindsTo.of_eq (binds := [(_, _), (_, _), (_, _)]) rfl | exact BindsTo.of_eq (binds := [(_, _), (_, _), (_, _), (_, _)]) rfl | exact BindsTo.of_eq rfl); (case zqc5 => decide); (case zqkB => exact locs rfl); (case zqc2 => exact rfl); (case zqc3 => exact rfl); (case zqc4 => exact rfl); k_whole; intro g' L' h' FG' F' N' B' X' T' D'; (try dsimp only); (try k_lift B'); (try k_fold)))); (k_with "exec For Name Subscript cons nil" => (k_here; (rename Fr _ _ _ _ => lF'); (with_unfolding_all refine' For_invVF lF' ?zqk1 ?zqk2 ?_; (case zqk1 => exact rfl); (case zqk2 => exact rfl); k_whole))); (k_with "compareOp In none ref" => (k_here; k_dflt (refine' none_in_pair ?zqk1 ?zqk2 ?_; (case zqk1 => k_asm); (case zqk2 => k_mem)))); (k_with "compareOp In str ref" => (k_here; k_dflt (refine' str_in_pair ?zqk1 ?zqk2 ?_; (case zqk1 => k_asm); (case zqk2 => k_mem)))); (k_with "compareOp Eq ref ref" => (k_here; k_dflt (refine' eq_nil ?zqk1 ?zqk2 ?zqk3 ?zqk4 ?_; (case zqk1 => k_asm); (case zqk2 => k_mem); (case zqk3 => k_mem); (case zqk4 => ktr_units)); (try dsimp only [List.isEmpty, List.map]))); (k_with "call builtin:len" => (k_here; (with_reducible show wpAny _ _ (call (Value.builtin "len") [Value.ref _]) _ _ _); k_dflt (refine' len_led ?zqk1 ?zqk2 ?zqk3 ?_; (case zqk1 => k_asm); (case zqk2 => k_mem); (case zqk3 => exact Nat.le_trans (by assumption) (by decide))))); (k_with "eval ListComp" => (k_here; k_dflt (refine LCt.ListComp_T (F₀ := by k_asm) (by with_unfolding_all rfl) (by decide) (by rfl) (by decide) (by rfl) ?_))); (k_with "subscriptTail" => (k_here; (with_reducible show wpAny _ _ (subscriptTail _ _ (Value.ref _) (Value.int _ _)) _ _ _); k_dflt (refine' item_led ?zqk1 ?zqk2 ?zqk3 ?zqk4 ?zqk5 ?_; (case zqk1 => k_asm); (case zqk2 => k_mem); (case zqk5 => assumption); (case zqk3 => assumption); (case zqk4 => omega)))); (k_with "MINE in" => (refine' Frag.In.keeps ?zqk1 (Fr.keep ?zqk2); (case zqk2 => with_reducible assumption); (case zqk1 => with_reducible assumption))); (k_with "storeName" => (k_here; (try dsimp only); k_dflt (refine' storeX_L ?zqF ?zqN ?_ ?zqa ?zqb; (case zqF => k_asm); (case zqN => k_asm); (case zqa => rfl); (case zqb => rfl); k_whole); intro h' F' N'; (try k_sweep))); (k_with "setAttr ref" => (dsimp only; walk1)); (k_with "call ref" => (dsimp only; walk1)); (k_with "setItem ref str" => (dsimp only; walk1)); have hend := fun r n h t a b c => hret r n h t c a b; refine wpAny_call ?_
  walk_at "MINE enter"
  generalize hPO : pathsO w k0 k1 k2 k3 k4 k5 k6 (.str σ.role tr) (.bool σ.may) (.ref kn) (.ref act) last (.int σ.top th) (.ref an) = PO at *
  generalize hKO : listOf (prs.map fun p => Value.ref p.2).toArray c = KO at *
  subst hPO
  k_steps
  subst hKO
  refine loop_led [] (fun i n => ∃ l₁ l₂, n = (ps, instObj 224 pd) :: (pd, pathsO w k0 k1 k2 k3 k4 k5 k6 (.str σ.role tr) (.bool σ.may) (.ref kn) (.ref act) last (.int σ.top th) (.ref an)) :: (kn, listOf (prs.map fun p => Value.ref p.2).toArray c) :: (l₁ ++ (l₂ ++ own)) ∧
    Rows (PRow w) ((prs.take i).map (failP now)) l₁ ∧ Rows (PRow w) (prs.drop i) l₂ ∧ Sep n) rfl (by k_asm) (by k_asm) (.tail _ (.tail _ (.head _))) ⟨[], lp, rfl, by simpa using Rows.nil, by simpa using hr, hsep⟩ (fun i n h => by obtain ⟨_, _, rfl, _⟩ := h; exact .tail _ (.tail _ (.head _))) ?_ ?_
  · rintro I it i v u n1 h tk hv hlow ⟨l₁, l₂, rfl, hr1, hr2, hS⟩ hoff F1 N1
    rw [List.getElem?_map] at hv
    cases hi : prs[i]? with
    | none => rw [hi] at hv; cases hv
    | some p =>
      obtain ⟨r, pa⟩ := p
      rw [hi] at hv
      have hv' := Option.some.inj hv
      dsimp only at hv'
      subst hv'
      clear hv
      obtain ⟨hd1, ht1⟩ := split_at hi
      rw [hd1] at hr2
      cases hr2 with
      | cons hpr hr2 =>
      cases hpr with
      | mk hus hvv =>
        obtain ⟨N2, hS2⟩ := turn_ready (A := [_, _, _]) N1 hS hoff
        dsimp only [List.cons_append, List.nil_append] at N2 hS2
        generalize hTe : l₁ ++ (_ ++ own) = T at N2 hS2
        have hO := Sep.off (E := [_, _, _, _, _, _, _]) hS2
        dsimp only [List.map] at hO
        clear N1
        refine ap_elim (E := [_, _, _, _, _, _, _]) hS2 ?_
        dsimp only [Ap, NeP]
        intros
        cases hfin : r.fin with
        | none =>
          rw [hfin] at hvv
          cases hvv
          k_steps
          subst hTe
          refine turn_end (A := [_, _, _]) (lr' := [_, _, _]) (by k_asm) N2 (.head _) (fun p hp => .tail _ hp) hS2 (fun hS' => ⟨_, _, rfl, ?_, hr2, hS'⟩) (fun y h1 h2 => by rw [if_neg h1]; rfl)
          rw [ht1, List.map_append]
          refine hr1.append (.one ?_)
          rw [failR_none hfin]
          exact .mk hus (hfin ▸ .none)
        | some d =>
          rw [hfin] at hvv
          cases hvv
          k_steps
          · subst hTe
            rename d ≤ now => hle
            rename _ ∧ _ ∧ _ ∧ _ ∧ _ ∧ _ ∧ _ ∧ AllLt _ _ => hl1
            rename News _ _ _ _ => N9
            refine turn_end (A := [_, _, _]) (lr' := [_, _, _]) (by k_asm) N9 (.tail _ (.head _)) (fun p hp => mem3 hp (.tail _ (.tail _ (.head _))) (.tail _ (.tail _ (.tail _ (.head _)))) (.head _) (fun q hq => .tail _ (.tail _ (.tail _ (.tail _ (.tail _ hq)))))) ((sep_swap (X := [_, _, _]) hS2 hl1).same rfl) (fun hS' => ⟨_, _, rfl, ?_, hr2, hS'⟩) (fun y h1 h2 => by rw [if_neg h1]; rfl)
            rw [ht1, List.map_append]
            refine hr1.append (.one ?_)
            rw [failR_due hfin hle]
            exact .mk (us := []) .nil .none
          · subst hTe
            rename ¬ d ≤ now => hle
            refine turn_end (A := [_, _, _]) (lr' := [_, _, _]) (by k_asm) N2 (.head _) (fun p hp => .tail _ hp) hS2 (fun hS' => ⟨_, _, rfl, ?_, hr2, hS'⟩) (fun y h1 h2 => by rw [if_neg h1]; rfl)
            rw [ht1, List.map_append]
            refine hr1.append (.one ?_)
            rw [failR_not hfin hle]
            exact .mk hus (hfin ▸ .some _ _)
  · rintro u n1 h tk ⟨l₁, l₂, rfl, hr1, hr2, hS⟩ F1 N1
    rw [show (prs.map fun p => Value.ref p.2).length = prs.length from List.length_map .., List.take_length] at hr1
    rw [show (prs.map fun p => Value.ref p.2).length = prs.length from List.length_map .., List.drop_length] at hr2
    cases hr2
    have hS' : Sep ((ps, instObj 224 pd) :: (pd, pathsO w k0 k1 k2 k3 k4 k5 k6 (.str σ.role tr) (.bool σ.may) (.ref kn) (.ref act) last (.int σ.top th) (.ref an)) :: (kn, listOf (prs.map fun p => Value.ref p.2).toArray c) :: (l₁ ++ own)) := hS
    have N1' : News _ _ h ((ps, instObj 224 pd) :: (pd, pathsO w k0 k1 k2 k3 k4 k5 k6 (.str σ.role tr) (.bool σ.may) (.ref kn) (.ref act) last (.int σ.top th) (.ref an)) :: (kn, listOf (prs.map fun p => Value.ref p.2).toArray c) :: (l₁ ++ own)) := N1
    clear N1 hS
    have hO : OwnOff (l₁ ++ own) [ps, pd, kn] := Sep.off (E := [_, _, _]) hS'
    refine ap_elim (E := [_, _, _]) hS' ?_
    dsimp only [Ap, NeP]
    intros
    obtain ⟨lr, hpr, hlr⟩ := hr1.mem (List.mem_map.mpr ⟨_, hact, rfl⟩)
    have hsub : ∀ q ∈ lr, q ∈ l₁ ++ own := fun q hq => List.mem_append_left _ (hlr q hq)
    clear hlr
    cases hpr with
    | mk husA hvA =>
    have mA1 := hsub _ (.head _)
    have mA2 := hsub _ (.tail _ (.head _))
    clear hsub husA hvA
    dsimp only at mA1 mA2
    generalize hbk : σ.back = bk at *
    cases hback with
    | none =>
      generalize hTe : l₁ ++ own = T at *
      k_steps
      · rename (_ != _) = true => q1
        subst hTe
        exact hend _ _ _ _ (by k_asm) (by k_asm) ⟨_, _, _, _, rfl, rfl, hr1, hS', .inl ⟨by simpa using q1, rfl, rfl⟩⟩
      · rename (_ != _) = false => q1
        subst hTe
        exact hend _ _ _ _ (by k_asm) (by k_asm) ⟨_, _, _, _, rfl, rfl, hr1, hS', .inr (.inl ⟨by simpa using q1, .inl rfl, rfl, rfl⟩)⟩
    | @some rb la hb =>
      obtain ⟨lrb, hprb, hlrb⟩ := hr1.mem (List.mem_map.mpr ⟨_, hb, rfl⟩)
      have hsub : ∀ q ∈ lrb, q ∈ l₁ ++ own := fun q hq => List.mem_append_left _ (hlrb q hq)
      clear hlrb
      cases hprb with
      | mk husB hvB =>
      have mB1 := hsub _ (.head _)
      have mB2 := hsub _ (.tail _ (.head _))
      clear hsub husB hvB
      dsimp only at mB1 mB2
      generalize hTe : l₁ ++ own = T at *
      k_steps
      · rename (_ != _) = true => q1
        subst hTe
        exact hend _ _ _ _ (by k_asm) (by k_asm) ⟨_, _, _, _, rfl, rfl, hr1, hS', .inl ⟨by simpa using q1, rfl, rfl⟩⟩
      · rename (_ != _) = false => q1
        rename (_ == _) = true => q2
        rw [failR_addr, failR_addr, hra] at q2
        subst hTe
        exact hend _ _ _ _ (by k_asm) (by k_asm) ⟨_, _, _, _, rfl, rfl, hr1, hS', .inr (.inl ⟨by simpa using q1, .inr (by rw [eq_of_beq q2]), rfl, rfl⟩)⟩
      · rename (_ != _) = false => q1
        rename (_ == _) = false => q2
        rw [failR_addr, failR_addr, hra] at q2
        subst hTe
        exact hend _ _ _ _ (by k_asm) (by k_asm) ⟨_, _, la, _, rfl, rfl, hr1, hS'.same rfl, .inr (.inr ⟨by simpa using q1, ⟨_, rfl, by simpa using q2⟩, rfl, rfl⟩)⟩
end
section
noncomputable abbrev proveR (r : Rw) : Rw := { r with st := "proven", free := true, asked := [], fin := none }
noncomputable abbrev hasR (b : Array UInt8) (r : Rw) : Bool := r.asked.any (· == b)
theorem take_response_spec {w mean mg mb} {ps pd kn an act : Addr} {lp own : Led} {prs : List (Rw × Addr)} {σ : St} {last : Value} {k0 k1 k2 k3 k4 k5 k6 tr th : Tok} {c : Nat} {ra : Rw} {b : Array UInt8} {t1 : Tok}
    (hr : Rows (PRow w) prs lp) (hnd : (prs.map fun p => p.1.addr).Nodup) (hact : (ra, act) ∈ prs) (hra : ra.addr = σ.active)
    (hsep : Sep ((ps, instObj 224 pd) :: (pd, pathsO w k0 k1 k2 k3 k4 k5 k6 (.str σ.role tr) (.bool σ.may) (.ref kn) (.ref act) last (.int σ.top th) (.ref an)) :: (kn, listOf (prs.map fun p => Value.ref p.2).toArray c) :: (lp ++ own))) :
    Spec w mean mg mb 5 40 202 [.ref ps, .bytes b t1] ((ps, instObj 224 pd) :: (pd, pathsO w k0 k1 k2 k3 k4 k5 k6 (.str σ.role tr) (.bool σ.may) (.ref kn) (.ref act) last (.int σ.top th) (.ref an)) :: (kn, listOf (prs.map fun p => Value.ref p.2).toArray c) :: (lp ++ own))
      (fun r9 n => (r9 = .none ∧ n = (ps, instObj 224 pd) :: (pd, pathsO w k0 k1 k2 k3 k4 k5 k6 (.str σ.role tr) (.bool σ.may) (.ref kn) (.ref act) last (.int σ.top th) (.ref an)) :: (kn, listOf (prs.map fun p => Value.ref p.2).toArray c) :: (lp ++ own) ∧ ∀ q ∈ prs, hasR b q.1 = false) ∨
        (∃ pre r pa post lp' last', r9 = .ref pa ∧ prs = pre ++ (r, pa) :: post ∧ (∀ q ∈ pre, hasR b q.1 = false) ∧ hasR b r = true ∧
          n = (ps, instObj 224 pd) :: (pd, pathsO w k0 k1 k2 k3 k4 k5 k6 (.str σ.role tr) (.bool σ.may) (.ref kn) (.ref act) last' (.int σ.top th) (.ref an)) :: (kn, listOf (prs.map fun p => Value.ref p.2).toArray c) :: (lp' ++ own) ∧
          Rows (PRow w) (pre ++ (proveR r, pa) :: post) lp' ∧ Sep n ∧ last' = (if r.addr = σ.active then .ref pa else last))) := by
  unfold Spec; k_fill; intro dp un gd cn cs a ccd cl outer A₀ base h₀ L m sh sg sd st so Q E B F X N T9 hk hd hu hret; have kM := kstMark; w_top off; k_with_none; (k_with "MINE enter" => (k_dflt (refine' code_def ?zqk1 ?zqk2 ?zqk3 ?zqk4 ?zqk5 ?zqkA ?zqkF ?zqkK ?zqk6 ?zqk7 ?zqk8 ?zqk9 ?zqkB ?_ ?zqc2 ?zqc3 ?zqc4 ?zqc5; (case zqkA => exact rfl); (case zqkF => exact rfl); (case zqkK => first | exact rfl | assumption); (case zqk1 => k_asm); (case zqk2 => k_asm); (case zqk3 => k_asm); (case zqk4 => k_asm); (case zqk5 => k_asm); (case zqk6 => k_is); (case zqk7 => k_is); (case zqk8 => ktr_room); (case zqk9 => first | exact BindsTo.of_eq (binds := [(_, _)]) rfl | exact BindsTo.of_eq (binds := [(_, _), (_, _)]) rfl | exact BindsTo.of_eq (binds := [(_, _), (_, _), (_, _)]) rfl | exact BindsTo.of_eq (binds := [(_, _), (_, _), (_, _), (_, _)]) rfl | exact BindsTo.of_eq rfl); (case zqc5 => decide); (case zqkB => exact locs rfl); (case zqc2 => exact rfl); (case zqc3 => exact rfl); (case zqc4 => exact rfl); k_whole; intro g' L' h' FG' F' N' B' X' T'; (try dsimp only); (try k_lift B'); (try k_fold)))); (k_with "call ref" => (k_here; first | k_extra "MINE call" | (refine wpAny_call ?_; walk_at "MINE enter"))); (k_with "call ref" => (k_here; k_dflt (refine' call_cls ?zqk1 ?zqk2 ?zqk3 ?zqk4 ?zqk5 ?zqk6 ?_; (case zqk1 => k_asm); (case zqk2 => k_asm); (case zqk3 => k_asm); (case zqk4 => k_is); (case zqk5 => k_is); (case zqk6 => k_is); k_whole; intro x' d' h' F' N' l1 l2; (try k_lt l1); (try k_lt2 l2); (try k_sweep)); walk_at "MINE enter")); (k_with "TPost" => dsimp only [TPost]); (k_with "MINE enterC" => (k_dflt (refine' code_defC ?zqk1 ?zqk2 ?zqk3 ?zqk4 ?zqk5 ?zqkA ?zqkF ?zqkK ?zqk6 ?zqk7 ?zqk8 ?zqk9 ?zqkB ?zqkD ?_ ?zqc2 ?zqc3 ?zqc4; (case zqkA => exact rfl); (case zqkF => exact rfl); (case zqkK => first | exact rfl | assumption); (case zqk1 => k_asm); (case zqk2 => k_asm); (case zqk3 => k_asm); (case zqk4 => k_asm); (case zqk5 => k_asm); (case zqk6 => k_is); (case zqk7 => k_is); (case zqk8 => ktr_room); (case zqk9 => first | exact BindsTo.of_eq (binds := [(_, _)]) rfl | exact BindsTo.of_eq (binds := [(_, _), (_, _)]) rfl | exact BindsTo.of_eq (binds := [(_, _), (_, _), (_, _)]) rfl | exact BindsTo.of_eq (binds := [(_, _), (_, _), (_, _), (_, _)]) rfl | exact BindsTo.of_eq rfl); (case zqkB => exact rfl); (case zqkD => decide +kernel); (case zqc2 => exact rfl); (case zqc3 => exact rfl); (case zqc4 => exact rfl); k_whole; intro g' L' h' tk' cells' FG' F' N' Y' B' X' T' l1; k_cells Y'; (try simp only [List.cons_append, List.nil_append] at N'); (try dsimp only); (try k_lift B'); (try k_fold)))); (k_with "exec Assign cons ListComp" => (k_here; k_dflt (refine LCt.Assign_ListComp_T (F₀ := by k_asm) (by rfl) (by with_unfolding_all rfl) (by with_unfolding_all rfl) (by decide) (by rfl) (by decide) (by rfl) (by rfl) (by rfl) ?_))); (k_with "subscriptTail" => (k_here; (with_reducible show wpAny _ _ (subscriptTail _ _ (Value.ref _) (Value.str _ _)) _ _ _); k_dflt (refine' kda_item (knd := PySem.strKind _ _) ?zqk1 ?zqk2 ?zqk3 (strKind_is _ _ _ _) ?zqk4 ?_; (case zqk1 => k_asm); (case zqk2 => k_mem); (case zqk3 => assumption); (case zqk4 => rfl); k_whole))); (k_with "setItem ref str" => (k_here; k_dflt (refine' kda_set (knd := PySem.strKind _ _) ?zqF ?zqN ?zqU ?zqd (strKind_is _ _ _ _) ?zqz ?_; (case zqF => k_asm); (case zqN => k_asm); (case zqU => k_updF); (case zqd => assumption); (case zqz => kob_size)); intro h' o' F' N' hd'; (try kob_lit); (try dsimp only at N'); (try dsimp only); (try k_gentoks))); (k_with "compareOp NotEq ref ref" => (k_here; k_dflt (refine' ne_nil ?zqk1 ?zqk2 ?zqk3 ?zqk4 ?_; (case zqk1 => k_asm); (case zqk2 => k_mem); (case zqk3 => k_mem); (case zqk4 => ktr_units)); (try dsimp only [List.isEmpty, Bool.not_true, Bool.not_false, List.map]))); (k_with "MINE ne" => (refine neN ?_; (try dsimp only); first | exact NeA.ne (by assumption) | exact (NeA.ne (by assumption)).symm | omega)); (k_with "compareOp In bytes ref" => (k_here; k_dflt (refine' in_bytes ?zqk1 ?zqk2 ?zqk3 ?_; (case zqk1 => k_asm); (case zqk2 => k_mem); (case zqk3 => assumption)))); (k_with "exec Raise some none" => (k_here; k_dflt (refine' Raise_38 ?zqk1 ?zqk2 ?_; (case zqk1 => k_asm); (case zqk2 => first | rfl | assumption)))); (k_with "call ref" => (k_here; (with_reducible show wpAny _ _ (call (Value.ref 38) _) _ _ _); k_dflt (refine' call_refuse ?zqk1 ?zqk2 ?zqk3 ?_; (case zqk1 => k_asm); (case zqk2 => k_asm); (case zqk3 => k_asm); k_whole); intro e38 t38 h38 F38 N38 hap38 hne38; refine wpAny_call ?_; walk_at "MINE enter")); (k_with "getMethod type:Exception" => (k_here; refine' method_type ?zqF ?zqX ?zqm (by decide +kernel) ?zqe ?zqh ?_; (case zqF => k_asm); (case zqX => k_asm); (case zqm => kernel_rfl); (case zqe => k_dflt k_is); (case zqh => k_handed))); (k_with "call builtin:Exception.__init__" => (k_here; k_dflt (refine' init_w ?zqk1 ?zqk2 ?zqk3 ?zqk4 ?_; (case zqk1 => k_asm); (case zqk2 => k_asm); (case zqk3 => k_asm); (case zqk4 => exact per_e (by assumption) (by assumption)); k_whole); intro h39 t39 F39 N39 hap39 hne39)); (k_with "setAttr ref" => (k_here; (with_reducible show wpAny _ _ (setAttr (Value.ref _) (PySem.Str.ofString "text") _) _ _ _); k_dflt (refine' text_w ?zqk1 ?zqk2 ?zqk3 ?zqk4 ?_; (case zqk1 => k_asm); (case zqk2 => k_asm); (case zqk3 => k_asm); (case zqk4 => exact per_t (by assumption) (by assumption) (by assumption)); k_whole); intro h40 tk40 o40 F40 N40 hc40 hd40)); (k_with "Refusing" => ((rename News _ _ _ (_ :: (_, tupO _) :: _ :: _) => N41); (rename (_ = Data.fields _) => hd41); refine ⟨_, _, _, rfl, Fr.keep (by k_asm), (N41 _ (.head _)).1, by assumption, hd41, ?_⟩)); (k_with "leaving ref" => (k_here; (rename News _ _ _ (_ :: (_, tupO _) :: _ :: _) => N41); (rename (_ = Data.fields _) => hd41); k_dflt (refine' leave_x ?zqk1 ?zqk2 (vs := [_]) N41 ?zqk4 ?zqk5 hd41 ?_; (case zqk1 => assumption); (case zqk2 => k_asm); (case zqk4 => exact per_b (by assumption) (by assumption) (by assumption)); (case zqk5 => assumption); k_whole); intro h42 R42 U42)); (k_with "MINE enterS" => (k_dflt (refine' code_defT ?zqk1 ?zqk2 ?zqk3 ?zqk4 ?zqk5 ?zqkXB ?zqkTB ?zqkD ?zqkA ?zqkF ?zqkK ?zqk6 ?zqk7 ?zqk8 ?zqk9 ?zqkB ?_ ?zqc2 ?zqc3 ?zqc4 ?zqc5; (case zqkA => exact rfl); (case zqkF => exact rfl); (case zqkK => first | exact rfl | assumption); (case zqk1 => k_asm); (case zqk2 => k_asm); (case zqk3 => k_asm); (case zqk4 => k_asm); (case zqk5 => k_asm); (case zqkXB => assumption); (case zqkTB => assumption); (case zqkD => assumption); (case zqk6 => k_is); (case zqk7 => k_is); (case zqk8 => ktr_room); (case zqk9 => first | exact BindsTo.of_eq (binds := [(_, _)]) rfl | exact BindsTo.of_eq (binds := [(_, _), (_, _)]) rfl | exact BindsTo.of_eq (binds := [(_, _), (_, _), (_, _)]) rfl | exact BindsTo.of_eq (binds := [(_, _), (_, _), (_, _), (_, _)]) rfl | exact BindsTo.of_eq rfl); (case zqc5 => decide); (case zqkB => exact locs rfl); (case zqc2 => exact rfl); (case zqc3 => exact rfl); (case zqc4 => exact rfl); k_whole; intro g' L' h' FG' F' N' B' X' T' D'; (try dsimp only); (try k_lift B'); (try k_fold)))); (k_with "exec For Name Subscript cons nil" => (k_here; (rename Fr _ _ _ _ => lF'); (with_unfolding_all refine' For_invVF lF' ?zqk1 ?zqk2 ?_; (case zqk1 => exact rfl); (case zqk2 => exact rfl); k_whole))); (k_with "compareOp In none ref" => (k_here; k_dflt (refine' none_in_pair ?zqk1 ?zqk2 ?_; (case zqk1 => k_asm); (case zqk2 => k_mem)))); (k_with "compareOp In str ref" => (k_here; k_dflt (refine' str_in_pair ?zqk1 ?zqk2 ?_; (case zqk1 => k_asm); (case zqk2 => k_mem)))); (k_with "compareOp Eq ref ref" => (k_here; k_dflt (refine' eq_nil ?zqk1 ?zqk2 ?zqk3 ?zqk4 ?_; (case zqk1 => k_asm); (case zqk2 => k_mem); (case zqk3 => k_mem); (case zqk4 => ktr_units)); (try dsimp only [List.isEmpty, List.map]))); (k_with "call builtin:len" => (k_here; (with_reducible show wpAny _ _ (call (Value.builtin "len") [Value.ref _]) _ _ _); k_dflt (refine' len_led ?zqk1 ?zqk2 ?zqk3 ?_; (case zqk1 => k_asm); (case zqk2 => k_mem); (case zqk3 => exact Nat.le_trans (by assumption) (by decide))))); (k_with "eval ListComp" => (k_here; k_dflt (refine LCt.ListComp_T (F₀ := by k_asm) (by with_unfolding_all rfl) (by decide) (by rfl) (by decide) (by rfl) ?_))); (k_with "subscriptTail" => (k_here; (with_reducible show wpAny _ _ (subscriptTail _ _ (Value.ref _) (Value.int _ _)) _ _ _); k_dflt (refine' item_led ?zqk1 ?zqk2 ?zqk3 ?zqk4 ?zqk5 ?_; (case zqk1 => k_asm); (case zqk2 => k_mem); (case zqk5 => assumption); (case zqk3 => assumption); (case zqk4 => omega)))); (k_with "MINE in" => (refine' Frag.In.keeps ?zqk1 (Fr.keep ?zqk2); (case zqk2 => with_reducible assumption); (case zqk1 => with_reducible assumption))); (k_with "storeName" => (k_here; (try dsimp only); k_dflt (refine' storeX_L ?zqF ?zqN ?_ ?zqa ?zqb; (case zqF => k_asm); (case zqN => k_asm); (case zqa => rfl); (case zqb => rfl); k_whole); intro h' F' N'; (try k_sweep))); (k_with "setAttr ref" => (dsimp only; walk1)); (k_with "call ref" => (dsimp only; walk1)); (k_with "setItem ref str" => (dsimp only; walk1)); have hend := fun r n h t a b c => hret r n h t c a b; refine wpAny_call ?_
  walk_at "MINE enter"
  k_steps
  refine loop_led [] (fun i n => n = (ps, instObj 224 pd) :: (pd, pathsO w k0 k1 k2 k3 k4 k5 k6 (.str σ.role tr) (.bool σ.may) (.ref kn) (.ref act) last (.int σ.top th) (.ref an)) :: (kn, listOf (prs.map fun p => Value.ref p.2).toArray c) :: (lp ++ own) ∧
    ∀ q ∈ prs.take i, hasR b q.1 = false) rfl (by k_asm) (by k_asm) (.tail _ (.tail _ (.head _))) ⟨rfl, by simp⟩ (fun i n h => by obtain ⟨rfl, _⟩ := h; exact .tail _ (.tail _ (.head _))) ?_ ?_
  · rintro I it i v u n1 h tk hv hlow ⟨rfl, hno⟩ hoff F1 N1
    rw [List.getElem?_map] at hv
    cases hi : prs[i]? with
    | none => rw [hi] at hv; cases hv
    | some p =>
      obtain ⟨r, pa⟩ := p
      rw [hi] at hv
      have hv' := Option.some.inj hv
      dsimp only at hv'
      subst hv'
      clear hv
      obtain ⟨hd1, ht1⟩ := split_at hi
      have hpr : prs = prs.take i ++ (r, pa) :: prs.drop (i + 1) := by rw [← hd1, List.take_append_drop]
      have hr' := hr
      rw [hpr] at hr'
      obtain ⟨l₁, lr, l₂, rfl, hr1, hprw, hr2⟩ := Rows.at hr'
      clear hr'
      have hN := N1
      cases hprw with
      | mk hus hvv =>
        have e1 : ∀ l₃ : Led, (l₁ ++ (l₃ ++ l₂)) ++ own = l₁ ++ ((l₃ ++ l₂) ++ own) := fun l₃ => by simp only [List.append_assoc]
        rw [e1] at N1 hoff hsep
        obtain ⟨N2, hS2⟩ := turn_ready (A := [_, _, _]) N1 hsep hoff
        dsimp only [List.cons_append, List.nil_append] at N2 hS2
        have hTact : r.addr = ra.addr ∧ ra = r ∧ act = pa ∨ r.addr ≠ ra.addr ∧ ∃ lra, PRow w ra act lra ∧ ∀ q ∈ lra, q ∈ l₁ ++ (l₂ ++ own) := by
          by_cases he : r.addr = ra.addr
          · have := uniq hnd (p := (r, pa)) (q := (ra, act)) (List.mem_of_getElem? hi) hact he
            cases this
            exact .inl ⟨rfl, rfl, rfl⟩
          · refine .inr ⟨he, ?_⟩
            have hm := hact
            rw [hpr] at hm
            rcases List.mem_append.mp hm with hm | hm
            · obtain ⟨lra, h1, h2⟩ := hr1.mem hm
              exact ⟨lra, h1, fun q hq => List.mem_append_left _ (h2 q hq)⟩
            · rcases List.mem_cons.mp hm with hm | hm
              · cases hm; exact absurd rfl he
              · obtain ⟨lra, h1, h2⟩ := hr2.mem hm
                exact ⟨lra, h1, fun q hq => List.mem_append_right _ (List.mem_append_left _ (h2 q hq))⟩
        generalize hTe : l₁ ++ (l₂ ++ own) = T at N2 hS2 hTact
        have hO := Sep.off (E := [_, _, _, _, _, _, _]) hS2
        dsimp only [List.map] at hO
        clear N1
        refine ap_elim (E := [_, _, _, _, _, _, _]) hS2 ?_
        dsimp only [Ap, NeP]
        intros
        have hvx : OptIs _ r.fin := hvv
        rcases hTact with ⟨_, rfl, rfl⟩ | ⟨hnea, lra, hpra, hlra⟩
        · skip
          k_steps
          · subst hTe
            rename (_ == _) = true => q2
            rename (List.any _ _) = true => q1
            rename _ ∧ _ ∧ _ ∧ _ ∧ _ ∧ _ ∧ _ ∧ AllLt _ _ => hl1
            rename News h₀ L _ _ => N9
            obtain ⟨N10, hS10⟩ := row_new (A := [_, _, _]) (A0 := [_, _, _]) N9 hS2 hl1 rfl rfl rfl
            exact hend _ _ _ _ (by k_asm) N10 (.inr ⟨_, _, _, _, _, _, rfl, hpr, hno, q1, rfl, hr1.append (.cons (.mk (us := []) .nil .none) hr2), hS10, (if_pos ((eq_of_beq q2).trans hra)).symm⟩)
          · subst hTe
            rename (_ == _) = false => q2
            rename (List.any _ _) = true => q1
            rename _ ∧ _ ∧ _ ∧ _ ∧ _ ∧ _ ∧ _ ∧ AllLt _ _ => hl1
            rename News h₀ L _ _ => N9
            obtain ⟨N10, hS10⟩ := row_new (A := [_, _, _]) (A0 := [_, _, _]) N9 hS2 hl1 rfl rfl rfl
            exact hend _ _ _ _ (by k_asm) N10 (.inr ⟨_, _, _, _, _, _, rfl, hpr, hno, q1, rfl, hr1.append (.cons (.mk (us := []) .nil .none) hr2), hS10, (if_neg fun z => by rw [hra] at q2; first | (rw [z] at q2; simp at q2; done) | (simp at q2; done)).symm⟩)
          · rename (List.any _ _) = false => q1
            refine TEnd.intro (by k_asm) hN _ (.head _) (fun p hp => .tail _ hp) (fun p hp => hoff p (by rw [← e1]; exact hp)) ⟨⟨rfl, ?_⟩, fun y h1 h2 => by rw [if_neg h1]; rfl⟩
            rw [ht1]
            intro q hq
            rcases List.mem_append.mp hq with hq | hq
            · exact hno q hq
            · rw [List.mem_singleton.mp hq]; exact q1
        · cases hpra with
          | mk husA hvA =>
          have mA1 := hlra _ (.head _)
          have mA2 := hlra _ (.tail _ (.head _))
          clear hlra husA hvA
          k_steps
          · subst hTe
            rename (_ == _) = true => q2
            rename (List.any _ _) = true => q1
            rename _ ∧ _ ∧ _ ∧ _ ∧ _ ∧ _ ∧ _ ∧ AllLt _ _ => hl1
            rename News h₀ L _ _ => N9
            obtain ⟨N10, hS10⟩ := row_new (A := [_, _, _]) (A0 := [_, _, _]) N9 hS2 hl1 rfl rfl rfl
            exact hend _ _ _ _ (by k_asm) N10 (.inr ⟨_, _, _, _, _, _, rfl, hpr, hno, q1, rfl, hr1.append (.cons (.mk (us := []) .nil .none) hr2), hS10, (if_pos ((eq_of_beq q2).trans hra)).symm⟩)
          · subst hTe
            rename (_ == _) = false => q2
            rename (List.any _ _) = true => q1
            rename _ ∧ _ ∧ _ ∧ _ ∧ _ ∧ _ ∧ _ ∧ AllLt _ _ => hl1
            rename News h₀ L _ _ => N9
            obtain ⟨N10, hS10⟩ := row_new (A := [_, _, _]) (A0 := [_, _, _]) N9 hS2 hl1 rfl rfl rfl
            exact hend _ _ _ _ (by k_asm) N10 (.inr ⟨_, _, _, _, _, _, rfl, hpr, hno, q1, rfl, hr1.append (.cons (.mk (us := []) .nil .none) hr2), hS10, (if_neg fun z => by rw [hra] at q2; first | (rw [z] at q2; simp at q2; done) | (simp at q2; done)).symm⟩)
          · rename (List.any _ _) = false => q1
            refine TEnd.intro (by k_asm) hN _ (.head _) (fun p hp => .tail _ hp) (fun p hp => hoff p (by rw [← e1]; exact hp)) ⟨⟨rfl, ?_⟩, fun y h1 h2 => by rw [if_neg h1]; rfl⟩
            rw [ht1]
            intro q hq
            rcases List.mem_append.mp hq with hq | hq
            · exact hno q hq
            · rw [List.mem_singleton.mp hq]; exact q1
  · rintro u n1 h tk ⟨rfl, hno⟩ F1 N1
    rw [show (prs.map fun p => Value.ref p.2).length = prs.length from List.length_map .., List.take_length] at hno
    k_steps
    exact hend _ _ _ _ (by k_asm) (by k_asm) (.inl ⟨rfl, rfl, hno⟩)
end
section
theorem opened_spec {w mean mg mb} {ps pd kn : Addr} {lp own : Led} {prs : List (Rw × Addr)} {k0 k1 k2 k3 k4 k5 k6 : Tok} {vr vm va vl vh vn : Value} {c : Nat} {ad : Str} {t1 : Tok}
    (hr : Rows (PRow w) prs lp) (hsz : prs.length ≤ 63)
    (hsep : Sep ((ps, instObj 224 pd) :: (pd, pathsO w k0 k1 k2 k3 k4 k5 k6 vr vm (.ref kn) va vl vh vn) :: (kn, listOf (prs.map fun p => Value.ref p.2).toArray c) :: (lp ++ own))) :
    Spec w mean mg mb 5 40 153 [.ref ps, .str ad t1] ((ps, instObj 224 pd) :: (pd, pathsO w k0 k1 k2 k3 k4 k5 k6 vr vm (.ref kn) va vl vh vn) :: (kn, listOf (prs.map fun p => Value.ref p.2).toArray c) :: (lp ++ own))
      (fun r9 n => ∃ prs' lp' c' pa pre r post, r9 = .ref pa ∧ prs' = pre ++ (r, pa) :: post ∧ (∀ q ∈ pre, q.1.addr ≠ ad) ∧ r.addr = ad ∧ prs'.map Prod.fst = opn ad (prs.map Prod.fst) ∧ (∀ p ∈ prs, p ∈ prs') ∧
        n = (ps, instObj 224 pd) :: (pd, pathsO w k0 k1 k2 k3 k4 k5 k6 vr vm (.ref kn) va vl vh vn) :: (kn, listOf (prs'.map fun p => Value.ref p.2).toArray c') :: (lp' ++ own) ∧ Rows (PRow w) prs' lp' ∧ Sep n) := by
  unfold Spec; k_fill; intro dp un gd cn cs a ccd cl outer A₀ base h₀ L m sh sg sd st so Q E B F X N T9 hk hd hu hret; have kM := kstMark; w_top off; k_with_none; (k_with "MINE enter" => (k_dflt (refine' code_def ?zqk1 ?zqk2 ?zqk3 ?zqk4 ?zqk5 ?zqkA ?zqkF ?zqkK ?zqk6 ?zqk7 ?zqk8 ?zqk9 ?zqkB ?_ ?zqc2 ?zqc3 ?zqc4 ?zqc5; (case zqkA => exact rfl); (case zqkF => exact rfl); (case zqkK => first | exact rfl | assumption); (case zqk1 => k_asm); (case zqk2 => k_asm); (case zqk3 => k_asm); (case zqk4 => k_asm); (case zqk5 => k_asm); (case zqk6 => k_is); (case zqk7 => k_is); (case zqk8 => ktr_room); (case zqk9 => first | exact BindsTo.of_eq (binds := [(_, _)]) rfl | exact BindsTo.of_eq (binds := [(_, _), (_, _)]) rfl | exact BindsTo.of_eq (binds := [(_, _), (_, _), (_, _)]) rfl | exact BindsTo.of_eq (binds := [(_, _), (_, _), (_, _), (_, _)]) rfl | exact BindsTo.of_eq rfl); (case zqc5 => decide); (case zqkB => exact locs rfl); (case zqc2 => exact rfl); (case zqc3 => exact rfl); (case zqc4 => exact rfl); k_whole; intro g' L' h' FG' F' N' B' X' T'; (try dsimp only); (try k_lift B'); (try k_fold)))); (k_with "call ref" => (k_here; first | k_extra "MINE call" | (refine wpAny_call ?_; walk_at "MINE enter"))); (k_with "call ref" => (k_here; k_dflt (refine' call_cls ?zqk1 ?zqk2 ?zqk3 ?zqk4 ?zqk5 ?zqk6 ?_; (case zqk1 => k_asm); (case zqk2 => k_asm); (case zqk3 => k_asm); (case zqk4 => k_is); (case zqk5 => k_is); (case zqk6 => k_is); k_whole; intro x' d' h' F' N' l1 l2; (try k_lt l1); (try k_lt2 l2); (try k_sweep)); walk_at "MINE enter")); (k_with "TPost" => dsimp only [TPost]); (k_with "MINE enterC" => (k_dflt (refine' code_defC ?zqk1 ?zqk2 ?zqk3 ?zqk4 ?zqk5 ?zqkA ?zqkF ?zqkK ?zqk6 ?zqk7 ?zqk8 ?zqk9 ?zqkB ?zqkD ?_ ?zqc2 ?zqc3 ?zqc4; (case zqkA => exact rfl); (case zqkF => exact rfl); (case zqkK => first | exact rfl | assumption); (case zqk1 => k_asm); (case zqk2 => k_asm); (case zqk3 => k_asm); (case zqk4 => k_asm); (case zqk5 => k_asm); (case zqk6 => k_is); (case zqk7 => k_is); (case zqk8 => ktr_room); (case zqk9 => first | exact BindsTo.of_eq (binds := [(_, _)]) rfl | exact BindsTo.of_eq (binds := [(_, _), (_, _)]) rfl | exact BindsTo.of_eq (binds := [(_, _), (_, _), (_, _)]) rfl | exact BindsTo.of_eq (binds := [(_, _), (_, _), (_, _), (_, _)]) rfl | exact BindsTo.of_eq rfl); (case zqkB => exact rfl); (case zqkD => decide +kernel); (case zqc2 => exact rfl); (case zqc3 => exact rfl); (case zqc4 => exact rfl); k_whole; intro g' L' h' tk' cells' FG' F' N' Y' B' X' T' l1; k_cells Y'; (try simp only [List.cons_append, List.nil_append] at N'); (try dsimp only); (try k_lift B'); (try k_fold)))); (k_with "exec Assign cons ListComp" => (k_here; k_dflt (refine LCt.Assign_ListComp_T (F₀ := by k_asm) (by rfl) (by with_unfolding_all rfl) (by with_unfolding_all rfl) (by decide) (by rfl) (by decide) (by rfl) (by rfl) (by rfl) ?_))); (k_with "subscriptTail" => (k_here; (with_reducible show wpAny _ _ (subscriptTail _ _ (Value.ref _) (Value.str _ _)) _ _ _); k_dflt (refine' kda_item (knd := PySem.strKind _ _) ?zqk1 ?zqk2 ?zqk3 (strKind_is _ _ _ _) ?zqk4 ?_; (case zqk1 => k_asm); (case zqk2 => k_mem); (case zqk3 => assumption); (case zqk4 => rfl); k_whole))); (k_with "setItem ref str" => (k_here; k_dflt (refine' kda_set (knd := PySem.strKind _ _) ?zqF ?zqN ?zqU ?zqd (strKind_is _ _ _ _) ?zqz ?_; (case zqF => k_asm); (case zqN => k_asm); (case zqU => k_updF); (case zqd => assumption); (case zqz => kob_size)); intro h' o' F' N' hd'; (try kob_lit); (try dsimp only at N'); (try dsimp only); (try k_gentoks))); (k_with "compareOp NotEq ref ref" => (k_here; k_dflt (refine' ne_nil ?zqk1 ?zqk2 ?zqk3 ?zqk4 ?_; (case zqk1 => k_asm); (case zqk2 => k_mem); (case zqk3 => k_mem); (case zqk4 => ktr_units)); (try dsimp only [List.isEmpty, Bool.not_true, Bool.not_false, List.map]))); (k_with "MINE ne" => (refine neN ?_; (try dsimp only); first | exact NeA.ne (by assumption) | exact (NeA.ne (by assumption)).symm | omega)); (k_with "compareOp In bytes ref" => (k_here; k_dflt (refine' in_bytes ?zqk1 ?zqk2 ?zqk3 ?_; (case zqk1 => k_asm); (case zqk2 => k_mem); (case zqk3 => assumption)))); (k_with "exec Raise some none" => (k_here; k_dflt (refine' Raise_38 ?zqk1 ?zqk2 ?_; (case zqk1 => k_asm); (case zqk2 => first | rfl | assumption)))); (k_with "call ref" => (k_here; (with_reducible show wpAny _ _ (call (Value.ref 38) _) _ _ _); k_dflt (refine' call_refuse ?zqk1 ?zqk2 ?zqk3 ?_; (case zqk1 => k_asm); (case zqk2 => k_asm); (case zqk3 => k_asm); k_whole); intro e38 t38 h38 F38 N38 hap38 hne38; refine wpAny_call ?_; walk_at "MINE enter")); (k_with "getMethod type:Exception" => (k_here; refine' method_type ?zqF ?zqX ?zqm (by decide +kernel) ?zqe ?zqh ?_; (case zqF => k_asm); (case zqX => k_asm); (case zqm => kernel_rfl); (case zqe => k_dflt k_is); (case zqh => k_handed))); (k_with "call builtin:Exception.__init__" => (k_here; k_dflt (refine' init_w ?zqk1 ?zqk2 ?zqk3 ?zqk4 ?_; (case zqk1 => k_asm); (case zqk2 => k_asm); (case zqk3 => k_asm); (case zqk4 => exact per_e (by assumption) (by assumption)); k_whole); intro h39 t39 F39 N39 hap39 hne39)); (k_with "setAttr ref" => (k_here; (with_reducible show wpAny _ _ (setAttr (Value.ref _) (PySem.Str.ofString "text") _) _ _ _); k_dflt (refine' text_w ?zqk1 ?zqk2 ?zqk3 ?zqk4 ?_; (case zqk1 => k_asm); (case zqk2 => k_asm); (case zqk3 => k_asm); (case zqk4 => exact per_t (by assumption) (by assumption) (by assumption)); k_whole); intro h40 tk40 o40 F40 N40 hc40 hd40)); (k_with "Refusing" => ((rename News _ _ _ (_ :: (_, tupO _) :: _ :: _) => N41); (rename (_ = Data.fields _) => hd41); refine ⟨_, _, _, rfl, Fr.keep (by k_asm), (N41 _ (.head _)).1, by assumption, hd41, ?_⟩)); (k_with "leaving ref" => (k_here; (rename News _ _ _ (_ :: (_, tupO _) :: _ :: _) => N41); (rename (_ = Data.fields _) => hd41); k_dflt (refine' leave_x ?zqk1 ?zqk2 (vs := [_]) N41 ?zqk4 ?zqk5 hd41 ?_; (case zqk1 => assumption); (case zqk2 => k_asm); (case zqk4 => exact per_b (by assumption) (by assumption) (by assumption)); (case zqk5 => assumption); k_whole); intro h42 R42 U42)); (k_with "MINE enterS" => (k_dflt (refine' code_defT ?zqk1 ?zqk2 ?zqk3 ?zqk4 ?zqk5 ?zqkXB ?zqkTB ?zqkD ?zqkA ?zqkF ?zqkK ?zqk6 ?zqk7 ?zqk8 ?zqk9 ?zqkB ?_ ?zqc2 ?zqc3 ?zqc4 ?zqc5; (case zqkA => exact rfl); (case zqkF => exact rfl); (case zqkK => first | exact rfl | assumption); (case zqk1 => k_asm); (case zqk2 => k_asm); (case zqk3 => k_asm); (case zqk4 => k_asm); (case zqk5 => k_asm); (case zqkXB => assumption); (case zqkTB => assumption); (case zqkD => assumption); (case zqk6 => k_is); (case zqk7 => k_is); (case zqk8 => ktr_room); (case zqk9 => first | exact BindsTo.of_eq (binds := [(_, _)]) rfl | exact BindsTo.of_eq (binds := [(_, _), (_, _)]) rfl | exact BindsTo.of_eq (binds := [(_, _), (_, _), (_, _)]) rfl | exact BindsTo.of_eq (binds := [(_, _), (_, _), (_, _), (_, _)]) rfl | exact BindsTo.of_eq rfl); (case zqc5 => decide); (case zqkB => exact locs rfl); (case zqc2 => exact rfl); (case zqc3 => exact rfl); (case zqc4 => exact rfl); k_whole; intro g' L' h' FG' F' N' B' X' T' D'; (try dsimp only); (try k_lift B'); (try k_fold)))); (k_with "exec For Name Subscript cons nil" => (k_here; (rename Fr _ _ _ _ => lF'); (with_unfolding_all refine' For_invVF lF' ?zqk1 ?zqk2 ?_; (case zqk1 => exact rfl); (case zqk2 => exact rfl); k_whole))); (k_with "compareOp In none ref" => (k_here; k_dflt (refine' none_in_pair ?zqk1 ?zqk2 ?_; (case zqk1 => k_asm); (case zqk2 => k_mem)))); (k_with "compareOp In str ref" => (k_here; k_dflt (refine' str_in_pair ?zqk1 ?zqk2 ?_; (case zqk1 => k_asm); (case zqk2 => k_mem)))); (k_with "compareOp Eq ref ref" => (k_here; k_dflt (refine' eq_nil ?zqk1 ?zqk2 ?zqk3 ?zqk4 ?_; (case zqk1 => k_asm); (case zqk2 => k_mem); (case zqk3 => k_mem); (case zqk4 => ktr_units)); (try dsimp only [List.isEmpty, List.map]))); (k_with "call builtin:len" => (k_here; (with_reducible show wpAny _ _ (call (Value.builtin "len") [Value.ref _]) _ _ _); k_dflt (refine' len_led ?zqk1 ?zqk2 ?zqk3 ?_; (case zqk1 => k_asm); (case zqk2 => k_mem); (case zqk3 => exact Nat.le_trans (by assumption) (by decide))))); (k_with "eval ListComp" => (k_here; k_dflt (refine LCt.ListComp_T (F₀ := by k_asm) (by with_unfolding_all rfl) (by decide) (by rfl) (by decide) (by rfl) ?_))); (k_with "subscriptTail" => (k_here; (with_reducible show wpAny _ _ (subscriptTail _ _ (Value.ref _) (Value.int _ _)) _ _ _); k_dflt (refine' item_led ?zqk1 ?zqk2 ?zqk3 ?zqk4 ?zqk5 ?_; (case zqk1 => k_asm); (case zqk2 => k_mem); (case zqk5 => assumption); (case zqk3 => assumption); (case zqk4 => omega)))); (k_with "MINE in" => (refine' Frag.In.keeps ?zqk1 (Fr.keep ?zqk2); (case zqk2 => with_reducible assumption); (case zqk1 => with_reducible assumption))); (k_with "storeName" => (k_here; (try dsimp only); k_dflt (refine' storeX_L ?zqF ?zqN ?_ ?zqa ?zqb; (case zqF => k_asm); (case zqN => k_asm); (case zqa => rfl); (case zqb => rfl); k_whole); intro h' F' N'; (try k_sweep))); (k_with "setAttr ref" => (dsimp only; walk1)); (k_with "call ref" => (dsimp only; walk1)); (k_with "setItem ref str" => (dsimp only; walk1)); have hend := fun r n h t a b c => hret r n h t c a b; refine wpAny_call ?_
  walk_at "MINE enter"
  have hO : OwnOff (lp ++ own) [ps, pd, kn] := Sep.off (E := [_, _, _]) hsep
  refine ap_elim (E := [(_, _), (_, _), (_, _)]) hsep ?_
  dsimp only [Ap, NeP]
  intros
  have hk3 : (kn, listOf (prs.map fun p => Value.ref p.2).toArray c) ∈ (ps, instObj 224 pd) :: (pd, pathsO w k0 k1 k2 k3 k4 k5 k6 vr vm (.ref kn) va vl vh vn) :: (kn, listOf (prs.map fun p => Value.ref p.2).toArray c) :: (lp ++ own) := .tail _ (.tail _ (.head _))
  have hs3 : ∀ p ∈ lp, p ∈ (ps, instObj 224 pd) :: (pd, pathsO w k0 k1 k2 k3 k4 k5 k6 vr vm (.ref kn) va vl vh vn) :: (kn, listOf (prs.map fun p => Value.ref p.2).toArray c) :: (lp ++ own) := fun p hp => .tail _ (.tail _ (.tail _ (List.mem_append_left _ hp)))
  k_with "MINE call" => ((with_reducible show wpAny _ _ (call (Value.ref 146) _) _ _ _); (try (refine (?_ : wpAny _ _ _ _ _ _); k_fold)); k_dflt (refine' path_any ?zqh1 ?zqh2 hk3 hr hs3 ?zqk1 ?zqk2 ?zqk3 ?zqk4 ?zqk5 ?zqk6 ?zqk7 ?zqk8 ?_ ?_; (case zqk1 => k_asm); (case zqk2 => k_asm); (case zqk3 => k_asm); (case zqk4 => k_asm); (case zqk5 => k_asm); (case zqk6 => first | exact rfl | assumption); (case zqk7 => ktr_room); (case zqk8 => ktr_units); (case zqh1 => k_mem); (case zqh2 => k_mem); all_goals refine stop_of ?_))
  k_steps
  · refine Stop.go ?_
    intro r pa pre post h9 tk9 hpr hpre hpa F9 N9
    k_steps
    refine hend _ _ _ _ (by k_asm) (by k_asm) ⟨prs, lp, c, pa, pre, r, post, rfl, hpr, hpre, hpa, ?_, fun p hp => hp, rfl, hr, hsep⟩
    unfold opn
    rw [if_pos]
    rw [List.any_eq_true]
    exact ⟨r, List.mem_map.mpr ⟨_, by rw [hpr]; exact List.mem_append_right _ (.head _), rfl⟩, beq_iff_eq.mpr hpa⟩
  · refine Stop.go ?_
    intro hno h9 tk9 F9 N9
    generalize hTe : lp ++ own = T at *
    k_steps
    subst hTe
    rename _ ∧ _ ∧ _ ∧ _ ∧ _ ∧ AllLt _ _ => hl2
    rename _ ∧ _ ∧ _ ∧ AllLt _ _ => hl1
    rename (@LT.lt Nat _ _ _) => hl3
    rename News h₀ L _ _ => N9
    rw [List.push_toArray, show ∀ x, (prs.map fun p => Value.ref p.2) ++ [Value.ref x] = (prs ++ [(newR ad false, x)]).map fun p => Value.ref p.2 from fun x => by rw [List.map_append]; rfl] at N9
    obtain ⟨N10, hS10⟩ := row_add (A := [_, _, _]) (A0 := [_, _, _]) N9 hsep rfl hl1 hl3 hl2
    refine hend _ _ _ _ (by k_asm) N10 ⟨prs ++ [(newR ad false, _)], _, _, _, prs, _, [], rfl, rfl, hno, rfl, ?_, fun p hp => List.mem_append_left _ hp, rfl, hr.append (.one (.mk (us := []) .nil .none)), hS10⟩
    unfold opn
    rw [if_neg]
    · rw [List.map_append]; rfl
    · rw [List.any_eq_true]
      rintro ⟨r, hm, hq⟩
      obtain ⟨q, hq1, rfl⟩ := List.mem_map.mp hm
      exact hno q hq1 (eq_of_beq hq)
end
section
theorem move_to_spec {w mean mg mb} {ps : Addr} {l own : Led} {prs : List (Rw × Addr)} {σ : St} {ad : Str} {t1 : Tok}
    (hP : PSide w σ prs ps l) (hnd : (prs.map fun p => p.1.addr).Nodup) (hsz : prs.length ≤ 63) (hsep : Sep (l ++ own)) :
    Spec w mean mg mb 8 60 174 [.ref ps, .str ad t1] (l ++ own)
      (fun r9 n => r9 = .none ∧ ∃ prs' l', n = l' ++ own ∧ PSide w { σ with active := ad, back := bkOf σ (prs.map Prod.fst) } prs' ps l' ∧ prs'.map Prod.fst = upd (isAt ad) renew (opn ad (prs.map Prod.fst)) ∧ Sep n) := by
  cases hP with
  | @mk pd kn an act last c c2 k0 k1 k2 k3 k4 k5 k6 tr th ra lp hr hact hra hback =>
  have hst := stOf_at hnd hact hra
  simp only [List.cons_append, List.append_assoc, List.nil_append] at hsep ⊢
  generalize hoe : (an, listOf #[] c2) :: own = own2 at *
  unfold Spec; k_fill; intro dp un gd cn cs a ccd cl outer A₀ base h₀ L m sh sg sd st so Q E B F X N T9 hk hd hu hret; have kM := kstMark; w_top off; k_with_none; (k_with "MINE enter" => (k_dflt (refine' code_def ?zqk1 ?zqk2 ?zqk3 ?zqk4 ?zqk5 ?zqkA ?zqkF ?zqkK ?zqk6 ?zqk7 ?zqk8 ?zqk9 ?zqkB ?_ ?zqc2 ?zqc3 ?zqc4 ?zqc5; (case zqkA => exact rfl); (case zqkF => exact rfl); (case zqkK => first | exact rfl | assumption); (case zqk1 => k_asm); (case zqk2 => k_asm); (case zqk3 => k_asm); (case zqk4 => k_asm); (case zqk5 => k_asm); (case zqk6 => k_is); (case zqk7 => k_is); (case zqk8 => ktr_room); (case zqk9 => first | exact BindsTo.of_eq (binds := [(_, _)]) rfl | exact BindsTo.of_eq (binds := [(_, _), (_, _)]) rfl | exact BindsTo.of_eq (binds := [(_, _), (_, _), (_, _)]) rfl | exact BindsTo.of_eq (binds := [(_, _), (_, _), (_, _), (_, _)]) rfl | exact BindsTo.of_eq rfl); (case zqc5 => decide); (case zqkB => exact locs rfl); (case zqc2 => exact rfl); (case zqc3 => exact rfl); (case zqc4 => exact rfl); k_whole; intro g' L' h' FG' F' N' B' X' T'; (try dsimp only); (try k_lift B'); (try k_fold)))); (k_with "call ref" => (k_here; first | k_extra "MINE call" | (refine wpAny_call ?_; walk_at "MINE enter"))); (k_with "call ref" => (k_here; k_dflt (refine' call_cls ?zqk1 ?zqk2 ?zqk3 ?zqk4 ?zqk5 ?zqk6 ?_; (case zqk1 => k_asm); (case zqk2 => k_asm); (case zqk3 => k_asm); (case zqk4 => k_is); (case zqk5 => k_is); (case zqk6 => k_is); k_whole; intro x' d' h' F' N' l1 l2; (try k_lt l1); (try k_lt2 l2); (try k_sweep)); walk_at "MINE enter")); (k_with "TPost" => dsimp only [TPost]); (k_with "MINE enterC" => (k_dflt (refine' code_defC ?zqk1 ?zqk2 ?zqk3 ?zqk4 ?zqk5 ?zqkA ?zqkF ?zqkK ?zqk6 ?zqk7 ?zqk8 ?zqk9 ?zqkB ?zqkD ?_ ?zqc2 ?zqc3 ?zqc4; (case zqkA => exact rfl); (case zqkF => exact rfl); (case zqkK => first | exact rfl | assumption); (case zqk1 => k_asm); (case zqk2 => k_asm); (case zqk3 => k_asm); (case zqk4 => k_asm); (case zqk5 => k_asm); (case zqk6 => k_is); (case zqk7 => k_is); (case zqk8 => ktr_room); (case zqk9 => first | exact BindsTo.of_eq (binds := [(_, _)]) rfl | exact BindsTo.of_eq (binds := [(_, _), (_, _)]) rfl | exact BindsTo.of_eq (binds := [(_, _), (_, _), (_, _)]) rfl | exact BindsTo.of_eq (binds := [(_, _), (_, _), (_, _), (_, _)]) rfl | exact BindsTo.of_eq rfl); (case zqkB => exact rfl); (case zqkD => decide +kernel); (case zqc2 => exact rfl); (case zqc3 => exact rfl); (case zqc4 => exact rfl); k_whole; intro g' L' h' tk' cells' FG' F' N' Y' B' X' T' l1; k_cells Y'; (try simp only [List.cons_append, List.nil_append] at N'); (try dsimp only); (try k_lift B'); (try k_fold)))); (k_with "exec Assign cons ListComp" => (k_here; k_dflt (refine LCt.Assign_ListComp_T (F₀ := by k_asm) (by rfl) (by with_unfolding_all rfl) (by with_unfolding_all rfl) (by decide) (by rfl) (by decide) (by rfl) (by rfl) (by rfl) ?_))); (k_with "subscriptTail" => (k_here; (with_reducible show wpAny _ _ (subscriptTail _ _ (Value.ref _) (Value.str _ _)) _ _ _); k_dflt (refine' kda_item (knd := PySem.strKind _ _) ?zqk1 ?zqk2 ?zqk3 (strKind_is _ _ _ _) ?zqk4 ?_; (case zqk1 => k_asm); (case zqk2 => k_mem); (case zqk3 => assumption); (case zqk4 => rfl); k_whole))); (k_with "setItem ref str" => (k_here; k_dflt (refine' kda_set (knd := PySem.strKind _ _) ?zqF ?zqN ?zqU ?zqd (strKind_is _ _ _ _) ?zqz ?_; (case zqF => k_asm); (case zqN => k_asm); (case zqU => k_updF); (case zqd => assumption); (case zqz => kob_size)); intro h' o' F' N' hd'; (try kob_lit); (try dsimp only at N'); (try dsimp only); (try k_gentoks))); (k_with "compareOp NotEq ref ref" => (k_here; k_dflt (refine' ne_nil ?zqk1 ?zqk2 ?zqk3 ?zqk4 ?_; (case zqk1 => k_asm); (case zqk2 => k_mem); (case zqk3 => k_mem); (case zqk4 => ktr_units)); (try dsimp only [List.isEmpty, Bool.not_true, Bool.not_false, List.map]))); (k_with "MINE ne" => (refine neN ?_; (try dsimp only); first | exact NeA.ne (by assumption) | exact (NeA.ne (by assumption)).symm | omega)); (k_with "compareOp In bytes ref" => (k_here; k_dflt (refine' in_bytes ?zqk1 ?zqk2 ?zqk3 ?_; (case zqk1 => k_asm); (case zqk2 => k_mem); (case zqk3 => assumption)))); (k_with "exec Raise some none" => (k_here; k_dflt (refine' Raise_38 ?zqk1 ?zqk2 ?_; (case zqk1 => k_asm); (case zqk2 => first | rfl | assumption)))); (k_with "call ref" => (k_here; (with_reducible show wpAny _ _ (call (Value.ref 38) _) _ _ _); k_dflt (refine' call_refuse ?zqk1 ?zqk2 ?zqk3 ?_; (case zqk1 => k_asm); (case zqk2 => k_asm); (case zqk3 => k_asm); k_whole); intro e38 t38 h38 F38 N38 hap38 hne38; refine wpAny_call ?_; walk_at "MINE enter")); (k_with "getMethod type:Exception" => (k_here; refine' method_type ?zqF ?zqX ?zqm (by decide +kernel) ?zqe ?zqh ?_; (case zqF => k_asm); (case zqX => k_asm); (case zqm => kernel_rfl); (case zqe => k_dflt k_is); (case zqh => k_handed))); (k_with "call builtin:Exception.__init__" => (k_here; k_dflt (refine' init_w ?zqk1 ?zqk2 ?zqk3 ?zqk4 ?_; (case zqk1 => k_asm); (case zqk2 => k_asm); (case zqk3 => k_asm); (case zqk4 => exact per_e (by assumption) (by assumption)); k_whole); intro h39 t39 F39 N39 hap39 hne39)); (k_with "setAttr ref" => (k_here; (with_reducible show wpAny _ _ (setAttr (Value.ref _) (PySem.Str.ofString "text") _) _ _ _); k_dflt (refine' text_w ?zqk1 ?zqk2 ?zqk3 ?zqk4 ?_; (case zqk1 => k_asm); (case zqk2 => k_asm); (case zqk3 => k_asm); (case zqk4 => exact per_t (by assumption) (by assumption) (by assumption)); k_whole); intro h40 tk40 o40 F40 N40 hc40 hd40)); (k_with "Refusing" => ((rename News _ _ _ (_ :: (_, tupO _) :: _ :: _) => N41); (rename (_ = Data.fields _) => hd41); refine ⟨_, _, _, rfl, Fr.keep (by k_asm), (N41 _ (.head _)).1, by assumption, hd41, ?_⟩)); (k_with "leaving ref" => (k_here; (rename News _ _ _ (_ :: (_, tupO _) :: _ :: _) => N41); (rename (_ = Data.fields _) => hd41); k_dflt (refine' leave_x ?zqk1 ?zqk2 (vs := [_]) N41 ?zqk4 ?zqk5 hd41 ?_; (case zqk1 => assumption); (case zqk2 => k_asm); (case zqk4 => exact per_b (by assumption) (by assumption) (by assumption)); (case zqk5 => assumption); k_whole); intro h42 R42 U42)); (k_with "MINE enterS" => (k_dflt (refine' code_defT ?zqk1 ?zqk2 ?zqk3 ?zqk4 ?zqk5 ?zqkXB ?zqkTB ?zqkD ?zqkA ?zqkF ?zqkK ?zqk6 ?zqk7 ?zqk8 ?zqk9 ?zqkB ?_ ?zqc2 ?zqc3 ?zqc4 ?zqc5; (case zqkA => exact rfl); (case zqkF => exact rfl); (case zqkK => first | exact rfl | assumption); (case zqk1 => k_asm); (case zqk2 => k_asm); (case zqk3 => k_asm); (case zqk4 => k_asm); (case zqk5 => k_asm); (case zqkXB => assumption); (case zqkTB => assumption); (case zqkD => assumption); (case zqk6 => k_is); (case zqk7 => k_is); (case zqk8 => ktr_room); (case zqk9 => first | exact BindsTo.of_eq (binds := [(_, _)]) rfl | exact BindsTo.of_eq (binds := [(_, _), (_, _)]) rfl | exact BindsTo.of_eq (binds := [(_, _), (_, _), (_, _)]) rfl | exact BindsTo.of_eq (binds := [(_, _), (_, _), (_, _), (_, _)]) rfl | exact BindsTo.of_eq rfl); (case zqc5 => decide); (case zqkB => exact locs rfl); (case zqc2 => exact rfl); (case zqc3 => exact rfl); (case zqc4 => exact rfl); k_whole; intro g' L' h' FG' F' N' B' X' T' D'; (try dsimp only); (try k_lift B'); (try k_fold)))); (k_with "exec For Name Subscript cons nil" => (k_here; (rename Fr _ _ _ _ => lF'); (with_unfolding_all refine' For_invVF lF' ?zqk1 ?zqk2 ?_; (case zqk1 => exact rfl); (case zqk2 => exact rfl); k_whole))); (k_with "compareOp In none ref" => (k_here; k_dflt (refine' none_in_pair ?zqk1 ?zqk2 ?_; (case zqk1 => k_asm); (case zqk2 => k_mem)))); (k_with "compareOp In str ref" => (k_here; k_dflt (refine' str_in_pair ?zqk1 ?zqk2 ?_; (case zqk1 => k_asm); (case zqk2 => k_mem)))); (k_with "compareOp Eq ref ref" => (k_here; k_dflt (refine' eq_nil ?zqk1 ?zqk2 ?zqk3 ?zqk4 ?_; (case zqk1 => k_asm); (case zqk2 => k_mem); (case zqk3 => k_mem); (case zqk4 => ktr_units)); (try dsimp only [List.isEmpty, List.map]))); (k_with "call builtin:len" => (k_here; (with_reducible show wpAny _ _ (call (Value.builtin "len") [Value.ref _]) _ _ _); k_dflt (refine' len_led ?zqk1 ?zqk2 ?zqk3 ?_; (case zqk1 => k_asm); (case zqk2 => k_mem); (case zqk3 => exact Nat.le_trans (by assumption) (by decide))))); (k_with "eval ListComp" => (k_here; k_dflt (refine LCt.ListComp_T (F₀ := by k_asm) (by with_unfolding_all rfl) (by decide) (by rfl) (by decide) (by rfl) ?_))); (k_with "subscriptTail" => (k_here; (with_reducible show wpAny _ _ (subscriptTail _ _ (Value.ref _) (Value.int _ _)) _ _ _); k_dflt (refine' item_led ?zqk1 ?zqk2 ?zqk3 ?zqk4 ?zqk5 ?_; (case zqk1 => k_asm); (case zqk2 => k_mem); (case zqk5 => assumption); (case zqk3 => assumption); (case zqk4 => omega)))); (k_with "MINE in" => (refine' Frag.In.keeps ?zqk1 (Fr.keep ?zqk2); (case zqk2 => with_reducible assumption); (case zqk1 => with_reducible assumption))); (k_with "storeName" => (k_here; (try dsimp only); k_dflt (refine' storeX_L ?zqF ?zqN ?_ ?zqa ?zqb; (case zqF => k_asm); (case zqN => k_asm); (case zqa => rfl); (case zqb => rfl); k_whole); intro h' F' N'; (try k_sweep))); (k_with "setAttr ref" => (dsimp only; walk1)); (k_with "call ref" => (dsimp only; walk1)); (k_with "setItem ref str" => (dsimp only; walk1)); have hend := fun r n h t a b c => hret r n h t c a b; refine wpAny_call ?_
  walk_at "MINE enter"
  k_with "MINE call" => ((with_reducible show wpAny _ _ (call (Value.ref 153) _) _ _ _); (try (refine (?_ : wpAny _ _ _ _ _ _); k_fold)); k_dflt (refine' spec_use (opened_spec hr hsz hsep) ?zqk1 ?zqk2 ?zqk3 ?zqk4 ?zqk5 ?zqk6 ?zqk7 ?zqk8 ?_; (case zqk1 => k_asm); (case zqk2 => k_asm); (case zqk3 => k_asm); (case zqk4 => k_asm); (case zqk5 => k_asm); (case zqk6 => first | exact rfl | assumption); (case zqk7 => ktr_room); (case zqk8 => ktr_units); refine stop_of ?_))
  k_steps
  refine Stop.go ?_
  rintro r9 n9 h9 tk9 ⟨prs', lp', c', pa, pre, r, post, rfl, hpr, hpre, hrad, hrows, hsubp, rfl, hr', hS9⟩ F9 N9
  have hnd' : (prs'.map fun p => p.1.addr).Nodup := by
    rw [addr_map, hrows]
    exact opn_nodup (by rw [← addr_map]; exact hnd)
  have hr2 := hr'
  rw [hpr] at hr2
  obtain ⟨l₁, lr, l₂, rfl, hr1, hprw, hr3⟩ := Rows.at hr2
  clear hr2
  have hw := row_where (own := own2) hnd' hpr hr1 hr3 (hsubp _ hact)
  cases hprw with
  | mk hus hvv =>
  obtain ⟨N2, hS2⟩ := row_out (A := [_, _, _]) N9 hS9
  dsimp only [List.cons_append, List.nil_append] at N2 hS2
  generalize hTe : l₁ ++ (l₂ ++ own2) = T at N2 hS2 hw
  have hO := Sep.off (E := [_, _, _, _, _, _]) hS2
  dsimp only [List.map] at hO
  clear N9
  refine ap_elim (E := [_, _, _, _, _, _]) hS2 ?_
  dsimp only [Ap, NeP]
  intros
  rcases hw with ⟨rfl, rfl⟩ | ⟨hnea, lra, hpra, hlra⟩
  · skip
    k_steps
    all_goals (
      subst hTe
      subst hoe
      rename News h₀ L _ _ => N9
      rename (_ == Str.ofString "proven") = _ => q5
      rename (_ == Str.ofString "failed") = _ => q6
      refine (fun ⟨l', hP', N10, hS10⟩ => hend _ _ _ _ (by k_asm) N10 ⟨rfl, _, l', rfl, hP', by rw [upd_rows hpr hpre hrad, hrows], hS10⟩) (pside_of (σ := { σ with active := ad, back := bkOf σ (prs.map Prod.fst) }) (r2 := renew ra) N9 hS2 rfl hpr hr1 hr3 ?_ (List.mem_append_right _ (.head _)) hrad ?_)
      · first
        | (rw [show renew ra = { ra with st := Str.ofString "unproven" } from by rw [← renew_pos q6]]; exact .mk hus hvv)
        | (rw [show renew ra = ra from by unfold renew; rw [if_neg (fun z => by rw [z] at q6; simp at q6)]]; exact .mk hus hvv)
      · show BackIs _ _ (bkOf σ (prs.map Prod.fst))
        unfold bkOf
        rw [hst]
        first
        | (rw [if_pos (eq_of_beq q5)]; obtain ⟨q2, g1, g2⟩ := turned (r2 := renew ra) hpr rfl (hsubp _ hact); exact back_of g1 (g2.trans hra))
        | (rw [if_neg (fun z => by rw [z] at q5; simp at q5)]; exact back_turned (back_sub hback hsubp) hpr rfl))
  · cases hpra with
    | mk husA hvA =>
    have mA1 := hlra _ (.head _)
    have mA2 := hlra _ (.tail _ (.head _))
    clear hlra husA hvA
    k_steps
    all_goals (
      subst hTe
      subst hoe
      rename News h₀ L _ _ => N9
      rename (_ == Str.ofString "proven") = _ => q5
      rename (_ == Str.ofString "failed") = _ => q6
      refine (fun ⟨l', hP', N10, hS10⟩ => hend _ _ _ _ (by k_asm) N10 ⟨rfl, _, l', rfl, hP', by rw [upd_rows hpr hpre hrad, hrows], hS10⟩) (pside_of (σ := { σ with active := ad, back := bkOf σ (prs.map Prod.fst) }) (r2 := renew r) N9 hS2 rfl hpr hr1 hr3 ?_ (List.mem_append_right _ (.head _)) hrad ?_)
      · first
        | (rw [show renew r = { r with st := Str.ofString "unproven" } from by rw [← renew_pos q6]]; exact .mk hus hvv)
        | (rw [show renew r = r from by unfold renew; rw [if_neg (fun z => by rw [z] at q6; simp at q6)]]; exact .mk hus hvv)
      · show BackIs _ _ (bkOf σ (prs.map Prod.fst))
        unfold bkOf
        rw [hst]
        first
        | (rw [if_pos (eq_of_beq q5)]; obtain ⟨q2, g1, g2⟩ := turned (r2 := renew r) hpr rfl (hsubp _ hact); exact back_of g1 (g2.trans hra))
        | (rw [if_neg (fun z => by rw [z] at q5; simp at q5)]; exact back_turned (back_sub hback hsubp) hpr rfl))
end
section
theorem on_datagram_spec {w mean mg mb} {ps : Addr} {l own : Led} {prs : List (Rw × Addr)} {σ : St} {ad : Str} {size : Int} {t1 t2 : Tok}
    (hP : PSide w σ prs ps l) (hnd : (prs.map fun p => p.1.addr).Nodup) (hsz : prs.length ≤ 63) (hsep : Sep (l ++ own)) :
    SpecR w mean mg mb 8 60 160 [.ref ps, .str ad t1, .int size t2] (l ++ own)
      (fun r9 n => barB σ ad (prs.map Prod.fst) = false ∧ ∃ prs' l', n = l' ++ own ∧ PSide w σ prs' ps l' ∧ prs'.map Prod.fst = upd (isAt ad) (gotR size) (opn ad (prs.map Prod.fst)) ∧ Sep n)
      (barB σ ad (prs.map Prod.fst) = true) := by
  cases hP with
  | @mk pd kn an act last c c2 k0 k1 k2 k3 k4 k5 k6 tr th ra lp hr hact hra hback =>
  simp only [List.cons_append, List.append_assoc, List.nil_append] at hsep ⊢
  generalize hoe : (an, listOf #[] c2) :: own = own2 at *
  unfold SpecR; k_fill; intro dp un gd cn cs a ccd outer A₀ base h₀ L m sh sg sd st so Q E B F X N T9 hk hd hu hret href; have kM := kstMark; w_top off; k_with_none; (k_with "MINE enter" => (k_dflt (refine' code_def ?zqk1 ?zqk2 ?zqk3 ?zqk4 ?zqk5 ?zqkA ?zqkF ?zqkK ?zqk6 ?zqk7 ?zqk8 ?zqk9 ?zqkB ?_ ?zqc2 ?zqc3 ?zqc4 ?zqc5; (case zqkA => exact rfl); (case zqkF => exact rfl); (case zqkK => first | exact rfl | assumption); (case zqk1 => k_asm); (case zqk2 => k_asm); (case zqk3 => k_asm); (case zqk4 => k_asm); (case zqk5 => k_asm); (case zqk6 => k_is); (case zqk7 => k_is); (case zqk8 => ktr_room); (case zqk9 => first | exact BindsTo.of_eq (binds := [(_, _)]) rfl | exact BindsTo.of_eq (binds := [(_, _), (_, _)]) rfl | exact BindsTo.of_eq (binds := [(_, _), (_, _), (_, _)]) rfl | exact BindsTo.of_eq (binds := [(_, _), (_, _), (_, _), (_, _)]) rfl | exact BindsTo.of_eq rfl); (case zqc5 => decide); (case zqkB => exact locs rfl); (case zqc2 => exact rfl); (case zqc3 => exact rfl); (case zqc4 => exact rfl); k_whole; intro g' L' h' FG' F' N' B' X' T'; (try dsimp only); (try k_lift B'); (try k_fold)))); (k_with "call ref" => (k_here; first | k_extra "MINE call" | (refine wpAny_call ?_; walk_at "MINE enter"))); (k_with "call ref" => (k_here; k_dflt (refine' call_cls ?zqk1 ?zqk2 ?zqk3 ?zqk4 ?zqk5 ?zqk6 ?_; (case zqk1 => k_asm); (case zqk2 => k_asm); (case zqk3 => k_asm); (case zqk4 => k_is); (case zqk5 => k_is); (case zqk6 => k_is); k_whole; intro x' d' h' F' N' l1 l2; (try k_lt l1); (try k_lt2 l2); (try k_sweep)); walk_at "MINE enter")); (k_with "TPost" => dsimp only [TPost]); (k_with "MINE enterC" => (k_dflt (refine' code_defC ?zqk1 ?zqk2 ?zqk3 ?zqk4 ?zqk5 ?zqkA ?zqkF ?zqkK ?zqk6 ?zqk7 ?zqk8 ?zqk9 ?zqkB ?zqkD ?_ ?zqc2 ?zqc3 ?zqc4; (case zqkA => exact rfl); (case zqkF => exact rfl); (case zqkK => first | exact rfl | assumption); (case zqk1 => k_asm); (case zqk2 => k_asm); (case zqk3 => k_asm); (case zqk4 => k_asm); (case zqk5 => k_asm); (case zqk6 => k_is); (case zqk7 => k_is); (case zqk8 => ktr_room); (case zqk9 => first | exact BindsTo.of_eq (binds := [(_, _)]) rfl | exact BindsTo.of_eq (binds := [(_, _), (_, _)]) rfl | exact BindsTo.of_eq (binds := [(_, _), (_, _), (_, _)]) rfl | exact BindsTo.of_eq (binds := [(_, _), (_, _), (_, _), (_, _)]) rfl | exact BindsTo.of_eq rfl); (case zqkB => exact rfl); (case zqkD => decide +kernel); (case zqc2 => exact rfl); (case zqc3 => exact rfl); (case zqc4 => exact rfl); k_whole; intro g' L' h' tk' cells' FG' F' N' Y' B' X' T' l1; k_cells Y'; (try simp only [List.cons_append, List.nil_append] at N'); (try dsimp only); (try k_lift B'); (try k_fold)))); (k_with "exec Assign cons ListComp" => (k_here; k_dflt (refine LCt.Assign_ListComp_T (F₀ := by k_asm) (by rfl) (by with_unfolding_all rfl) (by with_unfolding_all rfl) (by decide) (by rfl) (by decide) (by rfl) (by rfl) (by rfl) ?_))); (k_with "subscriptTail" => (k_here; (with_reducible show wpAny _ _ (subscriptTail _ _ (Value.ref _) (Value.str _ _)) _ _ _); k_dflt (refine' kda_item (knd := PySem.strKind _ _) ?zqk1 ?zqk2 ?zqk3 (strKind_is _ _ _ _) ?zqk4 ?_; (case zqk1 => k_asm); (case zqk2 => k_mem); (case zqk3 => assumption); (case zqk4 => rfl); k_whole))); (k_with "setItem ref str" => (k_here; k_dflt (refine' kda_set (knd := PySem.strKind _ _) ?zqF ?zqN ?zqU ?zqd (strKind_is _ _ _ _) ?zqz ?_; (case zqF => k_asm); (case zqN => k_asm); (case zqU => k_updF); (case zqd => assumption); (case zqz => kob_size)); intro h' o' F' N' hd'; (try kob_lit); (try dsimp only at N'); (try dsimp only); (try k_gentoks))); (k_with "compareOp NotEq ref ref" => (k_here; k_dflt (refine' ne_nil ?zqk1 ?zqk2 ?zqk3 ?zqk4 ?_; (case zqk1 => k_asm); (case zqk2 => k_mem); (case zqk3 => k_mem); (case zqk4 => ktr_units)); (try dsimp only [List.isEmpty, Bool.not_true, Bool.not_false, List.map]))); (k_with "MINE ne" => (refine neN ?_; (try dsimp only); first | exact NeA.ne (by assumption) | exact (NeA.ne (by assumption)).symm | omega)); (k_with "compareOp In bytes ref" => (k_here; k_dflt (refine' in_bytes ?zqk1 ?zqk2 ?zqk3 ?_; (case zqk1 => k_asm); (case zqk2 => k_mem); (case zqk3 => assumption)))); (k_with "exec Raise some none" => (k_here; k_dflt (refine' Raise_38 ?zqk1 ?zqk2 ?_; (case zqk1 => k_asm); (case zqk2 => first | rfl | assumption)))); (k_with "call ref" => (k_here; (with_reducible show wpAny _ _ (call (Value.ref 38) _) _ _ _); k_dflt (refine' call_refuse ?zqk1 ?zqk2 ?zqk3 ?_; (case zqk1 => k_asm); (case zqk2 => k_asm); (case zqk3 => k_asm); k_whole); intro e38 t38 h38 F38 N38 hap38 hne38; refine wpAny_call ?_; walk_at "MINE enter")); (k_with "getMethod type:Exception" => (k_here; refine' method_type ?zqF ?zqX ?zqm (by decide +kernel) ?zqe ?zqh ?_; (case zqF => k_asm); (case zqX => k_asm); (case zqm => kernel_rfl); (case zqe => k_dflt k_is); (case zqh => k_handed))); (k_with "call builtin:Exception.__init__" => (k_here; k_dflt (refine' init_w ?zqk1 ?zqk2 ?zqk3 ?zqk4 ?_; (case zqk1 => k_asm); (case zqk2 => k_asm); (case zqk3 => k_asm); (case zqk4 => exact per_e (by assumption) (by assumption)); k_whole); intro h39 t39 F39 N39 hap39 hne39)); (k_with "setAttr ref" => (k_here; (with_reducible show wpAny _ _ (setAttr (Value.ref _) (PySem.Str.ofString "text") _) _ _ _); k_dflt (refine' text_w ?zqk1 ?zqk2 ?zqk3 ?zqk4 ?_; (case zqk1 => k_asm); (case zqk2 => k_asm); (case zqk3 => k_asm); (case zqk4 => exact per_t (by assumption) (by assumption) (by assumption)); k_whole); intro h40 tk40 o40 F40 N40 hc40 hd40)); (k_with "Refusing" => ((rename News _ _ _ (_ :: (_, tupO _) :: _ :: _) => N41); (rename (_ = Data.fields _) => hd41); refine ⟨_, _, _, rfl, Fr.keep (by k_asm), (N41 _ (.head _)).1, by assumption, hd41, ?_⟩)); (k_with "leaving ref" => (k_here; (rename News _ _ _ (_ :: (_, tupO _) :: _ :: _) => N41); (rename (_ = Data.fields _) => hd41); k_dflt (refine' leave_x ?zqk1 ?zqk2 (vs := [_]) N41 ?zqk4 ?zqk5 hd41 ?_; (case zqk1 => assumption); (case zqk2 => k_asm); (case zqk4 => exact per_b (by assumption) (by assumption) (by assumption)); (case zqk5 => assumption); k_whole); intro h42 R42 U42)); (k_with "MINE enterS" => (k_dflt (refine' code_defT ?zqk1 ?zqk2 ?zqk3 ?zqk4 ?zqk5 ?zqkXB ?zqkTB ?zqkD ?zqkA ?zqkF ?zqkK ?zqk6 ?zqk7 ?zqk8 ?zqk9 ?zqkB ?_ ?zqc2 ?zqc3 ?zqc4 ?zqc5; (case zqkA => exact rfl); (case zqkF => exact rfl); (case zqkK => first | exact rfl | assumption); (case zqk1 => k_asm); (case zqk2 => k_asm); (case zqk3 => k_asm); (case zqk4 => k_asm); (case zqk5 => k_asm); (case zqkXB => assumption); (case zqkTB => assumption); (case zqkD => assumption); (case zqk6 => k_is); (case zqk7 => k_is); (case zqk8 => ktr_room); (case zqk9 => first | exact BindsTo.of_eq (binds := [(_, _)]) rfl | exact BindsTo.of_eq (binds := [(_, _), (_, _)]) rfl | exact BindsTo.of_eq (binds := [(_, _), (_, _), (_, _)]) rfl | exact BindsTo.of_eq (binds := [(_, _), (_, _), (_, _), (_, _)]) rfl | exact BindsTo.of_eq rfl); (case zqc5 => decide); (case zqkB => exact locs rfl); (case zqc2 => exact rfl); (case zqc3 => exact rfl); (case zqc4 => exact rfl); k_whole; intro g' L' h' FG' F' N' B' X' T' D'; (try dsimp only); (try k_lift B'); (try k_fold)))); (k_with "exec For Name Subscript cons nil" => (k_here; (rename Fr _ _ _ _ => lF'); (with_unfolding_all refine' For_invVF lF' ?zqk1 ?zqk2 ?_; (case zqk1 => exact rfl); (case zqk2 => exact rfl); k_whole))); (k_with "compareOp In none ref" => (k_here; k_dflt (refine' none_in_pair ?zqk1 ?zqk2 ?_; (case zqk1 => k_asm); (case zqk2 => k_mem)))); (k_with "compareOp In str ref" => (k_here; k_dflt (refine' str_in_pair ?zqk1 ?zqk2 ?_; (case zqk1 => k_asm); (case zqk2 => k_mem)))); (k_with "compareOp Eq ref ref" => (k_here; k_dflt (refine' eq_nil ?zqk1 ?zqk2 ?zqk3 ?zqk4 ?_; (case zqk1 => k_asm); (case zqk2 => k_mem); (case zqk3 => k_mem); (case zqk4 => ktr_units)); (try dsimp only [List.isEmpty, List.map]))); (k_with "call builtin:len" => (k_here; (with_reducible show wpAny _ _ (call (Value.builtin "len") [Value.ref _]) _ _ _); k_dflt (refine' len_led ?zqk1 ?zqk2 ?zqk3 ?_; (case zqk1 => k_asm); (case zqk2 => k_mem); (case zqk3 => exact Nat.le_trans (by assumption) (by decide))))); (k_with "eval ListComp" => (k_here; k_dflt (refine LCt.ListComp_T (F₀ := by k_asm) (by with_unfolding_all rfl) (by decide) (by rfl) (by decide) (by rfl) ?_))); (k_with "subscriptTail" => (k_here; (with_reducible show wpAny _ _ (subscriptTail _ _ (Value.ref _) (Value.int _ _)) _ _ _); k_dflt (refine' item_led ?zqk1 ?zqk2 ?zqk3 ?zqk4 ?zqk5 ?_; (case zqk1 => k_asm); (case zqk2 => k_mem); (case zqk5 => assumption); (case zqk3 => assumption); (case zqk4 => omega)))); (k_with "MINE in" => (refine' Frag.In.keeps ?zqk1 (Fr.keep ?zqk2); (case zqk2 => with_reducible assumption); (case zqk1 => with_reducible assumption))); (k_with "storeName" => (k_here; (try dsimp only); k_dflt (refine' storeX_L ?zqF ?zqN ?_ ?zqa ?zqb; (case zqF => k_asm); (case zqN => k_asm); (case zqa => rfl); (case zqb => rfl); k_whole); intro h' F' N'; (try k_sweep))); (k_with "setAttr ref" => (dsimp only; walk1)); (k_with "call ref" => (dsimp only; walk1)); (k_with "setItem ref str" => (dsimp only; walk1)); have hend := fun r n h t a b c => hret r n h t c a b; refine wpAny_call ?_
  walk_at "MINE enter"
  have hk3 : (kn, listOf (prs.map fun p => Value.ref p.2).toArray c) ∈ (ps, instObj 224 pd) :: (pd, pathsO w k0 k1 k2 k3 k4 k5 k6 (.str σ.role tr) (.bool σ.may) (.ref kn) (.ref act) last (.int σ.top th) (.ref an)) :: (kn, listOf (prs.map fun p => Value.ref p.2).toArray c) :: (lp ++ own2) := .tail _ (.tail _ (.head _))
  have hs3 : ∀ p ∈ lp, p ∈ (ps, instObj 224 pd) :: (pd, pathsO w k0 k1 k2 k3 k4 k5 k6 (.str σ.role tr) (.bool σ.may) (.ref kn) (.ref act) last (.int σ.top th) (.ref an)) :: (kn, listOf (prs.map fun p => Value.ref p.2).toArray c) :: (lp ++ own2) := fun p hp => .tail _ (.tail _ (.tail _ (List.mem_append_left _ hp)))
  k_with "MINE call" => ((with_reducible show wpAny _ _ (call (Value.ref 146) _) _ _ _); (try (refine (?_ : wpAny _ _ _ _ _ _); k_fold)); k_dflt (refine' path_any ?zqh1 ?zqh2 hk3 hr hs3 ?zqk1 ?zqk2 ?zqk3 ?zqk4 ?zqk5 ?zqk6 ?zqk7 ?zqk8 ?_ ?_; (case zqk1 => k_asm); (case zqk2 => k_asm); (case zqk3 => k_asm); (case zqk4 => k_asm); (case zqk5 => k_asm); (case zqk6 => first | exact rfl | assumption); (case zqk7 => ktr_room); (case zqk8 => ktr_units); (case zqh1 => k_mem); (case zqh2 => k_mem); all_goals refine stop_of ?_))
  k_steps
  · refine Stop.go ?_
    intro r pa pre post h9 tk9 hpr hpre hpa F9 N9
    have hbar : barB σ ad (prs.map Prod.fst) = false := bar_in ⟨_, by rw [hpr]; exact List.mem_append_right _ (.head _), hpa⟩
    clear hpr hpa hpre
    k_with "MINE call" => ((with_reducible show wpAny _ _ (call (Value.ref 153) _) _ _ _); (try (refine (?_ : wpAny _ _ _ _ _ _); k_fold)); k_dflt (refine' spec_use (opened_spec hr hsz hsep) ?zqk1 ?zqk2 ?zqk3 ?zqk4 ?zqk5 ?zqk6 ?zqk7 ?zqk8 ?_; (case zqk1 => k_asm); (case zqk2 => k_asm); (case zqk3 => k_asm); (case zqk4 => k_asm); (case zqk5 => k_asm); (case zqk6 => first | exact rfl | assumption); (case zqk7 => ktr_room); (case zqk8 => ktr_units); refine stop_of ?_))
    k_steps
    refine Stop.go ?_
    rintro r9 n9 h9 tk9 ⟨prs', lp', c', pa2, pre2, r2, post2, rfl, hpr2, hpre2, hrad2, hrows2, hsubp, rfl, hr', hS9⟩ F9 N9
    have hr2 := hr'
    rw [hpr2] at hr2
    obtain ⟨l₁, lr, l₂, rfl, hr1, hprw, hr3⟩ := Rows.at hr2
    clear hr2
    cases hprw with
    | mk hus hvv =>
    obtain ⟨N2, hS2⟩ := row_out (A := [_, _, _]) N9 hS9
    dsimp only [List.cons_append, List.nil_append] at N2 hS2
    generalize hTe : l₁ ++ (l₂ ++ own2) = T at N2 hS2
    have hO := Sep.off (E := [_, _, _, _, _, _]) hS2
    dsimp only [List.map] at hO
    clear N9
    refine ap_elim (E := [_, _, _, _, _, _]) hS2 ?_
    dsimp only [Ap, NeP]
    intros
    k_steps
    subst hTe
    subst hoe
    rename News h₀ L _ _ => N10
    obtain ⟨q2, g1, g2⟩ := turned (r2 := gotR size r2) hpr2 rfl (hsubp _ hact)
    obtain ⟨l', hP', N11, hS11⟩ := pside_of (σ := σ) (r2 := gotR size r2) N10 hS2 rfl hpr2 hr1 hr3 (.mk hus hvv) g1 (g2.trans hra) (back_turned (back_sub hback hsubp) hpr2 rfl)
    exact hend _ _ _ _ (by k_asm) N11 ⟨hbar, _, l', rfl, hP', by rw [upd_rows hpr2 hpre2 hrad2, hrows2], hS11⟩
  · refine Stop.go ?_
    intro hno h9 tk9 F9 N9
    k_with "MINE call" => ((with_reducible show wpAny _ _ (call (Value.ref 153) _) _ _ _); (try (refine (?_ : wpAny _ _ _ _ _ _); k_fold)); k_dflt (refine' spec_use (opened_spec hr hsz hsep) ?zqk1 ?zqk2 ?zqk3 ?zqk4 ?zqk5 ?zqk6 ?zqk7 ?zqk8 ?_; (case zqk1 => k_asm); (case zqk2 => k_asm); (case zqk3 => k_asm); (case zqk4 => k_asm); (case zqk5 => k_asm); (case zqk6 => first | exact rfl | assumption); (case zqk7 => ktr_room); (case zqk8 => ktr_units); refine stop_of ?_))
    k_steps
    · rename RaisedS _ _ _ _ _ _ _ _ _ => R9
      exact href _ _ _ _ _ _ (bar_pos1 hno (by assumption)) (by k_asm) (Mine.RaisedS.sub R9 fun q hq => .tail _ hq) (by assumption)
    · have hbar : barB σ ad (prs.map Prod.fst) = false := bar_neg (by assumption) (by assumption)
      refine Stop.go ?_
      rintro r9 n9 h9 tk9 ⟨prs', lp', c', pa2, pre2, r2, post2, rfl, hpr2, hpre2, hrad2, hrows2, hsubp, rfl, hr', hS9⟩ F9 N9
      have hr2 := hr'
      rw [hpr2] at hr2
      obtain ⟨l₁, lr, l₂, rfl, hr1, hprw, hr3⟩ := Rows.at hr2
      clear hr2
      cases hprw with
      | mk hus hvv =>
      obtain ⟨N2, hS2⟩ := row_out (A := [_, _, _]) N9 hS9
      dsimp only [List.cons_append, List.nil_append] at N2 hS2
      generalize hTe : l₁ ++ (l₂ ++ own2) = T at N2 hS2
      have hO := Sep.off (E := [_, _, _, _, _, _]) hS2
      dsimp only [List.map] at hO
      clear N9
      refine ap_elim (E := [_, _, _, _, _, _]) hS2 ?_
      dsimp only [Ap, NeP]
      intros
      k_steps
      subst hTe
      subst hoe
      rename News h₀ L _ _ => N10
      obtain ⟨q2, g1, g2⟩ := turned (r2 := gotR size r2) hpr2 rfl (hsubp _ hact)
      obtain ⟨l', hP', N11, hS11⟩ := pside_of (σ := σ) (r2 := gotR size r2) N10 hS2 rfl hpr2 hr1 hr3 (.mk hus hvv) g1 (g2.trans hra) (back_turned (back_sub hback hsubp) hpr2 rfl)
      exact hend _ _ _ _ (by k_asm) N11 ⟨hbar, _, l', rfl, hP', by rw [upd_rows hpr2 hpre2 hrad2, hrows2], hS11⟩
    · rename RaisedS _ _ _ _ _ _ _ _ _ => R9
      exact href _ _ _ _ _ _ (bar_pos2 hno (by assumption) (by assumption)) (by k_asm) (Mine.RaisedS.sub R9 fun q hq => .tail _ hq) (by assumption)
end
section
theorem law_datagram_spec {w mean mg mb} {wd ps : Addr} {l own : Led} {rows : List Rw} {σ : St} {ad : Str} {size : Int} {t1 t2 : Tok} {k : Nat}
    (hB : Both w wd ps σ rows l) (hF : Fine k σ rows) (hk60 : k ≤ 60) (hsep : Sep (l ++ own)) :
    SpecS w mean mg mb 12 120 266 [.ref wd, .ref ps, .str ad t1, .int size t2] (l ++ own)
      (fun r9 n => r9 = .bool true ∧ ∃ σ' rows' l', n = l' ++ own ∧ Both w wd ps σ' rows' l' ∧ Fine (k + 1) σ' rows' ∧ Sep n) := by
  cases hB with
  | @mk lrs prs ll lp hL hP hl hp =>
  have hnd := nd_of hF.nd hp
  have hlenP : prs.length ≤ 63 := len_of (Nat.le_trans hF.len (by omega)) hp
  have hlenL : lrs.length ≤ 63 := len_of (Nat.le_trans hF.len (by omega)) hl
  cases hL with
  | @mk o rl al us c c2 vb tr ta tt ts tn ll' ho hb hus hr =>
  have hP2 := hP
  cases hP with
  | @mk pd kn an act last c3 c4 k0 k1 k2 k3 k4 k5 k6 tr2 th ra2 lp' hr2 hact hra2 hback =>
  unfold SpecS; k_fill; intro dp un gd cn cs a ccd cl outer A₀ base h₀ L m sh sg sd st so Q E B F X N T9 XB TB D9 hk hd hu hret; have kM := kstMark; w_top off; k_with_none; (k_with "MINE enter" => (k_dflt (refine' code_def ?zqk1 ?zqk2 ?zqk3 ?zqk4 ?zqk5 ?zqkA ?zqkF ?zqkK ?zqk6 ?zqk7 ?zqk8 ?zqk9 ?zqkB ?_ ?zqc2 ?zqc3 ?zqc4 ?zqc5; (case zqkA => exact rfl); (case zqkF => exact rfl); (case zqkK => first | exact rfl | assumption); (case zqk1 => k_asm); (case zqk2 => k_asm); (case zqk3 => k_asm); (case zqk4 => k_asm); (case zqk5 => k_asm); (case zqk6 => k_is); (case zqk7 => k_is); (case zqk8 => ktr_room); (case zqk9 => first | exact BindsTo.of_eq (binds := [(_, _)]) rfl | exact BindsTo.of_eq (binds := [(_, _), (_, _)]) rfl | exact BindsTo.of_eq (binds := [(_, _), (_, _), (_, _)]) rfl | exact BindsTo.of_eq (binds := [(_, _), (_, _), (_, _), (_, _)]) rfl | exact BindsTo.of_eq rfl); (case zqc5 => decide); (case zqkB => exact locs rfl); (case zqc2 => exact rfl); (case zqc3 => exact rfl); (case zqc4 => exact rfl); k_whole; intro g' L' h' FG' F' N' B' X' T'; (try dsimp only); (try k_lift B'); (try k_fold)))); (k_with "call ref" => (k_here; first | k_extra "MINE call" | (refine wpAny_call ?_; walk_at "MINE enter"))); (k_with "call ref" => (k_here; k_dflt (refine' call_cls ?zqk1 ?zqk2 ?zqk3 ?zqk4 ?zqk5 ?zqk6 ?_; (case zqk1 => k_asm); (case zqk2 => k_asm); (case zqk3 => k_asm); (case zqk4 => k_is); (case zqk5 => k_is); (case zqk6 => k_is); k_whole; intro x' d' h' F' N' l1 l2; (try k_lt l1); (try k_lt2 l2); (try k_sweep)); walk_at "MINE enter")); (k_with "TPost" => dsimp only [TPost]); (k_with "MINE enterC" => (k_dflt (refine' code_defC ?zqk1 ?zqk2 ?zqk3 ?zqk4 ?zqk5 ?zqkA ?zqkF ?zqkK ?zqk6 ?zqk7 ?zqk8 ?zqk9 ?zqkB ?zqkD ?_ ?zqc2 ?zqc3 ?zqc4; (case zqkA => exact rfl); (case zqkF => exact rfl); (case zqkK => first | exact rfl | assumption); (case zqk1 => k_asm); (case zqk2 => k_asm); (case zqk3 => k_asm); (case zqk4 => k_asm); (case zqk5 => k_asm); (case zqk6 => k_is); (case zqk7 => k_is); (case zqk8 => ktr_room); (case zqk9 => first | exact BindsTo.of_eq (binds := [(_, _)]) rfl | exact BindsTo.of_eq (binds := [(_, _), (_, _)]) rfl | exact BindsTo.of_eq (binds := [(_, _), (_, _), (_, _)]) rfl | exact BindsTo.of_eq (binds := [(_, _), (_, _), (_, _), (_, _)]) rfl | exact BindsTo.of_eq rfl); (case zqkB => exact rfl); (case zqkD => decide +kernel); (case zqc2 => exact rfl); (case zqc3 => exact rfl); (case zqc4 => exact rfl); k_whole; intro g' L' h' tk' cells' FG' F' N' Y' B' X' T' l1; k_cells Y'; (try simp only [List.cons_append, List.nil_append] at N'); (try dsimp only); (try k_lift B'); (try k_fold)))); (k_with "exec Assign cons ListComp" => (k_here; k_dflt (refine LCt.Assign_ListComp_T (F₀ := by k_asm) (by rfl) (by with_unfolding_all rfl) (by with_unfolding_all rfl) (by decide) (by rfl) (by decide) (by rfl) (by rfl) (by rfl) ?_))); (k_with "subscriptTail" => (k_here; (with_reducible show wpAny _ _ (subscriptTail _ _ (Value.ref _) (Value.str _ _)) _ _ _); k_dflt (refine' kda_item (knd := PySem.strKind _ _) ?zqk1 ?zqk2 ?zqk3 (strKind_is _ _ _ _) ?zqk4 ?_; (case zqk1 => k_asm); (case zqk2 => k_mem); (case zqk3 => assumption); (case zqk4 => rfl); k_whole))); (k_with "setItem ref str" => (k_here; k_dflt (refine' kda_set (knd := PySem.strKind _ _) ?zqF ?zqN ?zqU ?zqd (strKind_is _ _ _ _) ?zqz ?_; (case zqF => k_asm); (case zqN => k_asm); (case zqU => k_updF); (case zqd => assumption); (case zqz => kob_size)); intro h' o' F' N' hd'; (try kob_lit); (try dsimp only at N'); (try dsimp only); (try k_gentoks))); (k_with "compareOp NotEq ref ref" => (k_here; k_dflt (refine' ne_nil ?zqk1 ?zqk2 ?zqk3 ?zqk4 ?_; (case zqk1 => k_asm); (case zqk2 => k_mem); (case zqk3 => k_mem); (case zqk4 => ktr_units)); (try dsimp only [List.isEmpty, Bool.not_true, Bool.not_false, List.map]))); (k_with "MINE ne" => (refine neN ?_; (try dsimp only); first | exact NeA.ne (by assumption) | exact (NeA.ne (by assumption)).symm | omega)); (k_with "compareOp In bytes ref" => (k_here; k_dflt (refine' in_bytes ?zqk1 ?zqk2 ?zqk3 ?_; (case zqk1 => k_asm); (case zqk2 => k_mem); (case zqk3 => assumption)))); (k_with "exec Raise some none" => (k_here; k_dflt (refine' Raise_38 ?zqk1 ?zqk2 ?_; (case zqk1 => k_asm); (case zqk2 => first | rfl | assumption)))); (k_with "call ref" => (k_here; (with_reducible show wpAny _ _ (call (Value.ref 38) _) _ _ _); k_dflt (refine' call_refuse ?zqk1 ?zqk2 ?zqk3 ?_; (case zqk1 => k_asm); (case zqk2 => k_asm); (case zqk3 => k_asm); k_whole); intro e38 t38 h38 F38 N38 hap38 hne38; refine wpAny_call ?_; walk_at "MINE enter")); (k_with "getMethod type:Exception" => (k_here; refine' method_type ?zqF ?zqX ?zqm (by decide +kernel) ?zqe ?zqh ?_; (case zqF => k_asm); (case zqX => k_asm); (case zqm => kernel_rfl); (case zqe => k_dflt k_is); (case zqh => k_handed))); (k_with "call builtin:Exception.__init__" => (k_here; k_dflt (refine' init_w ?zqk1 ?zqk2 ?zqk3 ?zqk4 ?_; (case zqk1 => k_asm); (case zqk2 => k_asm); (case zqk3 => k_asm); (case zqk4 => exact per_e (by assumption) (by assumption)); k_whole); intro h39 t39 F39 N39 hap39 hne39)); (k_with "setAttr ref" => (k_here; (with_reducible show wpAny _ _ (setAttr (Value.ref _) (PySem.Str.ofString "text") _) _ _ _); k_dflt (refine' text_w ?zqk1 ?zqk2 ?zqk3 ?zqk4 ?_; (case zqk1 => k_asm); (case zqk2 => k_asm); (case zqk3 => k_asm); (case zqk4 => exact per_t (by assumption) (by assumption) (by assumption)); k_whole); intro h40 tk40 o40 F40 N40 hc40 hd40)); (k_with "Refusing" => ((rename News _ _ _ (_ :: (_, tupO _) :: _ :: _) => N41); (rename (_ = Data.fields _) => hd41); refine ⟨_, _, _, rfl, Fr.keep (by k_asm), (N41 _ (.head _)).1, by assumption, hd41, ?_⟩)); (k_with "leaving ref" => (k_here; (rename News _ _ _ (_ :: (_, tupO _) :: _ :: _) => N41); (rename (_ = Data.fields _) => hd41); k_dflt (refine' leave_x ?zqk1 ?zqk2 (vs := [_]) N41 ?zqk4 ?zqk5 hd41 ?_; (case zqk1 => assumption); (case zqk2 => k_asm); (case zqk4 => exact per_b (by assumption) (by assumption) (by assumption)); (case zqk5 => assumption); k_whole); intro h42 R42 U42)); (k_with "MINE enterS" => (k_dflt (refine' code_defT ?zqk1 ?zqk2 ?zqk3 ?zqk4 ?zqk5 ?zqkXB ?zqkTB ?zqkD ?zqkA ?zqkF ?zqkK ?zqk6 ?zqk7 ?zqk8 ?zqk9 ?zqkB ?_ ?zqc2 ?zqc3 ?zqc4 ?zqc5; (case zqkA => exact rfl); (case zqkF => exact rfl); (case zqkK => first | exact rfl | assumption); (case zqk1 => k_asm); (case zqk2 => k_asm); (case zqk3 => k_asm); (case zqk4 => k_asm); (case zqk5 => k_asm); (case zqkXB => assumption); (case zqkTB => assumption); (case zqkD => assumption); (case zqk6 => k_is); (case zqk7 => k_is); (case zqk8 => ktr_room); (case zqk9 => first | exact BindsTo.of_eq (binds := [(_, _)]) rfl | exact BindsTo.of_eq (binds := [(_, _), (_, _)]) rfl | exact BindsTo.of_eq (binds := [(_, _), (_, _), (_, _)]) rfl | exact BindsTo.of_eq (binds := [(_, _), (_, _), (_, _), (_, _)]) rfl | exact BindsTo.of_eq rfl); (case zqc5 => decide); (case zqkB => exact locs rfl); (case zqc2 => exact rfl); (case zqc3 => exact rfl); (case zqc4 => exact rfl); k_whole; intro g' L' h' FG' F' N' B' X' T' D'; (try dsimp only); (try k_lift B'); (try k_fold)))); (k_with "exec For Name Subscript cons nil" => (k_here; (rename Fr _ _ _ _ => lF'); (with_unfolding_all refine' For_invVF lF' ?zqk1 ?zqk2 ?_; (case zqk1 => exact rfl); (case zqk2 => exact rfl); k_whole))); (k_with "compareOp In none ref" => (k_here; k_dflt (refine' none_in_pair ?zqk1 ?zqk2 ?_; (case zqk1 => k_asm); (case zqk2 => k_mem)))); (k_with "compareOp In str ref" => (k_here; k_dflt (refine' str_in_pair ?zqk1 ?zqk2 ?_; (case zqk1 => k_asm); (case zqk2 => k_mem)))); (k_with "compareOp Eq ref ref" => (k_here; k_dflt (refine' eq_nil ?zqk1 ?zqk2 ?zqk3 ?zqk4 ?_; (case zqk1 => k_asm); (case zqk2 => k_mem); (case zqk3 => k_mem); (case zqk4 => ktr_units)); (try dsimp only [List.isEmpty, List.map]))); (k_with "call builtin:len" => (k_here; (with_reducible show wpAny _ _ (call (Value.builtin "len") [Value.ref _]) _ _ _); k_dflt (refine' len_led ?zqk1 ?zqk2 ?zqk3 ?_; (case zqk1 => k_asm); (case zqk2 => k_mem); (case zqk3 => exact Nat.le_trans (by assumption) (by decide))))); (k_with "eval ListComp" => (k_here; k_dflt (refine LCt.ListComp_T (F₀ := by k_asm) (by with_unfolding_all rfl) (by decide) (by rfl) (by decide) (by rfl) ?_))); (k_with "subscriptTail" => (k_here; (with_reducible show wpAny _ _ (subscriptTail _ _ (Value.ref _) (Value.int _ _)) _ _ _); k_dflt (refine' item_led ?zqk1 ?zqk2 ?zqk3 ?zqk4 ?zqk5 ?_; (case zqk1 => k_asm); (case zqk2 => k_mem); (case zqk5 => assumption); (case zqk3 => assumption); (case zqk4 => omega)))); (k_with "MINE in" => (refine' Frag.In.keeps ?zqk1 (Fr.keep ?zqk2); (case zqk2 => with_reducible assumption); (case zqk1 => with_reducible assumption))); (k_with "storeName" => (k_here; (try dsimp only); k_dflt (refine' storeX_L ?zqF ?zqN ?_ ?zqa ?zqb; (case zqF => k_asm); (case zqN => k_asm); (case zqa => rfl); (case zqb => rfl); k_whole); intro h' F' N'; (try k_sweep))); (k_with "setAttr ref" => (dsimp only; walk1)); (k_with "call ref" => (dsimp only; walk1)); (k_with "setItem ref str" => (dsimp only; walk1)); refine wpAny_call ?_
  have hperm := both_perm (wd, o) (rl, listOf (lrs.map fun p => Value.ref p.2).toArray c) (al, listOf us.toArray c2) ll' (ps, instObj 224 pd) (pd, pathsO w k0 k1 k2 k3 k4 k5 k6 (.str σ.role tr2) (.bool σ.may) (.ref kn) (.ref act) last (.int σ.top th) (.ref an)) (kn, listOf (prs.map fun p => Value.ref p.2).toArray c3) lp' (an, listOf #[] c4) own
  replace N := news_sub N fun p hp => hperm.mem_iff.mpr hp
  have hsep2 := hsep.perm hperm
  generalize hoe : (an, listOf #[] c4) :: own = own2 at N hsep2
  walk_at "MINE enterS"
  have hk1 : (wd, o) ∈ (wd, o) :: (rl, listOf (lrs.map fun p => Value.ref p.2).toArray c) :: (al, listOf us.toArray c2) :: (ps, instObj 224 pd) :: (pd, pathsO w k0 k1 k2 k3 k4 k5 k6 (.str σ.role tr2) (.bool σ.may) (.ref kn) (.ref act) last (.int σ.top th) (.ref an)) :: (kn, listOf (prs.map fun p => Value.ref p.2).toArray c3) :: (ll' ++ (lp' ++ own2)) := .head _
  have hk3 : (rl, listOf (lrs.map fun p => Value.ref p.2).toArray c) ∈ (wd, o) :: (rl, listOf (lrs.map fun p => Value.ref p.2).toArray c) :: (al, listOf us.toArray c2) :: (ps, instObj 224 pd) :: (pd, pathsO w k0 k1 k2 k3 k4 k5 k6 (.str σ.role tr2) (.bool σ.may) (.ref kn) (.ref act) last (.int σ.top th) (.ref an)) :: (kn, listOf (prs.map fun p => Value.ref p.2).toArray c3) :: (ll' ++ (lp' ++ own2)) := .tail _ (.head _)
  have hs3 : ∀ p ∈ ll', p ∈ (wd, o) :: (rl, listOf (lrs.map fun p => Value.ref p.2).toArray c) :: (al, listOf us.toArray c2) :: (ps, instObj 224 pd) :: (pd, pathsO w k0 k1 k2 k3 k4 k5 k6 (.str σ.role tr2) (.bool σ.may) (.ref kn) (.ref act) last (.int σ.top th) (.ref an)) :: (kn, listOf (prs.map fun p => Value.ref p.2).toArray c3) :: (ll' ++ (lp' ++ own2)) := fun p hp => .tail _ (.tail _ (.tail _ (.tail _ (.tail _ (.tail _ (List.mem_append_left _ hp))))))
  k_with "MINE call" => ((with_reducible show wpAny _ _ (call (Value.ref 252) _) _ _ _); (try (refine (?_ : wpAny _ _ _ _ _ _); k_fold)); k_dflt (refine' spec_use (law_of_spec hk1 ho hk3 hr hs3 hlenL) ?zqk1 ?zqk2 ?zqk3 ?zqk4 ?zqk5 ?zqk6 ?zqk7 ?zqk8 ?_; (case zqk1 => k_asm); (case zqk2 => k_asm); (case zqk3 => k_asm); (case zqk4 => k_asm); (case zqk5 => k_asm); (case zqk6 => first | exact rfl | assumption); (case zqk7 => ktr_room); (case zqk8 => ktr_units); refine stop_of ?_))
  k_steps
  refine Stop.go ?_
  rintro r9 n9 h9 tk9 ⟨rfl, hres⟩ F9 N9
  have hS4 := hsep2
  rw [← hoe] at hS4
  replace hS4 := hS4.perm (both_perm2 _ _ _ _ _ _ _ _ _ _)
  have hin4 : ∀ p ∈ _, p ∈ (wd, o) :: (rl, listOf (lrs.map fun p => Value.ref p.2).toArray c) :: (al, listOf us.toArray c2) :: (ps, instObj 224 pd) :: (pd, pathsO w k0 k1 k2 k3 k4 k5 k6 (.str σ.role tr2) (.bool σ.may) (.ref kn) (.ref act) last (.int σ.top th) (.ref an)) :: (kn, listOf (prs.map fun p => Value.ref p.2).toArray c3) :: (ll' ++ (lp' ++ own2)) := fun p hp => by rw [← hoe]; exact (both_perm2 _ _ _ _ _ _ _ _ _ _).mem_iff.mpr hp
  have hin5 : ∀ p ∈ (((wd, o) :: (rl, listOf (lrs.map fun p => Value.ref p.2).toArray c) :: (al, listOf us.toArray c2) :: ll') ++ ((ps, instObj 224 pd) :: (pd, pathsO w k0 k1 k2 k3 k4 k5 k6 (.str σ.role tr2) (.bool σ.may) (.ref kn) (.ref act) last (.int σ.top th) (.ref an)) :: (kn, listOf (prs.map fun p => Value.ref p.2).toArray c3) :: (lp' ++ [(an, listOf #[] c4)]))) ++ own,
      p ∈ ((ps, instObj 224 pd) :: (pd, pathsO w k0 k1 k2 k3 k4 k5 k6 (.str σ.role tr2) (.bool σ.may) (.ref kn) (.ref act) last (.int σ.top th) (.ref an)) :: (kn, listOf (prs.map fun p => Value.ref p.2).toArray c3) :: (lp' ++ [(an, listOf #[] c4)])) ++ ((wd, o) :: (rl, listOf (lrs.map fun p => Value.ref p.2).toArray c) :: (al, listOf us.toArray c2) :: (ll' ++ own)) := fun p hp => (both_perm2 _ _ _ _ _ _ _ _ _ _).mem_iff.mp (hperm.mem_iff.mp hp)
  k_with "MINE call" => ((with_reducible show wpAny _ _ (call (Value.ref 160) _) _ _ _); (try (refine (?_ : wpAny _ _ _ _ _ _); k_fold)); k_dflt (refine' specR_use (on_datagram_spec hP2 hnd hlenP hS4) ?zqk1 ?zqk2 ?zqk3 ?zqk4 ?zqk5 ?zqk6 ?zqk7 ?zqk8 ?_ ?_; (case zqk1 => k_asm); (case zqk2 => k_asm); (case zqk3 => k_asm); (case zqk4 => refine news_sub ?_ hin4; k_asm); (case zqk5 => k_asm); (case zqk6 => first | exact rfl | assumption); (case zqk7 => ktr_room); (case zqk8 => ktr_units); all_goals refine stop_of ?_))
  rcases hres with ⟨⟨r, ra⟩, pre, post, hpr, hpre, hra, rfl⟩ | ⟨rfl, hno⟩
  · k_steps
    · refine Stop.go ?_
      rintro r9 n9 h9' tk9' ⟨hbar, prs', lp9, rfl, hP', hrows', hS'⟩ F9' N9'
      have hr' := hr
      rw [hpr] at hr'
      obtain ⟨l₁, lr, l₂, rfl, hr1, hrow, hr3⟩ := Rows.at hr'
      cases hrow with
      | @mk ro aa us9 c9 v9 ta9 ts9 ti9 tq9 hro hus9 hv9 =>
      have N10 := news_sub N9' fun p hp => (law_out _ _ _ _ _ _ _ _ _).mem_iff.mpr hp
      have hS10 := hS'.perm (law_out _ _ _ _ _ _ _ _ _)
      generalize hTe : l₁ ++ (l₂ ++ (lp9 ++ own)) = T at N10 hS10
      have hO := Sep.off (E := [_, _, _, _, _]) hS10
      dsimp only [List.map] at hO
      clear N9'
      refine ap_elim (E := [_, _, _, _, _]) hS10 ?_
      dsimp only [Ap, NeP]
      intros
      k_steps
      dsimp only
      k_steps
      rename News _ _ _ _ => N11
      rename Fr _ _ _ _ => kF9
      rename Obj.IsDictOf _ _ _ => hro'
      subst hTe
      have hany : rows.any (isAt ad) = true := by rw [← hl]; exact any_map.mpr ⟨(r, ra), by rw [hpr]; exact List.mem_append_right _ (.head _), hra⟩
      obtain ⟨l', hL', N12, hS12⟩ := lside_of (r2 := gotR size r) N11 (hS10.same rfl) hpr hr1 hr3 (.mk hro' hus9 hv9) ho hb hus
      rw [← List.append_assoc] at N12 hS12
      exact ⟨_, _, _, _, KtsTurn.refl, kF9, N12, fun h₁ kT kF kN kB kX kP kD => hret _ _ _ _ _ ⟨rfl, σ, upd (isAt ad) (gotR size) (opn ad rows), l' ++ lp9, rfl, .mk hL' hP' (by rw [upd_rows hpr hpre hra, hl, opn_in hany]) (by rw [hrows', hp]), hF.opn.upd (fun _ => rfl) (fun r hr => hF.opn.asks r hr), hS12⟩ kT kF kN kB kX kP kD⟩
    · refine Stop.go ?_
      rintro g9 e9 t9 vs9 h9' tk9' hbar
      rw [bar_in (by obtain ⟨ppre, pb, ppost, h1, _, _⟩ := map_split (hp.trans hl.symm) hpr; exact ⟨(r, pb), by rw [h1]; exact List.mem_append_right _ (.head _), hra⟩)] at hbar
      cases hbar
  · have hnoP := not_at (hp.trans hl.symm) hno
    k_steps
    · refine Stop.go ?_
      rintro r9 n9 h9' tk9' ⟨hbar, _⟩
      rw [bar_pos1 hnoP (by assumption)] at hbar
      cases hbar
    · refine Stop.go ?_
      rintro g9 e9 t9 vs9 h9' tk9' hbar FG9 R9 U9
      k_steps
      dsimp only
      k_steps
      rename KtsTurn _ _ _ => kT9
      rename Fr _ _ _ _ => kF9
      exact ⟨_, _, _, _, kT9, kF9, news_sub (by assumption) hin5, fun h₁ kT kF kN kB kX kP kD => hret _ _ _ _ _ ⟨by rw [show (σ.role == Str.ofString "client") = true by assumption], σ, rows, _, rfl, .mk (.mk ho hb hus hr) hP2 hl hp, hF.next, hsep⟩ kT kF kN kB kX kP kD⟩
    · refine Stop.go ?_
      rintro r9 n9 h9' tk9' ⟨hbar, prs', lp9, rfl, hP', hrows', hS'⟩ F9' N9'
      have hmay : σ.may = true := by
        cases e : σ.may with
        | true => rfl
        | false => rw [bar_pos2 hnoP (by assumption) e] at hbar; cases hbar
      have N10 := news_sub N9' fun p hp => (law_in _ _ _ _ _ _).mem_iff.mpr hp
      have hS10 := hS'.perm (law_in _ _ _ _ _ _)
      have hlen : lrs.length < 63 := Nat.lt_of_le_of_lt (len_of hF.len hl) (by omega)
      clear N9'
      k_with "MINE call" => ((with_reducible show wpAny _ _ (call (Value.ref 247) _) _ _ _); (try (refine (?_ : wpAny _ _ _ _ _ _); k_fold)); k_dflt (refine' spec_use law_row_spec ?zqk1 ?zqk2 ?zqk3 ?zqk4 ?zqk5 ?zqk6 ?zqk7 ?zqk8 ?_; (case zqk1 => k_asm); (case zqk2 => k_asm); (case zqk3 => k_asm); (case zqk4 => k_asm); (case zqk5 => k_asm); (case zqk6 => first | exact rfl | assumption); (case zqk7 => ktr_room); (case zqk8 => ktr_units); refine stop_of ?_))
      rw [hmay] at F9'
      k_steps
      refine Stop.go ?_
      rintro r9 n9 h9'' tk9'' ⟨ra, ro, aa, c9, v9, ta9, ts9, ti9, tq9, rfl, rfl, hro, hv9, hne1, hne2, hne3⟩ F9 N9
      have hS11 : Sep ((ra, ro) :: (aa, listOf ([] : List Value).toArray c9) :: (wd, o) :: (rl, listOf (lrs.map fun p => Value.ref p.2).toArray c) :: (al, listOf us.toArray c2) :: (ll' ++ (lp9 ++ own))) := Sep.cons.mpr ⟨fun q hq => by
        rcases List.mem_cons.mp hq with rfl | hq
        · exact Ne.symm hne3
        · exact hne1 q hq, Sep.cons.mpr ⟨hne2, hS10⟩⟩
      generalize hTe : ll' ++ (lp9 ++ own) = T at N9 hS11
      have hO := Sep.off (E := [_, _, _, _, _]) hS11
      dsimp only [List.map] at hO
      clear hne1 hne2 hne3
      refine ap_elim (E := [_, _, _, _, _]) hS11 ?_
      dsimp only [Ap, NeP]
      intros
      k_steps
      dsimp only
      k_steps
      rename News _ _ _ _ => N11
      rename Fr _ _ _ _ => kF9
      rename Obj.IsDictOf _ _ _ => hro'
      subst hTe
      have hany : rows.any (isAt ad) = false := by rw [← hl]; exact any_no hno
      rw [List.push_toArray, show ∀ x, (lrs.map fun p => Value.ref p.2) ++ [Value.ref x] = (lrs ++ [(gotR size (newR ad false), x)]).map fun p => Value.ref p.2 from fun x => by rw [List.map_append]; rfl] at N11
      obtain ⟨l', hL', N12, hS12⟩ := lside_new (r2 := gotR size (newR ad false)) N11 (hS11.same rfl) hr (.mk hro' (us := []) .nil hv9) ho hb hus
      rw [← List.append_assoc] at N12 hS12
      exact ⟨_, _, _, _, KtsTurn.refl, kF9, N12, fun h₁ kT kF kN kB kX kP kD => hret _ _ _ _ _ ⟨rfl, σ, upd (isAt ad) (gotR size) (opn ad rows), l' ++ lp9, rfl, .mk hL' hP' (by rw [opn_new hany, upd_new hany, List.map_append, hl]; rfl) (by rw [hrows', hp]), hF.opn.upd (fun _ => rfl) (fun r hr => hF.opn.asks r hr), hS12⟩ kT kF kN kB kX kP kD⟩
    · refine Stop.go ?_
      rintro g9 e9 t9 vs9 h9' tk9' hbar FG9 R9 U9
      have hmay : σ.may = false := by
        cases e : σ.may with
        | false => rfl
        | true => rw [bar_neg (by assumption) e] at hbar; cases hbar
      k_steps
      dsimp only
      k_steps
      rename KtsTurn _ _ _ => kT9
      rename Fr _ _ _ _ => kF9
      exact ⟨_, _, _, _, kT9, kF9, news_sub (by assumption) hin5, fun h₁ kT kF kN kB kX kP kD => hret _ _ _ _ _ ⟨by rw [hmay]; rfl, σ, rows, _, rfl, .mk (.mk ho hb hus hr) hP2 hl hp, hF.next, hsep⟩ kT kF kN kB kX kP kD⟩
end
section
theorem law_moved_side {w mean mg mb} {wd ra : Addr} {l own : Led} {lrs pre post : List (Rw × Addr)} {σ : St} {r : Rw}
    (hL : LSide w σ lrs wd l) (hpr : lrs = pre ++ (r, ra) :: post) (hsz : lrs.length ≤ 63) (hnd : (lrs.map fun p => p.1.addr).Nodup) (hact : ∃ q ∈ lrs.map Prod.fst, q.addr = σ.active) (hsep : Sep (l ++ own)) :
    Spec w mean mg mb 5 40 259 [.ref wd, .ref ra] (l ++ own)
      (fun r9 n => r9 = .none ∧ ∃ l', n = l' ++ own ∧ LSide w { σ with active := r.addr, back := bkOf σ (lrs.map Prod.fst) } (pre ++ (renew r, ra) :: post) wd l' ∧ Sep n) := by
  cases hL with
  | @mk o rl al us c c2 vb tr ta tt ts tn ll ho hb hus hr =>
  have hr' := hr
  rw [hpr] at hr'
  obtain ⟨l₁, lr, l₂, rfl, hr1, hrow, hr3⟩ := Rows.at hr'
  cases hrow with
  | @mk ro aa us9 c9 v9 ta9 ts9 ti9 tq9 hro hus9 hv9 =>
  obtain ⟨q, hq, hqa⟩ := hact
  obtain ⟨hp, hh, rfl⟩ := List.mem_map.mp hq
  have hS10 := hsep.perm (lrow_out _ _ _ _ _ _ _ _)
  have hS11 : Sep ([(wd, o), (ra, ro)] ++ ((aa, listOf us9.toArray c9) :: (rl, listOf (lrs.map fun p => Value.ref p.2).toArray c) :: (al, listOf us.toArray c2) :: (l₁ ++ (l₂ ++ own)))) := hS10.perm (List.perm_middle (l₁ := [_, _]))
  have hA := (apart_of (E := [_, _]) hS11).1.1
  have hst := stOf_at hnd hh hqa
  refine Spec.conv (law_moved_spec (T := (aa, listOf us9.toArray c9) :: (rl, listOf (lrs.map fun p => Value.ref p.2).toArray c) :: (al, listOf us.toArray c2) :: (l₁ ++ (l₂ ++ own))) (ll := l₁ ++ ([(ra, ro), (aa, listOf us9.toArray c9)] ++ l₂)) (c := c) ho hro ?_ hr ?_ hsz hnd hh hqa ⟨hA.ne.symm⟩ (Sep.off hS11) hb) ?_ ?_
  · exact .tail _ (.tail _ (.tail _ (.head _)))
  · intro p hp
    rcases List.mem_append.mp hp with h | h
    · exact .tail _ (.tail _ (.tail _ (.tail _ (.tail _ (List.mem_append_left _ h)))))
    · rcases List.mem_cons.mp h with rfl | h
      · exact .tail _ (.head _)
      · rcases List.mem_cons.mp h with rfl | h
        · exact .tail _ (.tail _ (.head _))
        · exact .tail _ (.tail _ (.tail _ (.tail _ (.tail _ (List.mem_append_right _ (List.mem_append_left _ h))))))
  · exact fun p hp => (lrow_out _ _ _ _ _ _ _ _).mem_iff.mpr ((List.perm_middle (l₁ := [_, _])).mem_iff.mpr hp)
  · rintro r9 n ⟨o', ro', vb', ta', ts2', bk, st', rfl, rfl, ho', hb', hbk, hro', rfl⟩
    have hbk2 : bk = bkOf σ (lrs.map Prod.fst) := by unfold bkOf; rw [hst, hbk]
    subst hbk2
    obtain ⟨l', h1, h2, h3⟩ := lside_list (σ := { σ with active := r.addr, back := bkOf σ (lrs.map Prod.fst) }) (r2 := renew r) (e1 := (ra, ro')) (e2 := (aa, listOf us9.toArray c9)) (o := o') (c := c) (c2 := c2) (own := own) (hS10.same rfl) hpr hr1 hr3 (.mk hro' hus9 hv9) ho' hb' hus
    exact ⟨_, ⟨rfl, l', rfl, h1, h3⟩, fun p hp => (List.perm_middle (l₁ := [_, _])).mem_iff.mp (h2 p hp)⟩
noncomputable abbrev movB (σ : St) (ad : Str) (pb : Bool) (number : Int) : Bool := !(σ.role == Str.ofString "client") && !pb && decide (number > σ.top) && !(ad == σ.active)
noncomputable abbrev movS (σ : St) (ad : Str) (number : Int) (mv : Bool) (rows : List Rw) : St := { σ with top := max σ.top number, active := if mv = true then ad else σ.active, back := if mv = true then bkOf σ rows else σ.back }
theorem on_packet_side {w mean mg mb} {ps pa : Addr} {l own : Led} {prs pre post : List (Rw × Addr)} {σ : St} {r : Rw} {number : Int} {t1 t2 : Tok} {pb : Bool}
    (hP : PSide w σ prs ps l) (hpr : prs = pre ++ (r, pa) :: post) (hnd : (prs.map fun p => p.1.addr).Nodup) (hsep : Sep (l ++ own)) :
    Spec w mean mg mb 5 40 167 [.ref ps, .str r.addr t1, .int number t2, .bool pb] (l ++ own)
      (fun r9 n => r9 = .bool (movB σ r.addr pb number) ∧ ∃ l', n = l' ++ own ∧ PSide w (movS σ r.addr number (movB σ r.addr pb number) (prs.map Prod.fst)) (pre ++ ((if movB σ r.addr pb number = true then renew r else r), pa) :: post) ps l' ∧ Sep n) := by
  cases hP with
  | @mk pd kn an act last c c2 k0 k1 k2 k3 k4 k5 k6 tr th ra lp hr hact hra hback =>
  have hr' := hr
  rw [hpr] at hr'
  obtain ⟨l₁, lr, l₂, rfl, hr1, hrow, hr3⟩ := Rows.at hr'
  have hst := stOf_at hnd hact hra
  cases hrow with
  | @mk pdr ca us c9 v j0 j1 j2 j3 j4 j5 j6 ta ts ti tq hus hv =>
  have hS10 := hsep.perm (prow_out _ _ _ _ _ _ _ _ _ _)
  have hS11 : Sep ([(ps, instObj 224 pd), (pd, pathsO w k0 k1 k2 k3 k4 k5 k6 (.str σ.role tr) (.bool σ.may) (.ref kn) (.ref act) last (.int σ.top th) (.ref an)), (pa, instObj 121 pdr), (pdr, pathO w j0 j1 j2 j3 j4 j5 j6 (.str r.addr ta) (.str r.st ts) (.bool r.free) (.int r.inn ti) (.int r.out tq) (.ref ca) v)] ++
      ((ca, listOf us.toArray c9) :: (kn, listOf (prs.map fun p => Value.ref p.2).toArray c) :: (l₁ ++ (l₂ ++ (an, listOf #[] c2) :: own)))) :=
    (hS10.perm (perm_pd _ _ _ _ _ _))
  have hA := apart_of (E := [_, _, _, _]) hS11
  simp only [Apart, NeAll] at hA
  obtain ⟨⟨hA1, hA2, hA3, _⟩, _, ⟨hB1, hB2, _⟩, _, ⟨hC1, _⟩, _⟩ := hA
  have hin : (r, pa) ∈ prs := by rw [hpr]; exact List.mem_append_right _ (.head _)
  refine Spec.conv (on_packet_spec (an := an) (kn := kn) (ca := ca) (last := last) (v := v) (k0 := k0) (k1 := k1) (k2 := k2) (k3 := k3) (k4 := k4) (k5 := k5) (k6 := k6) (tr := tr) (th := th) (j0 := j0) (j1 := j1) (j2 := j2) (j3 := j3) (j4 := j4) (j5 := j5) (j6 := j6) (ta := ta) (ts := ts) (ti := ti) (tq := tq) (T := (ca, listOf us.toArray c9) :: (kn, listOf (prs.map fun p => Value.ref p.2).toArray c) :: (l₁ ++ (l₂ ++ (an, listOf #[] c2) :: own))) (lp := l₁ ++ ([(pa, instObj 121 pdr), (pdr, pathO w j0 j1 j2 j3 j4 j5 j6 (.str r.addr ta) (.str r.st ts) (.bool r.free) (.int r.inn ti) (.int r.out tq) (.ref ca) v), (ca, listOf us.toArray c9)] ++ l₂)) (c := c) rfl ?_ hr ?_ hnd hin hact hra ⟨hA1.ne.symm⟩ ⟨hA2.ne.symm⟩ ⟨hA3.ne.symm⟩ ⟨hB1.ne.symm⟩ ⟨hB2.ne.symm⟩ ⟨hC1.ne.symm⟩ (Sep.off hS11)) ?_ ?_
  · exact .tail _ (.tail _ (.tail _ (.head _)))
  · intro p hp
    rcases List.mem_append.mp hp with h | h
    · exact .tail _ (.tail _ (.tail _ (.tail _ (List.mem_append_left _ h))))
    · rcases List.mem_cons.mp h with rfl | h
      · exact .head _
      · rcases List.mem_cons.mp h with rfl | h
        · exact .tail _ (.head _)
        · rcases List.mem_cons.mp h with rfl | h
          · exact .tail _ (.tail _ (.head _))
          · exact .tail _ (.tail _ (.tail _ (.tail _ (List.mem_append_right _ (List.mem_append_left _ h)))))
  · exact fun p hp => (prow_out _ _ _ _ _ _ _ _ _ _).mem_iff.mpr ((perm_pd _ _ _ _ _ _).mem_iff.mpr hp)
  · rintro r9 n ⟨st', ts', th', act', last', hi', mv, rfl, rfl, hmv, hhi, hst', hact', hlast'⟩
    have hmv2 : movB σ r.addr pb number = mv := hmv.symm
    rw [hmv2]
    subst hhi
    have key : ∃ q2, (q2, act') ∈ pre ++ ((if mv = true then renew r else r), pa) :: post ∧ q2.addr = (movS σ r.addr number mv (prs.map Prod.fst)).active := by
      cases mv with
      | true => exact ⟨renew r, by rw [hact']; exact List.mem_append_right _ (.head _), rfl⟩
      | false =>
        obtain ⟨q2, h1, h2⟩ := turned (r2 := r) hpr rfl hact
        exact ⟨q2, by rw [hact']; exact h1, h2.trans hra⟩
    obtain ⟨q2, hq2, hqa⟩ := key
    have hbk : BackIs (pre ++ ((if mv = true then renew r else r), pa) :: post) last' (movS σ r.addr number mv (prs.map Prod.fst)).back := by
      cases mv with
      | false =>
        have hl2 : last' = last := hlast'.trans (if_neg fun z => nomatch z.1)
        rw [hl2]
        exact back_turned hback hpr rfl
      | true =>
        show BackIs (pre ++ (renew r, pa) :: post) last' (bkOf σ (prs.map Prod.fst))
        unfold bkOf
        rw [hst]
        by_cases e : ra.st = Str.ofString "proven"
        · have hl2 : last' = .ref act := hlast'.trans (if_pos ⟨rfl, e⟩)
          rw [hl2, if_pos e]
          obtain ⟨q3, g1, g2⟩ := turned (r2 := renew r) hpr rfl hact
          exact back_of g1 (g2.trans hra)
        · have hl2 : last' = last := hlast'.trans (if_neg fun z => e z.2)
          rw [hl2, if_neg e]
          exact back_turned hback hpr rfl
    have hrow2 : PRow w (if mv = true then renew r else r) pa [(pa, instObj 121 pdr), (pdr, pathO w j0 j1 j2 j3 j4 j5 j6 (.str r.addr ta) (.str st' ts') (.bool r.free) (.int r.inn ti) (.int r.out tq) (.ref ca) v), (ca, listOf us.toArray c9)] := by
      rw [hst']
      cases mv with
      | true => exact .mk (r := renew r) hus hv
      | false => exact .mk hus hv
    obtain ⟨l', h1, h2, h3⟩ := pside_list (σ := movS σ r.addr number mv (prs.map Prod.fst)) (e1 := (pa, instObj 121 pdr)) (e2 := (pdr, pathO w j0 j1 j2 j3 j4 j5 j6 (.str r.addr ta) (.str st' ts') (.bool r.free) (.int r.inn ti) (.int r.out tq) (.ref ca) v)) (e3 := (ca, listOf us.toArray c9)) (own := own) (last := last') (tr := tr) (th := th') (k0 := k0) (k1 := k1) (k2 := k2) (k3 := k3) (k4 := k4) (k5 := k5) (k6 := k6) (pd := pd) (c := c) hS10 rfl hpr hr1 hr3 hrow2 hq2 hqa hbk
    exact ⟨_, ⟨rfl, l', rfl, h1, h3⟩, fun p hp => (perm_pd _ _ _ _ _ _).mem_iff.mp (h2 p hp)⟩
end
section
noncomputable abbrev dueS (σ : St) (rows : List Rw) : Str := if stOf σ.active rows = Str.ofString "failed" then (if σ.back = none ∨ σ.back = some σ.active then Str.ofString "lost" else Str.ofString "back") else Str.ofString "same"
noncomputable abbrev dueA (σ : St) (rows : List Rw) : Str := if stOf σ.active rows = Str.ofString "failed" then σ.back.getD σ.active else σ.active
theorem pside_intro {w : World} {σ : St} {prs prs' : List (Rw × Addr)} {ps pd kn an act : Addr} {last : Value} {c c2 : Nat} {k0 k1 k2 k3 k4 k5 k6 tr th : Tok} {ra : Rw} {lp : Led} (he : (prs'.map fun p => Value.ref p.2) = prs.map fun p => Value.ref p.2)
    (hr : Rows (PRow w) prs' lp) (hact : (ra, act) ∈ prs') (hra : ra.addr = σ.active) (hback : BackIs prs' last σ.back) :
    PSide w σ prs' ps ((ps, instObj 224 pd) :: (pd, pathsO w k0 k1 k2 k3 k4 k5 k6 (.str σ.role tr) (.bool σ.may) (.ref kn) (.ref act) last (.int σ.top th) (.ref an)) :: (kn, listOf (prs.map fun p => Value.ref p.2).toArray c) :: (lp ++ [(an, listOf #[] c2)])) := by
  rw [← he]; exact .mk hr hact hra hback
theorem failP_addr {prs : List (Rw × Addr)} {now : Int} : ((prs.map (failP now)).map fun p => Value.ref p.2) = prs.map fun p => Value.ref p.2 := by rw [List.map_map]; rfl
theorem failP_fst {prs : List (Rw × Addr)} {now : Int} : (prs.map (failP now)).map Prod.fst = (prs.map Prod.fst).map (failR now) := by rw [List.map_map, List.map_map]; rfl
theorem failP_nd {prs : List (Rw × Addr)} {now : Int} (h : (prs.map fun p => p.1.addr).Nodup) : ((prs.map (failP now)).map fun p => p.1.addr).Nodup := by
  have : ((prs.map (failP now)).map fun p => p.1.addr) = prs.map fun p => p.1.addr := by rw [List.map_map]; exact List.map_congr_left fun p _ => failR_addr
  rw [this]; exact h
theorem back_fail {prs : List (Rw × Addr)} {now : Int} {v : Value} {b : Option Str} (h : BackIs prs v b) : BackIs (prs.map (failP now)) v b := by
  cases h with
  | none => exact .none
  | some h => exact back_of (List.mem_map.mpr ⟨_, h, rfl⟩) failR_addr
theorem on_time_side {w mean mg mb} {ps : Addr} {l own : Led} {prs : List (Rw × Addr)} {σ : St} {now : Int} {t1 : Tok}
    (hP : PSide w σ prs ps l) (hnd : (prs.map fun p => p.1.addr).Nodup) (hsep : Sep (l ++ own)) :
    Spec w mean mg mb 5 40 221 [.ref ps, .int now t1] (l ++ own)
      (fun r9 n => ∃ tk l', r9 = .str (dueS σ ((prs.map Prod.fst).map (failR now))) tk ∧ n = l' ++ own ∧ PSide w { σ with active := dueA σ ((prs.map Prod.fst).map (failR now)) } (prs.map (failP now)) ps l' ∧ Sep n) := by
  cases hP with
  | @mk pd kn an act last c c2 k0 k1 k2 k3 k4 k5 k6 tr th ra lp hr hact hra hback =>
  simp only [List.cons_append, List.append_assoc, List.nil_append] at hsep ⊢
  have hst : stOf σ.active ((prs.map Prod.fst).map (failR now)) = (failR now ra).st := by
    rw [← failP_fst]
    exact stOf_at (failP_nd hnd) (List.mem_map.mpr ⟨_, hact, rfl⟩) (failR_addr.trans hra)
  refine Spec.conv (on_time_spec hr hact hra hback hsep) (fun p hp => hp) ?_
  rintro r9 n ⟨res, tk, act', lp', rfl, rfl, hr', hS', hres⟩
  have core : ∃ q, (q, act') ∈ prs ∧ res = dueS σ ((prs.map Prod.fst).map (failR now)) ∧ q.addr = dueA σ ((prs.map Prod.fst).map (failR now)) := by
    unfold dueS dueA
    rw [hst]
    rcases hres with ⟨h1, h2, h3⟩ | ⟨h1, h4, h2, h3⟩ | ⟨h1, ⟨b, hb, hbne⟩, h2, h3⟩
    · rw [if_neg h1, if_neg h1, h3]
      exact ⟨ra, hact, h2, hra⟩
    · rw [if_pos h1, if_pos h1, if_pos h4, h3]
      exact ⟨ra, hact, h2, by rcases h4 with e | e <;> rw [e] <;> exact hra⟩
    · have h4 : ¬ (σ.back = none ∨ σ.back = some σ.active) := by
        rw [hb]; rintro (e | e)
        · cases e
        · exact hbne (Option.some.inj e)
      rw [if_pos h1, if_pos h1, if_neg h4]
      rw [h3, hb] at hback
      generalize hbb : some b = bo at hback
      generalize hvv : Value.ref act' = vv at hback
      cases hback with
      | none => cases hbb
      | @some q a hq =>
        cases hbb
        cases hvv
        exact ⟨q, hq, h2, by rw [hb]; rfl⟩
  obtain ⟨q, hq, h1, h2⟩ := core
  subst h1
  exact ⟨_, ⟨tk, _, rfl, rfl, pside_intro (σ := { σ with active := dueA σ ((prs.map Prod.fst).map (failR now)) }) (c := c) (c2 := c2) (k0 := k0) (k1 := k1) (k2 := k2) (k3 := k3) (k4 := k4) (k5 := k5) (k6 := k6) (tr := tr) (th := th) (pd := pd) (kn := kn) (an := an) (ps := ps) failP_addr hr' (List.mem_map.mpr ⟨_, hq, rfl⟩) (failR_addr.trans h2) (back_fail hback),
    by simpa only [List.cons_append, List.append_assoc, List.nil_append] using hS'⟩, fun p hp => by simpa only [List.cons_append, List.append_assoc, List.nil_append] using hp⟩
theorem take_response_side {w mean mg mb} {ps : Addr} {l own : Led} {prs : List (Rw × Addr)} {σ : St} {b : Array UInt8} {t1 : Tok}
    (hP : PSide w σ prs ps l) (hnd : (prs.map fun p => p.1.addr).Nodup) (hsep : Sep (l ++ own)) :
    Spec w mean mg mb 5 40 202 [.ref ps, .bytes b t1] (l ++ own)
      (fun r9 n => (r9 = .none ∧ n = l ++ own ∧ ∀ q ∈ prs, hasR b q.1 = false) ∨
        (∃ pre r pa post l', r9 = .ref pa ∧ prs = pre ++ (r, pa) :: post ∧ (∀ q ∈ pre, hasR b q.1 = false) ∧ hasR b r = true ∧ n = l' ++ own ∧
          PSide w { σ with back := if r.addr = σ.active then some r.addr else σ.back } (pre ++ (proveR r, pa) :: post) ps l' ∧ Sep n)) := by
  cases hP with
  | @mk pd kn an act last c c2 k0 k1 k2 k3 k4 k5 k6 tr th ra lp hr hact hra hback =>
  simp only [List.cons_append, List.append_assoc, List.nil_append] at hsep ⊢
  refine Spec.conv (take_response_spec hr hnd hact hra hsep) (fun p hp => hp) ?_
  rintro r9 n (⟨rfl, rfl, hno⟩ | ⟨pre, r, pa, post, lp', last', rfl, hpr, hpre, hhas, rfl, hr', hS', hl'⟩)
  · exact ⟨_, .inl ⟨rfl, rfl, hno⟩, fun p hp => hp⟩
  · obtain ⟨q2, g1, g2⟩ := turned (r2 := proveR r) hpr rfl hact
    have hbk : BackIs (pre ++ (proveR r, pa) :: post) last' (if r.addr = σ.active then some r.addr else σ.back) := by
      by_cases e : r.addr = σ.active
      · rw [if_pos e, hl', if_pos e]
        exact back_of (List.mem_append_right _ (.head _)) rfl
      · rw [if_neg e, hl', if_neg e]
        exact back_turned hback hpr rfl
    have he : ((pre ++ (proveR r, pa) :: post).map fun p => Value.ref p.2) = prs.map fun p => Value.ref p.2 := by rw [hpr]; simp
    exact ⟨_, .inr ⟨pre, r, pa, post, _, rfl, hpr, hpre, hhas, rfl, pside_intro (σ := { σ with back := if r.addr = σ.active then some r.addr else σ.back }) (c := c) (c2 := c2) (k0 := k0) (k1 := k1) (k2 := k2) (k3 := k3) (k4 := k4) (k5 := k5) (k6 := k6) (tr := tr) (th := th) (pd := pd) (kn := kn) (an := an) (ps := ps) he hr' g1 (g2.trans hra) hbk,
      by simpa only [List.cons_append, List.append_assoc, List.nil_append] using hS'⟩, fun p hp => by simpa only [List.cons_append, List.append_assoc, List.nil_append] using hp⟩
end
section
theorem ite_max (n t : Int) : (if n > t then n else t) = max t n := by rw [Int.max_def]; split <;> split <;> omega
theorem mov_no {σ : St} {ad : Str} {pb : Bool} {n : Int} (hr : σ.role = Str.ofString "server" ∨ σ.role = Str.ofString "client")
    (h : (σ.role == Str.ofString "server") = false ∨ pb = true ∨ ¬ σ.top < n ∨ (ad != σ.active) = false) : movB σ ad pb n = false := by
  unfold movB
  rcases h with h | h | h | h
  · rcases hr with e | e
    · rw [e] at h; simp at h
    · rw [e]; rfl
  · rw [h]; simp
  · rw [decide_eq_false (p := n > σ.top) h]; simp
  · have : (ad == σ.active) = true := by simpa using h
    rw [this]; simp
theorem mov_yes {σ : St} {ad : Str} {pb : Bool} {n : Int} (h1 : (σ.role == Str.ofString "server") = true) (h2 : pb = false) (h3 : σ.top < n) (h4 : (ad != σ.active) = true) : movB σ ad pb n = true := by
  unfold movB
  rw [show σ.role = Str.ofString "server" from eq_of_beq h1, h2, decide_eq_true (p := n > σ.top) h3]
  have : (ad == σ.active) = false := by simpa using h4
  rw [this]; rfl
theorem law_packet_spec {w mean mg mb} {wd ps : Addr} {l own : Led} {rows : List Rw} {σ : St} {ad : Str} {pb : Bool} {t1 : Tok} {k : Nat}
    (hB : Both w wd ps σ rows l) (hF : Fine k σ rows) (hk60 : k ≤ 60) (hsep : Sep (l ++ own)) :
    Spec w mean mg mb 12 120 273 [.ref wd, .ref ps, .str ad t1, .bool pb] (l ++ own)
      (fun r9 n => r9 = .bool true ∧ ∃ σ' rows' l', n = l' ++ own ∧ Both w wd ps σ' rows' l' ∧ Fine k σ' rows' ∧ Sep n) := by
  cases hB with
  | @mk lrs prs ll lp hL hP hl hp =>
  have hnd := nd_of hF.nd hp
  have hndL := nd_of hF.nd hl
  have hlenL : lrs.length ≤ 63 := len_of (Nat.le_trans hF.len (by omega)) hl
  have hL2 := hL
  cases hL with
  | @mk o rl al us c c2 vb tr ta tt ts tn ll' ho hb hus hr =>
  have hP2 := hP
  cases hP with
  | @mk pd kn an act last c3 c4 k0 k1 k2 k3 k4 k5 k6 tr2 th ra2 lp' hr2 hact hra2 hback =>
  unfold Spec; k_fill; intro dp un gd cn cs a ccd cl outer A₀ base h₀ L m sh sg sd st so Q E B F X N T9 hk hd hu hret; have kM := kstMark; w_top off; k_with_none; (k_with "MINE enter" => (k_dflt (refine' code_def ?zqk1 ?zqk2 ?zqk3 ?zqk4 ?zqk5 ?zqkA ?zqkF ?zqkK ?zqk6 ?zqk7 ?zqk8 ?zqk9 ?zqkB ?_ ?zqc2 ?zqc3 ?zqc4 ?zqc5; (case zqkA => exact rfl); (case zqkF => exact rfl); (case zqkK => first | exact rfl | assumption); (case zqk1 => k_asm); (case zqk2 => k_asm); (case zqk3 => k_asm); (case zqk4 => k_asm); (case zqk5 => k_asm); (case zqk6 => k_is); (case zqk7 => k_is); (case zqk8 => ktr_room); (case zqk9 => first | exact BindsTo.of_eq (binds := [(_, _)]) rfl | exact BindsTo.of_eq (binds := [(_, _), (_, _)]) rfl | exact BindsTo.of_eq (binds := [(_, _), (_, _), (_, _)]) rfl | exact BindsTo.of_eq (binds := [(_, _), (_, _), (_, _), (_, _)]) rfl | exact BindsTo.of_eq rfl); (case zqc5 => decide); (case zqkB => exact locs rfl); (case zqc2 => exact rfl); (case zqc3 => exact rfl); (case zqc4 => exact rfl); k_whole; intro g' L' h' FG' F' N' B' X' T'; (try dsimp only); (try k_lift B'); (try k_fold)))); (k_with "call ref" => (k_here; first | k_extra "MINE call" | (refine wpAny_call ?_; walk_at "MINE enter"))); (k_with "call ref" => (k_here; k_dflt (refine' call_cls ?zqk1 ?zqk2 ?zqk3 ?zqk4 ?zqk5 ?zqk6 ?_; (case zqk1 => k_asm); (case zqk2 => k_asm); (case zqk3 => k_asm); (case zqk4 => k_is); (case zqk5 => k_is); (case zqk6 => k_is); k_whole; intro x' d' h' F' N' l1 l2; (try k_lt l1); (try k_lt2 l2); (try k_sweep)); walk_at "MINE enter")); (k_with "TPost" => dsimp only [TPost]); (k_with "MINE enterC" => (k_dflt (refine' code_defC ?zqk1 ?zqk2 ?zqk3 ?zqk4 ?zqk5 ?zqkA ?zqkF ?zqkK ?zqk6 ?zqk7 ?zqk8 ?zqk9 ?zqkB ?zqkD ?_ ?zqc2 ?zqc3 ?zqc4; (case zqkA => exact rfl); (case zqkF => exact rfl); (case zqkK => first | exact rfl | assumption); (case zqk1 => k_asm); (case zqk2 => k_asm); (case zqk3 => k_asm); (case zqk4 => k_asm); (case zqk5 => k_asm); (case zqk6 => k_is); (case zqk7 => k_is); (case zqk8 => ktr_room); (case zqk9 => first | exact BindsTo.of_eq (binds := [(_, _)]) rfl | exact BindsTo.of_eq (binds := [(_, _), (_, _)]) rfl | exact BindsTo.of_eq (binds := [(_, _), (_, _), (_, _)]) rfl | exact BindsTo.of_eq (binds := [(_, _), (_, _), (_, _), (_, _)]) rfl | exact BindsTo.of_eq rfl); (case zqkB => exact rfl); (case zqkD => decide +kernel); (case zqc2 => exact rfl); (case zqc3 => exact rfl); (case zqc4 => exact rfl); k_whole; intro g' L' h' tk' cells' FG' F' N' Y' B' X' T' l1; k_cells Y'; (try simp only [List.cons_append, List.nil_append] at N'); (try dsimp only); (try k_lift B'); (try k_fold)))); (k_with "exec Assign cons ListComp" => (k_here; k_dflt (refine LCt.Assign_ListComp_T (F₀ := by k_asm) (by rfl) (by with_unfolding_all rfl) (by with_unfolding_all rfl) (by decide) (by rfl) (by decide) (by rfl) (by rfl) (by rfl) ?_))); (k_with "subscriptTail" => (k_here; (with_reducible show wpAny _ _ (subscriptTail _ _ (Value.ref _) (Value.str _ _)) _ _ _); k_dflt (refine' kda_item (knd := PySem.strKind _ _) ?zqk1 ?zqk2 ?zqk3 (strKind_is _ _ _ _) ?zqk4 ?_; (case zqk1 => k_asm); (case zqk2 => k_mem); (case zqk3 => assumption); (case zqk4 => rfl); k_whole))); (k_with "setItem ref str" => (k_here; k_dflt (refine' kda_set (knd := PySem.strKind _ _) ?zqF ?zqN ?zqU ?zqd (strKind_is _ _ _ _) ?zqz ?_; (case zqF => k_asm); (case zqN => k_asm); (case zqU => k_updF); (case zqd => assumption); (case zqz => kob_size)); intro h' o' F' N' hd'; (try kob_lit); (try dsimp only at N'); (try dsimp only); (try k_gentoks))); (k_with "compareOp NotEq ref ref" => (k_here; k_dflt (refine' ne_nil ?zqk1 ?zqk2 ?zqk3 ?zqk4 ?_; (case zqk1 => k_asm); (case zqk2 => k_mem); (case zqk3 => k_mem); (case zqk4 => ktr_units)); (try dsimp only [List.isEmpty, Bool.not_true, Bool.not_false, List.map]))); (k_with "MINE ne" => (refine neN ?_; (try dsimp only); first | exact NeA.ne (by assumption) | exact (NeA.ne (by assumption)).symm | omega)); (k_with "compareOp In bytes ref" => (k_here; k_dflt (refine' in_bytes ?zqk1 ?zqk2 ?zqk3 ?_; (case zqk1 => k_asm); (case zqk2 => k_mem); (case zqk3 => assumption)))); (k_with "exec Raise some none" => (k_here; k_dflt (refine' Raise_38 ?zqk1 ?zqk2 ?_; (case zqk1 => k_asm); (case zqk2 => first | rfl | assumption)))); (k_with "call ref" => (k_here; (with_reducible show wpAny _ _ (call (Value.ref 38) _) _ _ _); k_dflt (refine' call_refuse ?zqk1 ?zqk2 ?zqk3 ?_; (case zqk1 => k_asm); (case zqk2 => k_asm); (case zqk3 => k_asm); k_whole); intro e38 t38 h38 F38 N38 hap38 hne38; refine wpAny_call ?_; walk_at "MINE enter")); (k_with "getMethod type:Exception" => (k_here; refine' method_type ?zqF ?zqX ?zqm (by decide +kernel) ?zqe ?zqh ?_; (case zqF => k_asm); (case zqX => k_asm); (case zqm => kernel_rfl); (case zqe => k_dflt k_is); (case zqh => k_handed))); (k_with "call builtin:Exception.__init__" => (k_here; k_dflt (refine' init_w ?zqk1 ?zqk2 ?zqk3 ?zqk4 ?_; (case zqk1 => k_asm); (case zqk2 => k_asm); (case zqk3 => k_asm); (case zqk4 => exact per_e (by assumption) (by assumption)); k_whole); intro h39 t39 F39 N39 hap39 hne39)); (k_with "setAttr ref" => (k_here; (with_reducible show wpAny _ _ (setAttr (Value.ref _) (PySem.Str.ofString "text") _) _ _ _); k_dflt (refine' text_w ?zqk1 ?zqk2 ?zqk3 ?zqk4 ?_; (case zqk1 => k_asm); (case zqk2 => k_asm); (case zqk3 => k_asm); (case zqk4 => exact per_t (by assumption) (by assumption) (by assumption)); k_whole); intro h40 tk40 o40 F40 N40 hc40 hd40)); (k_with "Refusing" => ((rename News _ _ _ (_ :: (_, tupO _) :: _ :: _) => N41); (rename (_ = Data.fields _) => hd41); refine ⟨_, _, _, rfl, Fr.keep (by k_asm), (N41 _ (.head _)).1, by assumption, hd41, ?_⟩)); (k_with "leaving ref" => (k_here; (rename News _ _ _ (_ :: (_, tupO _) :: _ :: _) => N41); (rename (_ = Data.fields _) => hd41); k_dflt (refine' leave_x ?zqk1 ?zqk2 (vs := [_]) N41 ?zqk4 ?zqk5 hd41 ?_; (case zqk1 => assumption); (case zqk2 => k_asm); (case zqk4 => exact per_b (by assumption) (by assumption) (by assumption)); (case zqk5 => assumption); k_whole); intro h42 R42 U42)); (k_with "MINE enterS" => (k_dflt (refine' code_defT ?zqk1 ?zqk2 ?zqk3 ?zqk4 ?zqk5 ?zqkXB ?zqkTB ?zqkD ?zqkA ?zqkF ?zqkK ?zqk6 ?zqk7 ?zqk8 ?zqk9 ?zqkB ?_ ?zqc2 ?zqc3 ?zqc4 ?zqc5; (case zqkA => exact rfl); (case zqkF => exact rfl); (case zqkK => first | exact rfl | assumption); (case zqk1 => k_asm); (case zqk2 => k_asm); (case zqk3 => k_asm); (case zqk4 => k_asm); (case zqk5 => k_asm); (case zqkXB => assumption); (case zqkTB => assumption); (case zqkD => assumption); (case zqk6 => k_is); (case zqk7 => k_is); (case zqk8 => ktr_room); (case zqk9 => first | exact BindsTo.of_eq (binds := [(_, _)]) rfl | exact BindsTo.of_eq (binds := [(_, _), (_, _)]) rfl | exact BindsTo.of_eq (binds := [(_, _), (_, _), (_, _)]) rfl | exact BindsTo.of_eq (binds := [(_, _), (_, _), (_, _), (_, _)]) rfl | exact BindsTo.of_eq rfl); (case zqc5 => decide); (case zqkB => exact locs rfl); (case zqc2 => exact rfl); (case zqc3 => exact rfl); (case zqc4 => exact rfl); k_whole; intro g' L' h' FG' F' N' B' X' T' D'; (try dsimp only); (try k_lift B'); (try k_fold)))); (k_with "exec For Name Subscript cons nil" => (k_here; (rename Fr _ _ _ _ => lF'); (with_unfolding_all refine' For_invVF lF' ?zqk1 ?zqk2 ?_; (case zqk1 => exact rfl); (case zqk2 => exact rfl); k_whole))); (k_with "compareOp In none ref" => (k_here; k_dflt (refine' none_in_pair ?zqk1 ?zqk2 ?_; (case zqk1 => k_asm); (case zqk2 => k_mem)))); (k_with "compareOp In str ref" => (k_here; k_dflt (refine' str_in_pair ?zqk1 ?zqk2 ?_; (case zqk1 => k_asm); (case zqk2 => k_mem)))); (k_with "compareOp Eq ref ref" => (k_here; k_dflt (refine' eq_nil ?zqk1 ?zqk2 ?zqk3 ?zqk4 ?_; (case zqk1 => k_asm); (case zqk2 => k_mem); (case zqk3 => k_mem); (case zqk4 => ktr_units)); (try dsimp only [List.isEmpty, List.map]))); (k_with "call builtin:len" => (k_here; (with_reducible show wpAny _ _ (call (Value.builtin "len") [Value.ref _]) _ _ _); k_dflt (refine' len_led ?zqk1 ?zqk2 ?zqk3 ?_; (case zqk1 => k_asm); (case zqk2 => k_mem); (case zqk3 => exact Nat.le_trans (by assumption) (by decide))))); (k_with "eval ListComp" => (k_here; k_dflt (refine LCt.ListComp_T (F₀ := by k_asm) (by with_unfolding_all rfl) (by decide) (by rfl) (by decide) (by rfl) ?_))); (k_with "subscriptTail" => (k_here; (with_reducible show wpAny _ _ (subscriptTail _ _ (Value.ref _) (Value.int _ _)) _ _ _); k_dflt (refine' item_led ?zqk1 ?zqk2 ?zqk3 ?zqk4 ?zqk5 ?_; (case zqk1 => k_asm); (case zqk2 => k_mem); (case zqk5 => assumption); (case zqk3 => assumption); (case zqk4 => omega)))); (k_with "MINE in" => (refine' Frag.In.keeps ?zqk1 (Fr.keep ?zqk2); (case zqk2 => with_reducible assumption); (case zqk1 => with_reducible assumption))); (k_with "storeName" => (k_here; (try dsimp only); k_dflt (refine' storeX_L ?zqF ?zqN ?_ ?zqa ?zqb; (case zqF => k_asm); (case zqN => k_asm); (case zqa => rfl); (case zqb => rfl); k_whole); intro h' F' N'; (try k_sweep))); (k_with "setAttr ref" => (dsimp only; walk1)); (k_with "call ref" => (dsimp only; walk1)); (k_with "setItem ref str" => (dsimp only; walk1)); have hend := fun r n h t a b c => hret r n h t c a b; refine wpAny_call ?_
  have hperm := both_perm (wd, o) (rl, listOf (lrs.map fun p => Value.ref p.2).toArray c) (al, listOf us.toArray c2) ll' (ps, instObj 224 pd) (pd, pathsO w k0 k1 k2 k3 k4 k5 k6 (.str σ.role tr2) (.bool σ.may) (.ref kn) (.ref act) last (.int σ.top th) (.ref an)) (kn, listOf (prs.map fun p => Value.ref p.2).toArray c3) lp' (an, listOf #[] c4) own
  replace N := news_sub N fun p hp => hperm.mem_iff.mpr hp
  have hsep2 := hsep.perm hperm
  generalize hoe : (an, listOf #[] c4) :: own = own2 at N hsep2
  walk_at "MINE enter"
  have hk1 : (wd, o) ∈ (wd, o) :: (rl, listOf (lrs.map fun p => Value.ref p.2).toArray c) :: (al, listOf us.toArray c2) :: (ps, instObj 224 pd) :: (pd, pathsO w k0 k1 k2 k3 k4 k5 k6 (.str σ.role tr2) (.bool σ.may) (.ref kn) (.ref act) last (.int σ.top th) (.ref an)) :: (kn, listOf (prs.map fun p => Value.ref p.2).toArray c3) :: (ll' ++ (lp' ++ own2)) := .head _
  have hk3 : (rl, listOf (lrs.map fun p => Value.ref p.2).toArray c) ∈ (wd, o) :: (rl, listOf (lrs.map fun p => Value.ref p.2).toArray c) :: (al, listOf us.toArray c2) :: (ps, instObj 224 pd) :: (pd, pathsO w k0 k1 k2 k3 k4 k5 k6 (.str σ.role tr2) (.bool σ.may) (.ref kn) (.ref act) last (.int σ.top th) (.ref an)) :: (kn, listOf (prs.map fun p => Value.ref p.2).toArray c3) :: (ll' ++ (lp' ++ own2)) := .tail _ (.head _)
  have hs3 : ∀ p ∈ ll', p ∈ (wd, o) :: (rl, listOf (lrs.map fun p => Value.ref p.2).toArray c) :: (al, listOf us.toArray c2) :: (ps, instObj 224 pd) :: (pd, pathsO w k0 k1 k2 k3 k4 k5 k6 (.str σ.role tr2) (.bool σ.may) (.ref kn) (.ref act) last (.int σ.top th) (.ref an)) :: (kn, listOf (prs.map fun p => Value.ref p.2).toArray c3) :: (ll' ++ (lp' ++ own2)) := fun p hp => .tail _ (.tail _ (.tail _ (.tail _ (.tail _ (.tail _ (List.mem_append_left _ hp))))))
  k_with "MINE call" => ((with_reducible show wpAny _ _ (call (Value.ref 252) _) _ _ _); (try (refine (?_ : wpAny _ _ _ _ _ _); k_fold)); k_dflt (refine' spec_use (law_of_spec hk1 ho hk3 hr hs3 hlenL) ?zqk1 ?zqk2 ?zqk3 ?zqk4 ?zqk5 ?zqk6 ?zqk7 ?zqk8 ?_; (case zqk1 => k_asm); (case zqk2 => k_asm); (case zqk3 => k_asm); (case zqk4 => k_asm); (case zqk5 => k_asm); (case zqk6 => first | exact rfl | assumption); (case zqk7 => ktr_room); (case zqk8 => ktr_units); refine stop_of ?_))
  k_with "MINE call" => ((with_reducible show wpAny _ _ (call (Value.ref 259) _) _ _ _); refine stop_of ?_)
  k_with "MINE call" => ((with_reducible show wpAny _ _ (call (Value.ref 167) _) _ _ _); refine stop_of ?_)
  k_steps
  refine Stop.go ?_
  rintro r9 n9 h9 tk9 ⟨rfl, hres⟩ F9 N9
  have hin4 : ∀ p ∈ _, p ∈ (wd, o) :: (rl, listOf (lrs.map fun p => Value.ref p.2).toArray c) :: (al, listOf us.toArray c2) :: (ps, instObj 224 pd) :: (pd, pathsO w k0 k1 k2 k3 k4 k5 k6 (.str σ.role tr2) (.bool σ.may) (.ref kn) (.ref act) last (.int σ.top th) (.ref an)) :: (kn, listOf (prs.map fun p => Value.ref p.2).toArray c3) :: (ll' ++ (lp' ++ own2)) := fun p hp => by rw [← hoe]; exact hperm.mem_iff.mp hp
  rcases hres with ⟨⟨r, ra⟩, pre, post, hpr, hpre, hra, rfl⟩ | ⟨rfl, hno⟩
  · dsimp only at hra
    subst hra
    obtain ⟨ppre, pa, ppost, hprP, hpreE, hpostE⟩ := map_split (hp.trans hl.symm) hpr
    have HS4 : ∀ o9, Sep (((ps, instObj 224 pd) :: (pd, pathsO w k0 k1 k2 k3 k4 k5 k6 (.str σ.role tr2) (.bool σ.may) (.ref kn) (.ref act) last (.int σ.top th) (.ref an)) :: (kn, listOf (prs.map fun p => Value.ref p.2).toArray c3) :: (lp' ++ [(an, listOf #[] c4)])) ++ ((wd, o9) :: (rl, listOf (lrs.map fun p => Value.ref p.2).toArray c) :: (al, listOf us.toArray c2) :: (ll' ++ own))) := fun o9 => by
      rw [← hoe] at hsep2
      exact Sep.perm (hsep2.same (l' := (wd, o9) :: _) rfl) (both_perm2 _ _ _ _ _ _ _ _ _ _)
    generalize hTe : ll' ++ (lp' ++ own2) = T at *
    have hO := Sep.off (E := [_, _, _, _, _, _]) hsep2
    dsimp only [List.map] at hO
    refine ap_elim (E := [_, _, _, _, _, _]) hsep2 ?_
    dsimp only [Ap, NeP]
    intros
    k_steps
    · have hmv : movB σ r.addr pb (σ.top + 1 - σ.skip) = false := mov_no hF.role (.inr (.inl (by assumption)))
      refine Stop.go ?_
      rename Obj.IsDictOf _ _ _ => hd9
      rw [ite_max] at hd9
      rename News _ _ _ _ => N8
      subst hTe
      subst hoe
      have N4 := news_sub N8 fun p hp => (both_perm2 _ _ _ _ _ _ _ _ _ _).mem_iff.mpr hp
      (try (refine (?_ : wpAny _ _ _ _ _ _); k_fold)); k_dflt (refine' spec_use (on_packet_side hP2 hprP hnd (HS4 _)) ?zqk1 ?zqk2 ?zqk3 N4 ?zqk5 ?zqk6 ?zqk7 ?zqk8 ?_; (case zqk1 => k_asm); (case zqk2 => k_asm); (case zqk3 => k_asm); (case zqk5 => k_asm); (case zqk6 => first | exact rfl | assumption); (case zqk7 => ktr_room); (case zqk8 => ktr_units))
      rintro r8 n8 h8 tk8 ⟨rfl, lp8, rfl, hP8, hS8⟩ F8 N8'
      rw [hmv] at hP8 ⊢
      k_steps
      rename News h₀ L _ _ => N10
      refine hend _ _ _ _ (by k_asm) (news_sub N10 fun p hp => (both_back _ _ _ _ _ _).mem_iff.mpr hp) ⟨?_, movS σ r.addr (σ.top + 1 - σ.skip) false (prs.map Prod.fst), rows, _, rfl, .mk (.mk hd9 hb hus hr) hP8 hl (by rw [← hp, hprP]; rfl), hF.world hF.act rfl hF.ask, hS8.perm (both_back _ _ _ _ _ _)⟩
      first | rfl | (rw [show pb = true by assumption]; rfl) | (rw [show (r.addr != σ.active) = false by assumption]; rfl) | (rw [decide_eq_false (show ¬ σ.top < σ.top + 1 - σ.skip by assumption)]; rfl) | (rw [show (σ.role == Str.ofString "server") = false by assumption]; rfl)
    · have hmv : movB σ r.addr pb (σ.top + 1 - σ.skip) = true := mov_yes (by assumption) (by assumption) (by assumption) (by assumption)
      refine Stop.go ?_
      rename Obj.IsDictOf _ _ _ => hd9
      rw [ite_max] at hd9
      rename News _ _ _ _ => N8
      subst hTe
      subst hoe
      have hL1 : LSide w { σ with top := max σ.top (σ.top + 1 - σ.skip) } lrs wd _ := .mk (c := c) (c2 := c2) hd9 hb hus hr
      have HS7 := fun o9 => Sep.perm (HS4 o9) (lp_swap _ _ _ _ _ _)
      have N7 := news_sub N8 fun p hp => (both_perm3 _ _ _ _ _ _ _ _ _ _).mem_iff.mpr hp
      (try (refine (?_ : wpAny _ _ _ _ _ _); k_fold)); k_dflt (refine' spec_use (law_moved_side hL1 hpr hlenL hndL (by rw [hl]; exact hF.act) (HS7 _)) ?zqk1 ?zqk2 ?zqk3 N7 ?zqk5 ?zqk6 ?zqk7 ?zqk8 ?_; (case zqk1 => k_asm); (case zqk2 => k_asm); (case zqk3 => k_asm); (case zqk5 => k_asm); (case zqk6 => first | exact rfl | assumption); (case zqk7 => ktr_room); (case zqk8 => ktr_units))
      rintro r7 n7 h7 tk7 ⟨rfl, ll7, rfl, hL7, hS7⟩ F7 N7'
      have N6 := news_sub N7' fun p hp => (swap_perm _ _ _).mem_iff.mpr hp
      have hS6 := swap_sep hS7
      dsimp only [List.cons_append] at N6
      clear N7'
      k_steps
      refine Stop.go ?_
      rename News _ _ _ _ => N5
      (try (refine (?_ : wpAny _ _ _ _ _ _); k_fold)); k_dflt (refine' spec_use (on_packet_side hP2 hprP hnd hS6) ?zqk1 ?zqk2 ?zqk3 N5 ?zqk5 ?zqk6 ?zqk7 ?zqk8 ?_; (case zqk1 => k_asm); (case zqk2 => k_asm); (case zqk3 => k_asm); (case zqk5 => k_asm); (case zqk6 => first | exact rfl | assumption); (case zqk7 => ktr_room); (case zqk8 => ktr_units))
      rintro r8 n8 h8 tk8 ⟨rfl, lp8, rfl, hP8, hS8⟩ F8 N8'
      rw [hmv] at hP8 ⊢
      k_steps
      rename News h₀ L _ _ => N10
      refine hend _ _ _ _ (by k_asm) (news_sub N10 fun p hp => (lp_back _ _ _).mem_iff.mpr hp) ⟨?_, movS σ r.addr (σ.top + 1 - σ.skip) true (prs.map Prod.fst), upd (isAt r.addr) renew rows, _, rfl, .mk (hp ▸ hl ▸ hL7) hP8 (by rw [upd_rows hpr hpre rfl, hl]) (by rw [← hp]; exact upd_rows (f := renew) hprP (not_at hpreE hpre) rfl), Fine.world (σ := σ) (σ' := movS σ r.addr (σ.top + 1 - σ.skip) true (prs.map Prod.fst)) (hF.upd (p := isAt r.addr) (f := renew) (fun _ => rfl) hF.asks) (mem_addr (a := r.addr) (upd_addr (f := renew) (fun _ => rfl) _) ⟨r, by rw [← hl, hpr]; simp, rfl⟩) rfl hF.ask, hS8.perm (lp_back _ _ _)⟩
      first | rfl | (rw [show (r.addr != σ.active) = true by assumption]; rfl)
    · have hmv : movB σ r.addr pb (σ.top + 1 - σ.skip) = false := mov_no hF.role (.inr (.inr (.inr (by assumption))))
      refine Stop.go ?_
      rename Obj.IsDictOf _ _ _ => hd9
      rw [ite_max] at hd9
      rename News _ _ _ _ => N8
      subst hTe
      subst hoe
      have N4 := news_sub N8 fun p hp => (both_perm2 _ _ _ _ _ _ _ _ _ _).mem_iff.mpr hp
      (try (refine (?_ : wpAny _ _ _ _ _ _); k_fold)); k_dflt (refine' spec_use (on_packet_side hP2 hprP hnd (HS4 _)) ?zqk1 ?zqk2 ?zqk3 N4 ?zqk5 ?zqk6 ?zqk7 ?zqk8 ?_; (case zqk1 => k_asm); (case zqk2 => k_asm); (case zqk3 => k_asm); (case zqk5 => k_asm); (case zqk6 => first | exact rfl | assumption); (case zqk7 => ktr_room); (case zqk8 => ktr_units))
      rintro r8 n8 h8 tk8 ⟨rfl, lp8, rfl, hP8, hS8⟩ F8 N8'
      rw [hmv] at hP8 ⊢
      k_steps
      rename News h₀ L _ _ => N10
      refine hend _ _ _ _ (by k_asm) (news_sub N10 fun p hp => (both_back _ _ _ _ _ _).mem_iff.mpr hp) ⟨?_, movS σ r.addr (σ.top + 1 - σ.skip) false (prs.map Prod.fst), rows, _, rfl, .mk (.mk hd9 hb hus hr) hP8 hl (by rw [← hp, hprP]; rfl), hF.world hF.act rfl hF.ask, hS8.perm (both_back _ _ _ _ _ _)⟩
      first | rfl | (rw [show pb = true by assumption]; rfl) | (rw [show (r.addr != σ.active) = false by assumption]; rfl) | (rw [decide_eq_false (show ¬ σ.top < σ.top + 1 - σ.skip by assumption)]; rfl) | (rw [show (σ.role == Str.ofString "server") = false by assumption]; rfl)
    · have hmv : movB σ r.addr pb (σ.top + 1 - σ.skip) = false := mov_no hF.role (.inr (.inr (.inl (by assumption))))
      refine Stop.go ?_
      rename Obj.IsDictOf _ _ _ => hd9
      rw [ite_max] at hd9
      rename News _ _ _ _ => N8
      subst hTe
      subst hoe
      have N4 := news_sub N8 fun p hp => (both_perm2 _ _ _ _ _ _ _ _ _ _).mem_iff.mpr hp
      (try (refine (?_ : wpAny _ _ _ _ _ _); k_fold)); k_dflt (refine' spec_use (on_packet_side hP2 hprP hnd (HS4 _)) ?zqk1 ?zqk2 ?zqk3 N4 ?zqk5 ?zqk6 ?zqk7 ?zqk8 ?_; (case zqk1 => k_asm); (case zqk2 => k_asm); (case zqk3 => k_asm); (case zqk5 => k_asm); (case zqk6 => first | exact rfl | assumption); (case zqk7 => ktr_room); (case zqk8 => ktr_units))
      rintro r8 n8 h8 tk8 ⟨rfl, lp8, rfl, hP8, hS8⟩ F8 N8'
      rw [hmv] at hP8 ⊢
      k_steps
      rename News h₀ L _ _ => N10
      refine hend _ _ _ _ (by k_asm) (news_sub N10 fun p hp => (both_back _ _ _ _ _ _).mem_iff.mpr hp) ⟨?_, movS σ r.addr (σ.top + 1 - σ.skip) false (prs.map Prod.fst), rows, _, rfl, .mk (.mk hd9 hb hus hr) hP8 hl (by rw [← hp, hprP]; rfl), hF.world hF.act rfl hF.ask, hS8.perm (both_back _ _ _ _ _ _)⟩
      first | rfl | (rw [show pb = true by assumption]; rfl) | (rw [show (r.addr != σ.active) = false by assumption]; rfl) | (rw [decide_eq_false (show ¬ σ.top < σ.top + 1 - σ.skip by assumption)]; rfl) | (rw [show (σ.role == Str.ofString "server") = false by assumption]; rfl)
    · have hmv : movB σ r.addr pb (σ.top + 1 - σ.skip) = false := mov_no hF.role (.inl (by assumption))
      refine Stop.go ?_
      rename Obj.IsDictOf _ _ _ => hd9
      rw [ite_max] at hd9
      rename News _ _ _ _ => N8
      subst hTe
      subst hoe
      have N4 := news_sub N8 fun p hp => (both_perm2 _ _ _ _ _ _ _ _ _ _).mem_iff.mpr hp
      (try (refine (?_ : wpAny _ _ _ _ _ _); k_fold)); k_dflt (refine' spec_use (on_packet_side hP2 hprP hnd (HS4 _)) ?zqk1 ?zqk2 ?zqk3 N4 ?zqk5 ?zqk6 ?zqk7 ?zqk8 ?_; (case zqk1 => k_asm); (case zqk2 => k_asm); (case zqk3 => k_asm); (case zqk5 => k_asm); (case zqk6 => first | exact rfl | assumption); (case zqk7 => ktr_room); (case zqk8 => ktr_units))
      rintro r8 n8 h8 tk8 ⟨rfl, lp8, rfl, hP8, hS8⟩ F8 N8'
      rw [hmv] at hP8 ⊢
      k_steps
      rename News h₀ L _ _ => N10
      refine hend _ _ _ _ (by k_asm) (news_sub N10 fun p hp => (both_back _ _ _ _ _ _).mem_iff.mpr hp) ⟨?_, movS σ r.addr (σ.top + 1 - σ.skip) false (prs.map Prod.fst), rows, _, rfl, .mk (.mk hd9 hb hus hr) hP8 hl (by rw [← hp, hprP]; rfl), hF.world hF.act rfl hF.ask, hS8.perm (both_back _ _ _ _ _ _)⟩
      first | rfl | (rw [show pb = true by assumption]; rfl) | (rw [show (r.addr != σ.active) = false by assumption]; rfl) | (rw [decide_eq_false (show ¬ σ.top < σ.top + 1 - σ.skip by assumption)]; rfl) | (rw [show (σ.role == Str.ofString "server") = false by assumption]; rfl)
  · k_steps
    exact hend _ _ _ _ (by k_asm) (news_sub (by assumption) hin4) ⟨rfl, σ, rows, _, rfl, .mk hL2 hP2 hl hp, hF, hsep⟩
end
section
theorem not_lost {σ : St} {b : Str} (hbk : σ.back = some b) (h : (σ.active == b) = false) : ¬ (σ.back = none ∨ σ.back = some σ.active) := by
  rw [hbk]
  rintro (e | e)
  · cases e
  · rw [Option.some.inj e] at h
    simp at h
theorem pside_act {w : World} {σ : St} {prs : List (Rw × Addr)} {ps : Addr} {l : Led} (h : PSide w σ prs ps l) : ∃ q ∈ prs.map Prod.fst, q.addr = σ.active := by
  cases h with
  | mk hr hact hra hback => exact ⟨_, List.mem_map.mpr ⟨_, hact, rfl⟩, hra⟩
theorem failR_asked {now : Int} {r : Rw} : (failR now r).asked.length ≤ r.asked.length := by
  unfold failR
  split
  · split
    · exact Nat.zero_le _
    · exact Nat.le_refl _
  · exact Nat.le_refl _
/-- the frame's map, three of its names written ahead -/
theorem map3 {m : Str → Option Value} {a b c : Str} {va vb vc : Value} (ha : m a = some va) (hb : m b = some vb) (hc : m c = some vc) : (fun y : Str => if y = a then some va else if y = b then some vb else if y = c then some vc else m y) = m := by
  funext y
  by_cases h1 : y = a
  · rw [if_pos h1, h1, ha]
  · rw [if_neg h1]
    by_cases h2 : y = b
    · rw [if_pos h2, h2, hb]
    · rw [if_neg h2]
      by_cases h3 : y = c
      · rw [if_pos h3, h3, hc]
      · rw [if_neg h3]
theorem time_cut {w : World} {M : Model} {A : Around} {env : Env} {body tl : List Stmt} {Q : Flow → Shared → Prop} {E : Value → Shared → Prop} {s₀ : Shared} {g : Heap} {L ps rl al : Addr} {h0 : Heap} {m0 : Str → Option Value} {sg : Array GenState} {sd : Drawn} {so : OsState} {now : Int} {t1 tr tt ts tn : Tok} {σ : St} {vb : Value}
    (X : Obj → Led) (dS dA : Str) (_ : Fr g L h0 m0)
    (h1 : ∀ h tk (m : Str → Option Value) od td ta, od.IsDictOf (SK w) [("role", .str σ.role tr), ("may", .bool σ.may), ("rows", .ref rl), ("active", .str dA ta), ("asked", .ref al), ("back", vb), ("top", .int σ.top tt), ("skip", .int σ.skip ts), ("now", .int σ.now tn)] →
      Fr g L h (fun y : Str => if y = Str.ofString "paths" then some (.ref ps) else if y = Str.ofString "now" then some (.int now t1) else if y = Str.ofString "due" then some (.str dS td) else m y) → News g L h (X od) → wpAny M A (execs tl env) Q E ⟨h, sg, sd, tk, so⟩)
    (h2 : (∀ h tk (m : Str → Option Value) od td ta, dS = dS → dA = dA → od.IsDictOf (SK w) [("role", .str σ.role tr), ("may", .bool σ.may), ("rows", .ref rl), ("active", .str dA ta), ("asked", .ref al), ("back", vb), ("top", .int σ.top tt), ("skip", .int σ.skip ts), ("now", .int σ.now tn)] →
      m (Str.ofString "paths") = some (.ref ps) → m (Str.ofString "now") = some (.int now t1) → m (Str.ofString "due") = some (.str dS td) → Fr g L h m → News g L h (X od) → wpAny M A (execs tl env) Q E ⟨h, sg, sd, tk, so⟩) → wpAny M A (execs body env) Q E s₀) : wpAny M A (execs body env) Q E s₀ :=
  h2 fun h tk m od td ta _ _ ho hp hn hd F N => h1 h tk m od td ta ho (by rw [map3 hp hn hd]; exact F) N
theorem law_time_spec {w mean mg mb} {wd ps : Addr} {l own : Led} {rows : List Rw} {σ : St} {now : Int} {t1 : Tok} {k : Nat}
    (hB : Both w wd ps σ rows l) (hF : Fine k σ rows) (hk60 : k ≤ 60) (hsep : Sep (l ++ own)) :
    Spec w mean mg mb 12 120 285 [.ref wd, .ref ps, .int now t1] (l ++ own)
      (fun r9 n => r9 = .bool true ∧ ∃ σ' rows' l', n = l' ++ own ∧ Both w wd ps σ' rows' l' ∧ Fine k σ' rows' ∧ Sep n) := by
  cases hB with
  | @mk lrs prs ll lp hL hP hl hp =>
  have hnd := nd_of hF.nd hp
  have hndL := nd_of hF.nd hl
  have hlenL : lrs.length ≤ 63 := len_of (Nat.le_trans hF.len (by omega)) hl
  have hL2 := hL
  cases hL with
  | @mk o rl al us c c2 vb tr ta tt ts tn ll' ho hb hus hr =>
  have hP2 := hP
  cases hP with
  | @mk pd kn an act last c3 c4 k0 k1 k2 k3 k4 k5 k6 tr2 th ra2 lp' hr2 hact hra2 hback =>
  unfold Spec; k_fill; intro dp un gd cn cs a ccd cl outer A₀ base h₀ L m sh sg sd st so Q E B F X N T9 hk hd hu hret; have kM := kstMark; w_top off; k_with_none; (k_with "MINE enter" => (k_dflt (refine' code_def ?zqk1 ?zqk2 ?zqk3 ?zqk4 ?zqk5 ?zqkA ?zqkF ?zqkK ?zqk6 ?zqk7 ?zqk8 ?zqk9 ?zqkB ?_ ?zqc2 ?zqc3 ?zqc4 ?zqc5; (case zqkA => exact rfl); (case zqkF => exact rfl); (case zqkK => first | exact rfl | assumption); (case zqk1 => k_asm); (case zqk2 => k_asm); (case zqk3 => k_asm); (case zqk4 => k_asm); (case zqk5 => k_asm); (case zqk6 => k_is); (case zqk7 => k_is); (case zqk8 => ktr_room); (case zqk9 => first | exact BindsTo.of_eq (binds := [(_, _)]) rfl | exact BindsTo.of_eq (binds := [(_, _), (_, _)]) rfl | exact BindsTo.of_eq (binds := [(_, _), (_, _), (_, _)]) rfl | exact BindsTo.of_eq (binds := [(_, _), (_, _), (_, _), (_, _)]) rfl | exact BindsTo.of_eq rfl); (case zqc5 => decide); (case zqkB => exact locs rfl); (case zqc2 => exact rfl); (case zqc3 => exact rfl); (case zqc4 => exact rfl); k_whole; intro g' L' h' FG' F' N' B' X' T'; (try dsimp only); (try k_lift B'); (try k_fold)))); (k_with "call ref" => (k_here; first | k_extra "MINE call" | (refine wpAny_call ?_; walk_at "MINE enter"))); (k_with "call ref" => (k_here; k_dflt (refine' call_cls ?zqk1 ?zqk2 ?zqk3 ?zqk4 ?zqk5 ?zqk6 ?_; (case zqk1 => k_asm); (case zqk2 => k_asm); (case zqk3 => k_asm); (case zqk4 => k_is); (case zqk5 => k_is); (case zqk6 => k_is); k_whole; intro x' d' h' F' N' l1 l2; (try k_lt l1); (try k_lt2 l2); (try k_sweep)); walk_at "MINE enter")); (k_with "TPost" => dsimp only [TPost]); (k_with "MINE enterC" => (k_dflt (refine' code_defC ?zqk1 ?zqk2 ?zqk3 ?zqk4 ?zqk5 ?zqkA ?zqkF ?zqkK ?zqk6 ?zqk7 ?zqk8 ?zqk9 ?zqkB ?zqkD ?_ ?zqc2 ?zqc3 ?zqc4; (case zqkA => exact rfl); (case zqkF => exact rfl); (case zqkK => first | exact rfl | assumption); (case zqk1 => k_asm); (case zqk2 => k_asm); (case zqk3 => k_asm); (case zqk4 => k_asm); (case zqk5 => k_asm); (case zqk6 => k_is); (case zqk7 => k_is); (case zqk8 => ktr_room); (case zqk9 => first | exact BindsTo.of_eq (binds := [(_, _)]) rfl | exact BindsTo.of_eq (binds := [(_, _), (_, _)]) rfl | exact BindsTo.of_eq (binds := [(_, _), (_, _), (_, _)]) rfl | exact BindsTo.of_eq (binds := [(_, _), (_, _), (_, _), (_, _)]) rfl | exact BindsTo.of_eq rfl); (case zqkB => exact rfl); (case zqkD => decide +kernel); (case zqc2 => exact rfl); (case zqc3 => exact rfl); (case zqc4 => exact rfl); k_whole; intro g' L' h' tk' cells' FG' F' N' Y' B' X' T' l1; k_cells Y'; (try simp only [List.cons_append, List.nil_append] at N'); (try dsimp only); (try k_lift B'); (try k_fold)))); (k_with "exec Assign cons ListComp" => (k_here; k_dflt (refine LCt.Assign_ListComp_T (F₀ := by k_asm) (by rfl) (by with_unfolding_all rfl) (by with_unfolding_all rfl) (by decide) (by rfl) (by decide) (by rfl) (by rfl) (by rfl) ?_))); (k_with "subscriptTail" => (k_here; (with_reducible show wpAny _ _ (subscriptTail _ _ (Value.ref _) (Value.str _ _)) _ _ _); k_dflt (refine' kda_item (knd := PySem.strKind _ _) ?zqk1 ?zqk2 ?zqk3 (strKind_is _ _ _ _) ?zqk4 ?_; (case zqk1 => k_asm); (case zqk2 => k_mem); (case zqk3 => assumption); (case zqk4 => rfl); k_whole))); (k_with "setItem ref str" => (k_here; k_dflt (refine' kda_set (knd := PySem.strKind _ _) ?zqF ?zqN ?zqU ?zqd (strKind_is _ _ _ _) ?zqz ?_; (case zqF => k_asm); (case zqN => k_asm); (case zqU => k_updF); (case zqd => assumption); (case zqz => kob_size)); intro h' o' F' N' hd'; (try kob_lit); (try dsimp only at N'); (try dsimp only); (try k_gentoks))); (k_with "compareOp NotEq ref ref" => (k_here; k_dflt (refine' ne_nil ?zqk1 ?zqk2 ?zqk3 ?zqk4 ?_; (case zqk1 => k_asm); (case zqk2 => k_mem); (case zqk3 => k_mem); (case zqk4 => ktr_units)); (try dsimp only [List.isEmpty, Bool.not_true, Bool.not_false, List.map]))); (k_with "MINE ne" => (refine neN ?_; (try dsimp only); first | exact NeA.ne (by assumption) | exact (NeA.ne (by assumption)).symm | omega)); (k_with "compareOp In bytes ref" => (k_here; k_dflt (refine' in_bytes ?zqk1 ?zqk2 ?zqk3 ?_; (case zqk1 => k_asm); (case zqk2 => k_mem); (case zqk3 => assumption)))); (k_with "exec Raise some none" => (k_here; k_dflt (refine' Raise_38 ?zqk1 ?zqk2 ?_; (case zqk1 => k_asm); (case zqk2 => first | rfl | assumption)))); (k_with "call ref" => (k_here; (with_reducible show wpAny _ _ (call (Value.ref 38) _) _ _ _); k_dflt (refine' call_refuse ?zqk1 ?zqk2 ?zqk3 ?_; (case zqk1 => k_asm); (case zqk2 => k_asm); (case zqk3 => k_asm); k_whole); intro e38 t38 h38 F38 N38 hap38 hne38; refine wpAny_call ?_; walk_at "MINE enter")); (k_with "getMethod type:Exception" => (k_here; refine' method_type ?zqF ?zqX ?zqm (by decide +kernel) ?zqe ?zqh ?_; (case zqF => k_asm); (case zqX => k_asm); (case zqm => kernel_rfl); (case zqe => k_dflt k_is); (case zqh => k_handed))); (k_with "call builtin:Exception.__init__" => (k_here; k_dflt (refine' init_w ?zqk1 ?zqk2 ?zqk3 ?zqk4 ?_; (case zqk1 => k_asm); (case zqk2 => k_asm); (case zqk3 => k_asm); (case zqk4 => exact per_e (by assumption) (by assumption)); k_whole); intro h39 t39 F39 N39 hap39 hne39)); (k_with "setAttr ref" => (k_here; (with_reducible show wpAny _ _ (setAttr (Value.ref _) (PySem.Str.ofString "text") _) _ _ _); k_dflt (refine' text_w ?zqk1 ?zqk2 ?zqk3 ?zqk4 ?_; (case zqk1 => k_asm); (case zqk2 => k_asm); (case zqk3 => k_asm); (case zqk4 => exact per_t (by assumption) (by assumption) (by assumption)); k_whole); intro h40 tk40 o40 F40 N40 hc40 hd40)); (k_with "Refusing" => ((rename News _ _ _ (_ :: (_, tupO _) :: _ :: _) => N41); (rename (_ = Data.fields _) => hd41); refine ⟨_, _, _, rfl, Fr.keep (by k_asm), (N41 _ (.head _)).1, by assumption, hd41, ?_⟩)); (k_with "leaving ref" => (k_here; (rename News _ _ _ (_ :: (_, tupO _) :: _ :: _) => N41); (rename (_ = Data.fields _) => hd41); k_dflt (refine' leave_x ?zqk1 ?zqk2 (vs := [_]) N41 ?zqk4 ?zqk5 hd41 ?_; (case zqk1 => assumption); (case zqk2 => k_asm); (case zqk4 => exact per_b (by assumption) (by assumption) (by assumption)); (case zqk5 => assumption); k_whole); intro h42 R42 U42)); (k_with "MINE enterS" => (k_dflt (refine' code_defT ?zqk1 ?zqk2 ?zqk3 ?zqk4 ?zqk5 ?zqkXB ?zqkTB ?zqkD ?zqkA ?zqkF ?zqkK ?zqk6 ?zqk7 ?zqk8 ?zqk9 ?zqkB ?_ ?zqc2 ?zqc3 ?zqc4 ?zqc5; (case zqkA => exact rfl); (case zqkF => exact rfl); (case zqkK => first | exact rfl | assumption); (case zqk1 => k_asm); (case zqk2 => k_asm); (case zqk3 => k_asm); (case zqk4 => k_asm); (case zqk5 => k_asm); (case zqkXB => assumption); (case zqkTB => assumption); (case zqkD => assumption); (case zqk6 => k_is); (case zqk7 => k_is); (case zqk8 => ktr_room); (case zqk9 => first | exact BindsTo.of_eq (binds := [(_, _)]) rfl | exact BindsTo.of_eq (binds := [(_, _), (_, _)]) rfl | exact BindsTo.of_eq (binds := [(_, _), (_, _), (_, _)]) rfl | exact BindsTo.of_eq (binds := [(_, _), (_, _), (_, _), (_, _)]) rfl | exact BindsTo.of_eq rfl); (case zqc5 => decide); (case zqkB => exact locs rfl); (case zqc2 => exact rfl); (case zqc3 => exact rfl); (case zqc4 => exact rfl); k_whole; intro g' L' h' FG' F' N' B' X' T' D'; (try dsimp only); (try k_lift B'); (try k_fold)))); (k_with "exec For Name Subscript cons nil" => (k_here; (rename Fr _ _ _ _ => lF'); (with_unfolding_all refine' For_invVF lF' ?zqk1 ?zqk2 ?_; (case zqk1 => exact rfl); (case zqk2 => exact rfl); k_whole))); (k_with "compareOp In none ref" => (k_here; k_dflt (refine' none_in_pair ?zqk1 ?zqk2 ?_; (case zqk1 => k_asm); (case zqk2 => k_mem)))); (k_with "compareOp In str ref" => (k_here; k_dflt (refine' str_in_pair ?zqk1 ?zqk2 ?_; (case zqk1 => k_asm); (case zqk2 => k_mem)))); (k_with "compareOp Eq ref ref" => (k_here; k_dflt (refine' eq_nil ?zqk1 ?zqk2 ?zqk3 ?zqk4 ?_; (case zqk1 => k_asm); (case zqk2 => k_mem); (case zqk3 => k_mem); (case zqk4 => ktr_units)); (try dsimp only [List.isEmpty, List.map]))); (k_with "call builtin:len" => (k_here; (with_reducible show wpAny _ _ (call (Value.builtin "len") [Value.ref _]) _ _ _); k_dflt (refine' len_led ?zqk1 ?zqk2 ?zqk3 ?_; (case zqk1 => k_asm); (case zqk2 => k_mem); (case zqk3 => exact Nat.le_trans (by assumption) (by decide))))); (k_with "eval ListComp" => (k_here; k_dflt (refine LCt.ListComp_T (F₀ := by k_asm) (by with_unfolding_all rfl) (by decide) (by rfl) (by decide) (by rfl) ?_))); (k_with "subscriptTail" => (k_here; (with_reducible show wpAny _ _ (subscriptTail _ _ (Value.ref _) (Value.int _ _)) _ _ _); k_dflt (refine' item_led ?zqk1 ?zqk2 ?zqk3 ?zqk4 ?zqk5 ?_; (case zqk1 => k_asm); (case zqk2 => k_mem); (case zqk5 => assumption); (case zqk3 => assumption); (case zqk4 => omega)))); (k_with "MINE in" => (refine' Frag.In.keeps ?zqk1 (Fr.keep ?zqk2); (case zqk2 => with_reducible assumption); (case zqk1 => with_reducible assumption))); (k_with "storeName" => (k_here; (try dsimp only); k_dflt (refine' storeX_L ?zqF ?zqN ?_ ?zqa ?zqb; (case zqF => k_asm); (case zqN => k_asm); (case zqa => rfl); (case zqb => rfl); k_whole); intro h' F' N'; (try k_sweep))); (k_with "setAttr ref" => (dsimp only; walk1)); (k_with "call ref" => (dsimp only; walk1)); (k_with "setItem ref str" => (dsimp only; walk1)); (k_with "execs cons" => (k_here; (with_reducible show wpAny _ _ (execs [PySem.Stmt.Return (some (PySem.Expr.Compare _ _ _ _)) _] _) _ _ _); refine stop_of ?_)); have hend := fun r n h t a b c => hret r n h t c a b; refine wpAny_call ?_
  have hperm := both_perm (wd, o) (rl, listOf (lrs.map fun p => Value.ref p.2).toArray c) (al, listOf us.toArray c2) ll' (ps, instObj 224 pd) (pd, pathsO w k0 k1 k2 k3 k4 k5 k6 (.str σ.role tr2) (.bool σ.may) (.ref kn) (.ref act) last (.int σ.top th) (.ref an)) (kn, listOf (prs.map fun p => Value.ref p.2).toArray c3) lp' (an, listOf #[] c4) own
  replace hperm := hperm.trans (time_perm _ _ _ _ _ _ _ _)
  replace N := news_sub N fun p hp => hperm.mem_iff.mpr hp
  have hsep2 := hsep.perm hperm
  generalize hoe3 : (al, listOf us.toArray c2) :: (ps, instObj 224 pd) :: _ = own3 at N hsep2
  walk_at "MINE enter"
  generalize hLO : listOf (lrs.map fun p => Value.ref p.2).toArray c = LO at *
  k_steps
  subst hLO
  show wpAny _ _ (pyIter (Value.ref rl)) _ _ _
  refine loop_led [] (fun i n => ∃ l₁ l₂, n = (wd, o) :: (rl, listOf (lrs.map fun p => Value.ref p.2).toArray c) :: (l₁ ++ (l₂ ++ own3)) ∧
    Rows (LRow w) ((lrs.take i).map (failP now)) l₁ ∧ Rows (LRow w) (lrs.drop i) l₂ ∧ Sep n) rfl (by k_asm) (by k_asm) (.tail _ (.head _)) ⟨[], ll', rfl, by simpa using Rows.nil, by simpa using hr, hsep2⟩ (fun i n h => by obtain ⟨_, _, rfl, _⟩ := h; exact .tail _ (.head _)) ?_ ?_
  · rintro I it i v u n1 h tk hv hlow ⟨l₁, l₂, rfl, hr1, hr2, hS⟩ hoff F1 N1
    rw [List.getElem?_map] at hv
    cases hi : lrs[i]? with
    | none => rw [hi] at hv; cases hv
    | some p =>
      obtain ⟨r, ra⟩ := p
      rw [hi] at hv
      have hv' := Option.some.inj hv
      dsimp only at hv'
      subst hv'
      clear hv
      obtain ⟨hd1, ht1⟩ := split_at hi
      rw [hd1] at hr2
      cases hr2 with
      | cons hpr hr2 =>
      cases hpr with
      | mk hro9 hus9 hvv =>
        obtain ⟨N2, hS2⟩ := turn_ready (A := [_, _]) N1 hS hoff
        dsimp only [List.cons_append, List.nil_append] at N2 hS2
        generalize hTe : l₁ ++ (_ ++ own3) = T at N2 hS2
        have hO := Sep.off (E := [_, _, _, _, _]) hS2
        dsimp only [List.map] at hO
        clear N1
        refine ap_elim (E := [_, _, _, _, _]) hS2 ?_
        dsimp only [Ap, NeP]
        intros
        cases hfin : r.fin with
        | none =>
          rw [hfin] at hvv
          cases hvv
          k_steps
          subst hTe
          refine turn_end (A := [_, _]) (lr' := [_, _]) (by k_asm) N2 (.head _) (fun p hp => .tail _ hp) hS2 (fun hS' => ⟨_, _, rfl, ?_, hr2, hS'⟩) (fun y h1 h2 => by rw [if_neg h1]; rfl)
          rw [ht1, List.map_append]
          refine hr1.append (.one ?_)
          rw [failR_none hfin]
          exact .mk hro9 hus9 (hfin ▸ .none)
        | some d =>
          rw [hfin] at hvv
          cases hvv
          k_steps
          · rename d ≤ now => hle
            rename _ ∧ _ ∧ _ ∧ _ ∧ _ ∧ AllLt _ T => hl1
            rename News _ _ _ _ => N9
            rename Obj.IsDictOf _ _ _ => hd9
            subst hTe
            refine turn_end (A := [_, _]) (lr' := [_, _]) (by k_asm) N9 (.tail _ (.tail _ (.head _))) (fun p hp => mem2 hp (.tail _ (.tail _ (.tail _ (.head _)))) (.tail _ (.head _)) (fun q hq => .tail _ (.tail _ (.tail _ (.tail _ (.tail _ hq)))))) ((sep_swap (X := [_, _]) hS2 hl1).same rfl) (fun hS' => ⟨_, _, rfl, ?_, hr2, hS'⟩) (fun y h1 h2 => by rw [if_neg h1]; rfl)
            rw [ht1, List.map_append]
            refine hr1.append (.one ?_)
            rw [failR_due hfin hle]
            exact .mk (us := []) hd9 .nil .none
          · rename ¬ d ≤ now => hle
            subst hTe
            refine turn_end (A := [_, _]) (lr' := [_, _]) (by k_asm) N2 (.head _) (fun p hp => .tail _ hp) hS2 (fun hS' => ⟨_, _, rfl, ?_, hr2, hS'⟩) (fun y h1 h2 => by rw [if_neg h1]; rfl)
            rw [ht1, List.map_append]
            refine hr1.append (.one ?_)
            rw [failR_not hfin hle]
            exact .mk hro9 hus9 (hfin ▸ .some _ _)
  · rintro u n1 h tk ⟨l₁, l₂, rfl, hr1, hr2, hS⟩ F1 N1
    rw [show (lrs.map fun p => Value.ref p.2).length = lrs.length from List.length_map .., List.take_length] at hr1
    rw [show (lrs.map fun p => Value.ref p.2).length = lrs.length from List.length_map .., List.drop_length] at hr2
    cases hr2
    subst hoe3
    have hS1 := hS.perm (time_perm _ _ _ _ _ _ l₁ _).symm
    have N2 := news_sub N1 fun p hp => (time_perm _ _ _ _ _ _ l₁ _).mem_iff.mp hp
    rw [← failP_addr (now := now)] at N2 hS1
    clear N1 hS
    have hk1 : (wd, o) ∈ (wd, o) :: (rl, listOf ((lrs.map (failP now)).map fun p => Value.ref p.2).toArray c) :: (al, listOf us.toArray c2) :: (ps, instObj 224 pd) :: (pd, pathsO w k0 k1 k2 k3 k4 k5 k6 (.str σ.role tr2) (.bool σ.may) (.ref kn) (.ref act) last (.int σ.top th) (.ref an)) :: (kn, listOf (prs.map fun p => Value.ref p.2).toArray c3) :: (l₁ ++ (lp' ++ (an, listOf #[] c4) :: own)) := .head _
    have hk3 : (rl, listOf ((lrs.map (failP now)).map fun p => Value.ref p.2).toArray c) ∈ (wd, o) :: (rl, listOf ((lrs.map (failP now)).map fun p => Value.ref p.2).toArray c) :: (al, listOf us.toArray c2) :: (ps, instObj 224 pd) :: (pd, pathsO w k0 k1 k2 k3 k4 k5 k6 (.str σ.role tr2) (.bool σ.may) (.ref kn) (.ref act) last (.int σ.top th) (.ref an)) :: (kn, listOf (prs.map fun p => Value.ref p.2).toArray c3) :: (l₁ ++ (lp' ++ (an, listOf #[] c4) :: own)) := .tail _ (.head _)
    have hs3 : ∀ p ∈ l₁, p ∈ (wd, o) :: (rl, listOf ((lrs.map (failP now)).map fun p => Value.ref p.2).toArray c) :: (al, listOf us.toArray c2) :: (ps, instObj 224 pd) :: (pd, pathsO w k0 k1 k2 k3 k4 k5 k6 (.str σ.role tr2) (.bool σ.may) (.ref kn) (.ref act) last (.int σ.top th) (.ref an)) :: (kn, listOf (prs.map fun p => Value.ref p.2).toArray c3) :: (l₁ ++ (lp' ++ (an, listOf #[] c4) :: own)) := fun p hp => .tail _ (.tail _ (.tail _ (.tail _ (.tail _ (.tail _ (List.mem_append_left _ hp))))))
    have hlen2 : (lrs.map (failP now)).length ≤ 63 := by rw [List.length_map]; exact hlenL
    dsimp only
    have HS4 : ∀ o9, Sep (((ps, instObj 224 pd) :: (pd, pathsO w k0 k1 k2 k3 k4 k5 k6 (.str σ.role tr2) (.bool σ.may) (.ref kn) (.ref act) last (.int σ.top th) (.ref an)) :: (kn, listOf (prs.map fun p => Value.ref p.2).toArray c3) :: (lp' ++ [(an, listOf #[] c4)])) ++ ((wd, o9) :: (rl, listOf ((lrs.map (failP now)).map fun p => Value.ref p.2).toArray c) :: (al, listOf us.toArray c2) :: (l₁ ++ own))) := fun o9 => Sep.perm (hS1.same (l' := (wd, o9) :: _) rfl) (both_perm2 _ _ _ _ _ _ _ _ _ _)
    generalize hTe : l₁ ++ (lp' ++ (an, listOf #[] c4) :: own) = T at N2 hS1 hk1 hk3 hs3
    rename Fr _ _ _ _ => FB9
    refine' time_cut (w := w) (ps := ps) (now := now) (t1 := t1) (σ := σ) (vb := vb) (rl := rl) (al := al) (tr := tr) (tt := tt) (ts := ts) (tn := tn) (tl := ?zqevT) (sg := sg) (sd := sd) (so := so) (fun od => (wd, od) :: (rl, listOf ((lrs.map (failP now)).map fun p => Value.ref p.2).toArray c) :: (al, listOf us.toArray c2) :: (ps, instObj 224 pd) :: (pd, pathsO w k0 k1 k2 k3 k4 k5 k6 (.str σ.role tr2) (.bool σ.may) (.ref kn) (.ref act) last (.int σ.top th) (.ref an)) :: (kn, listOf (prs.map fun p => Value.ref p.2).toArray c3) :: T) (dueS σ ((prs.map Prod.fst).map (failR now))) (dueA σ ((prs.map Prod.fst).map (failR now))) FB9 ?zqevA ?zqevB
    case zqevB =>
      intro htail
      k_with "MINE call" => ((with_reducible show wpAny _ _ (call (Value.ref 252) _) _ _ _); (try (refine (?_ : wpAny _ _ _ _ _ _); k_fold)); k_dflt (refine' law_any hk1 ho hk3 hr1 hs3 hlen2 ?zqk1 ?zqk2 ?zqk3 ?zqk4 ?zqk5 ?zqk6 ?zqk7 ?zqk8 ?_ ?_; (case zqk1 => k_asm); (case zqk2 => k_asm); (case zqk3 => k_asm); (case zqk4 => k_asm); (case zqk5 => k_asm); (case zqk6 => first | exact rfl | assumption); (case zqk7 => ktr_room); (case zqk8 => ktr_units); all_goals refine stop_of ?_))
      k_steps
      · refine Stop.go ?_
        intro r ra pre post h9 tk9 hpr hpre hra F9 N9
        have hin : (r, ra) ∈ lrs.map (failP now) := by rw [hpr]; exact List.mem_append_right _ (.head _)
        obtain ⟨lr, hrow, hlr⟩ := hr1.mem hin
        have hst := stOf_at (failP_nd hndL) hin hra
        rw [failP_fst, hl] at hst
        cases hrow with
        | mk hro9 hus9 hv9 =>
        have mA1 := hs3 _ (hlr _ (.head _))
        clear hlr hpr hpre
        have hO := Sep.off (E := [_, _, _, _, _, _]) hS1
        dsimp only [List.map] at hO
        refine ap_elim (E := [_, _, _, _, _, _]) hS1 ?_
        dsimp only [Ap, NeP]
        intros
        cases hbk : σ.back with
        | none =>
          rw [hbk] at hb
          cases hb
          k_steps
          · refine Stop.go ?_
            rename News _ _ _ _ => N8
            rename Obj.IsDictOf _ _ _ => hd9
            have hdS : dueS σ ((prs.map Prod.fst).map (failR now)) = Str.ofString "lost" := by unfold dueS; rw [hp, hst, if_pos (eq_of_beq (by assumption : (r.st == Str.ofString "failed") = true)), if_pos (.inl hbk)]
            have hdA : dueA σ ((prs.map Prod.fst).map (failR now)) = σ.active := by unfold dueA; rw [hp, hst, if_pos (eq_of_beq (by assumption : (r.st == Str.ofString "failed") = true)), hbk]; rfl
            rw [hdS, hdA] at htail
            exact htail _ _ _ _ _ _ rfl rfl hd9 rfl rfl rfl (by k_asm) (news_sub N8 fun p hp => .tail _ hp)
          · refine Stop.go ?_
            rename News _ _ _ _ => N8
            rename (_ == Str.ofString "failed") = false => hq5
            have hdS : dueS σ ((prs.map Prod.fst).map (failR now)) = Str.ofString "same" := by unfold dueS; rw [hp, hst, if_neg (fun z => by rw [z] at hq5; simp at hq5)]
            have hdA : dueA σ ((prs.map Prod.fst).map (failR now)) = σ.active := by unfold dueA; rw [hp, hst, if_neg (fun z => by rw [z] at hq5; simp at hq5)]
            rw [hdS, hdA] at htail
            exact htail _ _ _ _ _ _ rfl rfl ho rfl rfl rfl (by k_asm) N8
        | some b =>
          rw [hbk] at hb
          cases hb
          k_steps
          · refine Stop.go ?_
            rename News _ _ _ _ => N8
            rename Obj.IsDictOf _ _ _ => hd9
            have hdS : dueS σ ((prs.map Prod.fst).map (failR now)) = Str.ofString "lost" := by unfold dueS; rw [hp, hst, if_pos (eq_of_beq (by assumption : (r.st == Str.ofString "failed") = true)), if_pos (.inr (by rw [hbk, eq_of_beq (by assumption : (σ.active == b) = true)]))]
            have hdA : dueA σ ((prs.map Prod.fst).map (failR now)) = σ.active := by unfold dueA; rw [hp, hst, if_pos (eq_of_beq (by assumption : (r.st == Str.ofString "failed") = true)), hbk]; exact (eq_of_beq (by assumption : (σ.active == b) = true)).symm
            rw [hdS, hdA] at htail
            exact htail _ _ _ _ _ _ rfl rfl hd9 rfl rfl rfl (by k_asm) (news_sub N8 fun p hp => .tail _ hp)
          · refine Stop.go ?_
            rename News _ _ _ _ => N8
            rename Obj.IsDictOf _ _ _ => hd9
            have hdS : dueS σ ((prs.map Prod.fst).map (failR now)) = Str.ofString "back" := by unfold dueS; rw [hp, hst, if_pos (eq_of_beq (by assumption : (r.st == Str.ofString "failed") = true)), if_neg (not_lost hbk (by assumption))]
            have hdA : dueA σ ((prs.map Prod.fst).map (failR now)) = b := by unfold dueA; rw [hp, hst, if_pos (eq_of_beq (by assumption : (r.st == Str.ofString "failed") = true)), hbk]; rfl
            rw [hdS, hdA] at htail
            exact htail _ _ _ _ _ _ rfl rfl hd9 rfl rfl rfl (by k_asm) (news_sub N8 fun p hp => .tail _ hp)
          · refine Stop.go ?_
            rename News _ _ _ _ => N8
            rename (_ == Str.ofString "failed") = false => hq5
            have hdS : dueS σ ((prs.map Prod.fst).map (failR now)) = Str.ofString "same" := by unfold dueS; rw [hp, hst, if_neg (fun z => by rw [z] at hq5; simp at hq5)]
            have hdA : dueA σ ((prs.map Prod.fst).map (failR now)) = σ.active := by unfold dueA; rw [hp, hst, if_neg (fun z => by rw [z] at hq5; simp at hq5)]
            rw [hdS, hdA] at htail
            exact htail _ _ _ _ _ _ rfl rfl ho rfl rfl rfl (by k_asm) N8
      · refine Stop.go ?_
        intro hno
        exfalso
        obtain ⟨q, hq, hqa⟩ := hF.act
        rw [← hl] at hq
        obtain ⟨p, hp1, rfl⟩ := List.mem_map.mp hq
        exact hno _ (List.mem_map.mpr ⟨p, hp1, rfl⟩) (failR_addr.trans hqa)
    case zqevA =>
      intro h5 tk5 m5 od td ta' hod F5 N5
      refine wpAny_execs_cons ?_
      k_with "MINE call" => ((with_reducible show wpAny _ _ (call (Value.ref 221) _) _ _ _); refine stop_of ?_)
      k_steps
      refine Stop.go ?_
      rename News _ _ _ _ => N8
      subst hTe
      have N4 := news_sub N8 fun p hp => (both_perm2 _ _ _ _ _ _ _ _ _ _).mem_iff.mpr hp
      (try (refine (?_ : wpAny _ _ _ _ _ _); k_fold)); k_dflt (refine' spec_use (on_time_side hP2 hnd (HS4 _)) ?zqk1 ?zqk2 ?zqk3 N4 ?zqk5 ?zqk6 ?zqk7 ?zqk8 ?_; (case zqk1 => k_asm); (case zqk2 => k_asm); (case zqk3 => k_asm); (case zqk5 => k_asm); (case zqk6 => first | exact rfl | assumption); (case zqk7 => ktr_room); (case zqk8 => ktr_units))
      rintro r8 n8 h8 tk8 ⟨tk, lp8, rfl, rfl, hP8, hS8⟩ F8 N8'
      generalize dueS σ ((prs.map Prod.fst).map (failR now)) = dS at *
      k_steps
      rename News h₀ L _ _ => N10
      have hact8 := pside_act hP8
      rw [failP_fst, hp] at hact8
      exact hend _ _ _ _ (by k_asm) (news_sub N10 fun p hp => (both_back _ _ _ _ _ _).mem_iff.mpr hp) ⟨by simp, { σ with active := dueA σ ((prs.map Prod.fst).map (failR now)) }, rows.map (failR now), _, rfl, .mk (.mk hod hb hus hr1) hP8 (by rw [failP_fst, hl]) (by rw [failP_fst, hp]), (hF.mapf (f := failR now) (fun _ => failR_addr) (fun r hr => Nat.le_trans failR_asked (hF.asks r hr))).world (by rw [hp]; exact hact8) rfl hF.ask, hS8.perm (both_back _ _ _ _ _ _)⟩
end
section
theorem fst_all {P : Rw → Prop} {xs ys : List (Rw × Addr)} (e : ys.map Prod.fst = xs.map Prod.fst) (h : ∀ q ∈ xs, P q.1) : ∀ q ∈ ys, P q.1 := fun q hq => by
  have : q.1 ∈ xs.map Prod.fst := by rw [← e]; exact List.mem_map.mpr ⟨q, hq, rfl⟩
  obtain ⟨p, hp, e2⟩ := List.mem_map.mp this
  rw [← e2]; exact h p hp
theorem filter_none {lrs : List (Rw × Addr)} {p : Rw → Bool} (h : ∀ q ∈ lrs, p q.1 = false) : (lrs.filter fun q => p q.1) = [] := List.filter_eq_nil_iff.mpr fun q hq => by rw [h q hq]; exact Bool.false_ne_true
theorem filter_first {pre post : List (Rw × Addr)} {r : Rw} {a : Addr} {p : Rw → Bool} (h : ∀ q ∈ pre, p q.1 = false) (hr : p r = true) : ((pre ++ (r, a) :: post).filter fun q => p q.1) = (r, a) :: post.filter fun q => p q.1 := by
  rw [List.filter_append, filter_none h, List.nil_append, List.filter_cons, if_pos hr]
theorem upd_first {pre post : List (Rw × Addr)} {r : Rw} {a : Addr} {p : Rw → Bool} {f : Rw → Rw} (h : ∀ q ∈ pre, p q.1 = false) (hr : p r = true) : (pre ++ (f r, a) :: post).map Prod.fst = upd p f ((pre ++ (r, a) :: post).map Prod.fst) := by
  rw [List.map_append, List.map_append, List.map_cons, List.map_cons]
  refine (upd_at hr fun q hq => ?_).symm
  obtain ⟨x, hx, rfl⟩ := List.mem_map.mp hq
  exact h x hx
theorem law_answer_spec {w mean mg mb} {wd ps : Addr} {l own : Led} {rows : List Rw} {σ : St} {b : Array UInt8} {t1 : Tok} {k : Nat}
    (hB : Both w wd ps σ rows l) (hF : Fine k σ rows) (hk60 : k ≤ 60) (hsep : Sep (l ++ own)) :
    Spec w mean mg mb 12 120 278 [.ref wd, .ref ps, .bytes b t1] (l ++ own)
      (fun r9 n => r9 = .bool true ∧ ∃ σ' rows' l', n = l' ++ own ∧ Both w wd ps σ' rows' l' ∧ Fine k σ' rows' ∧ Sep n) := by
  cases hB with
  | @mk lrs prs ll lp hL hP hl hp =>
  have hnd := nd_of hF.nd hp
  have hndL := nd_of hF.nd hl
  have hlenL : lrs.length ≤ 63 := len_of (Nat.le_trans hF.len (by omega)) hl
  have hL2 := hL
  cases hL with
  | @mk o rl al us c c2 vb tr ta tt ts tn ll' ho hb hus hr =>
  have hP2 := hP
  cases hP with
  | @mk pd kn an act last c3 c4 k0 k1 k2 k3 k4 k5 k6 tr2 th ra2 lp' hr2 hact hra2 hback =>
  unfold Spec; k_fill; intro dp un gd cn cs a ccd cl outer A₀ base h₀ L m sh sg sd st so Q E B F X N T9 hk hd hu hret; have kM := kstMark; w_top off; k_with_none; (k_with "MINE enter" => (k_dflt (refine' code_def ?zqk1 ?zqk2 ?zqk3 ?zqk4 ?zqk5 ?zqkA ?zqkF ?zqkK ?zqk6 ?zqk7 ?zqk8 ?zqk9 ?zqkB ?_ ?zqc2 ?zqc3 ?zqc4 ?zqc5; (case zqkA => exact rfl); (case zqkF => exact rfl); (case zqkK => first | exact rfl | assumption); (case zqk1 => k_asm); (case zqk2 => k_asm); (case zqk3 => k_asm); (case zqk4 => k_asm); (case zqk5 => k_asm); (case zqk6 => k_is); (case zqk7 => k_is); (case zqk8 => ktr_room); (case zqk9 => first | exact BindsTo.of_eq (binds := [(_, _)]) rfl | exact BindsTo.of_eq (binds := [(_, _), (_, _)]) rfl | exact BindsTo.of_eq (binds := [(_, _), (_, _), (_, _)]) rfl | exact BindsTo.of_eq (binds := [(_, _), (_, _), (_, _), (_, _)]) rfl | exact BindsTo.of_eq rfl); (case zqc5 => decide); (case zqkB => exact locs rfl); (case zqc2 => exact rfl); (case zqc3 => exact rfl); (case zqc4 => exact rfl); k_whole; intro g' L' h' FG' F' N' B' X' T'; (try dsimp only); (try k_lift B'); (try k_fold)))); (k_with "call ref" => (k_here; first | k_extra "MINE call" | (refine wpAny_call ?_; walk_at "MINE enter"))); (k_with "call ref" => (k_here; k_dflt (refine' call_cls ?zqk1 ?zqk2 ?zqk3 ?zqk4 ?zqk5 ?zqk6 ?_; (case zqk1 => k_asm); (case zqk2 => k_asm); (case zqk3 => k_asm); (case zqk4 => k_is); (case zqk5 => k_is); (case zqk6 => k_is); k_whole; intro x' d' h' F' N' l1 l2; (try k_lt l1); (try k_lt2 l2); (try k_sweep)); walk_at "MINE enter")); (k_with "TPost" => dsimp only [TPost]); (k_with "MINE enterC" => (k_dflt (refine' code_defC ?zqk1 ?zqk2 ?zqk3 ?zqk4 ?zqk5 ?zqkA ?zqkF ?zqkK ?zqk6 ?zqk7 ?zqk8 ?zqk9 ?zqkB ?zqkD ?_ ?zqc2 ?zqc3 ?zqc4; (case zqkA => exact rfl); (case zqkF => exact rfl); (case zqkK => first | exact rfl | assumption); (case zqk1 => k_asm); (case zqk2 => k_asm); (case zqk3 => k_asm); (case zqk4 => k_asm); (case zqk5 => k_asm); (case zqk6 => k_is); (case zqk7 => k_is); (case zqk8 => ktr_room); (case zqk9 => first | exact BindsTo.of_eq (binds := [(_, _)]) rfl | exact BindsTo.of_eq (binds := [(_, _), (_, _)]) rfl | exact BindsTo.of_eq (binds := [(_, _), (_, _), (_, _)]) rfl | exact BindsTo.of_eq (binds := [(_, _), (_, _), (_, _), (_, _)]) rfl | exact BindsTo.of_eq rfl); (case zqkB => exact rfl); (case zqkD => decide +kernel); (case zqc2 => exact rfl); (case zqc3 => exact rfl); (case zqc4 => exact rfl); k_whole; intro g' L' h' tk' cells' FG' F' N' Y' B' X' T' l1; k_cells Y'; (try simp only [List.cons_append, List.nil_append] at N'); (try dsimp only); (try k_lift B'); (try k_fold)))); (k_with "exec Assign cons ListComp" => (k_here; k_dflt (refine LCt.Assign_ListComp_T (F₀ := by k_asm) (by rfl) (by with_unfolding_all rfl) (by with_unfolding_all rfl) (by decide) (by rfl) (by decide) (by rfl) (by rfl) (by rfl) ?_))); (k_with "subscriptTail" => (k_here; (with_reducible show wpAny _ _ (subscriptTail _ _ (Value.ref _) (Value.str _ _)) _ _ _); k_dflt (refine' kda_item (knd := PySem.strKind _ _) ?zqk1 ?zqk2 ?zqk3 (strKind_is _ _ _ _) ?zqk4 ?_; (case zqk1 => k_asm); (case zqk2 => k_mem); (case zqk3 => assumption); (case zqk4 => rfl); k_whole))); (k_with "setItem ref str" => (k_here; k_dflt (refine' kda_set (knd := PySem.strKind _ _) ?zqF ?zqN ?zqU ?zqd (strKind_is _ _ _ _) ?zqz ?_; (case zqF => k_asm); (case zqN => k_asm); (case zqU => k_updF); (case zqd => assumption); (case zqz => kob_size)); intro h' o' F' N' hd'; (try kob_lit); (try dsimp only at N'); (try dsimp only); (try k_gentoks))); (k_with "compareOp NotEq ref ref" => (k_here; k_dflt (refine' ne_nil ?zqk1 ?zqk2 ?zqk3 ?zqk4 ?_; (case zqk1 => k_asm); (case zqk2 => k_mem); (case zqk3 => k_mem); (case zqk4 => ktr_units)); (try dsimp only [List.isEmpty, Bool.not_true, Bool.not_false, List.map]))); (k_with "MINE ne" => (refine neN ?_; (try dsimp only); first | exact NeA.ne (by assumption) | exact (NeA.ne (by assumption)).symm | omega)); (k_with "compareOp In bytes ref" => (k_here; k_dflt (refine' in_bytes ?zqk1 ?zqk2 ?zqk3 ?_; (case zqk1 => k_asm); (case zqk2 => k_mem); (case zqk3 => assumption)))); (k_with "exec Raise some none" => (k_here; k_dflt (refine' Raise_38 ?zqk1 ?zqk2 ?_; (case zqk1 => k_asm); (case zqk2 => first | rfl | assumption)))); (k_with "call ref" => (k_here; (with_reducible show wpAny _ _ (call (Value.ref 38) _) _ _ _); k_dflt (refine' call_refuse ?zqk1 ?zqk2 ?zqk3 ?_; (case zqk1 => k_asm); (case zqk2 => k_asm); (case zqk3 => k_asm); k_whole); intro e38 t38 h38 F38 N38 hap38 hne38; refine wpAny_call ?_; walk_at "MINE enter")); (k_with "getMethod type:Exception" => (k_here; refine' method_type ?zqF ?zqX ?zqm (by decide +kernel) ?zqe ?zqh ?_; (case zqF => k_asm); (case zqX => k_asm); (case zqm => kernel_rfl); (case zqe => k_dflt k_is); (case zqh => k_handed))); (k_with "call builtin:Exception.__init__" => (k_here; k_dflt (refine' init_w ?zqk1 ?zqk2 ?zqk3 ?zqk4 ?_; (case zqk1 => k_asm); (case zqk2 => k_asm); (case zqk3 => k_asm); (case zqk4 => exact per_e (by assumption) (by assumption)); k_whole); intro h39 t39 F39 N39 hap39 hne39)); (k_with "setAttr ref" => (k_here; (with_reducible show wpAny _ _ (setAttr (Value.ref _) (PySem.Str.ofString "text") _) _ _ _); k_dflt (refine' text_w ?zqk1 ?zqk2 ?zqk3 ?zqk4 ?_; (case zqk1 => k_asm); (case zqk2 => k_asm); (case zqk3 => k_asm); (case zqk4 => exact per_t (by assumption) (by assumption) (by assumption)); k_whole); intro h40 tk40 o40 F40 N40 hc40 hd40)); (k_with "Refusing" => ((rename News _ _ _ (_ :: (_, tupO _) :: _ :: _) => N41); (rename (_ = Data.fields _) => hd41); refine ⟨_, _, _, rfl, Fr.keep (by k_asm), (N41 _ (.head _)).1, by assumption, hd41, ?_⟩)); (k_with "leaving ref" => (k_here; (rename News _ _ _ (_ :: (_, tupO _) :: _ :: _) => N41); (rename (_ = Data.fields _) => hd41); k_dflt (refine' leave_x ?zqk1 ?zqk2 (vs := [_]) N41 ?zqk4 ?zqk5 hd41 ?_; (case zqk1 => assumption); (case zqk2 => k_asm); (case zqk4 => exact per_b (by assumption) (by assumption) (by assumption)); (case zqk5 => assumption); k_whole); intro h42 R42 U42)); (k_with "MINE enterS" => (k_dflt (refine' code_defT ?zqk1 ?zqk2 ?zqk3 ?zqk4 ?zqk5 ?zqkXB ?zqkTB ?zqkD ?zqkA ?zqkF ?zqkK ?zqk6 ?zqk7 ?zqk8 ?zqk9 ?zqkB ?_ ?zqc2 ?zqc3 ?zqc4 ?zqc5; (case zqkA => exact rfl); (case zqkF => exact rfl); (case zqkK => first | exact rfl | assumption); (case zqk1 => k_asm); (case zqk2 => k_asm); (case zqk3 => k_asm); (case zqk4 => k_asm); (case zqk5 => k_asm); (case zqkXB => assumption); (case zqkTB => assumption); (case zqkD => assumption); (case zqk6 => k_is); (case zqk7 => k_is); (case zqk8 => ktr_room); (case zqk9 => first | exact BindsTo.of_eq (binds := [(_, _)]) rfl | exact BindsTo.of_eq (binds := [(_, _), (_, _)]) rfl | exact BindsTo.of_eq (binds := [(_, _), (_, _), (_, _)]) rfl | exact BindsTo.of_eq (binds := [(_, _), (_, _), (_, _), (_, _)]) rfl | exact BindsTo.of_eq rfl); (case zqc5 => decide); (case zqkB => exact locs rfl); (case zqc2 => exact rfl); (case zqc3 => exact rfl); (case zqc4 => exact rfl); k_whole; intro g' L' h' FG' F' N' B' X' T' D'; (try dsimp only); (try k_lift B'); (try k_fold)))); (k_with "exec For Name Subscript cons nil" => (k_here; (rename Fr _ _ _ _ => lF'); (with_unfolding_all refine' For_invVF lF' ?zqk1 ?zqk2 ?_; (case zqk1 => exact rfl); (case zqk2 => exact rfl); k_whole))); (k_with "compareOp In none ref" => (k_here; k_dflt (refine' none_in_pair ?zqk1 ?zqk2 ?_; (case zqk1 => k_asm); (case zqk2 => k_mem)))); (k_with "compareOp In str ref" => (k_here; k_dflt (refine' str_in_pair ?zqk1 ?zqk2 ?_; (case zqk1 => k_asm); (case zqk2 => k_mem)))); (k_with "compareOp Eq ref ref" => (k_here; k_dflt (refine' eq_nil ?zqk1 ?zqk2 ?zqk3 ?zqk4 ?_; (case zqk1 => k_asm); (case zqk2 => k_mem); (case zqk3 => k_mem); (case zqk4 => ktr_units)); (try dsimp only [List.isEmpty, List.map]))); (k_with "call builtin:len" => (k_here; (with_reducible show wpAny _ _ (call (Value.builtin "len") [Value.ref _]) _ _ _); k_dflt (refine' len_led ?zqk1 ?zqk2 ?zqk3 ?_; (case zqk1 => k_asm); (case zqk2 => k_mem); (case zqk3 => exact Nat.le_trans (by assumption) (by decide))))); (k_with "eval ListComp" => (k_here; k_dflt (refine LCt.ListComp_T (F₀ := by k_asm) (by with_unfolding_all rfl) (by decide) (by rfl) (by decide) (by rfl) ?_))); (k_with "subscriptTail" => (k_here; (with_reducible show wpAny _ _ (subscriptTail _ _ (Value.ref _) (Value.int _ _)) _ _ _); k_dflt (refine' item_led ?zqk1 ?zqk2 ?zqk3 ?zqk4 ?zqk5 ?_; (case zqk1 => k_asm); (case zqk2 => k_mem); (case zqk5 => assumption); (case zqk3 => assumption); (case zqk4 => omega)))); (k_with "MINE in" => (refine' Frag.In.keeps ?zqk1 (Fr.keep ?zqk2); (case zqk2 => with_reducible assumption); (case zqk1 => with_reducible assumption))); (k_with "storeName" => (k_here; (try dsimp only); k_dflt (refine' storeX_L ?zqF ?zqN ?_ ?zqa ?zqb; (case zqF => k_asm); (case zqN => k_asm); (case zqa => rfl); (case zqb => rfl); k_whole); intro h' F' N'; (try k_sweep))); (k_with "setAttr ref" => (dsimp only; walk1)); (k_with "call ref" => (dsimp only; walk1)); (k_with "setItem ref str" => (dsimp only; walk1)); have hend := fun r n h t a b c => hret r n h t c a b; refine wpAny_call ?_
  have hperm := both_perm (wd, o) (rl, listOf (lrs.map fun p => Value.ref p.2).toArray c) (al, listOf us.toArray c2) ll' (ps, instObj 224 pd) (pd, pathsO w k0 k1 k2 k3 k4 k5 k6 (.str σ.role tr2) (.bool σ.may) (.ref kn) (.ref act) last (.int σ.top th) (.ref an)) (kn, listOf (prs.map fun p => Value.ref p.2).toArray c3) lp' (an, listOf #[] c4) own
  replace N := news_sub N fun p hp => hperm.mem_iff.mpr hp
  have hsep2 := hsep.perm hperm
  generalize hoe : (an, listOf #[] c4) :: own = own2 at N hsep2
  walk_at "MINE enterC"
  rename (∀ p : Addr × Obj, p ∈ _ → p.1 < _) => hlowC
  have h3 : (rl, listOf (lrs.map fun p => Value.ref p.2).toArray c) ∈ (wd, o) :: (rl, listOf (lrs.map fun p => Value.ref p.2).toArray c) :: (al, listOf us.toArray c2) :: (ps, instObj 224 pd) :: (pd, pathsO w k0 k1 k2 k3 k4 k5 k6 (.str σ.role tr2) (.bool σ.may) (.ref kn) (.ref act) last (.int σ.top th) (.ref an)) :: (kn, listOf (prs.map fun p => Value.ref p.2).toArray c3) :: (ll' ++ (lp' ++ own2)) := .tail _ (.head _)
  have hs : ∀ p ∈ ll', p ∈ (wd, o) :: (rl, listOf (lrs.map fun p => Value.ref p.2).toArray c) :: (al, listOf us.toArray c2) :: (ps, instObj 224 pd) :: (pd, pathsO w k0 k1 k2 k3 k4 k5 k6 (.str σ.role tr2) (.bool σ.may) (.ref kn) (.ref act) last (.int σ.top th) (.ref an)) :: (kn, listOf (prs.map fun p => Value.ref p.2).toArray c3) :: (ll' ++ (lp' ++ own2)) := fun p hp => .tail _ (.tail _ (.tail _ (.tail _ (.tail _ (.tail _ (List.mem_append_left _ hp))))))
  k_steps
  refine LCt.CompSrcT.ledger rfl (by k_asm) (by k_asm) (.tail _ h3) (by rw [List.size_toArray, List.length_map, sizeLine_eq]; omega) ?_
  intro g9
  refine rest_of lrs _ (fun p => hasR b p.1) (fun p => Value.ref p.2) ?_ ?_ ?_
  · exact .inr ⟨_, .tail _ h3, rfl, _, rfl⟩
  · rintro i ⟨r, pa⟩ I oI C oC D m₂ ys h tk E' hi hC hx F1 N1
    dsimp only at hx
    obtain ⟨lr, hpr, hlr⟩ := hr.mem (List.mem_of_getElem? hi)
    cases hpr with
    | mk ho' hus9 hv =>
      have m1 := hs _ (hlr _ (.head _))
      have m2 := hs _ (hlr _ (.tail _ (.head _)))
      clear hlr
      dsimp only at m1 m2 ho'
      k_steps
      · exact ⟨_, _, rfl, by k_asm, by k_asm, by assumption, rfl⟩
      · exact ⟨_, _, rfl, by k_asm, by k_asm, by assumption⟩
  k_with "MINE call" => ((with_reducible show wpAny _ _ (call (Value.ref 202) _) _ _ _); refine stop_of ?_)
  k_steps
  refine Stop.go ?_
  rename _ ∧ _ ∧ _ ∧ _ ∧ _ ∧ _ ∧ _ ∧ LCg.Off1 _ _ => o9
  rename News _ _ _ _ => N8
  have hS8 := sep_comp N8 o9 hlowC hsep2
  subst hoe
  have hperm9 := fun (d e : Addr × Obj) => ans_perm d e (both_perm2 (wd, o) (rl, listOf (lrs.map fun p => Value.ref p.2).toArray c) (al, listOf us.toArray c2) ll' (ps, instObj 224 pd) (pd, pathsO w k0 k1 k2 k3 k4 k5 k6 (.str σ.role tr2) (.bool σ.may) (.ref kn) (.ref act) last (.int σ.top th) (.ref an)) (kn, listOf (prs.map fun p => Value.ref p.2).toArray c3) lp' (an, listOf #[] c4) own)
  have N4 := news_sub N8 fun p hp => (hperm9 _ _).mem_iff.mpr hp
  have hS4 := hS8.perm (hperm9 _ _)
  (try (refine (?_ : wpAny _ _ _ _ _ _); k_fold)); k_dflt (refine' spec_use (take_response_side hP2 hnd hS4) ?zqk1 ?zqk2 ?zqk3 N4 ?zqk5 ?zqk6 ?zqk7 ?zqk8 ?_; (case zqk1 => k_asm); (case zqk2 => k_asm); (case zqk3 => k_asm); (case zqk5 => k_asm); (case zqk6 => first | exact rfl | assumption); (case zqk7 => ktr_room); (case zqk8 => ktr_units))
  rintro r8 n8 h8 tk8 (⟨rfl, rfl, hno⟩ | ⟨ppre, r, pa, ppost, lp8, rfl, hprP, hpre, hhas, rfl, hP8, hS8⟩) F8 N8'
  · have hf := filter_none (p := hasR b) (fst_all (P := fun x => hasR b x = false) (hl.trans hp.symm) hno)
    rw [hf] at N8'
    have N9 := news_sub N8' fun p hp => (hperm9 _ _).mem_iff.mp hp
    clear N8'
    k_steps
    rename News h₀ L _ _ => N10
    exact hend _ _ _ _ (by k_asm) (news_sub N10 fun p hp => .tail _ (.tail _ (.tail _ (hperm.mem_iff.mp hp)))) ⟨rfl, σ, rows, _, rfl, .mk hL2 hP2 hl hp, hF, hsep⟩
  · obtain ⟨lpre, ra, lpost, hprL, hpreE, hpostE⟩ := map_split (hl.trans hp.symm) hprP
    have hpreL := fst_all (P := fun x => hasR b x = false) hpreE hpre
    have hf := filter_first (a := ra) (post := lpost) (p := hasR b) hpreL hhas
    rw [hprL, hf, ← hprL] at N8' hS8
    have hr' := hr
    rw [hprL] at hr'
    obtain ⟨l₁, lr, l₂, rfl, hr1, hrow, hr3⟩ := Rows.at hr'
    clear hr'
    cases hrow with
    | @mk ro aa us9 c9 v9 ta9 ts9 ti9 tq9 hro hus9 hv9 =>
    have N10 := news_sub N8' fun p hp => (ans_out _ _ _ _ _ _ _ _ _ _ _).mem_iff.mpr hp
    have hS10 := hS8.perm (ans_out _ _ _ _ _ _ _ _ _ _ _)
    clear N8'
    have hP9 := hP8
    cases hP8 with
    | @mk pd9 kn9 an9 act9 last9 c39 c49 q0 q1 q2 q3 q4 q5 q6 tr9 th9 ra9 lp9 hr9 hact9 hra9 hback9 =>
    obtain ⟨lrr, hrowP, hlr⟩ := hr9.mem (p := (proveR r, pa)) (List.mem_append_right _ (.head _))
    cases hrowP with
    | mk husP hvP =>
    have mP1 := hlr _ (.head _)
    have mP2 := hlr _ (.tail _ (.head _))
    clear hlr
    generalize hTe : l₁ ++ (l₂ ++ (_ ++ own)) = T at N10 hS10
    replace mP1 := tail_mem hTe mP1
    replace mP2 := tail_mem hTe mP2
    have hO := Sep.off (E := [_, _, _, _, _, _, _]) hS10
    dsimp only [List.map] at hO
    refine ap_elim (E := [_, _, _, _, _, _, _]) hS10 ?_
    dsimp only [Ap, NeP]
    intros
    k_steps
    · rename Obj.IsDictOf _ _ ((Str.ofString "address", _) :: _) => hdr
      rename Obj.IsDictOf _ _ ((Str.ofString "role", _) :: _) => hdw
      rename _ ∧ _ ∧ _ ∧ _ ∧ _ ∧ _ ∧ _ ∧ _ ∧ AllLt _ T => hl1
      rename News h₀ L _ _ => N11
      rw [if_pos (eq_of_beq (by assumption))] at hP9
      subst hTe
      have N12 := news_sub N11 fun p hp => mem2 hp (.tail _ (.tail _ (.tail _ (.tail _ (.tail _ (.head _)))))) (.tail _ (.head _)) (fun q hq => .tail _ (.tail _ (.tail _ (.tail _ (.tail _ (.tail _ (.tail _ hq)))))))
      have hS11 := sep_swap (X := [_]) (o' := listOf ([] : List Value).toArray 0) (Sep.tail (E := [_, _]) hS10) hl1.2.2.2
      obtain ⟨l', hL', N13, hS13⟩ := lside_of (σ := { σ with back := some r.addr }) (r2 := proveR r) N12 (hS11.same rfl) hprL hr1 hr3 (.mk hdr (us := []) .nil .none) hdw (.some _ _) hus
      rw [← List.append_assoc] at N13 hS13
      exact hend _ _ _ _ (by k_asm) N13 ⟨by rw [beq_self_eq_true], { σ with back := some r.addr }, upd (hasR b) proveR rows, _, rfl, .mk hL' hP9 (by rw [upd_first hpreL hhas, ← hprL, hl]) (by rw [upd_first hpre hhas, ← hprP, hp]), (hF.upd (p := hasR b) (f := proveR) (fun _ => rfl) (fun r hr => Nat.zero_le _)).world (mem_addr (upd_addr (f := proveR) (fun _ => rfl) rows) hF.act) rfl hF.ask, hS13⟩
    · rename Obj.IsDictOf _ _ ((Str.ofString "address", _) :: _) => hdr
      rename _ ∧ _ ∧ _ ∧ _ ∧ _ ∧ _ ∧ _ ∧ _ ∧ AllLt _ T => hl1
      rename News h₀ L _ _ => N11
      have he : ¬ r.addr = σ.active := fun z => by
        rename (r.addr == σ.active) = false => hq7
        rw [z] at hq7; simp at hq7
      rw [if_neg he] at hP9
      subst hTe
      have N12 := news_sub N11 fun p hp => mem2 hp (.tail _ (.tail _ (.tail _ (.tail _ (.tail _ (.head _)))))) (.tail _ (.head _)) (fun q hq => .tail _ (.tail _ (.tail _ (.tail _ (.tail _ (.tail _ (.tail _ hq)))))))
      have hS11 := sep_swap (X := [_]) (o' := listOf ([] : List Value).toArray 0) (Sep.tail (E := [_, _]) hS10) hl1.2.2.2
      obtain ⟨l', hL', N13, hS13⟩ := lside_of (σ := σ) (r2 := proveR r) N12 (hS11.same rfl) hprL hr1 hr3 (.mk hdr (us := []) .nil .none) ho hb hus
      rw [← List.append_assoc] at N13 hS13
      exact hend _ _ _ _ (by k_asm) N13 ⟨by rw [beq_self_eq_true], σ, upd (hasR b) proveR rows, _, rfl, .mk hL' hP9 (by rw [upd_first hpreL hhas, ← hprL, hl]) (by rw [upd_first hpre hhas, ← hprP, hp]), (hF.upd (p := hasR b) (f := proveR) (fun _ => rfl) (fun r hr => Nat.zero_le _)).world (mem_addr (upd_addr (f := proveR) (fun _ => rfl) rows) hF.act) rfl hF.ask, hS13⟩
end
section
noncomputable abbrev fins (rows : List Rw) : List Int := rows.filterMap (·.fin)
inductive Vals : List ((Rw × Addr) × Value) → List (Rw × Addr) → Prop
  | nil : Vals [] []
  | cons {p : Rw × Addr} {v : Value} {es : List ((Rw × Addr) × Value)} {prs : List (Rw × Addr)} : OptIs v p.1.fin → Vals es prs → Vals ((p, v) :: es) (p :: prs)
theorem Vals.fst {es : List ((Rw × Addr) × Value)} {prs : List (Rw × Addr)} (h : Vals es prs) : es.map Prod.fst = prs := by
  induction h with
  | nil => rfl
  | cons _ _ ih => rw [List.map_cons, ih]
theorem Vals.ints {es : List ((Rw × Addr) × Value)} {prs : List (Rw × Addr)} (h : Vals es prs) : IntsAre ((es.filter fun e => e.1.1.fin.isSome).map Prod.snd) (fins (prs.map Prod.fst)) := by
  induction h with
  | nil => exact .nil
  | @cons p v es prs hv _ ih =>
    rw [List.map_cons]
    unfold fins
    rw [List.filterMap_cons]
    generalize hf : p.1.fin = o at hv
    cases hv with
    | none =>
      rw [List.filter_cons, if_neg (by simp [hf])]
      exact ih
    | some i t =>
      rw [List.filter_cons, if_pos (by simp [hf]), List.map_cons]
      exact .cons _ _ ih
inductive PVal (w : World) (lp : Led) (e : (Rw × Addr) × Value) : Prop
  | mk (pd : Addr) (k0 k1 k2 k3 k4 k5 k6 ta ts ti tq : Tok) (ca : Addr) (h1 : (e.1.2, instObj 121 pd) ∈ lp) (h2 : (pd, pathO w k0 k1 k2 k3 k4 k5 k6 (.str e.1.1.addr ta) (.str e.1.1.st ts) (.bool e.1.1.free) (.int e.1.1.inn ti) (.int e.1.1.out tq) (.ref ca) e.2) ∈ lp) (h3 : OptIs e.2 e.1.1.fin)
theorem PVal.mono {w : World} {l l' : Led} {e : (Rw × Addr) × Value} (h : PVal w l e) (hs : ∀ p ∈ l, p ∈ l') : PVal w l' e := by
  cases h with
  | mk pd k0 k1 k2 k3 k4 k5 k6 ta ts ti tq ca h1 h2 h3 => exact .mk pd k0 k1 k2 k3 k4 k5 k6 ta ts ti tq ca (hs _ h1) (hs _ h2) h3
inductive LVal (w : World) (ll : Led) (e : (Rw × Addr) × Value) : Prop
  | mk (o : Obj) (aa : Addr) (ta ts ti tq : Tok) (h1 : (e.1.2, o) ∈ ll) (h2 : o.IsDictOf (SK w) [("address", .str e.1.1.addr ta), ("state", .str e.1.1.st ts), ("free", .bool e.1.1.free), ("in", .int e.1.1.inn ti), ("out", .int e.1.1.out tq), ("asked", .ref aa), ("end", e.2)]) (h3 : OptIs e.2 e.1.1.fin)
theorem LVal.mono {w : World} {l l' : Led} {e : (Rw × Addr) × Value} (h : LVal w l e) (hs : ∀ p ∈ l, p ∈ l') : LVal w l' e := by
  cases h with
  | mk o aa ta ts ti tq h1 h2 h3 => exact .mk o aa ta ts ti tq (hs _ h1) h2 h3
theorem prow_vals {w : World} {prs : List (Rw × Addr)} {lp : Led} (h : Rows (PRow w) prs lp) : ∃ es, Vals es prs ∧ ∀ e ∈ es, PVal w lp e := by
  induction h with
  | nil => exact ⟨[], .nil, fun _ h => nomatch h⟩
  | @cons r a l rs ls hr _ ih =>
    obtain ⟨es, h1, h2⟩ := ih
    cases hr with
    | @mk pd ca us c v k0 k1 k2 k3 k4 k5 k6 ta ts ti tq hus hv =>
    refine ⟨((r, a), v) :: es, .cons hv h1, fun e he => ?_⟩
    rcases List.mem_cons.mp he with rfl | he
    · exact ⟨pd, k0, k1, k2, k3, k4, k5, k6, ta, ts, ti, tq, ca, .head _, .tail _ (.head _), hv⟩
    · exact (h2 e he).mono fun _ hp => List.mem_append_right _ hp
theorem lrow_vals {w : World} {lrs : List (Rw × Addr)} {ll : Led} (h : Rows (LRow w) lrs ll) : ∃ es, Vals es lrs ∧ ∀ e ∈ es, LVal w ll e := by
  induction h with
  | nil => exact ⟨[], .nil, fun _ h => nomatch h⟩
  | @cons r a l rs ls hr _ ih =>
    obtain ⟨es, h1, h2⟩ := ih
    cases hr with
    | @mk o aa us c v ta ts ti tq ho hus hv =>
    refine ⟨((r, a), v) :: es, .cons hv h1, fun e he => ?_⟩
    rcases List.mem_cons.mp he with rfl | he
    · exact ⟨o, aa, ta, ts, ti, tq, .head _, ho, hv⟩
    · exact (h2 e he).mono fun _ hp => List.mem_append_right _ hp
theorem next_time_spec {w mean mg mb} {ps pd kn : Addr} {news lp : Led} {prs : List (Rw × Addr)} {k0 k1 k2 k3 k4 k5 k6 : Tok} {vr vm va vl vh vn : Value} {c : Nat}
    (h1 : (ps, instObj 224 pd) ∈ news) (h2 : (pd, pathsO w k0 k1 k2 k3 k4 k5 k6 vr vm (.ref kn) va vl vh vn) ∈ news) (h3 : (kn, listOf (prs.map fun p => Value.ref p.2).toArray c) ∈ news)
    (hr : Rows (PRow w) prs lp) (hs : ∀ p ∈ lp, p ∈ news) (hsz : prs.length ≤ 63) :
    Spec w mean mg mb 3 30 214 [.ref ps] news (fun r n => n = news ∧ ((fins (prs.map Prod.fst) = [] ∧ r = .none) ∨ ∃ M t, r = .int M t ∧ M ∈ fins (prs.map Prod.fst) ∧ ∀ a ∈ fins (prs.map Prod.fst), M ≤ a)) := by
  unfold Spec; k_fill; intro dp un gd cn cs a ccd cl outer A₀ base h₀ L m sh sg sd st so Q E B F X N T9 hk hd hu hret; have kM := kstMark; w_top off; k_with_none; (k_with "MINE enter" => (k_dflt (refine' code_def ?zqk1 ?zqk2 ?zqk3 ?zqk4 ?zqk5 ?zqkA ?zqkF ?zqkK ?zqk6 ?zqk7 ?zqk8 ?zqk9 ?zqkB ?_ ?zqc2 ?zqc3 ?zqc4 ?zqc5; (case zqkA => exact rfl); (case zqkF => exact rfl); (case zqkK => first | exact rfl | assumption); (case zqk1 => k_asm); (case zqk2 => k_asm); (case zqk3 => k_asm); (case zqk4 => k_asm); (case zqk5 => k_asm); (case zqk6 => k_is); (case zqk7 => k_is); (case zqk8 => ktr_room); (case zqk9 => first | exact BindsTo.of_eq (binds := [(_, _)]) rfl | exact BindsTo.of_eq (binds := [(_, _), (_, _)]) rfl | exact BindsTo.of_eq (binds := [(_, _), (_, _), (_, _)]) rfl | exact BindsTo.of_eq (binds := [(_, _), (_, _), (_, _), (_, _)]) rfl | exact BindsTo.of_eq rfl); (case zqc5 => decide); (case zqkB => exact locs rfl); (case zqc2 => exact rfl); (case zqc3 => exact rfl); (case zqc4 => exact rfl); k_whole; intro g' L' h' FG' F' N' B' X' T'; (try dsimp only); (try k_lift B'); (try k_fold)))); (k_with "call ref" => (k_here; first | k_extra "MINE call" | (refine wpAny_call ?_; walk_at "MINE enter"))); (k_with "call ref" => (k_here; k_dflt (refine' call_cls ?zqk1 ?zqk2 ?zqk3 ?zqk4 ?zqk5 ?zqk6 ?_; (case zqk1 => k_asm); (case zqk2 => k_asm); (case zqk3 => k_asm); (case zqk4 => k_is); (case zqk5 => k_is); (case zqk6 => k_is); k_whole; intro x' d' h' F' N' l1 l2; (try k_lt l1); (try k_lt2 l2); (try k_sweep)); walk_at "MINE enter")); (k_with "TPost" => dsimp only [TPost]); (k_with "MINE enterC" => (k_dflt (refine' code_defC ?zqk1 ?zqk2 ?zqk3 ?zqk4 ?zqk5 ?zqkA ?zqkF ?zqkK ?zqk6 ?zqk7 ?zqk8 ?zqk9 ?zqkB ?zqkD ?_ ?zqc2 ?zqc3 ?zqc4; (case zqkA => exact rfl); (case zqkF => exact rfl); (case zqkK => first | exact rfl | assumption); (case zqk1 => k_asm); (case zqk2 => k_asm); (case zqk3 => k_asm); (case zqk4 => k_asm); (case zqk5 => k_asm); (case zqk6 => k_is); (case zqk7 => k_is); (case zqk8 => ktr_room); (case zqk9 => first | exact BindsTo.of_eq (binds := [(_, _)]) rfl | exact BindsTo.of_eq (binds := [(_, _), (_, _)]) rfl | exact BindsTo.of_eq (binds := [(_, _), (_, _), (_, _)]) rfl | exact BindsTo.of_eq (binds := [(_, _), (_, _), (_, _), (_, _)]) rfl | exact BindsTo.of_eq rfl); (case zqkB => exact rfl); (case zqkD => decide +kernel); (case zqc2 => exact rfl); (case zqc3 => exact rfl); (case zqc4 => exact rfl); k_whole; intro g' L' h' tk' cells' FG' F' N' Y' B' X' T' l1; k_cells Y'; (try simp only [List.cons_append, List.nil_append] at N'); (try dsimp only); (try k_lift B'); (try k_fold)))); (k_with "exec Assign cons ListComp" => (k_here; k_dflt (refine LCt.Assign_ListComp_T (F₀ := by k_asm) (by rfl) (by with_unfolding_all rfl) (by with_unfolding_all rfl) (by decide) (by rfl) (by decide) (by rfl) (by rfl) (by rfl) ?_))); (k_with "subscriptTail" => (k_here; (with_reducible show wpAny _ _ (subscriptTail _ _ (Value.ref _) (Value.str _ _)) _ _ _); k_dflt (refine' kda_item (knd := PySem.strKind _ _) ?zqk1 ?zqk2 ?zqk3 (strKind_is _ _ _ _) ?zqk4 ?_; (case zqk1 => k_asm); (case zqk2 => k_mem); (case zqk3 => assumption); (case zqk4 => rfl); k_whole))); (k_with "setItem ref str" => (k_here; k_dflt (refine' kda_set (knd := PySem.strKind _ _) ?zqF ?zqN ?zqU ?zqd (strKind_is _ _ _ _) ?zqz ?_; (case zqF => k_asm); (case zqN => k_asm); (case zqU => k_updF); (case zqd => assumption); (case zqz => kob_size)); intro h' o' F' N' hd'; (try kob_lit); (try dsimp only at N'); (try dsimp only); (try k_gentoks))); (k_with "compareOp NotEq ref ref" => (k_here; k_dflt (refine' ne_nil ?zqk1 ?zqk2 ?zqk3 ?zqk4 ?_; (case zqk1 => k_asm); (case zqk2 => k_mem); (case zqk3 => k_mem); (case zqk4 => ktr_units)); (try dsimp only [List.isEmpty, Bool.not_true, Bool.not_false, List.map]))); (k_with "MINE ne" => (refine neN ?_; (try dsimp only); first | exact NeA.ne (by assumption) | exact (NeA.ne (by assumption)).symm | omega)); (k_with "compareOp In bytes ref" => (k_here; k_dflt (refine' in_bytes ?zqk1 ?zqk2 ?zqk3 ?_; (case zqk1 => k_asm); (case zqk2 => k_mem); (case zqk3 => assumption)))); (k_with "exec Raise some none" => (k_here; k_dflt (refine' Raise_38 ?zqk1 ?zqk2 ?_; (case zqk1 => k_asm); (case zqk2 => first | rfl | assumption)))); (k_with "call ref" => (k_here; (with_reducible show wpAny _ _ (call (Value.ref 38) _) _ _ _); k_dflt (refine' call_refuse ?zqk1 ?zqk2 ?zqk3 ?_; (case zqk1 => k_asm); (case zqk2 => k_asm); (case zqk3 => k_asm); k_whole); intro e38 t38 h38 F38 N38 hap38 hne38; refine wpAny_call ?_; walk_at "MINE enter")); (k_with "getMethod type:Exception" => (k_here; refine' method_type ?zqF ?zqX ?zqm (by decide +kernel) ?zqe ?zqh ?_; (case zqF => k_asm); (case zqX => k_asm); (case zqm => kernel_rfl); (case zqe => k_dflt k_is); (case zqh => k_handed))); (k_with "call builtin:Exception.__init__" => (k_here; k_dflt (refine' init_w ?zqk1 ?zqk2 ?zqk3 ?zqk4 ?_; (case zqk1 => k_asm); (case zqk2 => k_asm); (case zqk3 => k_asm); (case zqk4 => exact per_e (by assumption) (by assumption)); k_whole); intro h39 t39 F39 N39 hap39 hne39)); (k_with "setAttr ref" => (k_here; (with_reducible show wpAny _ _ (setAttr (Value.ref _) (PySem.Str.ofString "text") _) _ _ _); k_dflt (refine' text_w ?zqk1 ?zqk2 ?zqk3 ?zqk4 ?_; (case zqk1 => k_asm); (case zqk2 => k_asm); (case zqk3 => k_asm); (case zqk4 => exact per_t (by assumption) (by assumption) (by assumption)); k_whole); intro h40 tk40 o40 F40 N40 hc40 hd40)); (k_with "Refusing" => ((rename News _ _ _ (_ :: (_, tupO _) :: _ :: _) => N41); (rename (_ = Data.fields _) => hd41); refine ⟨_, _, _, rfl, Fr.keep (by k_asm), (N41 _ (.head _)).1, by assumption, hd41, ?_⟩)); (k_with "leaving ref" => (k_here; (rename News _ _ _ (_ :: (_, tupO _) :: _ :: _) => N41); (rename (_ = Data.fields _) => hd41); k_dflt (refine' leave_x ?zqk1 ?zqk2 (vs := [_]) N41 ?zqk4 ?zqk5 hd41 ?_; (case zqk1 => assumption); (case zqk2 => k_asm); (case zqk4 => exact per_b (by assumption) (by assumption) (by assumption)); (case zqk5 => assumption); k_whole); intro h42 R42 U42)); (k_with "MINE enterS" => (k_dflt (refine' code_defT ?zqk1 ?zqk2 ?zqk3 ?zqk4 ?zqk5 ?zqkXB ?zqkTB ?zqkD ?zqkA ?zqkF ?zqkK ?zqk6 ?zqk7 ?zqk8 ?zqk9 ?zqkB ?_ ?zqc2 ?zqc3 ?zqc4 ?zqc5; (case zqkA => exact rfl); (case zqkF => exact rfl); (case zqkK => first | exact rfl | assumption); (case zqk1 => k_asm); (case zqk2 => k_asm); (case zqk3 => k_asm); (case zqk4 => k_asm); (case zqk5 => k_asm); (case zqkXB => assumption); (case zqkTB => assumption); (case zqkD => assumption); (case zqk6 => k_is); (case zqk7 => k_is); (case zqk8 => ktr_room); (case zqk9 => first | exact BindsTo.of_eq (binds := [(_, _)]) rfl | exact BindsTo.of_eq (binds := [(_, _), (_, _)]) rfl | exact BindsTo.of_eq (binds := [(_, _), (_, _), (_, _)]) rfl | exact BindsTo.of_eq (binds := [(_, _), (_, _), (_, _), (_, _)]) rfl | exact BindsTo.of_eq rfl); (case zqc5 => decide); (case zqkB => exact locs rfl); (case zqc2 => exact rfl); (case zqc3 => exact rfl); (case zqc4 => exact rfl); k_whole; intro g' L' h' FG' F' N' B' X' T' D'; (try dsimp only); (try k_lift B'); (try k_fold)))); (k_with "exec For Name Subscript cons nil" => (k_here; (rename Fr _ _ _ _ => lF'); (with_unfolding_all refine' For_invVF lF' ?zqk1 ?zqk2 ?_; (case zqk1 => exact rfl); (case zqk2 => exact rfl); k_whole))); (k_with "compareOp In none ref" => (k_here; k_dflt (refine' none_in_pair ?zqk1 ?zqk2 ?_; (case zqk1 => k_asm); (case zqk2 => k_mem)))); (k_with "compareOp In str ref" => (k_here; k_dflt (refine' str_in_pair ?zqk1 ?zqk2 ?_; (case zqk1 => k_asm); (case zqk2 => k_mem)))); (k_with "compareOp Eq ref ref" => (k_here; k_dflt (refine' eq_nil ?zqk1 ?zqk2 ?zqk3 ?zqk4 ?_; (case zqk1 => k_asm); (case zqk2 => k_mem); (case zqk3 => k_mem); (case zqk4 => ktr_units)); (try dsimp only [List.isEmpty, List.map]))); (k_with "call builtin:len" => (k_here; (with_reducible show wpAny _ _ (call (Value.builtin "len") [Value.ref _]) _ _ _); k_dflt (refine' len_led ?zqk1 ?zqk2 ?zqk3 ?_; (case zqk1 => k_asm); (case zqk2 => k_mem); (case zqk3 => exact Nat.le_trans (by assumption) (by decide))))); (k_with "eval ListComp" => (k_here; k_dflt (refine LCt.ListComp_T (F₀ := by k_asm) (by with_unfolding_all rfl) (by decide) (by rfl) (by decide) (by rfl) ?_))); (k_with "subscriptTail" => (k_here; (with_reducible show wpAny _ _ (subscriptTail _ _ (Value.ref _) (Value.int _ _)) _ _ _); k_dflt (refine' item_led ?zqk1 ?zqk2 ?zqk3 ?zqk4 ?zqk5 ?_; (case zqk1 => k_asm); (case zqk2 => k_mem); (case zqk5 => assumption); (case zqk3 => assumption); (case zqk4 => omega)))); (k_with "MINE in" => (refine' Frag.In.keeps ?zqk1 (Fr.keep ?zqk2); (case zqk2 => with_reducible assumption); (case zqk1 => with_reducible assumption))); (k_with "storeName" => (k_here; (try dsimp only); k_dflt (refine' storeX_L ?zqF ?zqN ?_ ?zqa ?zqb; (case zqF => k_asm); (case zqN => k_asm); (case zqa => rfl); (case zqb => rfl); k_whole); intro h' F' N'; (try k_sweep))); (k_with "setAttr ref" => (dsimp only; walk1)); (k_with "call ref" => (dsimp only; walk1)); (k_with "setItem ref str" => (dsimp only; walk1)); have hend := fun r n h t a b c => hret r n h t c a b; refine wpAny_call ?_
  walk_at "MINE enter"
  k_steps
  obtain ⟨es, hv, hes⟩ := prow_vals hr
  have hg : (prs.map fun p => Value.ref p.2) = es.map fun e => Value.ref e.1.2 := by rw [← hv.fst, List.map_map]; rfl
  have hlen : es.length ≤ 63 := by have := congrArg List.length hv.fst; rw [List.length_map] at this; omega
  rw [hg] at h3
  refine LCt.CompSrcT.ledger rfl (by k_asm) (by k_asm) h3 (by rw [List.size_toArray, List.length_map, sizeLine_eq]; omega) ?_
  intro g9
  refine rest_of es _ (fun e => e.1.1.fin.isSome) (fun e => e.2) ?_ ?_ ?_
  · exact .inr ⟨_, h3, rfl, _, rfl⟩
  · rintro i ⟨⟨r, pa⟩, v⟩ I oI C oC D m₂ ys h tk E' hi hC hx F1 N1
    dsimp only at hx
    obtain ⟨pd9, q0, q1, q2, q3, q4, q5, q6, ta, ts, ti, tq, ca, g1, g2, g3⟩ := hes _ (List.mem_of_getElem? hi)
    dsimp only at g1 g2 g3
    have m1 := hs _ g1
    have m2 := hs _ g2
    generalize hf : r.fin = o at g3
    cases g3 with
    | none =>
      k_steps
      exact ⟨_, _, rfl, by k_asm, by k_asm, rfl⟩
    | some i t =>
      k_steps
      exact ⟨_, _, rfl, by k_asm, by k_asm, rfl, rfl⟩
  have hi := hv.ints
  have hfl : ((es.filter fun e => e.1.1.fin.isSome).map Prod.snd).length ≤ 63 := by rw [List.length_map]; exact Nat.le_trans (List.length_filter_le _ _) hlen
  have hfe : (es.filter fun e => e.1.1.fin.isSome).map (fun e => e.2) = (es.filter fun e => e.1.1.fin.isSome).map Prod.snd := rfl
  rw [hfe]
  generalize (es.filter fun e => e.1.1.fin.isSome).map Prod.snd = vs at hi hfl ⊢
  generalize hns : fins (prs.map Prod.fst) = ns at hi
  cases hi with
  | nil =>
    k_steps
    rename News h₀ L _ _ => N10
    exact hend _ _ _ _ (by k_asm) (fun p hp => N10 p (.tail _ hp)) ⟨rfl, .inl ⟨hns, rfl⟩⟩
  | cons n9 t9 hi9 =>
    k_steps
    · rename _ = n9 ∨ _ => hm1
      rename _ ≤ n9 ∧ _ => hm2
      rename News h₀ L _ _ => N10
      exact hend _ _ _ _ (by k_asm) (fun p hp => N10 p (.tail _ hp)) ⟨rfl, .inr ⟨_, _, rfl, by rw [hns]; exact List.mem_cons.mpr hm1, by rw [hns]; exact fun a ha => (List.mem_cons.mp ha).elim (fun e => e ▸ hm2.1) (hm2.2 a)⟩⟩
    · rename ¬ (0 < _) => hbad
      exact absurd (by simp) hbad
end
section
noncomputable abbrev roomV (fr : Bool) (inn out : Int) (r : Value) : Prop := (fr = true ∧ r = .none) ∨ (fr = false ∧ ∃ t, r = .int (if 3 * inn - out > 0 then 3 * inn - out else 0) t)
theorem room_spec {w mean mg mb} {pa pd : Addr} {own : Led} {k0 k1 k2 k3 k4 k5 k6 ta ts ti tq : Tok} {ad st : Str} {fr : Bool} {inn out : Int} {vc vd : Value} :
  Spec w mean mg mb 2 25 69 [.ref pa] ((pa, instObj 121 pd) :: (pd, pathO w k0 k1 k2 k3 k4 k5 k6 (.str ad ta) (.str st ts) (.bool fr) (.int inn ti) (.int out tq) vc vd) :: own)
    (fun r n => n = (pa, instObj 121 pd) :: (pd, pathO w k0 k1 k2 k3 k4 k5 k6 (.str ad ta) (.str st ts) (.bool fr) (.int inn ti) (.int out tq) vc vd) :: own ∧ roomV fr inn out r) := by
  unfold Spec; k_fill; intro dp un gd cn cs a ccd cl outer A₀ base h₀ L m sh sg sd st so Q E B F X N T hk hd hu hret; have kM := kstMark; w_top off; k_with_none; (k_with "MINE enter" => (k_dflt (refine' code_def ?zqk1 ?zqk2 ?zqk3 ?zqk4 ?zqk5 ?zqkA ?zqkF ?zqkK ?zqk6 ?zqk7 ?zqk8 ?zqk9 ?zqkB ?_ ?zqc2 ?zqc3 ?zqc4 ?zqc5; (case zqkA => exact rfl); (case zqkF => exact rfl); (case zqkK => first | exact rfl | assumption); (case zqk1 => k_asm); (case zqk2 => k_asm); (case zqk3 => k_asm); (case zqk4 => k_asm); (case zqk5 => k_asm); (case zqk6 => k_is); (case zqk7 => k_is); (case zqk8 => ktr_room); (case zqk9 => first | exact BindsTo.of_eq (binds := [(_, _)]) rfl | exact BindsTo.of_eq (binds := [(_, _), (_, _)]) rfl | exact BindsTo.of_eq (binds := [(_, _), (_, _), (_, _)]) rfl | exact BindsTo.of_eq (binds := [(_, _), (_, _), (_, _), (_, _)]) rfl | exact BindsTo.of_eq rfl); (case zqc5 => decide); (case zqkB => exact locs rfl); (case zqc2 => exact rfl); (case zqc3 => exact rfl); (case zqc4 => exact rfl); k_whole; intro g' L' h' FG' F' N' B' X' T'; (try dsimp only); (try k_lift B'); (try k_fold)))); (k_with "call ref" => (k_here; first | k_extra "MINE call" | (refine wpAny_call ?_; walk_at "MINE enter"))); (k_with "call ref" => (k_here; k_dflt (refine' call_cls ?zqk1 ?zqk2 ?zqk3 ?zqk4 ?zqk5 ?zqk6 ?_; (case zqk1 => k_asm); (case zqk2 => k_asm); (case zqk3 => k_asm); (case zqk4 => k_is); (case zqk5 => k_is); (case zqk6 => k_is); k_whole; intro x' d' h' F' N' l1 l2; (try k_lt l1); (try k_lt2 l2); (try k_sweep)); walk_at "MINE enter")); (k_with "TPost" => dsimp only [TPost]); (k_with "MINE enterC" => (k_dflt (refine' code_defC ?zqk1 ?zqk2 ?zqk3 ?zqk4 ?zqk5 ?zqkA ?zqkF ?zqkK ?zqk6 ?zqk7 ?zqk8 ?zqk9 ?zqkB ?zqkD ?_ ?zqc2 ?zqc3 ?zqc4; (case zqkA => exact rfl); (case zqkF => exact rfl); (case zqkK => first | exact rfl | assumption); (case zqk1 => k_asm); (case zqk2 => k_asm); (case zqk3 => k_asm); (case zqk4 => k_asm); (case zqk5 => k_asm); (case zqk6 => k_is); (case zqk7 => k_is); (case zqk8 => ktr_room); (case zqk9 => first | exact BindsTo.of_eq (binds := [(_, _)]) rfl | exact BindsTo.of_eq (binds := [(_, _), (_, _)]) rfl | exact BindsTo.of_eq (binds := [(_, _), (_, _), (_, _)]) rfl | exact BindsTo.of_eq (binds := [(_, _), (_, _), (_, _), (_, _)]) rfl | exact BindsTo.of_eq rfl); (case zqkB => exact rfl); (case zqkD => decide +kernel); (case zqc2 => exact rfl); (case zqc3 => exact rfl); (case zqc4 => exact rfl); k_whole; intro g' L' h' tk' cells' FG' F' N' Y' B' X' T' l1; k_cells Y'; (try simp only [List.cons_append, List.nil_append] at N'); (try dsimp only); (try k_lift B'); (try k_fold)))); (k_with "exec Assign cons ListComp" => (k_here; k_dflt (refine LCt.Assign_ListComp_T (F₀ := by k_asm) (by rfl) (by with_unfolding_all rfl) (by with_unfolding_all rfl) (by decide) (by rfl) (by decide) (by rfl) (by rfl) (by rfl) ?_))); (k_with "subscriptTail" => (k_here; (with_reducible show wpAny _ _ (subscriptTail _ _ (Value.ref _) (Value.str _ _)) _ _ _); k_dflt (refine' kda_item (knd := PySem.strKind _ _) ?zqk1 ?zqk2 ?zqk3 (strKind_is _ _ _ _) ?zqk4 ?_; (case zqk1 => k_asm); (case zqk2 => k_mem); (case zqk3 => assumption); (case zqk4 => rfl); k_whole))); (k_with "setItem ref str" => (k_here; k_dflt (refine' kda_set (knd := PySem.strKind _ _) ?zqF ?zqN ?zqU ?zqd (strKind_is _ _ _ _) ?zqz ?_; (case zqF => k_asm); (case zqN => k_asm); (case zqU => k_updF); (case zqd => assumption); (case zqz => kob_size)); intro h' o' F' N' hd'; (try kob_lit); (try dsimp only at N'); (try dsimp only); (try k_gentoks))); (k_with "compareOp NotEq ref ref" => (k_here; k_dflt (refine' ne_nil ?zqk1 ?zqk2 ?zqk3 ?zqk4 ?_; (case zqk1 => k_asm); (case zqk2 => k_mem); (case zqk3 => k_mem); (case zqk4 => ktr_units)); (try dsimp only [List.isEmpty, Bool.not_true, Bool.not_false, List.map]))); (k_with "MINE ne" => (refine neN ?_; (try dsimp only); first | exact NeA.ne (by assumption) | exact (NeA.ne (by assumption)).symm | omega)); (k_with "compareOp In bytes ref" => (k_here; k_dflt (refine' in_bytes ?zqk1 ?zqk2 ?zqk3 ?_; (case zqk1 => k_asm); (case zqk2 => k_mem); (case zqk3 => assumption)))); (k_with "exec Raise some none" => (k_here; k_dflt (refine' Raise_38 ?zqk1 ?zqk2 ?_; (case zqk1 => k_asm); (case zqk2 => first | rfl | assumption)))); (k_with "call ref" => (k_here; (with_reducible show wpAny _ _ (call (Value.ref 38) _) _ _ _); k_dflt (refine' call_refuse ?zqk1 ?zqk2 ?zqk3 ?_; (case zqk1 => k_asm); (case zqk2 => k_asm); (case zqk3 => k_asm); k_whole); intro e38 t38 h38 F38 N38 hap38 hne38; refine wpAny_call ?_; walk_at "MINE enter")); (k_with "getMethod type:Exception" => (k_here; refine' method_type ?zqF ?zqX ?zqm (by decide +kernel) ?zqe ?zqh ?_; (case zqF => k_asm); (case zqX => k_asm); (case zqm => kernel_rfl); (case zqe => k_dflt k_is); (case zqh => k_handed))); (k_with "call builtin:Exception.__init__" => (k_here; k_dflt (refine' init_w ?zqk1 ?zqk2 ?zqk3 ?zqk4 ?_; (case zqk1 => k_asm); (case zqk2 => k_asm); (case zqk3 => k_asm); (case zqk4 => exact per_e (by assumption) (by assumption)); k_whole); intro h39 t39 F39 N39 hap39 hne39)); (k_with "setAttr ref" => (k_here; (with_reducible show wpAny _ _ (setAttr (Value.ref _) (PySem.Str.ofString "text") _) _ _ _); k_dflt (refine' text_w ?zqk1 ?zqk2 ?zqk3 ?zqk4 ?_; (case zqk1 => k_asm); (case zqk2 => k_asm); (case zqk3 => k_asm); (case zqk4 => exact per_t (by assumption) (by assumption) (by assumption)); k_whole); intro h40 tk40 o40 F40 N40 hc40 hd40)); (k_with "Refusing" => ((rename News _ _ _ (_ :: (_, tupO _) :: _ :: _) => N41); (rename (_ = Data.fields _) => hd41); refine ⟨_, _, _, rfl, Fr.keep (by k_asm), (N41 _ (.head _)).1, by assumption, hd41, ?_⟩)); (k_with "leaving ref" => (k_here; (rename News _ _ _ (_ :: (_, tupO _) :: _ :: _) => N41); (rename (_ = Data.fields _) => hd41); k_dflt (refine' leave_x ?zqk1 ?zqk2 (vs := [_]) N41 ?zqk4 ?zqk5 hd41 ?_; (case zqk1 => assumption); (case zqk2 => k_asm); (case zqk4 => exact per_b (by assumption) (by assumption) (by assumption)); (case zqk5 => assumption); k_whole); intro h42 R42 U42)); (k_with "MINE enterS" => (k_dflt (refine' code_defT ?zqk1 ?zqk2 ?zqk3 ?zqk4 ?zqk5 ?zqkXB ?zqkTB ?zqkD ?zqkA ?zqkF ?zqkK ?zqk6 ?zqk7 ?zqk8 ?zqk9 ?zqkB ?_ ?zqc2 ?zqc3 ?zqc4 ?zqc5; (case zqkA => exact rfl); (case zqkF => exact rfl); (case zqkK => first | exact rfl | assumption); (case zqk1 => k_asm); (case zqk2 => k_asm); (case zqk3 => k_asm); (case zqk4 => k_asm); (case zqk5 => k_asm); (case zqkXB => assumption); (case zqkTB => assumption); (case zqkD => assumption); (case zqk6 => k_is); (case zqk7 => k_is); (case zqk8 => ktr_room); (case zqk9 => first | exact BindsTo.of_eq (binds := [(_, _)]) rfl | exact BindsTo.of_eq (binds := [(_, _), (_, _)]) rfl | exact BindsTo.of_eq (binds := [(_, _), (_, _), (_, _)]) rfl | exact BindsTo.of_eq (binds := [(_, _), (_, _), (_, _), (_, _)]) rfl | exact BindsTo.of_eq rfl); (case zqc5 => decide); (case zqkB => exact locs rfl); (case zqc2 => exact rfl); (case zqc3 => exact rfl); (case zqc4 => exact rfl); k_whole; intro g' L' h' FG' F' N' B' X' T' D'; (try dsimp only); (try k_lift B'); (try k_fold)))); (k_with "exec For Name Subscript cons nil" => (k_here; (rename Fr _ _ _ _ => lF'); (with_unfolding_all refine' For_invVF lF' ?zqk1 ?zqk2 ?_; (case zqk1 => exact rfl); (case zqk2 => exact rfl); k_whole))); (k_with "compareOp In none ref" => (k_here; k_dflt (refine' none_in_pair ?zqk1 ?zqk2 ?_; (case zqk1 => k_asm); (case zqk2 => k_mem)))); (k_with "compareOp In str ref" => (k_here; k_dflt (refine' str_in_pair ?zqk1 ?zqk2 ?_; (case zqk1 => k_asm); (case zqk2 => k_mem)))); (k_with "compareOp Eq ref ref" => (k_here; k_dflt (refine' eq_nil ?zqk1 ?zqk2 ?zqk3 ?zqk4 ?_; (case zqk1 => k_asm); (case zqk2 => k_mem); (case zqk3 => k_mem); (case zqk4 => ktr_units)); (try dsimp only [List.isEmpty, List.map]))); (k_with "call builtin:len" => (k_here; (with_reducible show wpAny _ _ (call (Value.builtin "len") [Value.ref _]) _ _ _); k_dflt (refine' len_led ?zqk1 ?zqk2 ?zqk3 ?_; (case zqk1 => k_asm); (case zqk2 => k_mem); (case zqk3 => exact Nat.le_trans (by assumption) (by decide))))); (k_with "eval ListComp" => (k_here; k_dflt (refine LCt.ListComp_T (F₀ := by k_asm) (by with_unfolding_all rfl) (by decide) (by rfl) (by decide) (by rfl) ?_))); (k_with "subscriptTail" => (k_here; (with_reducible show wpAny _ _ (subscriptTail _ _ (Value.ref _) (Value.int _ _)) _ _ _); k_dflt (refine' item_led ?zqk1 ?zqk2 ?zqk3 ?zqk4 ?zqk5 ?_; (case zqk1 => k_asm); (case zqk2 => k_mem); (case zqk5 => assumption); (case zqk3 => assumption); (case zqk4 => omega)))); (k_with "MINE in" => (refine' Frag.In.keeps ?zqk1 (Fr.keep ?zqk2); (case zqk2 => with_reducible assumption); (case zqk1 => with_reducible assumption))); (k_with "storeName" => (k_here; (try dsimp only); k_dflt (refine' storeX_L ?zqF ?zqN ?_ ?zqa ?zqb; (case zqF => k_asm); (case zqN => k_asm); (case zqa => rfl); (case zqb => rfl); k_whole); intro h' F' N'; (try k_sweep))); (k_with "setAttr ref" => (dsimp only; walk1)); (k_with "call ref" => (dsimp only; walk1)); (k_with "setItem ref str" => (dsimp only; walk1)); refine wpAny_call ?_
  walk_at "MINE enter"
  k_steps
  · rename News h₀ L _ _ => N9
    rename (fr = true) => hf
    exact hret _ _ _ _ ⟨rfl, .inl ⟨hf, rfl⟩⟩ (by k_asm) N9
  · rename News h₀ L _ _ => N9
    rename (fr = false) => hf
    exact hret _ _ _ _ ⟨rfl, .inr ⟨hf, _, rfl⟩⟩ (by k_asm) N9
theorem may_send_spec {w mean mg mb} {pa pd : Addr} {own : Led} {size : Int} {t1 : Tok} {k0 k1 k2 k3 k4 k5 k6 ta ts ti tq : Tok} {ad st : Str} {fr : Bool} {inn out : Int} {vc vd : Value} :
  Spec w mean mg mb 5 50 76 [.ref pa, .int size t1] ((pa, instObj 121 pd) :: (pd, pathO w k0 k1 k2 k3 k4 k5 k6 (.str ad ta) (.str st ts) (.bool fr) (.int inn ti) (.int out tq) vc vd) :: own)
    (fun r n => n = (pa, instObj 121 pd) :: (pd, pathO w k0 k1 k2 k3 k4 k5 k6 (.str ad ta) (.str st ts) (.bool fr) (.int inn ti) (.int out tq) vc vd) :: own ∧ r = .bool (fr || decide (size ≤ if 3 * inn - out > 0 then 3 * inn - out else 0))) := by
  unfold Spec; k_fill; intro dp un gd cn cs a ccd cl outer A₀ base h₀ L m sh sg sd st so Q E B F X N T hk hd hu hret; have kM := kstMark; w_top off; k_with_none; (k_with "MINE enter" => (k_dflt (refine' code_def ?zqk1 ?zqk2 ?zqk3 ?zqk4 ?zqk5 ?zqkA ?zqkF ?zqkK ?zqk6 ?zqk7 ?zqk8 ?zqk9 ?zqkB ?_ ?zqc2 ?zqc3 ?zqc4 ?zqc5; (case zqkA => exact rfl); (case zqkF => exact rfl); (case zqkK => first | exact rfl | assumption); (case zqk1 => k_asm); (case zqk2 => k_asm); (case zqk3 => k_asm); (case zqk4 => k_asm); (case zqk5 => k_asm); (case zqk6 => k_is); (case zqk7 => k_is); (case zqk8 => ktr_room); (case zqk9 => first | exact BindsTo.of_eq (binds := [(_, _)]) rfl | exact BindsTo.of_eq (binds := [(_, _), (_, _)]) rfl | exact BindsTo.of_eq (binds := [(_, _), (_, _), (_, _)]) rfl | exact BindsTo.of_eq (binds := [(_, _), (_, _), (_, _), (_, _)]) rfl | exact BindsTo.of_eq rfl); (case zqc5 => decide); (case zqkB => exact locs rfl); (case zqc2 => exact rfl); (case zqc3 => exact rfl); (case zqc4 => exact rfl); k_whole; intro g' L' h' FG' F' N' B' X' T'; (try dsimp only); (try k_lift B'); (try k_fold)))); (k_with "call ref" => (k_here; first | k_extra "MINE call" | (refine wpAny_call ?_; walk_at "MINE enter"))); (k_with "call ref" => (k_here; k_dflt (refine' call_cls ?zqk1 ?zqk2 ?zqk3 ?zqk4 ?zqk5 ?zqk6 ?_; (case zqk1 => k_asm); (case zqk2 => k_asm); (case zqk3 => k_asm); (case zqk4 => k_is); (case zqk5 => k_is); (case zqk6 => k_is); k_whole; intro x' d' h' F' N' l1 l2; (try k_lt l1); (try k_lt2 l2); (try k_sweep)); walk_at "MINE enter")); (k_with "TPost" => dsimp only [TPost]); (k_with "MINE enterC" => (k_dflt (refine' code_defC ?zqk1 ?zqk2 ?zqk3 ?zqk4 ?zqk5 ?zqkA ?zqkF ?zqkK ?zqk6 ?zqk7 ?zqk8 ?zqk9 ?zqkB ?zqkD ?_ ?zqc2 ?zqc3 ?zqc4; (case zqkA => exact rfl); (case zqkF => exact rfl); (case zqkK => first | exact rfl | assumption); (case zqk1 => k_asm); (case zqk2 => k_asm); (case zqk3 => k_asm); (case zqk4 => k_asm); (case zqk5 => k_asm); (case zqk6 => k_is); (case zqk7 => k_is); (case zqk8 => ktr_room); (case zqk9 => first | exact BindsTo.of_eq (binds := [(_, _)]) rfl | exact BindsTo.of_eq (binds := [(_, _), (_, _)]) rfl | exact BindsTo.of_eq (binds := [(_, _), (_, _), (_, _)]) rfl | exact BindsTo.of_eq (binds := [(_, _), (_, _), (_, _), (_, _)]) rfl | exact BindsTo.of_eq rfl); (case zqkB => exact rfl); (case zqkD => decide +kernel); (case zqc2 => exact rfl); (case zqc3 => exact rfl); (case zqc4 => exact rfl); k_whole; intro g' L' h' tk' cells' FG' F' N' Y' B' X' T' l1; k_cells Y'; (try simp only [List.cons_append, List.nil_append] at N'); (try dsimp only); (try k_lift B'); (try k_fold)))); (k_with "exec Assign cons ListComp" => (k_here; k_dflt (refine LCt.Assign_ListComp_T (F₀ := by k_asm) (by rfl) (by with_unfolding_all rfl) (by with_unfolding_all rfl) (by decide) (by rfl) (by decide) (by rfl) (by rfl) (by rfl) ?_))); (k_with "subscriptTail" => (k_here; (with_reducible show wpAny _ _ (subscriptTail _ _ (Value.ref _) (Value.str _ _)) _ _ _); k_dflt (refine' kda_item (knd := PySem.strKind _ _) ?zqk1 ?zqk2 ?zqk3 (strKind_is _ _ _ _) ?zqk4 ?_; (case zqk1 => k_asm); (case zqk2 => k_mem); (case zqk3 => assumption); (case zqk4 => rfl); k_whole))); (k_with "setItem ref str" => (k_here; k_dflt (refine' kda_set (knd := PySem.strKind _ _) ?zqF ?zqN ?zqU ?zqd (strKind_is _ _ _ _) ?zqz ?_; (case zqF => k_asm); (case zqN => k_asm); (case zqU => k_updF); (case zqd => assumption); (case zqz => kob_size)); intro h' o' F' N' hd'; (try kob_lit); (try dsimp only at N'); (try dsimp only); (try k_gentoks))); (k_with "compareOp NotEq ref ref" => (k_here; k_dflt (refine' ne_nil ?zqk1 ?zqk2 ?zqk3 ?zqk4 ?_; (case zqk1 => k_asm); (case zqk2 => k_mem); (case zqk3 => k_mem); (case zqk4 => ktr_units)); (try dsimp only [List.isEmpty, Bool.not_true, Bool.not_false, List.map]))); (k_with "MINE ne" => (refine neN ?_; (try dsimp only); first | exact NeA.ne (by assumption) | exact (NeA.ne (by assumption)).symm | omega)); (k_with "compareOp In bytes ref" => (k_here; k_dflt (refine' in_bytes ?zqk1 ?zqk2 ?zqk3 ?_; (case zqk1 => k_asm); (case zqk2 => k_mem); (case zqk3 => assumption)))); (k_with "exec Raise some none" => (k_here; k_dflt (refine' Raise_38 ?zqk1 ?zqk2 ?_; (case zqk1 => k_asm); (case zqk2 => first | rfl | assumption)))); (k_with "call ref" => (k_here; (with_reducible show wpAny _ _ (call (Value.ref 38) _) _ _ _); k_dflt (refine' call_refuse ?zqk1 ?zqk2 ?zqk3 ?_; (case zqk1 => k_asm); (case zqk2 => k_asm); (case zqk3 => k_asm); k_whole); intro e38 t38 h38 F38 N38 hap38 hne38; refine wpAny_call ?_; walk_at "MINE enter")); (k_with "getMethod type:Exception" => (k_here; refine' method_type ?zqF ?zqX ?zqm (by decide +kernel) ?zqe ?zqh ?_; (case zqF => k_asm); (case zqX => k_asm); (case zqm => kernel_rfl); (case zqe => k_dflt k_is); (case zqh => k_handed))); (k_with "call builtin:Exception.__init__" => (k_here; k_dflt (refine' init_w ?zqk1 ?zqk2 ?zqk3 ?zqk4 ?_; (case zqk1 => k_asm); (case zqk2 => k_asm); (case zqk3 => k_asm); (case zqk4 => exact per_e (by assumption) (by assumption)); k_whole); intro h39 t39 F39 N39 hap39 hne39)); (k_with "setAttr ref" => (k_here; (with_reducible show wpAny _ _ (setAttr (Value.ref _) (PySem.Str.ofString "text") _) _ _ _); k_dflt (refine' text_w ?zqk1 ?zqk2 ?zqk3 ?zqk4 ?_; (case zqk1 => k_asm); (case zqk2 => k_asm); (case zqk3 => k_asm); (case zqk4 => exact per_t (by assumption) (by assumption) (by assumption)); k_whole); intro h40 tk40 o40 F40 N40 hc40 hd40)); (k_with "Refusing" => ((rename News _ _ _ (_ :: (_, tupO _) :: _ :: _) => N41); (rename (_ = Data.fields _) => hd41); refine ⟨_, _, _, rfl, Fr.keep (by k_asm), (N41 _ (.head _)).1, by assumption, hd41, ?_⟩)); (k_with "leaving ref" => (k_here; (rename News _ _ _ (_ :: (_, tupO _) :: _ :: _) => N41); (rename (_ = Data.fields _) => hd41); k_dflt (refine' leave_x ?zqk1 ?zqk2 (vs := [_]) N41 ?zqk4 ?zqk5 hd41 ?_; (case zqk1 => assumption); (case zqk2 => k_asm); (case zqk4 => exact per_b (by assumption) (by assumption) (by assumption)); (case zqk5 => assumption); k_whole); intro h42 R42 U42)); (k_with "MINE enterS" => (k_dflt (refine' code_defT ?zqk1 ?zqk2 ?zqk3 ?zqk4 ?zqk5 ?zqkXB ?zqkTB ?zqkD ?zqkA ?zqkF ?zqkK ?zqk6 ?zqk7 ?zqk8 ?zqk9 ?zqkB ?_ ?zqc2 ?zqc3 ?zqc4 ?zqc5; (case zqkA => exact rfl); (case zqkF => exact rfl); (case zqkK => first | exact rfl | assumption); (case zqk1 => k_asm); (case zqk2 => k_asm); (case zqk3 => k_asm); (case zqk4 => k_asm); (case zqk5 => k_asm); (case zqkXB => assumption); (case zqkTB => assumption); (case zqkD => assumption); (case zqk6 => k_is); (case zqk7 => k_is); (case zqk8 => ktr_room); (case zqk9 => first | exact BindsTo.of_eq (binds := [(_, _)]) rfl | exact BindsTo.of_eq (binds := [(_, _), (_, _)]) rfl | exact BindsTo.of_eq (binds := [(_, _), (_, _), (_, _)]) rfl | exact BindsTo.of_eq (binds := [(_, _), (_, _), (_, _), (_, _)]) rfl | exact BindsTo.of_eq rfl); (case zqc5 => decide); (case zqkB => exact locs rfl); (case zqc2 => exact rfl); (case zqc3 => exact rfl); (case zqc4 => exact rfl); k_whole; intro g' L' h' FG' F' N' B' X' T' D'; (try dsimp only); (try k_lift B'); (try k_fold)))); (k_with "exec For Name Subscript cons nil" => (k_here; (rename Fr _ _ _ _ => lF'); (with_unfolding_all refine' For_invVF lF' ?zqk1 ?zqk2 ?_; (case zqk1 => exact rfl); (case zqk2 => exact rfl); k_whole))); (k_with "compareOp In none ref" => (k_here; k_dflt (refine' none_in_pair ?zqk1 ?zqk2 ?_; (case zqk1 => k_asm); (case zqk2 => k_mem)))); (k_with "compareOp In str ref" => (k_here; k_dflt (refine' str_in_pair ?zqk1 ?zqk2 ?_; (case zqk1 => k_asm); (case zqk2 => k_mem)))); (k_with "compareOp Eq ref ref" => (k_here; k_dflt (refine' eq_nil ?zqk1 ?zqk2 ?zqk3 ?zqk4 ?_; (case zqk1 => k_asm); (case zqk2 => k_mem); (case zqk3 => k_mem); (case zqk4 => ktr_units)); (try dsimp only [List.isEmpty, List.map]))); (k_with "call builtin:len" => (k_here; (with_reducible show wpAny _ _ (call (Value.builtin "len") [Value.ref _]) _ _ _); k_dflt (refine' len_led ?zqk1 ?zqk2 ?zqk3 ?_; (case zqk1 => k_asm); (case zqk2 => k_mem); (case zqk3 => exact Nat.le_trans (by assumption) (by decide))))); (k_with "eval ListComp" => (k_here; k_dflt (refine LCt.ListComp_T (F₀ := by k_asm) (by with_unfolding_all rfl) (by decide) (by rfl) (by decide) (by rfl) ?_))); (k_with "subscriptTail" => (k_here; (with_reducible show wpAny _ _ (subscriptTail _ _ (Value.ref _) (Value.int _ _)) _ _ _); k_dflt (refine' item_led ?zqk1 ?zqk2 ?zqk3 ?zqk4 ?zqk5 ?_; (case zqk1 => k_asm); (case zqk2 => k_mem); (case zqk5 => assumption); (case zqk3 => assumption); (case zqk4 => omega)))); (k_with "MINE in" => (refine' Frag.In.keeps ?zqk1 (Fr.keep ?zqk2); (case zqk2 => with_reducible assumption); (case zqk1 => with_reducible assumption))); (k_with "storeName" => (k_here; (try dsimp only); k_dflt (refine' storeX_L ?zqF ?zqN ?_ ?zqa ?zqb; (case zqF => k_asm); (case zqN => k_asm); (case zqa => rfl); (case zqb => rfl); k_whole); intro h' F' N'; (try k_sweep))); (k_with "setAttr ref" => (dsimp only; walk1)); (k_with "call ref" => (dsimp only; walk1)); (k_with "setItem ref str" => (dsimp only; walk1)); refine wpAny_call ?_
  walk_at "MINE enter"
  k_with "MINE call" => ((with_reducible show wpAny _ _ (call (Value.ref 69) _) _ _ _); refine stop_of ?_)
  k_steps
  refine Stop.go ?_
  rename News _ _ _ _ => N9
  (try (refine (?_ : wpAny _ _ _ _ _ _); k_fold)); k_dflt (refine' spec_use room_spec ?zqk1 ?zqk2 ?zqk3 N9 ?zqk5 ?zqk6 ?zqk7 ?zqk8 ?_; (case zqk1 => k_asm); (case zqk2 => k_asm); (case zqk3 => k_asm); (case zqk5 => k_asm); (case zqk6 => first | exact rfl | assumption); (case zqk7 => ktr_room); (case zqk8 => ktr_units))
  rintro r6 n6 h6 tk6 ⟨rfl, ⟨hf, rfl⟩ | ⟨hf, t9, rfl⟩⟩ F6 N6
  all_goals (subst hf; k_steps)
  all_goals (
    rename News h₀ L _ _ => N9
    exact hret _ _ _ _ ⟨rfl, rfl⟩ (by k_asm) N9)
theorem on_sent_spec {w mean mg mb} {pa pd : Addr} {own : Led} {size : Int} {t1 : Tok} {k0 k1 k2 k3 k4 k5 k6 ta ts ti tq : Tok} {ad st : Str} {fr : Bool} {inn out : Int} {vc vd : Value} (hne : NeA pd pa) (hoff : OwnOff own [pa, pd]) :
  Spec w mean mg mb 2 25 90 [.ref pa, .int size t1] ((pa, instObj 121 pd) :: (pd, pathO w k0 k1 k2 k3 k4 k5 k6 (.str ad ta) (.str st ts) (.bool fr) (.int inn ti) (.int out tq) vc vd) :: own)
    (fun r n => r = .none ∧ ∃ tq', n = (pa, instObj 121 pd) :: (pd, pathO w k0 k1 k2 k3 k4 k5 k6 (.str ad ta) (.str st ts) (.bool fr) (.int inn ti) (.int (out + size) tq') vc vd) :: own) := by
  unfold Spec; k_fill; intro dp un gd cn cs a ccd cl outer A₀ base h₀ L m sh sg sd st so Q E B F X N T hk hd hu hret; have kM := kstMark; w_top off; k_with_none; (k_with "MINE enter" => (k_dflt (refine' code_def ?zqk1 ?zqk2 ?zqk3 ?zqk4 ?zqk5 ?zqkA ?zqkF ?zqkK ?zqk6 ?zqk7 ?zqk8 ?zqk9 ?zqkB ?_ ?zqc2 ?zqc3 ?zqc4 ?zqc5; (case zqkA => exact rfl); (case zqkF => exact rfl); (case zqkK => first | exact rfl | assumption); (case zqk1 => k_asm); (case zqk2 => k_asm); (case zqk3 => k_asm); (case zqk4 => k_asm); (case zqk5 => k_asm); (case zqk6 => k_is); (case zqk7 => k_is); (case zqk8 => ktr_room); (case zqk9 => first | exact BindsTo.of_eq (binds := [(_, _)]) rfl | exact BindsTo.of_eq (binds := [(_, _), (_, _)]) rfl | exact BindsTo.of_eq (binds := [(_, _), (_, _), (_, _)]) rfl | exact BindsTo.of_eq (binds := [(_, _), (_, _), (_, _), (_, _)]) rfl | exact BindsTo.of_eq rfl); (case zqc5 => decide); (case zqkB => exact locs rfl); (case zqc2 => exact rfl); (case zqc3 => exact rfl); (case zqc4 => exact rfl); k_whole; intro g' L' h' FG' F' N' B' X' T'; (try dsimp only); (try k_lift B'); (try k_fold)))); (k_with "call ref" => (k_here; first | k_extra "MINE call" | (refine wpAny_call ?_; walk_at "MINE enter"))); (k_with "call ref" => (k_here; k_dflt (refine' call_cls ?zqk1 ?zqk2 ?zqk3 ?zqk4 ?zqk5 ?zqk6 ?_; (case zqk1 => k_asm); (case zqk2 => k_asm); (case zqk3 => k_asm); (case zqk4 => k_is); (case zqk5 => k_is); (case zqk6 => k_is); k_whole; intro x' d' h' F' N' l1 l2; (try k_lt l1); (try k_lt2 l2); (try k_sweep)); walk_at "MINE enter")); (k_with "TPost" => dsimp only [TPost]); (k_with "MINE enterC" => (k_dflt (refine' code_defC ?zqk1 ?zqk2 ?zqk3 ?zqk4 ?zqk5 ?zqkA ?zqkF ?zqkK ?zqk6 ?zqk7 ?zqk8 ?zqk9 ?zqkB ?zqkD ?_ ?zqc2 ?zqc3 ?zqc4; (case zqkA => exact rfl); (case zqkF => exact rfl); (case zqkK => first | exact rfl | assumption); (case zqk1 => k_asm); (case zqk2 => k_asm); (case zqk3 => k_asm); (case zqk4 => k_asm); (case zqk5 => k_asm); (case zqk6 => k_is); (case zqk7 => k_is); (case zqk8 => ktr_room); (case zqk9 => first | exact BindsTo.of_eq (binds := [(_, _)]) rfl | exact BindsTo.of_eq (binds := [(_, _), (_, _)]) rfl | exact BindsTo.of_eq (binds := [(_, _), (_, _), (_, _)]) rfl | exact BindsTo.of_eq (binds := [(_, _), (_, _), (_, _), (_, _)]) rfl | exact BindsTo.of_eq rfl); (case zqkB => exact rfl); (case zqkD => decide +kernel); (case zqc2 => exact rfl); (case zqc3 => exact rfl); (case zqc4 => exact rfl); k_whole; intro g' L' h' tk' cells' FG' F' N' Y' B' X' T' l1; k_cells Y'; (try simp only [List.cons_append, List.nil_append] at N'); (try dsimp only); (try k_lift B'); (try k_fold)))); (k_with "exec Assign cons ListComp" => (k_here; k_dflt (refine LCt.Assign_ListComp_T (F₀ := by k_asm) (by rfl) (by with_unfolding_all rfl) (by with_unfolding_all rfl) (by decide) (by rfl) (by decide) (by rfl) (by rfl) (by rfl) ?_))); (k_with "subscriptTail" => (k_here; (with_reducible show wpAny _ _ (subscriptTail _ _ (Value.ref _) (Value.str _ _)) _ _ _); k_dflt (refine' kda_item (knd := PySem.strKind _ _) ?zqk1 ?zqk2 ?zqk3 (strKind_is _ _ _ _) ?zqk4 ?_; (case zqk1 => k_asm); (case zqk2 => k_mem); (case zqk3 => assumption); (case zqk4 => rfl); k_whole))); (k_with "setItem ref str" => (k_here; k_dflt (refine' kda_set (knd := PySem.strKind _ _) ?zqF ?zqN ?zqU ?zqd (strKind_is _ _ _ _) ?zqz ?_; (case zqF => k_asm); (case zqN => k_asm); (case zqU => k_updF); (case zqd => assumption); (case zqz => kob_size)); intro h' o' F' N' hd'; (try kob_lit); (try dsimp only at N'); (try dsimp only); (try k_gentoks))); (k_with "compareOp NotEq ref ref" => (k_here; k_dflt (refine' ne_nil ?zqk1 ?zqk2 ?zqk3 ?zqk4 ?_; (case zqk1 => k_asm); (case zqk2 => k_mem); (case zqk3 => k_mem); (case zqk4 => ktr_units)); (try dsimp only [List.isEmpty, Bool.not_true, Bool.not_false, List.map]))); (k_with "MINE ne" => (refine neN ?_; (try dsimp only); first | exact NeA.ne (by assumption) | exact (NeA.ne (by assumption)).symm | omega)); (k_with "compareOp In bytes ref" => (k_here; k_dflt (refine' in_bytes ?zqk1 ?zqk2 ?zqk3 ?_; (case zqk1 => k_asm); (case zqk2 => k_mem); (case zqk3 => assumption)))); (k_with "exec Raise some none" => (k_here; k_dflt (refine' Raise_38 ?zqk1 ?zqk2 ?_; (case zqk1 => k_asm); (case zqk2 => first | rfl | assumption)))); (k_with "call ref" => (k_here; (with_reducible show wpAny _ _ (call (Value.ref 38) _) _ _ _); k_dflt (refine' call_refuse ?zqk1 ?zqk2 ?zqk3 ?_; (case zqk1 => k_asm); (case zqk2 => k_asm); (case zqk3 => k_asm); k_whole); intro e38 t38 h38 F38 N38 hap38 hne38; refine wpAny_call ?_; walk_at "MINE enter")); (k_with "getMethod type:Exception" => (k_here; refine' method_type ?zqF ?zqX ?zqm (by decide +kernel) ?zqe ?zqh ?_; (case zqF => k_asm); (case zqX => k_asm); (case zqm => kernel_rfl); (case zqe => k_dflt k_is); (case zqh => k_handed))); (k_with "call builtin:Exception.__init__" => (k_here; k_dflt (refine' init_w ?zqk1 ?zqk2 ?zqk3 ?zqk4 ?_; (case zqk1 => k_asm); (case zqk2 => k_asm); (case zqk3 => k_asm); (case zqk4 => exact per_e (by assumption) (by assumption)); k_whole); intro h39 t39 F39 N39 hap39 hne39)); (k_with "setAttr ref" => (k_here; (with_reducible show wpAny _ _ (setAttr (Value.ref _) (PySem.Str.ofString "text") _) _ _ _); k_dflt (refine' text_w ?zqk1 ?zqk2 ?zqk3 ?zqk4 ?_; (case zqk1 => k_asm); (case zqk2 => k_asm); (case zqk3 => k_asm); (case zqk4 => exact per_t (by assumption) (by assumption) (by assumption)); k_whole); intro h40 tk40 o40 F40 N40 hc40 hd40)); (k_with "Refusing" => ((rename News _ _ _ (_ :: (_, tupO _) :: _ :: _) => N41); (rename (_ = Data.fields _) => hd41); refine ⟨_, _, _, rfl, Fr.keep (by k_asm), (N41 _ (.head _)).1, by assumption, hd41, ?_⟩)); (k_with "leaving ref" => (k_here; (rename News _ _ _ (_ :: (_, tupO _) :: _ :: _) => N41); (rename (_ = Data.fields _) => hd41); k_dflt (refine' leave_x ?zqk1 ?zqk2 (vs := [_]) N41 ?zqk4 ?zqk5 hd41 ?_; (case zqk1 => assumption); (case zqk2 => k_asm); (case zqk4 => exact per_b (by assumption) (by assumption) (by assumption)); (case zqk5 => assumption); k_whole); intro h42 R42 U42)); (k_with "MINE enterS" => (k_dflt (refine' code_defT ?zqk1 ?zqk2 ?zqk3 ?zqk4 ?zqk5 ?zqkXB ?zqkTB ?zqkD ?zqkA ?zqkF ?zqkK ?zqk6 ?zqk7 ?zqk8 ?zqk9 ?zqkB ?_ ?zqc2 ?zqc3 ?zqc4 ?zqc5; (case zqkA => exact rfl); (case zqkF => exact rfl); (case zqkK => first | exact rfl | assumption); (case zqk1 => k_asm); (case zqk2 => k_asm); (case zqk3 => k_asm); (case zqk4 => k_asm); (case zqk5 => k_asm); (case zqkXB => assumption); (case zqkTB => assumption); (case zqkD => assumption); (case zqk6 => k_is); (case zqk7 => k_is); (case zqk8 => ktr_room); (case zqk9 => first | exact BindsTo.of_eq (binds := [(_, _)]) rfl | exact BindsTo.of_eq (binds := [(_, _), (_, _)]) rfl | exact BindsTo.of_eq (binds := [(_, _), (_, _), (_, _)]) rfl | exact BindsTo.of_eq (binds := [(_, _), (_, _), (_, _), (_, _)]) rfl | exact BindsTo.of_eq rfl); (case zqc5 => decide); (case zqkB => exact locs rfl); (case zqc2 => exact rfl); (case zqc3 => exact rfl); (case zqc4 => exact rfl); k_whole; intro g' L' h' FG' F' N' B' X' T' D'; (try dsimp only); (try k_lift B'); (try k_fold)))); (k_with "exec For Name Subscript cons nil" => (k_here; (rename Fr _ _ _ _ => lF'); (with_unfolding_all refine' For_invVF lF' ?zqk1 ?zqk2 ?_; (case zqk1 => exact rfl); (case zqk2 => exact rfl); k_whole))); (k_with "compareOp In none ref" => (k_here; k_dflt (refine' none_in_pair ?zqk1 ?zqk2 ?_; (case zqk1 => k_asm); (case zqk2 => k_mem)))); (k_with "compareOp In str ref" => (k_here; k_dflt (refine' str_in_pair ?zqk1 ?zqk2 ?_; (case zqk1 => k_asm); (case zqk2 => k_mem)))); (k_with "compareOp Eq ref ref" => (k_here; k_dflt (refine' eq_nil ?zqk1 ?zqk2 ?zqk3 ?zqk4 ?_; (case zqk1 => k_asm); (case zqk2 => k_mem); (case zqk3 => k_mem); (case zqk4 => ktr_units)); (try dsimp only [List.isEmpty, List.map]))); (k_with "call builtin:len" => (k_here; (with_reducible show wpAny _ _ (call (Value.builtin "len") [Value.ref _]) _ _ _); k_dflt (refine' len_led ?zqk1 ?zqk2 ?zqk3 ?_; (case zqk1 => k_asm); (case zqk2 => k_mem); (case zqk3 => exact Nat.le_trans (by assumption) (by decide))))); (k_with "eval ListComp" => (k_here; k_dflt (refine LCt.ListComp_T (F₀ := by k_asm) (by with_unfolding_all rfl) (by decide) (by rfl) (by decide) (by rfl) ?_))); (k_with "subscriptTail" => (k_here; (with_reducible show wpAny _ _ (subscriptTail _ _ (Value.ref _) (Value.int _ _)) _ _ _); k_dflt (refine' item_led ?zqk1 ?zqk2 ?zqk3 ?zqk4 ?zqk5 ?_; (case zqk1 => k_asm); (case zqk2 => k_mem); (case zqk5 => assumption); (case zqk3 => assumption); (case zqk4 => omega)))); (k_with "MINE in" => (refine' Frag.In.keeps ?zqk1 (Fr.keep ?zqk2); (case zqk2 => with_reducible assumption); (case zqk1 => with_reducible assumption))); (k_with "storeName" => (k_here; (try dsimp only); k_dflt (refine' storeX_L ?zqF ?zqN ?_ ?zqa ?zqb; (case zqF => k_asm); (case zqN => k_asm); (case zqa => rfl); (case zqb => rfl); k_whole); intro h' F' N'; (try k_sweep))); (k_with "setAttr ref" => (dsimp only; walk1)); (k_with "call ref" => (dsimp only; walk1)); (k_with "setItem ref str" => (dsimp only; walk1)); refine wpAny_call ?_
  walk_at "MINE enter"
  k_steps
  rename News h₀ L _ _ => N9
  exact hret _ _ _ _ ⟨rfl, _, rfl⟩ (by k_asm) N9
noncomputable abbrev askN (b : Array UInt8) (e : Int) (r : Rw) : Rw := { r with st := "trying", asked := [b], fin := some e }
noncomputable abbrev askM (b : Array UInt8) (r : Rw) : Rw := { r with asked := r.asked ++ [b] }
theorem sep_like {g h : Heap} {L : Addr} {l l' : Led} (_ : News g L h l') (s : Sep l) (e : l'.map (·.1) = l.map (·.1)) : Sep l' := s.same e
theorem news_D {a p q x : Addr × Obj} {l : Led} {h₀ h : Heap} {L : Addr} (N : News h₀ L h (a :: p :: q :: x :: l)) : News h₀ L h (p :: q :: a :: l) := news_sub N fun y hp => by
  rcases List.mem_cons.mp hp with rfl | hp
  · exact .tail _ (.head _)
  · rcases List.mem_cons.mp hp with rfl | hp
    · exact .tail _ (.tail _ (.head _))
    · rcases List.mem_cons.mp hp with rfl | hp
      · exact .head _
      · exact .tail _ (.tail _ (.tail _ (.tail _ hp)))
theorem challenge_spec {w mean mg mb} {r : Rw} {pa pd ca : Addr} {us : List Value} {c : Nat} {v : Value} {k0 k1 k2 k3 k4 k5 k6 ta ts ti tq t1 t2 t3 : Tok} {b : Array UInt8} {now wait : Int} {own : Led} (hus : BytesAre us r.asked) (hv : OptIs v r.fin) (hul : us.length ≤ 60)
    (hS : Sep ((pa, instObj 121 pd) :: (pd, pathO w k0 k1 k2 k3 k4 k5 k6 (.str r.addr ta) (.str r.st ts) (.bool r.free) (.int r.inn ti) (.int r.out tq) (.ref ca) v) :: (ca, listOf us.toArray c) :: own)) :
  Spec w mean mg mb 2 25 104 [.ref pa, .bytes b t1, .int now t2, .int wait t3] ((pa, instObj 121 pd) :: (pd, pathO w k0 k1 k2 k3 k4 k5 k6 (.str r.addr ta) (.str r.st ts) (.bool r.free) (.int r.inn ti) (.int r.out tq) (.ref ca) v) :: (ca, listOf us.toArray c) :: own)
    (fun r9 n => r9 = .none ∧ ∃ f2 f3, n = (pa, instObj 121 pd) :: f2 :: f3 :: own ∧ PRow w (if r.st = Str.ofString "trying" then askM b r else askN b (now + wait) r) pa [(pa, instObj 121 pd), f2, f3] ∧ Sep n) := by
  unfold Spec; k_fill; intro dp un gd cn cs a ccd cl outer A₀ base h₀ L m sh sg sd st so Q E B F X N T hk hd hu hret; have kM := kstMark; w_top off; k_with_none; (k_with "MINE enter" => (k_dflt (refine' code_def ?zqk1 ?zqk2 ?zqk3 ?zqk4 ?zqk5 ?zqkA ?zqkF ?zqkK ?zqk6 ?zqk7 ?zqk8 ?zqk9 ?zqkB ?_ ?zqc2 ?zqc3 ?zqc4 ?zqc5; (case zqkA => exact rfl); (case zqkF => exact rfl); (case zqkK => first | exact rfl | assumption); (case zqk1 => k_asm); (case zqk2 => k_asm); (case zqk3 => k_asm); (case zqk4 => k_asm); (case zqk5 => k_asm); (case zqk6 => k_is); (case zqk7 => k_is); (case zqk8 => ktr_room); (case zqk9 => first | exact BindsTo.of_eq (binds := [(_, _)]) rfl | exact BindsTo.of_eq (binds := [(_, _), (_, _)]) rfl | exact BindsTo.of_eq (binds := [(_, _), (_, _), (_, _)]) rfl | exact BindsTo.of_eq (binds := [(_, _), (_, _), (_, _), (_, _)]) rfl | exact BindsTo.of_eq rfl); (case zqc5 => decide); (case zqkB => exact locs rfl); (case zqc2 => exact rfl); (case zqc3 => exact rfl); (case zqc4 => exact rfl); k_whole; intro g' L' h' FG' F' N' B' X' T'; (try dsimp only); (try k_lift B'); (try k_fold)))); (k_with "call ref" => (k_here; first | k_extra "MINE call" | (refine wpAny_call ?_; walk_at "MINE enter"))); (k_with "call ref" => (k_here; k_dflt (refine' call_cls ?zqk1 ?zqk2 ?zqk3 ?zqk4 ?zqk5 ?zqk6 ?_; (case zqk1 => k_asm); (case zqk2 => k_asm); (case zqk3 => k_asm); (case zqk4 => k_is); (case zqk5 => k_is); (case zqk6 => k_is); k_whole; intro x' d' h' F' N' l1 l2; (try k_lt l1); (try k_lt2 l2); (try k_sweep)); walk_at "MINE enter")); (k_with "TPost" => dsimp only [TPost]); (k_with "MINE enterC" => (k_dflt (refine' code_defC ?zqk1 ?zqk2 ?zqk3 ?zqk4 ?zqk5 ?zqkA ?zqkF ?zqkK ?zqk6 ?zqk7 ?zqk8 ?zqk9 ?zqkB ?zqkD ?_ ?zqc2 ?zqc3 ?zqc4; (case zqkA => exact rfl); (case zqkF => exact rfl); (case zqkK => first | exact rfl | assumption); (case zqk1 => k_asm); (case zqk2 => k_asm); (case zqk3 => k_asm); (case zqk4 => k_asm); (case zqk5 => k_asm); (case zqk6 => k_is); (case zqk7 => k_is); (case zqk8 => ktr_room); (case zqk9 => first | exact BindsTo.of_eq (binds := [(_, _)]) rfl | exact BindsTo.of_eq (binds := [(_, _), (_, _)]) rfl | exact BindsTo.of_eq (binds := [(_, _), (_, _), (_, _)]) rfl | exact BindsTo.of_eq (binds := [(_, _), (_, _), (_, _), (_, _)]) rfl | exact BindsTo.of_eq rfl); (case zqkB => exact rfl); (case zqkD => decide +kernel); (case zqc2 => exact rfl); (case zqc3 => exact rfl); (case zqc4 => exact rfl); k_whole; intro g' L' h' tk' cells' FG' F' N' Y' B' X' T' l1; k_cells Y'; (try simp only [List.cons_append, List.nil_append] at N'); (try dsimp only); (try k_lift B'); (try k_fold)))); (k_with "exec Assign cons ListComp" => (k_here; k_dflt (refine LCt.Assign_ListComp_T (F₀ := by k_asm) (by rfl) (by with_unfolding_all rfl) (by with_unfolding_all rfl) (by decide) (by rfl) (by decide) (by rfl) (by rfl) (by rfl) ?_))); (k_with "subscriptTail" => (k_here; (with_reducible show wpAny _ _ (subscriptTail _ _ (Value.ref _) (Value.str _ _)) _ _ _); k_dflt (refine' kda_item (knd := PySem.strKind _ _) ?zqk1 ?zqk2 ?zqk3 (strKind_is _ _ _ _) ?zqk4 ?_; (case zqk1 => k_asm); (case zqk2 => k_mem); (case zqk3 => assumption); (case zqk4 => rfl); k_whole))); (k_with "setItem ref str" => (k_here; k_dflt (refine' kda_set (knd := PySem.strKind _ _) ?zqF ?zqN ?zqU ?zqd (strKind_is _ _ _ _) ?zqz ?_; (case zqF => k_asm); (case zqN => k_asm); (case zqU => k_updF); (case zqd => assumption); (case zqz => kob_size)); intro h' o' F' N' hd'; (try kob_lit); (try dsimp only at N'); (try dsimp only); (try k_gentoks))); (k_with "compareOp NotEq ref ref" => (k_here; k_dflt (refine' ne_nil ?zqk1 ?zqk2 ?zqk3 ?zqk4 ?_; (case zqk1 => k_asm); (case zqk2 => k_mem); (case zqk3 => k_mem); (case zqk4 => ktr_units)); (try dsimp only [List.isEmpty, Bool.not_true, Bool.not_false, List.map]))); (k_with "MINE ne" => (refine neN ?_; (try dsimp only); first | exact NeA.ne (by assumption) | exact (NeA.ne (by assumption)).symm | omega)); (k_with "compareOp In bytes ref" => (k_here; k_dflt (refine' in_bytes ?zqk1 ?zqk2 ?zqk3 ?_; (case zqk1 => k_asm); (case zqk2 => k_mem); (case zqk3 => assumption)))); (k_with "exec Raise some none" => (k_here; k_dflt (refine' Raise_38 ?zqk1 ?zqk2 ?_; (case zqk1 => k_asm); (case zqk2 => first | rfl | assumption)))); (k_with "call ref" => (k_here; (with_reducible show wpAny _ _ (call (Value.ref 38) _) _ _ _); k_dflt (refine' call_refuse ?zqk1 ?zqk2 ?zqk3 ?_; (case zqk1 => k_asm); (case zqk2 => k_asm); (case zqk3 => k_asm); k_whole); intro e38 t38 h38 F38 N38 hap38 hne38; refine wpAny_call ?_; walk_at "MINE enter")); (k_with "getMethod type:Exception" => (k_here; refine' method_type ?zqF ?zqX ?zqm (by decide +kernel) ?zqe ?zqh ?_; (case zqF => k_asm); (case zqX => k_asm); (case zqm => kernel_rfl); (case zqe => k_dflt k_is); (case zqh => k_handed))); (k_with "call builtin:Exception.__init__" => (k_here; k_dflt (refine' init_w ?zqk1 ?zqk2 ?zqk3 ?zqk4 ?_; (case zqk1 => k_asm); (case zqk2 => k_asm); (case zqk3 => k_asm); (case zqk4 => exact per_e (by assumption) (by assumption)); k_whole); intro h39 t39 F39 N39 hap39 hne39)); (k_with "setAttr ref" => (k_here; (with_reducible show wpAny _ _ (setAttr (Value.ref _) (PySem.Str.ofString "text") _) _ _ _); k_dflt (refine' text_w ?zqk1 ?zqk2 ?zqk3 ?zqk4 ?_; (case zqk1 => k_asm); (case zqk2 => k_asm); (case zqk3 => k_asm); (case zqk4 => exact per_t (by assumption) (by assumption) (by assumption)); k_whole); intro h40 tk40 o40 F40 N40 hc40 hd40)); (k_with "Refusing" => ((rename News _ _ _ (_ :: (_, tupO _) :: _ :: _) => N41); (rename (_ = Data.fields _) => hd41); refine ⟨_, _, _, rfl, Fr.keep (by k_asm), (N41 _ (.head _)).1, by assumption, hd41, ?_⟩)); (k_with "leaving ref" => (k_here; (rename News _ _ _ (_ :: (_, tupO _) :: _ :: _) => N41); (rename (_ = Data.fields _) => hd41); k_dflt (refine' leave_x ?zqk1 ?zqk2 (vs := [_]) N41 ?zqk4 ?zqk5 hd41 ?_; (case zqk1 => assumption); (case zqk2 => k_asm); (case zqk4 => exact per_b (by assumption) (by assumption) (by assumption)); (case zqk5 => assumption); k_whole); intro h42 R42 U42)); (k_with "MINE enterS" => (k_dflt (refine' code_defT ?zqk1 ?zqk2 ?zqk3 ?zqk4 ?zqk5 ?zqkXB ?zqkTB ?zqkD ?zqkA ?zqkF ?zqkK ?zqk6 ?zqk7 ?zqk8 ?zqk9 ?zqkB ?_ ?zqc2 ?zqc3 ?zqc4 ?zqc5; (case zqkA => exact rfl); (case zqkF => exact rfl); (case zqkK => first | exact rfl | assumption); (case zqk1 => k_asm); (case zqk2 => k_asm); (case zqk3 => k_asm); (case zqk4 => k_asm); (case zqk5 => k_asm); (case zqkXB => assumption); (case zqkTB => assumption); (case zqkD => assumption); (case zqk6 => k_is); (case zqk7 => k_is); (case zqk8 => ktr_room); (case zqk9 => first | exact BindsTo.of_eq (binds := [(_, _)]) rfl | exact BindsTo.of_eq (binds := [(_, _), (_, _)]) rfl | exact BindsTo.of_eq (binds := [(_, _), (_, _), (_, _)]) rfl | exact BindsTo.of_eq (binds := [(_, _), (_, _), (_, _), (_, _)]) rfl | exact BindsTo.of_eq rfl); (case zqc5 => decide); (case zqkB => exact locs rfl); (case zqc2 => exact rfl); (case zqc3 => exact rfl); (case zqc4 => exact rfl); k_whole; intro g' L' h' FG' F' N' B' X' T' D'; (try dsimp only); (try k_lift B'); (try k_fold)))); (k_with "exec For Name Subscript cons nil" => (k_here; (rename Fr _ _ _ _ => lF'); (with_unfolding_all refine' For_invVF lF' ?zqk1 ?zqk2 ?_; (case zqk1 => exact rfl); (case zqk2 => exact rfl); k_whole))); (k_with "compareOp In none ref" => (k_here; k_dflt (refine' none_in_pair ?zqk1 ?zqk2 ?_; (case zqk1 => k_asm); (case zqk2 => k_mem)))); (k_with "compareOp In str ref" => (k_here; k_dflt (refine' str_in_pair ?zqk1 ?zqk2 ?_; (case zqk1 => k_asm); (case zqk2 => k_mem)))); (k_with "compareOp Eq ref ref" => (k_here; k_dflt (refine' eq_nil ?zqk1 ?zqk2 ?zqk3 ?zqk4 ?_; (case zqk1 => k_asm); (case zqk2 => k_mem); (case zqk3 => k_mem); (case zqk4 => ktr_units)); (try dsimp only [List.isEmpty, List.map]))); (k_with "call builtin:len" => (k_here; (with_reducible show wpAny _ _ (call (Value.builtin "len") [Value.ref _]) _ _ _); k_dflt (refine' len_led ?zqk1 ?zqk2 ?zqk3 ?_; (case zqk1 => k_asm); (case zqk2 => k_mem); (case zqk3 => exact Nat.le_trans (by assumption) (by decide))))); (k_with "eval ListComp" => (k_here; k_dflt (refine LCt.ListComp_T (F₀ := by k_asm) (by with_unfolding_all rfl) (by decide) (by rfl) (by decide) (by rfl) ?_))); (k_with "subscriptTail" => (k_here; (with_reducible show wpAny _ _ (subscriptTail _ _ (Value.ref _) (Value.int _ _)) _ _ _); k_dflt (refine' item_led ?zqk1 ?zqk2 ?zqk3 ?zqk4 ?zqk5 ?_; (case zqk1 => k_asm); (case zqk2 => k_mem); (case zqk5 => assumption); (case zqk3 => assumption); (case zqk4 => omega)))); (k_with "MINE in" => (refine' Frag.In.keeps ?zqk1 (Fr.keep ?zqk2); (case zqk2 => with_reducible assumption); (case zqk1 => with_reducible assumption))); (k_with "storeName" => (k_here; (try dsimp only); k_dflt (refine' storeX_L ?zqF ?zqN ?_ ?zqa ?zqb; (case zqF => k_asm); (case zqN => k_asm); (case zqa => rfl); (case zqb => rfl); k_whole); intro h' F' N'; (try k_sweep))); (k_with "setAttr ref" => (dsimp only; walk1)); (k_with "call ref" => (dsimp only; walk1)); (k_with "setItem ref str" => (dsimp only; walk1)); refine wpAny_call ?_
  walk_at "MINE enter"
  have hO : OwnOff own [pa, pd, ca] := Sep.off (E := [_, _, _]) hS
  refine ap_elim (E := [_, _, _]) hS ?_
  dsimp only [Ap, NeP]
  intros
  k_steps
  · rename (r.st != Str.ofString "trying") = true => hst
    have hst2 : ¬ r.st = Str.ofString "trying" := fun z => by rw [z] at hst; simp at hst
    rename News h₀ L _ _ => N9
    rename (_ ∧ _ ∧ _ ∧ AllLt _ own) => hl9
    have hS9 := sep_swap (X := [_, _]) (o' := listOf ([] : List Value).toArray 0) hS hl9
    simp only [List.push_toArray, List.nil_append] at N9
    replace N9 := news_D N9
    refine hret _ _ _ _ ?_ (by k_asm) N9
    exact ⟨rfl, _, _, rfl, by rw [if_neg hst2]; exact .mk (r := askN b (now + wait) r) (us := [_]) (.cons _ _ .nil) (.some _ _), hS9.same rfl⟩
  · rename (r.st != Str.ofString "trying") = false => hst
    have hst2 : r.st = Str.ofString "trying" := by simpa using hst
    rename News h₀ L _ _ => N9
    simp only [List.push_toArray] at N9
    refine hret _ _ _ _ ?_ (by k_asm) N9
    exact ⟨rfl, _, _, rfl, by rw [if_pos hst2]; exact .mk (r := askM b r) (hus.append (.cons _ _ .nil)) hv, hS.same rfl⟩
end
section
theorem two_ne {a b y : Str} (h2 : [a, b].contains y = false) : y ≠ a ∧ y ≠ b :=
  ⟨fun e => by subst e; simp at h2, fun e => by subst e; simp at h2⟩
theorem law_stands_spec {w mean mg mb} {wd ps : Addr} {l own : Led} {rows : List Rw} {σ : St} {k : Nat}
    (hB : Both w wd ps σ rows l) (hF : Fine k σ rows) (hk60 : k ≤ 60) (hsep : Sep (l ++ own)) :
    Spec w mean mg mb 12 120 297 [.ref wd, .ref ps] (l ++ own)
      (fun r9 n => r9 = .bool true ∧ n = l ++ own) := by
  cases hB with
  | @mk lrs prs ll lp hL hP hl hp =>
  have hnd := nd_of hF.nd hp
  have hndL := nd_of hF.nd hl
  have hlenL : lrs.length ≤ 63 := len_of (Nat.le_trans hF.len (by omega)) hl
  have hL2 := hL
  cases hL with
  | @mk o rl al us c c2 vb tr ta tt ts tn ll' ho hb hus hr =>
  have hP2 := hP
  cases hP with
  | @mk pd kn an act last c3 c4 k0 k1 k2 k3 k4 k5 k6 tr2 th ra2 lp' hr2 hact hra2 hback =>
  unfold Spec; k_fill; intro dp un gd cn cs a ccd cl outer A₀ base h₀ L m sh sg sd st so Q E B F X N T9 hk hd hu hret; have kM := kstMark; w_top off; k_with_none; (k_with "MINE enter" => (k_dflt (refine' code_def ?zqk1 ?zqk2 ?zqk3 ?zqk4 ?zqk5 ?zqkA ?zqkF ?zqkK ?zqk6 ?zqk7 ?zqk8 ?zqk9 ?zqkB ?_ ?zqc2 ?zqc3 ?zqc4 ?zqc5; (case zqkA => exact rfl); (case zqkF => exact rfl); (case zqkK => first | exact rfl | assumption); (case zqk1 => k_asm); (case zqk2 => k_asm); (case zqk3 => k_asm); (case zqk4 => k_asm); (case zqk5 => k_asm); (case zqk6 => k_is); (case zqk7 => k_is); (case zqk8 => ktr_room); (case zqk9 => first | exact BindsTo.of_eq (binds := [(_, _)]) rfl | exact BindsTo.of_eq (binds := [(_, _), (_, _)]) rfl | exact BindsTo.of_eq (binds := [(_, _), (_, _), (_, _)]) rfl | exact BindsTo.of_eq (binds := [(_, _), (_, _), (_, _), (_, _)]) rfl | exact BindsTo.of_eq rfl); (case zqc5 => decide); (case zqkB => exact locs rfl); (case zqc2 => exact rfl); (case zqc3 => exact rfl); (case zqc4 => exact rfl); k_whole; intro g' L' h' FG' F' N' B' X' T'; (try dsimp only); (try k_lift B'); (try k_fold)))); (k_with "call ref" => (k_here; first | k_extra "MINE call" | (refine wpAny_call ?_; walk_at "MINE enter"))); (k_with "call ref" => (k_here; k_dflt (refine' call_cls ?zqk1 ?zqk2 ?zqk3 ?zqk4 ?zqk5 ?zqk6 ?_; (case zqk1 => k_asm); (case zqk2 => k_asm); (case zqk3 => k_asm); (case zqk4 => k_is); (case zqk5 => k_is); (case zqk6 => k_is); k_whole; intro x' d' h' F' N' l1 l2; (try k_lt l1); (try k_lt2 l2); (try k_sweep)); walk_at "MINE enter")); (k_with "TPost" => dsimp only [TPost]); (k_with "MINE enterC" => (k_dflt (refine' code_defC ?zqk1 ?zqk2 ?zqk3 ?zqk4 ?zqk5 ?zqkA ?zqkF ?zqkK ?zqk6 ?zqk7 ?zqk8 ?zqk9 ?zqkB ?zqkD ?_ ?zqc2 ?zqc3 ?zqc4; (case zqkA => exact rfl); (case zqkF => exact rfl); (case zqkK => first | exact rfl | assumption); (case zqk1 => k_asm); (case zqk2 => k_asm); (case zqk3 => k_asm); (case zqk4 => k_asm); (case zqk5 => k_asm); (case zqk6 => k_is); (case zqk7 => k_is); (case zqk8 => ktr_room); (case zqk9 => first | exact BindsTo.of_eq (binds := [(_, _)]) rfl | exact BindsTo.of_eq (binds := [(_, _), (_, _)]) rfl | exact BindsTo.of_eq (binds := [(_, _), (_, _), (_, _)]) rfl | exact BindsTo.of_eq (binds := [(_, _), (_, _), (_, _), (_, _)]) rfl | exact BindsTo.of_eq rfl); (case zqkB => exact rfl); (case zqkD => decide +kernel); (case zqc2 => exact rfl); (case zqc3 => exact rfl); (case zqc4 => exact rfl); k_whole; intro g' L' h' tk' cells' FG' F' N' Y' B' X' T' l1; k_cells Y'; (try simp only [List.cons_append, List.nil_append] at N'); (try dsimp only); (try k_lift B'); (try k_fold)))); (k_with "exec Assign cons ListComp" => (k_here; k_dflt (refine LCt.Assign_ListComp_T (F₀ := by k_asm) (by rfl) (by with_unfolding_all rfl) (by with_unfolding_all rfl) (by decide) (by rfl) (by decide) (by rfl) (by rfl) (by rfl) ?_))); (k_with "subscriptTail" => (k_here; (with_reducible show wpAny _ _ (subscriptTail _ _ (Value.ref _) (Value.str _ _)) _ _ _); k_dflt (refine' kda_item (knd := PySem.strKind _ _) ?zqk1 ?zqk2 ?zqk3 (strKind_is _ _ _ _) ?zqk4 ?_; (case zqk1 => k_asm); (case zqk2 => k_mem); (case zqk3 => assumption); (case zqk4 => rfl); k_whole))); (k_with "setItem ref str" => (k_here; k_dflt (refine' kda_set (knd := PySem.strKind _ _) ?zqF ?zqN ?zqU ?zqd (strKind_is _ _ _ _) ?zqz ?_; (case zqF => k_asm); (case zqN => k_asm); (case zqU => k_updF); (case zqd => assumption); (case zqz => kob_size)); intro h' o' F' N' hd'; (try kob_lit); (try dsimp only at N'); (try dsimp only); (try k_gentoks))); (k_with "compareOp NotEq ref ref" => (k_here; k_dflt (refine' ne_nil ?zqk1 ?zqk2 ?zqk3 ?zqk4 ?_; (case zqk1 => k_asm); (case zqk2 => k_mem); (case zqk3 => k_mem); (case zqk4 => ktr_units)); (try dsimp only [List.isEmpty, Bool.not_true, Bool.not_false, List.map]))); (k_with "MINE ne" => (refine neN ?_; (try dsimp only); first | exact NeA.ne (by assumption) | exact (NeA.ne (by assumption)).symm | omega)); (k_with "compareOp In bytes ref" => (k_here; k_dflt (refine' in_bytes ?zqk1 ?zqk2 ?zqk3 ?_; (case zqk1 => k_asm); (case zqk2 => k_mem); (case zqk3 => assumption)))); (k_with "exec Raise some none" => (k_here; k_dflt (refine' Raise_38 ?zqk1 ?zqk2 ?_; (case zqk1 => k_asm); (case zqk2 => first | rfl | assumption)))); (k_with "call ref" => (k_here; (with_reducible show wpAny _ _ (call (Value.ref 38) _) _ _ _); k_dflt (refine' call_refuse ?zqk1 ?zqk2 ?zqk3 ?_; (case zqk1 => k_asm); (case zqk2 => k_asm); (case zqk3 => k_asm); k_whole); intro e38 t38 h38 F38 N38 hap38 hne38; refine wpAny_call ?_; walk_at "MINE enter")); (k_with "getMethod type:Exception" => (k_here; refine' method_type ?zqF ?zqX ?zqm (by decide +kernel) ?zqe ?zqh ?_; (case zqF => k_asm); (case zqX => k_asm); (case zqm => kernel_rfl); (case zqe => k_dflt k_is); (case zqh => k_handed))); (k_with "call builtin:Exception.__init__" => (k_here; k_dflt (refine' init_w ?zqk1 ?zqk2 ?zqk3 ?zqk4 ?_; (case zqk1 => k_asm); (case zqk2 => k_asm); (case zqk3 => k_asm); (case zqk4 => exact per_e (by assumption) (by assumption)); k_whole); intro h39 t39 F39 N39 hap39 hne39)); (k_with "setAttr ref" => (k_here; (with_reducible show wpAny _ _ (setAttr (Value.ref _) (PySem.Str.ofString "text") _) _ _ _); k_dflt (refine' text_w ?zqk1 ?zqk2 ?zqk3 ?zqk4 ?_; (case zqk1 => k_asm); (case zqk2 => k_asm); (case zqk3 => k_asm); (case zqk4 => exact per_t (by assumption) (by assumption) (by assumption)); k_whole); intro h40 tk40 o40 F40 N40 hc40 hd40)); (k_with "Refusing" => ((rename News _ _ _ (_ :: (_, tupO _) :: _ :: _) => N41); (rename (_ = Data.fields _) => hd41); refine ⟨_, _, _, rfl, Fr.keep (by k_asm), (N41 _ (.head _)).1, by assumption, hd41, ?_⟩)); (k_with "leaving ref" => (k_here; (rename News _ _ _ (_ :: (_, tupO _) :: _ :: _) => N41); (rename (_ = Data.fields _) => hd41); k_dflt (refine' leave_x ?zqk1 ?zqk2 (vs := [_]) N41 ?zqk4 ?zqk5 hd41 ?_; (case zqk1 => assumption); (case zqk2 => k_asm); (case zqk4 => exact per_b (by assumption) (by assumption) (by assumption)); (case zqk5 => assumption); k_whole); intro h42 R42 U42)); (k_with "MINE enterS" => (k_dflt (refine' code_defT ?zqk1 ?zqk2 ?zqk3 ?zqk4 ?zqk5 ?zqkXB ?zqkTB ?zqkD ?zqkA ?zqkF ?zqkK ?zqk6 ?zqk7 ?zqk8 ?zqk9 ?zqkB ?_ ?zqc2 ?zqc3 ?zqc4 ?zqc5; (case zqkA => exact rfl); (case zqkF => exact rfl); (case zqkK => first | exact rfl | assumption); (case zqk1 => k_asm); (case zqk2 => k_asm); (case zqk3 => k_asm); (case zqk4 => k_asm); (case zqk5 => k_asm); (case zqkXB => assumption); (case zqkTB => assumption); (case zqkD => assumption); (case zqk6 => k_is); (case zqk7 => k_is); (case zqk8 => ktr_room); (case zqk9 => first | exact BindsTo.of_eq (binds := [(_, _)]) rfl | exact BindsTo.of_eq (binds := [(_, _), (_, _)]) rfl | exact BindsTo.of_eq (binds := [(_, _), (_, _), (_, _)]) rfl | exact BindsTo.of_eq (binds := [(_, _), (_, _), (_, _), (_, _)]) rfl | exact BindsTo.of_eq rfl); (case zqc5 => decide); (case zqkB => exact locs rfl); (case zqc2 => exact rfl); (case zqc3 => exact rfl); (case zqc4 => exact rfl); k_whole; intro g' L' h' FG' F' N' B' X' T' D'; (try dsimp only); (try k_lift B'); (try k_fold)))); (k_with "exec For Name Subscript cons nil" => (k_here; (rename Fr _ _ _ _ => lF'); (with_unfolding_all refine' For_invVF lF' ?zqk1 ?zqk2 ?_; (case zqk1 => exact rfl); (case zqk2 => exact rfl); k_whole))); (k_with "compareOp In none ref" => (k_here; k_dflt (refine' none_in_pair ?zqk1 ?zqk2 ?_; (case zqk1 => k_asm); (case zqk2 => k_mem)))); (k_with "compareOp In str ref" => (k_here; k_dflt (refine' str_in_pair ?zqk1 ?zqk2 ?_; (case zqk1 => k_asm); (case zqk2 => k_mem)))); (k_with "compareOp Eq ref ref" => (k_here; k_dflt (refine' eq_nil ?zqk1 ?zqk2 ?zqk3 ?zqk4 ?_; (case zqk1 => k_asm); (case zqk2 => k_mem); (case zqk3 => k_mem); (case zqk4 => ktr_units)); (try dsimp only [List.isEmpty, List.map]))); (k_with "call builtin:len" => (k_here; (with_reducible show wpAny _ _ (call (Value.builtin "len") [Value.ref _]) _ _ _); k_dflt (refine' len_led ?zqk1 ?zqk2 ?zqk3 ?_; (case zqk1 => k_asm); (case zqk2 => k_mem); (case zqk3 => exact Nat.le_trans (by assumption) (by decide))))); (k_with "eval ListComp" => (k_here; k_dflt (refine LCt.ListComp_T (F₀ := by k_asm) (by with_unfolding_all rfl) (by decide) (by rfl) (by decide) (by rfl) ?_))); (k_with "subscriptTail" => (k_here; (with_reducible show wpAny _ _ (subscriptTail _ _ (Value.ref _) (Value.int _ _)) _ _ _); k_dflt (refine' item_led ?zqk1 ?zqk2 ?zqk3 ?zqk4 ?zqk5 ?_; (case zqk1 => k_asm); (case zqk2 => k_mem); (case zqk5 => assumption); (case zqk3 => assumption); (case zqk4 => omega)))); (k_with "MINE in" => (refine' Frag.In.keeps ?zqk1 (Fr.keep ?zqk2); (case zqk2 => with_reducible assumption); (case zqk1 => with_reducible assumption))); (k_with "storeName" => (k_here; (try dsimp only); k_dflt (refine' storeX_L ?zqF ?zqN ?_ ?zqa ?zqb; (case zqF => k_asm); (case zqN => k_asm); (case zqa => rfl); (case zqb => rfl); k_whole); intro h' F' N'; (try k_sweep))); (k_with "setAttr ref" => (dsimp only; walk1)); (k_with "call ref" => (dsimp only; walk1)); (k_with "setItem ref str" => (dsimp only; walk1)); have hend := fun r n h t a b c => hret r n h t c a b; refine wpAny_call ?_
  have hperm := both_perm (wd, o) (rl, listOf (lrs.map fun p => Value.ref p.2).toArray c) (al, listOf us.toArray c2) ll' (ps, instObj 224 pd) (pd, pathsO w k0 k1 k2 k3 k4 k5 k6 (.str σ.role tr2) (.bool σ.may) (.ref kn) (.ref act) last (.int σ.top th) (.ref an)) (kn, listOf (prs.map fun p => Value.ref p.2).toArray c3) lp' (an, listOf #[] c4) own
  replace N := news_sub N fun p hp => hperm.mem_iff.mpr hp
  have hsep2 := hsep.perm hperm
  generalize hoe : (an, listOf #[] c4) :: own = own2 at N hsep2
  walk_at "MINE enter"
  have hk1 : (wd, o) ∈ (wd, o) :: (rl, listOf (lrs.map fun p => Value.ref p.2).toArray c) :: (al, listOf us.toArray c2) :: (ps, instObj 224 pd) :: (pd, pathsO w k0 k1 k2 k3 k4 k5 k6 (.str σ.role tr2) (.bool σ.may) (.ref kn) (.ref act) last (.int σ.top th) (.ref an)) :: (kn, listOf (prs.map fun p => Value.ref p.2).toArray c3) :: (ll' ++ (lp' ++ own2)) := .head _
  have hk3 : (rl, listOf (lrs.map fun p => Value.ref p.2).toArray c) ∈ (wd, o) :: (rl, listOf (lrs.map fun p => Value.ref p.2).toArray c) :: (al, listOf us.toArray c2) :: (ps, instObj 224 pd) :: (pd, pathsO w k0 k1 k2 k3 k4 k5 k6 (.str σ.role tr2) (.bool σ.may) (.ref kn) (.ref act) last (.int σ.top th) (.ref an)) :: (kn, listOf (prs.map fun p => Value.ref p.2).toArray c3) :: (ll' ++ (lp' ++ own2)) := .tail _ (.head _)
  have hs3 : ∀ p ∈ ll', p ∈ (wd, o) :: (rl, listOf (lrs.map fun p => Value.ref p.2).toArray c) :: (al, listOf us.toArray c2) :: (ps, instObj 224 pd) :: (pd, pathsO w k0 k1 k2 k3 k4 k5 k6 (.str σ.role tr2) (.bool σ.may) (.ref kn) (.ref act) last (.int σ.top th) (.ref an)) :: (kn, listOf (prs.map fun p => Value.ref p.2).toArray c3) :: (ll' ++ (lp' ++ own2)) := fun p hp => .tail _ (.tail _ (.tail _ (.tail _ (.tail _ (.tail _ (List.mem_append_left _ hp))))))
  have hp1 : (ps, instObj 224 pd) ∈ (wd, o) :: (rl, listOf (lrs.map fun p => Value.ref p.2).toArray c) :: (al, listOf us.toArray c2) :: (ps, instObj 224 pd) :: (pd, pathsO w k0 k1 k2 k3 k4 k5 k6 (.str σ.role tr2) (.bool σ.may) (.ref kn) (.ref act) last (.int σ.top th) (.ref an)) :: (kn, listOf (prs.map fun p => Value.ref p.2).toArray c3) :: (ll' ++ (lp' ++ own2)) := .tail _ (.tail _ (.tail _ (.head _)))
  have hp2 : (pd, pathsO w k0 k1 k2 k3 k4 k5 k6 (.str σ.role tr2) (.bool σ.may) (.ref kn) (.ref act) last (.int σ.top th) (.ref an)) ∈ (wd, o) :: (rl, listOf (lrs.map fun p => Value.ref p.2).toArray c) :: (al, listOf us.toArray c2) :: (ps, instObj 224 pd) :: (pd, pathsO w k0 k1 k2 k3 k4 k5 k6 (.str σ.role tr2) (.bool σ.may) (.ref kn) (.ref act) last (.int σ.top th) (.ref an)) :: (kn, listOf (prs.map fun p => Value.ref p.2).toArray c3) :: (ll' ++ (lp' ++ own2)) := .tail _ (.tail _ (.tail _ (.tail _ (.head _))))
  have hp3 : (kn, listOf (prs.map fun p => Value.ref p.2).toArray c3) ∈ (wd, o) :: (rl, listOf (lrs.map fun p => Value.ref p.2).toArray c) :: (al, listOf us.toArray c2) :: (ps, instObj 224 pd) :: (pd, pathsO w k0 k1 k2 k3 k4 k5 k6 (.str σ.role tr2) (.bool σ.may) (.ref kn) (.ref act) last (.int σ.top th) (.ref an)) :: (kn, listOf (prs.map fun p => Value.ref p.2).toArray c3) :: (ll' ++ (lp' ++ own2)) := .tail _ (.tail _ (.tail _ (.tail _ (.tail _ (.head _)))))
  have hps : ∀ p ∈ lp', p ∈ (wd, o) :: (rl, listOf (lrs.map fun p => Value.ref p.2).toArray c) :: (al, listOf us.toArray c2) :: (ps, instObj 224 pd) :: (pd, pathsO w k0 k1 k2 k3 k4 k5 k6 (.str σ.role tr2) (.bool σ.may) (.ref kn) (.ref act) last (.int σ.top th) (.ref an)) :: (kn, listOf (prs.map fun p => Value.ref p.2).toArray c3) :: (ll' ++ (lp' ++ own2)) := fun p hp => .tail _ (.tail _ (.tail _ (.tail _ (.tail _ (.tail _ (List.mem_append_right _ (List.mem_append_left _ hp)))))))
  have hlenP : prs.length ≤ 63 := len_of (Nat.le_trans hF.len (by omega)) hp
  have hlenE : prs.length = lrs.length := by have := congrArg List.length (hp.trans hl.symm); rwa [List.length_map, List.length_map] at this
  have hfitP : (prs.map fun p => Value.ref p.2).length ≤ 63 := by rw [List.length_map]; exact hlenP
  have hfitL : (lrs.map fun p => Value.ref p.2).length ≤ 63 := by rw [List.length_map]; exact hlenL
  obtain ⟨lr, hpr, hlr⟩ := hr2.mem hact
  cases hpr with
  | mk husA hvA =>
  have mA1 := hps _ (hlr _ (.head _))
  have mA2 := hps _ (hlr _ (.tail _ (.head _)))
  clear hlr
  k_steps
  · rename (_ != σ.active) = true => hbad
    rw [hra2] at hbad
    simp at hbad
  · rename _ ≠ _ => hbad
    exact absurd (by rw [List.length_map, List.length_map, hlenE]) hbad
  show wpAny _ _ (pyIter (Value.ref rl)) _ _ _
  refine loop_led ["path", "room"] (fun i n => n = (wd, o) :: (rl, listOf (lrs.map fun p => Value.ref p.2).toArray c) :: (al, listOf us.toArray c2) :: (ps, instObj 224 pd) :: (pd, pathsO w k0 k1 k2 k3 k4 k5 k6 (.str σ.role tr2) (.bool σ.may) (.ref kn) (.ref act) last (.int σ.top th) (.ref an)) :: (kn, listOf (prs.map fun p => Value.ref p.2).toArray c3) :: (ll' ++ (lp' ++ own2))) rfl (by k_asm) (by k_asm) hk3 rfl (fun i n h => by subst h; exact hk3) ?_ ?_
  · rintro I it i v u n1 h tk hv hlow rfl hoff F1 N1
    rw [List.getElem?_map] at hv
    cases hi : lrs[i]? with
    | none => rw [hi] at hv; cases hv
    | some p =>
      obtain ⟨r, ra⟩ := p
      rw [hi] at hv
      have hv' := Option.some.inj hv
      dsimp only at hv'
      subst hv'
      clear hv
      have hin : (r, ra) ∈ lrs := List.mem_of_getElem? hi
      obtain ⟨lr, hrow, hlr⟩ := hr.mem hin
      cases hrow with
      | mk hro9 hus9 hv9 =>
      have mR := hs3 _ (hlr _ (.head _))
      clear hlr
      dsimp only at mR hro9
      have hinP : ∃ pa, (r, pa) ∈ prs := by
        have : r ∈ prs.map Prod.fst := by rw [hp, ← hl]; exact List.mem_map.mpr ⟨_, hin, rfl⟩
        obtain ⟨q, hq, e⟩ := List.mem_map.mp this
        exact ⟨q.2, by rw [← e]; exact hq⟩
      obtain ⟨pa, hinP⟩ := hinP
      obtain ⟨lr2, hrowP, hlr2⟩ := hr2.mem hinP
      cases hrowP with
      | mk husP hvP =>
      have mP1 := hps _ (hlr2 _ (.head _))
      have mP2 := hps _ (hlr2 _ (.tail _ (.head _)))
      clear hlr2
      dsimp only at mP1 mP2
      generalize hLLe : (wd, o) :: (rl, listOf (lrs.map fun p => Value.ref p.2).toArray c) :: (al, listOf us.toArray c2) :: (ps, instObj 224 pd) :: (pd, pathsO w k0 k1 k2 k3 k4 k5 k6 (.str σ.role tr2) (.bool σ.may) (.ref kn) (.ref act) last (.int σ.top th) (.ref an)) :: (kn, listOf (prs.map fun p => Value.ref p.2).toArray c3) :: (ll' ++ (lp' ++ own2)) = XX at *
      k_with "MINE call" => ((with_reducible show wpAny _ _ (call (Value.ref 146) _) _ _ _); (try (refine (?_ : wpAny _ _ _ _ _ _); k_fold)); k_dflt (refine' path_known (List.mem_cons_of_mem _ hp1) (List.mem_cons_of_mem _ hp2) (List.mem_cons_of_mem _ hp3) hr2 (fun p hp => List.mem_cons_of_mem _ (hps p hp)) hnd hinP ?zqk1 ?zqk2 ?zqk3 ?zqk4 ?zqk5 ?zqk6 ?zqk7 ?zqk8 ?_; (case zqk1 => k_asm); (case zqk2 => k_asm); (case zqk3 => k_asm); (case zqk4 => k_asm); (case zqk5 => k_asm); (case zqk6 => first | exact rfl | assumption); (case zqk7 => ktr_room); (case zqk8 => ktr_units); refine stop_of ?_))
      k_steps
      refine Stop.go ?_
      intro h9 tk9 F9 N9
      obtain ⟨ad9, st9, fr9, in9, out9, as9, fin9⟩ := r
      dsimp only at *
      cases fr9 with
      | true =>
        k_steps
        · rename (st9 != st9) = true => hbad
          simp at hbad
        · exact TEnd.intro (by k_asm) (by k_asm) XX (.head _) (fun p hp => .tail _ hp) hoff ⟨rfl, fun y h1 h2 => by dsimp only; rw [if_neg (two_ne h2).2, if_neg (two_ne h2).1, if_neg h1, h2]; rfl⟩
      | false =>
        k_steps
        · rename (st9 != st9) = true => hbad
          simp at hbad
        · rename (ite _ _ _ : Int) ≠ _ => hbad
          exact absurd rfl hbad
        · exact TEnd.intro (by k_asm) (by k_asm) XX (.head _) (fun p hp => .tail _ hp) hoff ⟨rfl, fun y h1 h2 => by dsimp only; rw [if_neg (two_ne h2).2, if_neg (two_ne h2).1, if_neg h1, h2]; rfl⟩
  · rintro u n1 h tk rfl F1 N1
    generalize hLLe : (wd, o) :: (rl, listOf (lrs.map fun p => Value.ref p.2).toArray c) :: (al, listOf us.toArray c2) :: (ps, instObj 224 pd) :: (pd, pathsO w k0 k1 k2 k3 k4 k5 k6 (.str σ.role tr2) (.bool σ.may) (.ref kn) (.ref act) last (.int σ.top th) (.ref an)) :: (kn, listOf (prs.map fun p => Value.ref p.2).toArray c3) :: (ll' ++ (lp' ++ own2)) = XX at *
    have hinL : ∃ ra3, (ra2, ra3) ∈ lrs := by
      have : ra2 ∈ lrs.map Prod.fst := by rw [hl, ← hp]; exact List.mem_map.mpr ⟨_, hact, rfl⟩
      obtain ⟨q, hq, e⟩ := List.mem_map.mp this
      exact ⟨q.2, by rw [← e]; exact hq⟩
    obtain ⟨ra3, hinL⟩ := hinL
    obtain ⟨lr3, hrow3, hlr3⟩ := hr.mem hinL
    cases hrow3 with
    | mk hro3 hus3 hv3 =>
    have mR3 := hs3 _ (hlr3 _ (.head _))
    clear hlr3
    dsimp only at mR3 hro3
    k_with "MINE call" => ((with_reducible show wpAny _ _ (call (Value.ref 252) _) _ _ _); (try (refine (?_ : wpAny _ _ _ _ _ _); k_fold)); k_dflt (refine' law_known hk1 ho hk3 hr hs3 hlenL hndL hinL hra2 ?zqk1 ?zqk2 ?zqk3 ?zqk4 ?zqk5 ?zqk6 ?zqk7 ?zqk8 ?_; (case zqk1 => k_asm); (case zqk2 => k_asm); (case zqk3 => k_asm); (case zqk4 => k_asm); (case zqk5 => k_asm); (case zqk6 => first | exact rfl | assumption); (case zqk7 => ktr_room); (case zqk8 => ktr_units); refine stop_of ?_))
    k_steps
    refine Stop.go ?_
    intro h9 tk9 F9 N9
    dsimp only
    k_steps
    obtain ⟨es, hv, hes⟩ := lrow_vals hr
    have hg : (lrs.map fun p => Value.ref p.2) = es.map fun e => Value.ref e.1.2 := by rw [← hv.fst, List.map_map]; rfl
    have hlen : es.length ≤ 63 := by have := congrArg List.length hv.fst; rw [List.length_map] at this; omega
    have hk3' := hk3
    rw [hg] at hk3'
    refine LCt.CompSrcT.ledger rfl (by k_asm) (by k_asm) hk3' (by rw [List.size_toArray, List.length_map, sizeLine_eq]; omega) ?_
    intro g9
    refine rest_of es _ (fun e => e.1.1.fin.isSome) (fun e => e.2) ?_ ?_ ?_
    · exact .inr ⟨_, hk3', rfl, _, rfl⟩
    · rintro i ⟨⟨r, pa⟩, v⟩ I oI C oC D m₂ ys h tk E' hi hC hx F1 N1
      dsimp only at hx
      obtain ⟨o9, aa9, ta, ts, ti, tq, g1, g2, g3⟩ := hes _ (List.mem_of_getElem? hi)
      dsimp only at g1 g2 g3
      have m1 := hs3 _ g1
      generalize hf : r.fin = o at g3
      cases g3 with
      | none =>
        k_steps
        exact ⟨_, _, rfl, by k_asm, by k_asm, rfl⟩
      | some i t =>
        k_steps
        exact ⟨_, _, rfl, by k_asm, by k_asm, rfl, rfl⟩
    have hperm9 := hperm
    rw [hoe, hLLe] at hperm9
    have hin9 := fun p => (hperm9.mem_iff (a := p)).mp
    have hi := hv.ints
    have hfl : ((es.filter fun e => e.1.1.fin.isSome).map Prod.snd).length ≤ 63 := by rw [List.length_map]; exact Nat.le_trans (List.length_filter_le _ _) hlen
    have hfe : (es.filter fun e => e.1.1.fin.isSome).map (fun e => e.2) = (es.filter fun e => e.1.1.fin.isSome).map Prod.snd := rfl
    rw [hfe]
    generalize (es.filter fun e => e.1.1.fin.isSome).map Prod.snd = vs at hi hfl ⊢
    rw [hl, ← hp] at hi
    generalize hns : fins (prs.map Prod.fst) = ns at hi
    k_with "MINE call" => ((with_reducible show wpAny _ _ (call (Value.ref 214) _) _ _ _); (try (refine (?_ : wpAny _ _ _ _ _ _); k_fold)); k_dflt (refine' spec_use (next_time_spec (prs := prs) ?zqh1 ?zqh2 ?zqh3 hr2 ?zqhs hlenP) ?zqk1 ?zqk2 ?zqk3 ?zqk4 ?zqk5 ?zqk6 ?zqk7 ?zqk8 ?_; (case zqk1 => k_asm); (case zqk2 => k_asm); (case zqk3 => k_asm); (case zqk4 => k_asm); (case zqk5 => k_asm); (case zqk6 => first | exact rfl | assumption); (case zqk7 => ktr_room); (case zqk8 => ktr_units); (case zqh1 => repeat (first | exact hp1 | apply List.mem_cons_of_mem)); (case zqh2 => repeat (first | exact hp2 | apply List.mem_cons_of_mem)); (case zqh3 => repeat (first | exact hp3 | apply List.mem_cons_of_mem)); (case zqhs => (intro p hp; repeat (first | exact hps p hp | apply List.mem_cons_of_mem))); refine stop_of ?_))
    k_steps
    · rename ((_ : Bool) != _) = true => hbad
      rw [show (ra2.st == Str.ofString "unproven") = true by assumption] at hbad
      cases hbad
    · refine Stop.go ?_
      rintro r8 n8 h8 tk8 ⟨rfl, hnt⟩ F8 N8
      cases hi with
      | nil =>
        have hr8 : r8 = .none := by
          rcases hnt with ⟨_, h⟩ | ⟨M, t, _, hm, _⟩
          · exact h
          · rw [hns] at hm; cases hm
        subst hr8
        k_steps
        rename News h₀ L _ _ => N10
        exact hend _ _ _ _ (by k_asm) (fun p hp => N10 p (by repeat (first | exact hin9 p hp | apply List.mem_cons_of_mem))) ⟨rfl, rfl⟩
      | cons n9 t9 hi9 =>
        rcases hnt with ⟨h, _⟩ | ⟨M, t, rfl, hm, hle⟩
        · rw [hns] at h; cases h
        rw [hns] at hm hle
        k_steps
        rename _ = n9 ∨ _ => hm1
        rename _ ≤ n9 ∧ _ => hm2
        rename News h₀ L _ _ => N10
        refine hend _ _ _ _ (by k_asm) (fun p hp => N10 p (by repeat (first | exact hin9 p hp | apply List.mem_cons_of_mem))) ⟨?_, rfl⟩
        have h1 := hle _ (List.mem_cons.mpr hm1)
        have h2 : _ ≤ M := (List.mem_cons.mp hm).elim (fun e => e ▸ hm2.1) (hm2.2 M)
        rw [show M = _ from Int.le_antisymm h1 h2, beq_self_eq_true]
    · rename ((_ : Bool) != _) = true => hbad
      rw [show (ra2.st == Str.ofString "unproven") = false by assumption] at hbad
      cases hbad
    · refine Stop.go ?_
      rintro r8 n8 h8 tk8 ⟨rfl, hnt⟩ F8 N8
      cases hi with
      | nil =>
        have hr8 : r8 = .none := by
          rcases hnt with ⟨_, h⟩ | ⟨M, t, _, hm, _⟩
          · exact h
          · rw [hns] at hm; cases hm
        subst hr8
        k_steps
        rename News h₀ L _ _ => N10
        exact hend _ _ _ _ (by k_asm) (fun p hp => N10 p (by repeat (first | exact hin9 p hp | apply List.mem_cons_of_mem))) ⟨rfl, rfl⟩
      | cons n9 t9 hi9 =>
        rcases hnt with ⟨h, _⟩ | ⟨M, t, rfl, hm, hle⟩
        · rw [hns] at h; cases h
        rw [hns] at hm hle
        k_steps
        rename _ = n9 ∨ _ => hm1
        rename _ ≤ n9 ∧ _ => hm2
        rename News h₀ L _ _ => N10
        refine hend _ _ _ _ (by k_asm) (fun p hp => N10 p (by repeat (first | exact hin9 p hp | apply List.mem_cons_of_mem))) ⟨?_, rfl⟩
        have h1 := hle _ (List.mem_cons.mpr hm1)
        have h2 : _ ≤ M := (List.mem_cons.mp hm).elim (fun e => e ▸ hm2.1) (hm2.2 M)
        rw [show M = _ from Int.le_antisymm h1 h2, beq_self_eq_true]
end
section
theorem ev_perm3 (a b c d e f : Addr × Obj) (ll lp : Led) (q dq : Addr × Obj) (own : Led) :
    ((a :: b :: c :: ll) ++ ((d :: e :: f :: (lp ++ [q])) ++ (dq :: own))).Perm (dq :: a :: b :: c :: d :: e :: f :: (ll ++ (lp ++ (q :: own)))) := by
  rw [← List.append_assoc]; exact ev_perm a b c d e f ll lp q dq own
theorem bkOf_new {σ : St} {rows : List Rw} {ad : Str} (h : ∃ r ∈ rows, r.addr = σ.active) (hno : rows.any (isAt ad) = false) : bkOf σ (rows ++ [newR ad false]) = bkOf σ rows := by
  unfold bkOf
  rw [← opn_new hno, stOf_opn h]
theorem news_drop2 {a b : Addr × Obj} {l : Led} {h₀ h : Heap} {L : Addr} (N : News h₀ L h (a :: b :: l)) : News h₀ L h (a :: l) := news_sub N fun p hp => by
  rcases List.mem_cons.mp hp with rfl | hp
  · exact .head _
  · exact .tail _ (.tail _ hp)
theorem news_swap {a b : Addr × Obj} {l : Led} {h₀ h : Heap} {L : Addr} (N : News h₀ L h (a :: b :: l)) : News h₀ L h (b :: a :: l) := news_sub N fun _ hp => (List.Perm.swap a b l).mem_iff.mp hp
theorem BytesAre.get {vs : List Value} {bs : List (Array UInt8)} (h : BytesAre vs bs) : ∀ {i : Nat}, i < vs.length → ∃ b t, vs[i]? = some (.bytes b t) := by
  induction h with
  | nil => intro i hi; exact absurd hi (Nat.not_lt_zero _)
  | cons b t _ ih =>
    intro i hi
    cases i with
    | zero => exact ⟨b, t, rfl⟩
    | succ i => exact ih (by simpa using hi)
theorem get_led {D : Addr} {us : List Value} {bs : List (Array UInt8)} {b : Array UInt8} {t : Tok} {n : Nat} {l : Led} {h₀ h : Heap} {L : Addr} (_ : News h₀ L h ((D, listOf (us ++ [Value.bytes b t]).toArray n) :: l)) (hus : BytesAre us bs) {i : Nat} (hi : i < us.length + 1) : ∃ b' t', (us ++ [Value.bytes b t])[i]? = some (.bytes b' t') :=
  (hus.append (.cons b t .nil)).get (by simpa using hi)
theorem news_A {a b c d e r x : Addr × Obj} {l : Led} {h₀ h : Heap} {L : Addr} (N : News h₀ L h (a :: b :: c :: d :: e :: r :: x :: l)) : News h₀ L h (r :: a :: l) := news_sub N fun p hp => by
  rcases List.mem_cons.mp hp with rfl | hp
  · exact .tail _ (.tail _ (.tail _ (.tail _ (.tail _ (.head _)))))
  · rcases List.mem_cons.mp hp with rfl | hp
    · exact .head _
    · exact .tail _ (.tail _ (.tail _ (.tail _ (.tail _ (.tail _ (.tail _ hp))))))
theorem news_B {a b c r x : Addr × Obj} {l : Led} {h₀ h : Heap} {L : Addr} (N : News h₀ L h (a :: b :: c :: r :: x :: l)) : News h₀ L h (r :: a :: l) := news_sub N fun p hp => by
  rcases List.mem_cons.mp hp with rfl | hp
  · exact .tail _ (.tail _ (.tail _ (.head _)))
  · rcases List.mem_cons.mp hp with rfl | hp
    · exact .head _
    · exact .tail _ (.tail _ (.tail _ (.tail _ (.tail _ hp))))
noncomputable abbrev octets (n : Nat) : Array UInt8 := #[111, 99, 116, 101, 116, 115, ((n : Int).toNat).toUInt8]
theorem news_C {a r d p q x : Addr × Obj} {l : Led} {h₀ h : Heap} {L : Addr} (N : News h₀ L h (a :: r :: d :: p :: q :: x :: l)) : News h₀ L h (r :: d :: p :: q :: a :: l) := news_sub N fun y hp => by
  rcases List.mem_cons.mp hp with rfl | hp
  · exact .tail _ (.head _)
  · rcases List.mem_cons.mp hp with rfl | hp
    · exact .tail _ (.tail _ (.head _))
    · rcases List.mem_cons.mp hp with rfl | hp
      · exact .tail _ (.tail _ (.tail _ (.head _)))
      · rcases List.mem_cons.mp hp with rfl | hp
        · exact .tail _ (.tail _ (.tail _ (.tail _ (.head _))))
        · rcases List.mem_cons.mp hp with rfl | hp
          · exact .head _
          · exact .tail _ (.tail _ (.tail _ (.tail _ (.tail _ (.tail _ hp)))))
theorem add_led {prog : Program} {w : World} {A : Around} {E : Value → Shared → Prop} {s : Shared} {h₀ : Heap} {L a b : Addr} {m : Str → Option Value} {news : Led} {us vs : List Value} {n n2 : Nat} {Q : Value → Shared → Prop}
    (F : Fr h₀ L s.heap m) (N : News h₀ L s.heap news) (ha : (a, listOf us.toArray n) ∈ news) (hb : (b, listOf vs.toArray n2) ∈ news) (hz : us.length + vs.length ≤ sizeLine)
    (h : ∀ D h', Fr h₀ L h' m → News h₀ L h' ((D, listOf (us ++ vs).toArray 0) :: news) → (∀ p ∈ news, p.1 < D) → Q (.ref D) { s with heap := h' }) : wpAny (model prog w) A (binaryOp .Add (.ref a) (.ref b)) Q E s :=
  add_lists F N (isList_of N ha) (isList_of N hb) (fun h' F' N' => h _ h' F' N' fun p hp => Heap.lt_size (N p hp).1) hz
/-- both sides put together, the two rows at hand turned alike -/
theorem ev_end {w : World} {σ σ' : St} {lrs prs pre post ppre ppost : List (Rw × Addr)} {r : Rw} {f : Rw → Rw} {ra pa wd rl al ps pd kn an act : Addr} {o : Obj} {us : List Value} {vb last : Value} {tr ta tt ts tn tr2 th k0 k1 k2 k3 k4 k5 k6 : Tok} {c c2 c3 c4 : Nat} {l₁ l₂ p₁ p₂ own : Led} {e1 e2 f1 f2 f3 dq : Addr × Obj} {h₀ h : Heap} {L : Addr} {ra2 : Rw} {rows : List Rw}
    (N : News h₀ L h (e1 :: e2 :: f1 :: f2 :: f3 :: dq :: (wd, o) :: (rl, listOf (lrs.map fun p => Value.ref p.2).toArray c) :: (al, listOf us.toArray c2) :: (ps, instObj 224 pd) :: (pd, pathsO w k0 k1 k2 k3 k4 k5 k6 (.str σ.role tr2) (.bool σ.may) (.ref kn) (.ref act) last (.int σ.top th) (.ref an)) :: (kn, listOf (prs.map fun p => Value.ref p.2).toArray c3) :: (l₁ ++ (l₂ ++ (p₁ ++ (p₂ ++ (an, listOf #[] c4) :: own))))))
    (hS : Sep (e1 :: e2 :: f1 :: f2 :: f3 :: dq :: (wd, o) :: (rl, instObj 0 0) :: (al, instObj 0 0) :: (ps, instObj 224 pd) :: (pd, instObj 0 0) :: (kn, instObj 0 0) :: (l₁ ++ (l₂ ++ (p₁ ++ (p₂ ++ (an, listOf #[] c4) :: own))))))
    (hpr : lrs = pre ++ (r, ra) :: post) (hprP : prs = ppre ++ (r, pa) :: ppost) (hpre : ∀ q ∈ pre, q.1.addr ≠ r.addr) (hpreP : ∀ q ∈ ppre, q.1.addr ≠ r.addr) (h1 : Rows (LRow w) pre l₁) (h2 : Rows (LRow w) post l₂) (g1 : Rows (PRow w) ppre p₁) (g2 : Rows (PRow w) ppost p₂)
    (hrowL : LRow w (f r) ra [e1, e2]) (hrowP : PRow w (f r) pa [f1, f2, f3]) (ha : (f r).addr = r.addr)
    (ho : o.IsDictOf (SK w) [("role", .str σ'.role tr), ("may", .bool σ'.may), ("rows", .ref rl), ("active", .str σ'.active ta), ("asked", .ref al), ("back", vb), ("top", .int σ'.top tt), ("skip", .int σ'.skip ts), ("now", .int σ'.now tn)])
    (hb : StrOptIs vb σ'.back) (hus : BytesAre us σ'.asked) (hact : (ra2, act) ∈ prs) (hra2 : ra2.addr = σ.active) (hback : BackIs prs last σ.back)
    (w1 : σ'.role = σ.role) (w2 : σ'.may = σ.may) (w3 : σ'.active = σ.active) (w4 : σ'.back = σ.back) (w5 : σ'.top = σ.top) (hl : lrs.map Prod.fst = rows) (hp : prs.map Prod.fst = rows) :
    ∃ l', Both w wd ps σ' (upd (isAt r.addr) f rows) l' ∧ News h₀ L h (l' ++ dq :: own) ∧ Sep (l' ++ dq :: own) := by
  obtain ⟨q2, i1, i2⟩ := turned (r2 := f r) hprP ha hact
  have hL := lside_intro (wd := wd) (c := c) (c2 := c2) (refs_same (r2 := f r) hpr) ho hb hus (h1.append (.cons hrowL h2))
  have hP := pside_intro (c := c3) (c2 := c4) (k0 := k0) (k1 := k1) (k2 := k2) (k3 := k3) (k4 := k4) (k5 := k5) (k6 := k6) (tr := tr2) (th := th) (pd := pd) (kn := kn) (an := an) (ps := ps) (refs_same (r2 := f r) hprP) (g1.append (.cons hrowP g2)) i1 (i2.trans hra2) (back_turned hback hprP ha)
  have hB := Both.mk hL (pside_world (σ' := σ') hP w1 w2 w3 w4 w5) (rows := upd (isAt r.addr) f rows) (by rw [upd_rows (f := f) hpr hpre rfl, hl]) (by rw [upd_rows (f := f) hprP hpreP rfl, hp])
  have hall := ev_all l₁ e1 e2 l₂ p₁ f1 f2 f3 p₂ dq (wd, o) (rl, listOf (lrs.map fun p => Value.ref p.2).toArray c) (al, listOf us.toArray c2) (ps, instObj 224 pd) (pd, pathsO w k0 k1 k2 k3 k4 k5 k6 (.str σ.role tr2) (.bool σ.may) (.ref kn) (.ref act) last (.int σ.top th) (.ref an)) (kn, listOf (prs.map fun p => Value.ref p.2).toArray c3) (an, listOf #[] c4) own
  exact ⟨_, hB, news_sub N fun p hp => hall.mem_iff.mp hp, (hS.same (l' := e1 :: e2 :: f1 :: f2 :: f3 :: dq :: (wd, o) :: (rl, listOf (lrs.map fun p => Value.ref p.2).toArray c) :: (al, listOf us.toArray c2) :: (ps, instObj 224 pd) :: (pd, pathsO w k0 k1 k2 k3 k4 k5 k6 (.str σ.role tr2) (.bool σ.may) (.ref kn) (.ref act) last (.int σ.top th) (.ref an)) :: (kn, listOf (prs.map fun p => Value.ref p.2).toArray c3) :: (l₁ ++ (l₂ ++ (p₁ ++ (p₂ ++ (an, listOf #[] c4) :: own))))) rfl).perm hall.symm⟩
theorem ev_cut {w : World} {M : Model} {A : Around} {env : Env} {body tl : List Stmt} {Q : Flow → Shared → Prop} {E : Value → Shared → Prop} {s₀ : Shared} {g : Heap} {L wd dd : Addr} {h0 : Heap} {m0 : Str → Option Value} (s : Shared) (X : Obj → Led) (_ : Fr g L h0 m0)
    (h1 : ∀ h tk (m : Str → Option Value) od (g2 x2 : Int) (tg tx : Tok), od.IsDictOf (SK w) [("great", .int g2 tg), ("mixed", .int x2 tx)] → Fr g L h (fun y : Str => if y = Str.ofString "world" then some (.ref wd) else if y = Str.ofString "draws" then some (.ref dd) else m y) → News g L h (X od) → wpAny M A (execs tl env) Q E { s with heap := h, toks := tk })
    (h2 : (∀ h tk (m : Str → Option Value) od (g2 x2 : Int) (tg tx : Tok), od.IsDictOf (SK w) [("great", .int g2 tg), ("mixed", .int x2 tx)] → m (Str.ofString "world") = some (.ref wd) → m (Str.ofString "draws") = some (.ref dd) → Fr g L h m → News g L h (X od) → wpAny M A (execs tl env) Q E { s with heap := h, toks := tk }) → wpAny M A (execs body env) Q E s₀) : wpAny M A (execs body env) Q E s₀ :=
  h2 fun h tk m od g2 x2 tg tx ho hw hd F N => h1 h tk m od g2 x2 tg tx ho (by
    have e : (fun y : Str => if y = Str.ofString "world" then some (.ref wd) else if y = Str.ofString "draws" then some (.ref dd) else m y) = m := by
      funext y
      by_cases a : y = Str.ofString "world"
      · rw [if_pos a, a, hw]
      · rw [if_neg a]
        by_cases b : y = Str.ofString "draws"
        · rw [if_pos b, b, hd]
        · rw [if_neg b]
    rw [e]; exact F) N
/-- an expression that changes nothing that is told of, its value told by a word -/
theorem eval_any {M : Model} {A : Around} {E : Value → Shared → Prop} {sh : Heap} {sg : Array GenState} {sd : Drawn} {st : Nat} {so : OsState} {env : Env} {e : PySem.Expr} {Q : Value → Shared → Prop} {g : Heap} {L : Addr} {m : Str → Option Value} {news : Led} (R : Value → Prop) (_ : Fr g L sh m) (_ : News g L sh news)
    (h : wpAny M A (eval e env) (fun v s₁ => R v ∧ ∃ h tk, s₁ = ⟨h, sg, sd, tk, so⟩ ∧ Fr g L h m ∧ News g L h news) E ⟨sh, sg, sd, st, so⟩) (k : ∀ v h tk, R v → Fr g L h m → News g L h news → Q v ⟨h, sg, sd, tk, so⟩) : wpAny M A (eval e env) Q E ⟨sh, sg, sd, st, so⟩ :=
  wpAny_mono h (fun v s₁ hq => by obtain ⟨h1, h, tk, rfl, F, N⟩ := hq; exact k v h tk h1 F N) fun _ _ e => e
theorem ev_fin {w mean mg mb} {wd ps dd : Addr} {own : Led} {k : Nat} {A₀ : Around} {base h₀ g g₁ h9 : Heap} {outer : List Env} {L L' : Addr} {m m' : Str → Option Value} {sg : Array GenState} {sd : Drawn} {tk : Nat} {so : OsState} {fs : List Addr} {Q : Value → Shared → Prop} {R : Result → Shared → Prop} {σ' : St} {rows' : List Rw} {l' : Led} {od' : Obj} {g' x' : Int} {tg' tx' : Tok}
    (hret : ∀ r news' h' tk' h₁, (fun r9 n => r9 = Value.bool true ∧ ∃ σ' rows' l' od' g' x' tg' tx', n = l' ++ ((dd, od') :: own) ∧ od'.IsDictOf (SK w) [("great", .int g' tg'), ("mixed", .int x' tx')] ∧ Both w wd ps σ' rows' l' ∧ Fine (k + 1) σ' rows' ∧ Sep n) r news' → KtsTurn (fsOf outer) h₀ h₁ → Fr h₁ L h' m → News h₁ L h' news' → Below A₀ base outer h₁ → (hd.heap_1 w.params).In h₁ → Top vw (looseW vw []) mean mg mb h₁ → KtsDicts (fsOf outer) h₁ → Q r ⟨h', sg, sd, tk', so⟩)
    (hR : ∀ s', Q (.bool true) s' → R (.ok (.ret (.bool true))) s') (T : KtsTurn fs g g₁)
    (hod : od'.IsDictOf (SK w) [("great", .int g' tg'), ("mixed", .int x' tx')]) (hB : Both w wd ps σ' rows' l') (hF : Fine (k + 1) σ' rows') (hS : Sep (l' ++ ((dd, od') :: own))) (F : Fr g₁ L' h9 m') (N : News g₁ L' h9 (l' ++ ((dd, od') :: own))) :
    LeaveT fs A₀ base outer w mean mg mb h₀ L m g R (.bool true) ⟨h9, sg, sd, tk, so⟩ :=
  ⟨_, _, _, _, T, F, N, fun h₁ kT kF kN kB kX kP kD => hR _ (hret _ _ _ _ _ ⟨rfl, σ', rows', l', od', g', x', tg', tx', rfl, hod, hB, hF, hS⟩ kT kF kN kB kX kP kD)⟩
theorem law_event_spec {w mean mg mb} {wd ps : Addr} {l own : Led} {rows : List Rw} {σ : St} {k : Nat} {dd : Addr} {od : Obj} {g0 x0 : Int} {tg tx : Tok}
    (hod : od.IsDictOf (SK w) [("great", .int g0 tg), ("mixed", .int x0 tx)]) (hB : Both w wd ps σ rows l) (hF : Fine k σ rows) (hk60 : k ≤ 60) (hsep : Sep (l ++ ((dd, od) :: own))) :
    SpecS w mean mg mb 30 400 292 [.ref wd, .ref ps, .ref dd] (l ++ ((dd, od) :: own))
      (fun r9 n => r9 = .bool true ∧ ∃ σ' rows' l' od' g' x' tg' tx', n = l' ++ ((dd, od') :: own) ∧ od'.IsDictOf (SK w) [("great", .int g' tg'), ("mixed", .int x' tx')] ∧ Both w wd ps σ' rows' l' ∧ Fine (k + 1) σ' rows' ∧ Sep n) := by
  cases hB with
  | @mk lrs prs ll lp hL hP hl hp =>
  have hnd := nd_of hF.nd hp
  have hndL := nd_of hF.nd hl
  have hlenP : prs.length ≤ 63 := len_of (Nat.le_trans hF.len (by omega)) hp
  have hlenL : lrs.length ≤ 63 := len_of (Nat.le_trans hF.len (by omega)) hl
  have hL2 := hL
  cases hL with
  | @mk o rl al us c c2 vb tr ta tt ts tn ll' ho hb hus hr =>
  have hP2 := hP
  cases hP with
  | @mk pd kn an act last c3 c4 k0 k1 k2 k3 k4 k5 k6 tr2 th ra2 lp' hr2 hact hra2 hback =>
  have hB2 := Both.mk hL2 hP2 hl hp
  unfold SpecS; k_fill; intro dp un gd cn cs a ccd cl outer A₀ base h₀ L m sh sg sd st so Q E B F X N T9 XB TB D9 hk hd hu hret; have kM := kstMark; w_top off; k_with_none; (k_with "MINE enter" => (k_dflt (refine' code_def ?zqk1 ?zqk2 ?zqk3 ?zqk4 ?zqk5 ?zqkA ?zqkF ?zqkK ?zqk6 ?zqk7 ?zqk8 ?zqk9 ?zqkB ?_ ?zqc2 ?zqc3 ?zqc4 ?zqc5; (case zqkA => exact rfl); (case zqkF => exact rfl); (case zqkK => first | exact rfl | assumption); (case zqk1 => k_asm); (case zqk2 => k_asm); (case zqk3 => k_asm); (case zqk4 => k_asm); (case zqk5 => k_asm); (case zqk6 => k_is); (case zqk7 => k_is); (case zqk8 => ktr_room); (case zqk9 => first | exact BindsTo.of_eq (binds := [(_, _)]) rfl | exact BindsTo.of_eq (binds := [(_, _), (_, _)]) rfl | exact BindsTo.of_eq (binds := [(_, _), (_, _), (_, _)]) rfl | exact BindsTo.of_eq (binds := [(_, _), (_, _), (_, _), (_, _)]) rfl | exact BindsTo.of_eq rfl); (case zqc5 => decide); (case zqkB => exact locs rfl); (case zqc2 => exact rfl); (case zqc3 => exact rfl); (case zqc4 => exact rfl); k_whole; intro g' L' h' FG' F' N' B' X' T'; (try dsimp only); (try k_lift B'); (try k_fold)))); (k_with "call ref" => (k_here; first | k_extra "MINE call" | (refine wpAny_call ?_; walk_at "MINE enter"))); (k_with "call ref" => (k_here; k_dflt (refine' call_cls ?zqk1 ?zqk2 ?zqk3 ?zqk4 ?zqk5 ?zqk6 ?_; (case zqk1 => k_asm); (case zqk2 => k_asm); (case zqk3 => k_asm); (case zqk4 => k_is); (case zqk5 => k_is); (case zqk6 => k_is); k_whole; intro x' d' h' F' N' l1 l2; (try k_lt l1); (try k_lt2 l2); (try k_sweep)); walk_at "MINE enter")); (k_with "TPost" => dsimp only [TPost]); (k_with "MINE enterC" => (k_dflt (refine' code_defC ?zqk1 ?zqk2 ?zqk3 ?zqk4 ?zqk5 ?zqkA ?zqkF ?zqkK ?zqk6 ?zqk7 ?zqk8 ?zqk9 ?zqkB ?zqkD ?_ ?zqc2 ?zqc3 ?zqc4; (case zqkA => exact rfl); (case zqkF => exact rfl); (case zqkK => first | exact rfl | assumption); (case zqk1 => k_asm); (case zqk2 => k_asm); (case zqk3 => k_asm); (case zqk4 => k_asm); (case zqk5 => k_asm); (case zqk6 => k_is); (case zqk7 => k_is); (case zqk8 => ktr_room); (case zqk9 => first | exact BindsTo.of_eq (binds := [(_, _)]) rfl | exact BindsTo.of_eq (binds := [(_, _), (_, _)]) rfl | exact BindsTo.of_eq (binds := [(_, _), (_, _), (_, _)]) rfl | exact BindsTo.of_eq (binds := [(_, _), (_, _), (_, _), (_, _)]) rfl | exact BindsTo.of_eq rfl); (case zqkB => exact rfl); (case zqkD => decide +kernel); (case zqc2 => exact rfl); (case zqc3 => exact rfl); (case zqc4 => exact rfl); k_whole; intro g' L' h' tk' cells' FG' F' N' Y' B' X' T' l1; k_cells Y'; (try simp only [List.cons_append, List.nil_append] at N'); (try dsimp only); (try k_lift B'); (try k_fold)))); (k_with "exec Assign cons ListComp" => (k_here; k_dflt (refine LCt.Assign_ListComp_T (F₀ := by k_asm) (by rfl) (by with_unfolding_all rfl) (by with_unfolding_all rfl) (by decide) (by rfl) (by decide) (by rfl) (by rfl) (by rfl) ?_))); (k_with "subscriptTail" => (k_here; (with_reducible show wpAny _ _ (subscriptTail _ _ (Value.ref _) (Value.str _ _)) _ _ _); k_dflt (refine' kda_item (knd := PySem.strKind _ _) ?zqk1 ?zqk2 ?zqk3 (strKind_is _ _ _ _) ?zqk4 ?_; (case zqk1 => k_asm); (case zqk2 => k_mem); (case zqk3 => assumption); (case zqk4 => rfl); k_whole))); (k_with "setItem ref str" => (k_here; k_dflt (refine' kda_set (knd := PySem.strKind _ _) ?zqF ?zqN ?zqU ?zqd (strKind_is _ _ _ _) ?zqz ?_; (case zqF => k_asm); (case zqN => k_asm); (case zqU => k_updF); (case zqd => assumption); (case zqz => kob_size)); intro h' o' F' N' hd'; (try kob_lit); (try dsimp only at N'); (try dsimp only); (try k_gentoks))); (k_with "compareOp NotEq ref ref" => (k_here; k_dflt (refine' ne_nil ?zqk1 ?zqk2 ?zqk3 ?zqk4 ?_; (case zqk1 => k_asm); (case zqk2 => k_mem); (case zqk3 => k_mem); (case zqk4 => ktr_units)); (try dsimp only [List.isEmpty, Bool.not_true, Bool.not_false, List.map]))); (k_with "MINE ne" => (refine neN ?_; (try dsimp only); first | exact NeA.ne (by assumption) | exact (NeA.ne (by assumption)).symm | omega)); (k_with "compareOp In bytes ref" => (k_here; k_dflt (refine' in_bytes ?zqk1 ?zqk2 ?zqk3 ?_; (case zqk1 => k_asm); (case zqk2 => k_mem); (case zqk3 => assumption)))); (k_with "exec Raise some none" => (k_here; k_dflt (refine' Raise_38 ?zqk1 ?zqk2 ?_; (case zqk1 => k_asm); (case zqk2 => first | rfl | assumption)))); (k_with "call ref" => (k_here; (with_reducible show wpAny _ _ (call (Value.ref 38) _) _ _ _); k_dflt (refine' call_refuse ?zqk1 ?zqk2 ?zqk3 ?_; (case zqk1 => k_asm); (case zqk2 => k_asm); (case zqk3 => k_asm); k_whole); intro e38 t38 h38 F38 N38 hap38 hne38; refine wpAny_call ?_; walk_at "MINE enter")); (k_with "getMethod type:Exception" => (k_here; refine' method_type ?zqF ?zqX ?zqm (by decide +kernel) ?zqe ?zqh ?_; (case zqF => k_asm); (case zqX => k_asm); (case zqm => kernel_rfl); (case zqe => k_dflt k_is); (case zqh => k_handed))); (k_with "call builtin:Exception.__init__" => (k_here; k_dflt (refine' init_w ?zqk1 ?zqk2 ?zqk3 ?zqk4 ?_; (case zqk1 => k_asm); (case zqk2 => k_asm); (case zqk3 => k_asm); (case zqk4 => exact per_e (by assumption) (by assumption)); k_whole); intro h39 t39 F39 N39 hap39 hne39)); (k_with "setAttr ref" => (k_here; (with_reducible show wpAny _ _ (setAttr (Value.ref _) (PySem.Str.ofString "text") _) _ _ _); k_dflt (refine' text_w ?zqk1 ?zqk2 ?zqk3 ?zqk4 ?_; (case zqk1 => k_asm); (case zqk2 => k_asm); (case zqk3 => k_asm); (case zqk4 => exact per_t (by assumption) (by assumption) (by assumption)); k_whole); intro h40 tk40 o40 F40 N40 hc40 hd40)); (k_with "Refusing" => ((rename News _ _ _ (_ :: (_, tupO _) :: _ :: _) => N41); (rename (_ = Data.fields _) => hd41); refine ⟨_, _, _, rfl, Fr.keep (by k_asm), (N41 _ (.head _)).1, by assumption, hd41, ?_⟩)); (k_with "leaving ref" => (k_here; (rename News _ _ _ (_ :: (_, tupO _) :: _ :: _) => N41); (rename (_ = Data.fields _) => hd41); k_dflt (refine' leave_x ?zqk1 ?zqk2 (vs := [_]) N41 ?zqk4 ?zqk5 hd41 ?_; (case zqk1 => assumption); (case zqk2 => k_asm); (case zqk4 => exact per_b (by assumption) (by assumption) (by assumption)); (case zqk5 => assumption); k_whole); intro h42 R42 U42)); (k_with "MINE enterS" => (k_dflt (refine' code_defT ?zqk1 ?zqk2 ?zqk3 ?zqk4 ?zqk5 ?zqkXB ?zqkTB ?zqkD ?zqkA ?zqkF ?zqkK ?zqk6 ?zqk7 ?zqk8 ?zqk9 ?zqkB ?_ ?zqc2 ?zqc3 ?zqc4 ?zqc5; (case zqkA => exact rfl); (case zqkF => exact rfl); (case zqkK => first | exact rfl | assumption); (case zqk1 => k_asm); (case zqk2 => k_asm); (case zqk3 => k_asm); (case zqk4 => k_asm); (case zqk5 => k_asm); (case zqkXB => assumption); (case zqkTB => assumption); (case zqkD => assumption); (case zqk6 => k_is); (case zqk7 => k_is); (case zqk8 => ktr_room); (case zqk9 => first | exact BindsTo.of_eq (binds := [(_, _)]) rfl | exact BindsTo.of_eq (binds := [(_, _), (_, _)]) rfl | exact BindsTo.of_eq (binds := [(_, _), (_, _), (_, _)]) rfl | exact BindsTo.of_eq (binds := [(_, _), (_, _), (_, _), (_, _)]) rfl | exact BindsTo.of_eq rfl); (case zqc5 => decide); (case zqkB => exact locs rfl); (case zqc2 => exact rfl); (case zqc3 => exact rfl); (case zqc4 => exact rfl); k_whole; intro g' L' h' FG' F' N' B' X' T' D'; (try dsimp only); (try k_lift B'); (try k_fold)))); (k_with "exec For Name Subscript cons nil" => (k_here; (rename Fr _ _ _ _ => lF'); (with_unfolding_all refine' For_invVF lF' ?zqk1 ?zqk2 ?_; (case zqk1 => exact rfl); (case zqk2 => exact rfl); k_whole))); (k_with "compareOp In none ref" => (k_here; k_dflt (refine' none_in_pair ?zqk1 ?zqk2 ?_; (case zqk1 => k_asm); (case zqk2 => k_mem)))); (k_with "compareOp In str ref" => (k_here; k_dflt (refine' str_in_pair ?zqk1 ?zqk2 ?_; (case zqk1 => k_asm); (case zqk2 => k_mem)))); (k_with "compareOp Eq ref ref" => (k_here; k_dflt (refine' eq_nil ?zqk1 ?zqk2 ?zqk3 ?zqk4 ?_; (case zqk1 => k_asm); (case zqk2 => k_mem); (case zqk3 => k_mem); (case zqk4 => ktr_units)); (try dsimp only [List.isEmpty, List.map]))); (k_with "call builtin:len" => (k_here; (with_reducible show wpAny _ _ (call (Value.builtin "len") [Value.ref _]) _ _ _); k_dflt (refine' len_led ?zqk1 ?zqk2 ?zqk3 ?_; (case zqk1 => k_asm); (case zqk2 => k_mem); (case zqk3 => exact Nat.le_trans (by assumption) (by decide))))); (k_with "eval ListComp" => (k_here; k_dflt (refine LCt.ListComp_T (F₀ := by k_asm) (by with_unfolding_all rfl) (by decide) (by rfl) (by decide) (by rfl) ?_))); (k_with "subscriptTail" => (k_here; (with_reducible show wpAny _ _ (subscriptTail _ _ (Value.ref _) (Value.int _ _)) _ _ _); k_dflt (refine' item_led ?zqk1 ?zqk2 ?zqk3 ?zqk4 ?zqk5 ?_; (case zqk1 => k_asm); (case zqk2 => k_mem); (case zqk5 => assumption); (case zqk3 => assumption); (case zqk4 => omega)))); (k_with "MINE in" => (refine' Frag.In.keeps ?zqk1 (Fr.keep ?zqk2); (case zqk2 => with_reducible assumption); (case zqk1 => with_reducible assumption))); (k_with "storeName" => (k_here; (try dsimp only); k_dflt (refine' storeX_L ?zqF ?zqN ?_ ?zqa ?zqb; (case zqF => k_asm); (case zqN => k_asm); (case zqa => rfl); (case zqb => rfl); k_whole); intro h' F' N'; (try k_sweep))); (k_with "setAttr ref" => (dsimp only; walk1)); (k_with "call ref" => (dsimp only; walk1)); (k_with "setItem ref str" => (dsimp only; walk1)); (k_with "call builtin:len" => (k_here; (with_reducible show wpAny _ _ (call (Value.builtin "len") [Value.ref _]) _ _ _); k_dflt (refine' len_led ?zqk1 ?zqk2 ?zqk3 ?_; (case zqk1 => k_asm); (case zqk2 => k_mem); (case zqk3 => (simp only [List.length_append, List.length_cons, List.length_nil]; omega))))); (k_with "binaryOp Add ref ref" => (k_here; (with_reducible show wpAny _ _ (binaryOp _ (Value.ref _) (Value.ref _)) _ _ _); k_dflt (refine' add_led ?zqF ?zqN ?zqa ?zqb ?zqz ?_; (case zqF => k_asm); (case zqN => k_asm); (case zqa => k_mem); (case zqb => k_mem); (case zqz => (simp only [sizeLine_eq, List.length_append, List.length_cons, List.length_nil]; omega))); intro D' h' F' N' l1; (try k_lt l1); (try k_sweep))); (k_with "execs cons" => (k_here; (with_reducible show wpAny _ _ (execs [PySem.Stmt.Assign _ _ _, PySem.Stmt.Return (some (PySem.Expr.Constant _ _ _)) _] _) _ _ _); refine stop_of ?_)); refine wpAny_call ?_
  have hperm := both_perm (wd, o) (rl, listOf (lrs.map fun p => Value.ref p.2).toArray c) (al, listOf us.toArray c2) ll' (ps, instObj 224 pd) (pd, pathsO w k0 k1 k2 k3 k4 k5 k6 (.str σ.role tr2) (.bool σ.may) (.ref kn) (.ref act) last (.int σ.top th) (.ref an)) (kn, listOf (prs.map fun p => Value.ref p.2).toArray c3) lp' (an, listOf #[] c4) ((dd, od) :: own)
  replace hperm := hperm.trans (dd_first _ _ _ _ _ _ _ _ _ _ _)
  replace N := news_sub N fun p hp => hperm.mem_iff.mpr hp
  have hsep2 := hsep.perm hperm
  generalize hoe : (an, listOf #[] c4) :: own = own2 at N hsep2 hperm
  clear hperm
  have hLL : ∃ R, R = (wd, o) :: (rl, listOf (lrs.map fun p => Value.ref p.2).toArray c) :: (al, listOf us.toArray c2) :: (ps, instObj 224 pd) :: (pd, pathsO w k0 k1 k2 k3 k4 k5 k6 (.str σ.role tr2) (.bool σ.may) (.ref kn) (.ref act) last (.int σ.top th) (.ref an)) :: (kn, listOf (prs.map fun p => Value.ref p.2).toArray c3) :: (ll' ++ (lp' ++ own2)) := ⟨_, rfl⟩
  obtain ⟨R, hRe⟩ := hLL
  have hw1 : (wd, o) ∈ R := by rw [hRe]; exact .head _
  have hw2 : (rl, listOf (lrs.map fun p => Value.ref p.2).toArray c) ∈ R := by rw [hRe]; exact .tail _ (.head _)
  have hw3 : ∀ p ∈ ll', p ∈ R := by rw [hRe]; exact fun p hp => .tail _ (.tail _ (.tail _ (.tail _ (.tail _ (.tail _ (List.mem_append_left _ hp))))))
  have hw4 : (al, listOf us.toArray c2) ∈ R := by rw [hRe]; exact .tail _ (.tail _ (.head _))
  rw [← hRe] at N hsep2
  
  walk_at "MINE enterS"
  have hO : OwnOff R [dd] := Sep.off (E := [_]) hsep2
  have hoff1 := Sep.off (E := [_]) hsep2
  rename Fr _ _ _ _ => FB9
  refine' ev_cut (w := w) (wd := wd) (dd := dd) (tl := ?zqevT) ⟨sh, sg, sd, st, so⟩ (fun od => (dd, od) :: R) FB9 ?zqevA ?zqevB
  case zqevB =>
    intro htail
    k_with "MINE call" => ((with_reducible show wpAny _ _ (call (Value.ref 235) _) _ _ _); refine stop_of ?_)
    k_steps
    refine Stop.go ?_
    (try (refine (?_ : wpAny _ _ _ _ _ _); k_fold)); k_dflt (refine' take_use hod hoff1 (by decide) (by decide) ?zqk1 ?zqk2 ?zqk3 ?zqk4 ?zqk5 ?zqk6 ?zqk7 ?zqk8 ?_; (case zqk1 => k_asm); (case zqk2 => k_asm); (case zqk3 => k_asm); (case zqk4 => k_asm); (case zqk5 => k_asm); (case zqk6 => first | exact rfl | assumption); (case zqk7 => ktr_room); (case zqk8 => ktr_units))
    intro f ft od1 g1 x1 tg1 tx1 h1 tk1 hf0 hf8 hod1 F1 N1
    k_steps
    refine Stop.go ?_
    rename News _ _ _ _ => N2
    rename (_ ∧ AllLt _ R) => hl2
    have hS2 := sep_new N2 hl2 (hsep2.same rfl)
    have hS3 := hS2.perm (List.Perm.swap _ _ _)
    have N3 := news_sub N2 fun p hp => (List.Perm.swap _ _ _).mem_iff.mp hp
    have hoff3 := Sep.off (E := [_]) hS3
    (try (refine (?_ : wpAny _ _ _ _ _ _); k_fold)); k_dflt (refine' take_use hod1 hoff3 (by decide) (by decide) ?zqk1 ?zqk2 ?zqk3 N3 ?zqk5 ?zqk6 ?zqk7 ?zqk8 ?_; (case zqk1 => k_asm); (case zqk2 => k_asm); (case zqk3 => k_asm); (case zqk5 => k_asm); (case zqk6 => first | exact rfl | assumption); (case zqk7 => ktr_room); (case zqk8 => ktr_units))
    intro f2 ft2 od2 g2 x2 tg2 tx2 h2 tk2 hf20 hf23 hod2 F2 N2'
    obtain ⟨ad, adt, hx⟩ := one_of_three (a := "home") (b := "cafe") (c := "train") (t1 := _) (t2 := _) (t3 := _) hf20 hf23
    k_with "MINE call" => ((with_reducible show wpAny _ _ (call (Value.ref 252) _) _ _ _); refine stop_of ?_)
    k_steps
    refine Stop.go ?_
    rename News _ _ _ _ => N4
    have N5 := news_sub N4 fun p hp => (List.mem_cons.mp hp).elim (fun e => e ▸ .tail _ (.head _)) (fun h => .tail _ (.tail _ (.tail _ h)))
    have hS5 : Sep ((dd, od2) :: R) := hsep2.same rfl
    have hk1 : (wd, o) ∈ (dd, od2) :: R := .tail _ hw1
    have hk3 : (rl, listOf (lrs.map fun p => Value.ref p.2).toArray c) ∈ (dd, od2) :: R := .tail _ hw2
    have hs3 : ∀ p ∈ ll', p ∈ (dd, od2) :: R := fun p hp => .tail _ (hw3 p hp)
    (try (refine (?_ : wpAny _ _ _ _ _ _); k_fold)); k_dflt (refine' spec_use (law_of_spec hk1 ho hk3 hr hs3 hlenL) ?zqk1 ?zqk2 ?zqk3 N5 ?zqk5 ?zqk6 ?zqk7 ?zqk8 ?_; (case zqk1 => k_asm); (case zqk2 => k_asm); (case zqk3 => k_asm); (case zqk5 => k_asm); (case zqk6 => first | exact rfl | assumption); (case zqk7 => ktr_room); (case zqk8 => ktr_units))
    rintro r3 n3 h3 tk3 ⟨rfl, hres⟩ F3 N3'
    clear N5 hx
    k_with "MINE call" => ((with_reducible show wpAny _ _ (call (Value.ref 266) _) _ _ _); refine stop_of ?_)
    k_with "MINE call" => ((with_reducible show wpAny _ _ (call (Value.ref 273) _) _ _ _); refine stop_of ?_)
    k_with "MINE call" => ((with_reducible show wpAny _ _ (call (Value.ref 278) _) _ _ _); refine stop_of ?_)
    k_with "MINE call" => ((with_reducible show wpAny _ _ (call (Value.ref 285) _) _ _ _); refine stop_of ?_)
    k_with "MINE call" => ((with_reducible show wpAny _ _ (call (Value.ref 247) _) _ _ _); refine stop_of ?_)
    k_with "MINE call" => ((with_reducible show wpAny _ _ (call (Value.ref 259) _) _ _ _); refine stop_of ?_)
    k_with "MINE call" => ((with_reducible show wpAny _ _ (call (Value.ref 146) _) _ _ _); refine stop_of ?_)
    k_with "MINE call" => ((with_reducible show wpAny _ _ (call (Value.ref 174) _) _ _ _); refine stop_of ?_)
    k_with "MINE call" => ((with_reducible show wpAny _ _ (call (Value.ref 76) _) _ _ _); refine stop_of ?_)
    k_with "MINE call" => ((with_reducible show wpAny _ _ (call (Value.ref 90) _) _ _ _); refine stop_of ?_)
    k_with "MINE call" => ((with_reducible show wpAny _ _ (call (Value.ref 104) _) _ _ _); refine stop_of ?_)
    have hf : f = 0 ∨ f = 1 ∨ f = 2 ∨ f = 3 ∨ f = 4 ∨ f = 5 ∨ f = 6 ∨ f = 7 := by omega
    rcases hf with rfl | rfl | rfl | rfl | rfl | rfl | rfl | rfl
    · w_top off
      k_steps
      refine Stop.go ?_
      rename News _ _ _ _ => N6
      (try (refine (?_ : wpAny _ _ _ _ _ _); k_fold)); k_dflt (refine' take_use hod2 (Sep.off (E := [_]) hS5) (by decide) (by decide) ?zqk1 ?zqk2 ?zqk3 N6 ?zqk5 ?zqk6 ?zqk7 ?zqk8 ?_; (case zqk1 => k_asm); (case zqk2 => k_asm); (case zqk3 => k_asm); (case zqk5 => k_asm); (case zqk6 => first | exact rfl | assumption); (case zqk7 => ktr_room); (case zqk8 => ktr_units))
      intro v6 vt6 od3 g3 x3 tg3 tx3 h6 tk6 hv0 hv9 hod3 F6 N6'
      k_steps
      refine Stop.go ?_
      rename News _ _ _ _ => N7
      subst hRe
      subst hoe
      have N8 := news_sub N7 fun p hp => (ev_perm _ _ _ _ _ _ _ _ _ _ _).mem_iff.mp hp
      have hS8 := Sep.perm (hS5.same (l' := (dd, od3) :: _) rfl) (ev_perm _ _ _ _ _ _ _ _ _ _ _).symm
      (try (refine (?_ : wpAny _ _ _ _ _ _); k_fold)); k_dflt (refine' specS_use (law_datagram_spec hB2 hF hk60 hS8) ?zqk1 ?zqk2 ?zqk3 N8 ?zqk5 ?zqkx ?zqkt ?zqkd ?zqk6 ?zqk7 ?zqk8 ?_; (case zqk1 => k_asm); (case zqk2 => k_asm); (case zqk3 => k_asm); (case zqk5 => k_asm); (case zqkx => assumption); (case zqkt => assumption); (case zqkd => assumption); (case zqk6 => first | exact rfl | assumption); (case zqk7 => ktr_room); (case zqk8 => ktr_units))
      rintro r9 n9 h9 tk9 h₁ ⟨rfl, σ', rows', l', rfl, hB9, hF9, hS9⟩ T9 F9 N9 B9 X9 P9 D9'
      k_steps
      rename Fr _ _ _ _ => kF9
      rename News _ _ _ _ => kN9
      exact ev_fin (σ' := σ') (rows' := rows') (l' := l') hret (fun _ h => h) T9 hod3 hB9 hF9 hS9 kF9 kN9
    · w_top off
      k_steps
      refine Stop.go ?_
      rename News _ _ _ _ => N6
      (try (refine (?_ : wpAny _ _ _ _ _ _); k_fold)); k_dflt (refine' take_use hod2 (Sep.off (E := [_]) hS5) (by decide) (by decide) ?zqk1 ?zqk2 ?zqk3 N6 ?zqk5 ?zqk6 ?zqk7 ?zqk8 ?_; (case zqk1 => k_asm); (case zqk2 => k_asm); (case zqk3 => k_asm); (case zqk5 => k_asm); (case zqk6 => first | exact rfl | assumption); (case zqk7 => ktr_room); (case zqk8 => ktr_units))
      intro v6 vt6 od3 g3 x3 tg3 tx3 h6 tk6 hv0 hv9 hod3 F6 N6'
      k_steps
      refine Stop.go ?_
      rename News _ _ _ _ => N7
      subst hRe
      subst hoe
      have N8 := news_sub N7 fun p hp => (ev_perm _ _ _ _ _ _ _ _ _ _ _).mem_iff.mp hp
      have hS8 := Sep.perm (hS5.same (l' := (dd, od3) :: _) rfl) (ev_perm _ _ _ _ _ _ _ _ _ _ _).symm
      (try (refine (?_ : wpAny _ _ _ _ _ _); k_fold)); k_dflt (refine' spec_use (law_packet_spec hB2 hF hk60 hS8) ?zqk1 ?zqk2 ?zqk3 N8 ?zqk5 ?zqk6 ?zqk7 ?zqk8 ?_; (case zqk1 => k_asm); (case zqk2 => k_asm); (case zqk3 => k_asm); (case zqk5 => k_asm); (case zqk6 => first | exact rfl | assumption); (case zqk7 => ktr_room); (case zqk8 => ktr_units))
      rintro r9 n9 h9 tk9 ⟨rfl, σ', rows', l', rfl, hB9, hF9, hS9⟩ F9 N9
      k_steps
      rename Fr _ _ _ _ => kF9
      rename News _ _ _ _ => kN9
      exact ev_fin (σ' := σ') (rows' := rows') (l' := l') hret (fun _ h => h) KtsTurn.refl hod3 hB9 hF9.next hS9 kF9 kN9
    · w_top off
      rcases hres with ⟨⟨r, ra⟩, pre, post, hpr, hpre, hra, rfl⟩ | ⟨rfl, hno⟩
      · dsimp only at hra
        subst hra
        obtain ⟨ppre, pa, ppost, hprP, hpreE, hpostE⟩ := map_split (hp.trans hl.symm) hpr
        have hinP : (r, pa) ∈ prs := by rw [hprP]; exact List.mem_append_right _ (.head _)
        k_steps
        refine Stop.go ?_
        rename News _ _ _ _ => N6
        (try (refine (?_ : wpAny _ _ _ _ _ _); k_fold)); k_dflt (refine' take_use hod2 (Sep.off (E := [_]) hS5) (by decide) (by decide) ?zqk1 ?zqk2 ?zqk3 N6 ?zqk5 ?zqk6 ?zqk7 ?zqk8 ?_; (case zqk1 => k_asm); (case zqk2 => k_asm); (case zqk3 => k_asm); (case zqk5 => k_asm); (case zqk6 => first | exact rfl | assumption); (case zqk7 => ktr_room); (case zqk8 => ktr_units))
        intro v6 vt6 od3 g3 x3 tg3 tx3 h6 tk6 hv0 hv9 hod3 F6 N6'
        have hr' := hr
        rw [hpr] at hr'
        obtain ⟨l₁, lr, l₂, rfl, hr1, hrow, hr3⟩ := Rows.at hr'
        have hr2' := hr2
        rw [hprP] at hr2'
        obtain ⟨p₁, lrp, p₂, rfl, hq1, hrowP, hq3⟩ := Rows.at hr2'
        cases hrow with
        | @mk ro aa us9 c9 v9 ta9 ts9 ti9 tq9 hro hus9 hv9 =>
        cases hrowP with
        | @mk pdr ca us8 c8 v8 j0 j1 j2 j3 j4 j5 j6 ta8 ts8 ti8 tq8 hus8 hv8 =>
        subst hRe
        have N7 := news_sub N6' fun p hp => (ev_row _ _ _ _ _ _ _ _ _ _ _ _ _ _ _ _ _).mem_iff.mpr hp
        have hS7 := Sep.perm (hS5.same (l' := (dd, od3) :: _) rfl) (ev_row _ _ _ _ _ _ _ _ _ _ _ _ _ _ _ _ _)
        have hT1 := tail_p₁ (l₁ := l₁) (l₂ := l₂) (p₁ := p₁) (p₂ := p₂) (own := own2)
        have hT2 := tail_p₂ (l₁ := l₁) (l₂ := l₂) (p₁ := p₁) (p₂ := p₂) (own := own2)
        clear htail
        clear N6' N6 hO hs3 hk1 hk3 hw1 hw2 hw3 hw4 hsep2 hS2 hS3 hoff1 hoff3 hr' hr2'
        generalize hTe : l₁ ++ (l₂ ++ (p₁ ++ (p₂ ++ own2))) = T at N7 hS7 hT1 hT2
        have hO : OwnOff T [ra, aa, pa, pdr, ca, dd, wd, rl, al, ps, pd, kn] := Sep.off (E := [_, _, _, _, _, _, _, _, _, _, _, _]) hS7
        refine ap_elim (E := [_, _, _, _, _, _, _, _, _, _, _, _]) hS7 ?_
        dsimp only [Ap, NeP]
        intros
        k_with "eval BoolOp" => (k_here; (fail_if_success (with_reducible show wpAny _ _ _ (fun _ _ => _ ∧ _) _ _)); refine stop_of ?_)
        k_steps
        refine Stop.go ?_
        refine eval_any (fun v => v = .bool (r.free || decide (50 * v6 ≤ if 3 * r.inn - r.out > 0 then 3 * r.inn - r.out else 0))) (by k_asm) (by k_asm) ?_ ?_
        · k_steps
          all_goals first | (rw [show r.free = true by assumption]; rfl) | (rw [show r.free = false by assumption]; rfl) | rfl | k_asm
        rintro _ h5 tk5 rfl F5 N5
        k_steps
        refine Stop.go ?_
        rename News _ _ _ _ => N8
        (try (refine (?_ : wpAny _ _ _ _ _ _); k_fold)); k_dflt (refine' path_known (prs := prs) ?zqh1 ?zqh2 ?zqh3 hr2 ?zqhs hnd hinP ?zqk1 ?zqk2 ?zqk3 N8 ?zqk5 ?zqk6 ?zqk7 ?zqk8 ?_; (case zqk1 => k_asm); (case zqk2 => k_asm); (case zqk3 => k_asm); (case zqk5 => k_asm); (case zqk6 => first | exact rfl | assumption); (case zqk7 => ktr_room); (case zqk8 => ktr_units); (case zqh1 => repeat (first | exact .head _ | apply List.mem_cons_of_mem)); (case zqh2 => repeat (first | exact .head _ | apply List.mem_cons_of_mem)); (case zqh3 => repeat (first | exact .head _ | apply List.mem_cons_of_mem)); (case zqhs => (intro p hp; apply List.mem_cons_of_mem; apply List.mem_cons_of_mem; exact prow_mem (cons7 hT1) (cons7 hT2) p hp)))
        intro h7 tk7 F7 N7'
        clear N8
        k_steps
        refine Stop.go ?_
        rename News _ _ _ _ => N9
        have N10 := news_sub N9 fun p hp => (swap_perm [_, _] [_, _] _).mem_iff.mpr hp
        dsimp only [List.cons_append, List.nil_append] at N10
        (try (refine (?_ : wpAny _ _ _ _ _ _); k_fold)); k_dflt (refine' spec_use (may_send_spec) ?zqk1 ?zqk2 ?zqk3 N10 ?zqk5 ?zqk6 ?zqk7 ?zqk8 ?_; (case zqk1 => k_asm); (case zqk2 => k_asm); (case zqk3 => k_asm); (case zqk5 => k_asm); (case zqk6 => first | exact rfl | assumption); (case zqk7 => ktr_room); (case zqk8 => ktr_units))
        rintro r5 n5 h5 tk5 ⟨rfl, rfl⟩ F5 N5'
        replace N5' := news_sub N5' fun p hp => (swap_perm [_, _] [_, _] _).mem_iff.mpr hp
        dsimp only [List.cons_append, List.nil_append] at N5'
        clear N9 N10
        k_steps
        · rename ((_ : Bool) != _) = true => hbad
          simp at hbad
        · refine Stop.go ?_
          rename News _ _ _ _ => N8
          (try (refine (?_ : wpAny _ _ _ _ _ _); k_fold)); k_dflt (refine' path_known (prs := prs) ?zqh1 ?zqh2 ?zqh3 hr2 ?zqhs hnd hinP ?zqk1 ?zqk2 ?zqk3 N8 ?zqk5 ?zqk6 ?zqk7 ?zqk8 ?_; (case zqk1 => k_asm); (case zqk2 => k_asm); (case zqk3 => k_asm); (case zqk5 => k_asm); (case zqk6 => first | exact rfl | assumption); (case zqk7 => ktr_room); (case zqk8 => ktr_units); (case zqh1 => repeat (first | exact .head _ | apply List.mem_cons_of_mem)); (case zqh2 => repeat (first | exact .head _ | apply List.mem_cons_of_mem)); (case zqh3 => repeat (first | exact .head _ | apply List.mem_cons_of_mem)); (case zqhs => (intro p hp; apply List.mem_cons_of_mem; apply List.mem_cons_of_mem; exact prow_mem (cons7 hT1) (cons7 hT2) p hp)))
          intro h7 tk7 F7 N7'
          clear N8
          k_steps
          refine Stop.go ?_
          rename News _ _ _ _ => N9
          have N10 := news_sub N9 fun p hp => (swap_perm [_, _] [_, _] _).mem_iff.mpr hp
          dsimp only [List.cons_append, List.nil_append] at N10
          have hS10 := sep_like N10 (Sep.perm hS7 (swap_perm [_, _] [_, _] _)) rfl
          (try (refine (?_ : wpAny _ _ _ _ _ _); k_fold)); k_dflt (refine' spec_use (on_sent_spec (by assumption) (Sep.off (E := [_, _]) hS10)) ?zqk1 ?zqk2 ?zqk3 N10 ?zqk5 ?zqk6 ?zqk7 ?zqk8 ?_; (case zqk1 => k_asm); (case zqk2 => k_asm); (case zqk3 => k_asm); (case zqk5 => k_asm); (case zqk6 => first | exact rfl | assumption); (case zqk7 => ktr_room); (case zqk8 => ktr_units))
          rintro r5 n5 h5 tk5 ⟨rfl, tq9, rfl⟩ F5 N5'
          replace N5' := news_sub N5' fun p hp => (swap_perm [_, _] [_, _] _).mem_iff.mpr hp
          dsimp only [List.cons_append, List.nil_append] at N5'
          clear N9 N10
          k_steps
          rename Fr _ _ _ _ => kF9
          rename Obj.IsDictOf _ _ ((Str.ofString "address", _) :: _) => hd9
          subst hTe
          subst hoe
          obtain ⟨l', hB9, N9', hS9⟩ := ev_end (σ' := σ) (f := sentR (50 * v6)) N5' (hS7.same rfl) hpr hprP hpre (not_at hpreE hpre) hr1 hr3 hq1 hq3 (.mk hd9 hus9 hv9) (.mk hus8 hv8) rfl ho hb hus hact hra2 hback rfl rfl rfl rfl rfl hl hp
          exact ev_fin (σ' := σ) (l' := l') hret (fun _ h => h) KtsTurn.refl hod3 hB9 ((hF.upd (p := isAt r.addr) (f := sentR (50 * v6)) (fun _ => rfl) hF.asks).next) hS9 kF9 N9'
        · rename Fr _ _ _ _ => kF9
          subst hTe
          subst hoe
          exact ev_fin (σ' := σ) hret (fun _ h => h) KtsTurn.refl hod3 hB2 hF.next (Sep.perm (by exact hS7.same rfl) (ev_all _ _ _ _ _ _ _ _ _ _ _ _ _ _ _ _ _ _).symm) kF9 (news_sub N5' fun p hp => (ev_all _ _ _ _ _ _ _ _ _ _ _ _ _ _ _ _ _ _).mem_iff.mp hp)
      · skip
        k_steps
        refine Stop.go ?_
        rename News _ _ _ _ => N6
        exact htail _ _ _ _ _ _ _ _ hod2 rfl rfl (by k_asm) N6
    · w_top off
      have hul : us.length ≤ 60 := by rw [hus.length]; exact Nat.le_trans hF.ask hk60
      rcases hres with ⟨⟨r, ra⟩, pre, post, hpr, hpre, hra, rfl⟩ | ⟨rfl, hno⟩
      · dsimp only at hra
        subst hra
        obtain ⟨ppre, pa, ppost, hprP, hpreE, hpostE⟩ := map_split (hp.trans hl.symm) hpr
        have hinP : (r, pa) ∈ prs := by rw [hprP]; exact List.mem_append_right _ (.head _)
        k_steps
        refine Stop.go ?_
        rename News _ _ _ _ => N6
        replace N6 := news_sub N6 fun p hp => List.mem_cons_of_mem _ hp
        (try (refine (?_ : wpAny _ _ _ _ _ _); k_fold)); k_dflt (refine' take_use hod2 (Sep.off (E := [_]) hS5) (by decide) (by decide) ?zqk1 ?zqk2 ?zqk3 N6 ?zqk5 ?zqk6 ?zqk7 ?zqk8 ?_; (case zqk1 => k_asm); (case zqk2 => k_asm); (case zqk3 => k_asm); (case zqk5 => k_asm); (case zqk6 => first | exact rfl | assumption); (case zqk7 => ktr_room); (case zqk8 => ktr_units))
        intro v6 vt6 od3 g3 x3 tg3 tx3 h6 tk6 hv0 hv9 hod3 F6 N6'
        have hr' := hr
        rw [hpr] at hr'
        obtain ⟨l₁, lr, l₂, rfl, hr1, hrow, hr3⟩ := Rows.at hr'
        have hr2' := hr2
        rw [hprP] at hr2'
        obtain ⟨p₁, lrp, p₂, rfl, hq1, hrowP, hq3⟩ := Rows.at hr2'
        cases hrow with
        | @mk ro aa us9 c9 v9 ta9 ts9 ti9 tq9 hro hus9 hv9 =>
        cases hrowP with
        | @mk pdr ca us8 c8 v8 j0 j1 j2 j3 j4 j5 j6 ta8 ts8 ti8 tq8 hus8 hv8 =>
        have hask : r.asked.length ≤ 60 := Nat.le_trans (hF.asks r (by rw [← hl, hpr]; simp)) hk60
        have hul9 : us9.length ≤ 60 := by rw [hus9.length]; exact hask
        have hul8 : us8.length ≤ 60 := by rw [hus8.length]; exact hask
        subst hRe
        have N7 := news_sub N6' fun p hp => (ev_row _ _ _ _ _ _ _ _ _ _ _ _ _ _ _ _ _).mem_iff.mpr hp
        have hS7 := Sep.perm (hS5.same (l' := (dd, od3) :: _) rfl) (ev_row _ _ _ _ _ _ _ _ _ _ _ _ _ _ _ _ _)
        have hT1 := tail_p₁ (l₁ := l₁) (l₂ := l₂) (p₁ := p₁) (p₂ := p₂) (own := own2)
        have hT2 := tail_p₂ (l₁ := l₁) (l₂ := l₂) (p₁ := p₁) (p₂ := p₂) (own := own2)
        clear htail
        clear N6' N6 hO hs3 hk1 hk3 hw1 hw2 hw3 hw4 hsep2 hS2 hS3 hoff1 hoff3 hr' hr2'
        generalize hTe : l₁ ++ (l₂ ++ (p₁ ++ (p₂ ++ own2))) = T at N7 hS7 hT1 hT2
        have hO : OwnOff T [ra, aa, pa, pdr, ca, dd, wd, rl, al, ps, pd, kn] := Sep.off (E := [_, _, _, _, _, _, _, _, _, _, _, _]) hS7
        refine ap_elim (E := [_, _, _, _, _, _, _, _, _, _, _, _]) hS7 ?_
        dsimp only [Ap, NeP]
        intros
        k_steps
        · refine Stop.go ?_
          rename News _ _ _ _ => N8
          rename (_ ∧ _ ∧ _ ∧ _ ∧ _ ∧ _ ∧ _ ∧ _) => hl8
          replace N8 := news_A N8
          have hS8 := sep_swap (X := [_]) (o' := listOf ([] : List Value).toArray 0) hS7 hl8.2.2.2.2
          (try (refine (?_ : wpAny _ _ _ _ _ _); k_fold)); k_dflt (refine' path_known (prs := prs) ?zqh1 ?zqh2 ?zqh3 hr2 ?zqhs hnd hinP ?zqk1 ?zqk2 ?zqk3 N8 ?zqk5 ?zqk6 ?zqk7 ?zqk8 ?_; (case zqk1 => k_asm); (case zqk2 => k_asm); (case zqk3 => k_asm); (case zqk5 => k_asm); (case zqk6 => first | exact rfl | assumption); (case zqk7 => ktr_room); (case zqk8 => ktr_units); (case zqh1 => repeat (first | exact .head _ | apply List.mem_cons_of_mem)); (case zqh2 => repeat (first | exact .head _ | apply List.mem_cons_of_mem)); (case zqh3 => repeat (first | exact .head _ | apply List.mem_cons_of_mem)); (case zqhs => (intro p hp; apply List.mem_cons_of_mem; apply List.mem_cons_of_mem; exact prow_mem (cons7 hT1) (cons7 hT2) p hp)))
          intro h7 tk7 F7 N7'
          clear N8
          k_steps
          refine Stop.go ?_
          rename News _ _ _ _ => N9
          rename (r.st != Str.ofString "trying") = _ => hst
          rename Obj.IsDictOf _ _ ((Str.ofString "address", _) :: _) => hd9
          have N10 := news_sub N9 fun p hp => (swap_perm [_, _] [_, _, _] _).mem_iff.mpr hp
          have hS10 := Sep.perm hS8 (swap_perm [_, _] [_, _, _] _)
          dsimp only [List.cons_append, List.nil_append] at N10 hS10
          simp only [List.push_toArray, List.nil_append] at N10
          (try (refine (?_ : wpAny _ _ _ _ _ _); k_fold)); k_dflt (refine' spec_use (challenge_spec hus8 hv8 hul8 (sep_like N10 hS10 rfl)) ?zqk1 ?zqk2 ?zqk3 N10 ?zqk5 ?zqk6 ?zqk7 ?zqk8 ?_; (case zqk1 => k_asm); (case zqk2 => k_asm); (case zqk3 => k_asm); (case zqk5 => k_asm); (case zqk6 => first | exact rfl | assumption); (case zqk7 => ktr_room); (case zqk8 => ktr_units))
          rintro r8 n8 h8 tk8 ⟨rfl, f2, f3, rfl, hrowP, hS11⟩ F8 N8'
          rw [if_neg (fun z => by rw [z] at hst; simp at hst)] at hrowP
          have N11 := news_sub N8' fun p hp => (swap_perm [_, _, _] [_, _] _).mem_iff.mpr hp
          have hS12 := Sep.perm hS11 (swap_perm [_, _, _] [_, _] _)
          dsimp only [List.cons_append, List.nil_append] at N11 hS12
          clear N8' N9 N10
          k_steps
          rename Fr _ _ _ _ => kF9
          subst hTe
          subst hoe
          obtain ⟨l', hB9, N9', hS9'⟩ := ev_end (σ' := { σ with asked := σ.asked ++ [octets us.length] }) (f := askN (octets us.length) (σ.now + (100 + v6))) N11 (hS12.same rfl) hpr hprP hpre (not_at hpreE hpre) hr1 hr3 hq1 hq3 (.mk (us := [_]) hd9 (.cons _ _ .nil) (.some _ _)) hrowP rfl ho hb (hus.append (.cons _ _ .nil)) hact hra2 hback rfl rfl rfl rfl rfl hl hp
          exact ev_fin (σ' := { σ with asked := σ.asked ++ [octets us.length] }) (l' := l') hret (fun _ h => h) KtsTurn.refl hod3 hB9 (Fine.world (σ := σ) (σ' := { σ with asked := σ.asked ++ [octets us.length] }) (hF.next.upd (p := isAt r.addr) (f := askN (octets us.length) (σ.now + (100 + v6))) (fun _ => rfl) (fun _ _ => Nat.succ_le_succ (Nat.zero_le _))) (mem_addr (upd_addr (f := askN (octets us.length) (σ.now + (100 + v6))) (fun _ => rfl) rows) hF.act) rfl (by rw [List.length_append]; exact Nat.succ_le_succ hF.ask)) hS9' kF9 N9'
        · refine Stop.go ?_
          rename News _ _ _ _ => N8
          rename (_ ∧ _ ∧ _ ∧ _ ∧ _ ∧ _ ∧ _ ∧ _) => hl8
          replace N8 := news_B N8
          have hS8 := sep_swap (X := [_]) (o' := listOf ([] : List Value).toArray 0) hS7 hl8.2.2
          (try (refine (?_ : wpAny _ _ _ _ _ _); k_fold)); k_dflt (refine' path_known (prs := prs) ?zqh1 ?zqh2 ?zqh3 hr2 ?zqhs hnd hinP ?zqk1 ?zqk2 ?zqk3 N8 ?zqk5 ?zqk6 ?zqk7 ?zqk8 ?_; (case zqk1 => k_asm); (case zqk2 => k_asm); (case zqk3 => k_asm); (case zqk5 => k_asm); (case zqk6 => first | exact rfl | assumption); (case zqk7 => ktr_room); (case zqk8 => ktr_units); (case zqh1 => repeat (first | exact .head _ | apply List.mem_cons_of_mem)); (case zqh2 => repeat (first | exact .head _ | apply List.mem_cons_of_mem)); (case zqh3 => repeat (first | exact .head _ | apply List.mem_cons_of_mem)); (case zqhs => (intro p hp; apply List.mem_cons_of_mem; apply List.mem_cons_of_mem; exact prow_mem (cons7 hT1) (cons7 hT2) p hp)))
          intro h7 tk7 F7 N7'
          clear N8
          k_steps
          refine Stop.go ?_
          rename News _ _ _ _ => N9
          rename (r.st != Str.ofString "trying") = _ => hst
          rename Obj.IsDictOf _ _ ((Str.ofString "address", _) :: _) => hd9
          have N10 := news_sub N9 fun p hp => (swap_perm [_, _] [_, _, _] _).mem_iff.mpr hp
          have hS10 := Sep.perm hS8 (swap_perm [_, _] [_, _, _] _)
          dsimp only [List.cons_append, List.nil_append] at N10 hS10
          simp only [List.push_toArray, List.nil_append] at N10
          (try (refine (?_ : wpAny _ _ _ _ _ _); k_fold)); k_dflt (refine' spec_use (challenge_spec hus8 hv8 hul8 (sep_like N10 hS10 rfl)) ?zqk1 ?zqk2 ?zqk3 N10 ?zqk5 ?zqk6 ?zqk7 ?zqk8 ?_; (case zqk1 => k_asm); (case zqk2 => k_asm); (case zqk3 => k_asm); (case zqk5 => k_asm); (case zqk6 => first | exact rfl | assumption); (case zqk7 => ktr_room); (case zqk8 => ktr_units))
          rintro r8 n8 h8 tk8 ⟨rfl, f2, f3, rfl, hrowP, hS11⟩ F8 N8'
          rw [if_pos (by simpa using hst)] at hrowP
          have N11 := news_sub N8' fun p hp => (swap_perm [_, _, _] [_, _] _).mem_iff.mpr hp
          have hS12 := Sep.perm hS11 (swap_perm [_, _, _] [_, _] _)
          dsimp only [List.cons_append, List.nil_append] at N11 hS12
          clear N8' N9 N10
          k_steps
          rename Fr _ _ _ _ => kF9
          subst hTe
          subst hoe
          obtain ⟨l', hB9, N9', hS9'⟩ := ev_end (σ' := { σ with asked := σ.asked ++ [octets us.length] }) (f := askM (octets us.length)) N11 (hS12.same rfl) hpr hprP hpre (not_at hpreE hpre) hr1 hr3 hq1 hq3 (.mk hd9 (hus9.append (.cons _ _ .nil)) hv9) hrowP rfl ho hb (hus.append (.cons _ _ .nil)) hact hra2 hback rfl rfl rfl rfl rfl hl hp
          exact ev_fin (σ' := { σ with asked := σ.asked ++ [octets us.length] }) (l' := l') hret (fun _ h => h) KtsTurn.refl hod3 hB9 (Fine.world (σ := σ) (σ' := { σ with asked := σ.asked ++ [octets us.length] }) (hF.next.upd (p := isAt r.addr) (f := askM (octets us.length)) (fun _ => rfl) (fun r hr => by rw [List.length_append]; exact Nat.succ_le_succ (hF.asks r hr))) (mem_addr (upd_addr (f := askM (octets us.length)) (fun _ => rfl) rows) hF.act) rfl (by rw [List.length_append]; exact Nat.succ_le_succ hF.ask)) hS9' kF9 N9'
      · skip
        k_steps
        refine Stop.go ?_
        rename News _ _ _ _ => N6
        exact htail _ _ _ _ _ _ _ _ hod2 rfl rfl (by k_asm) N6
    · w_top off
      have hul : us.length ≤ 60 := by rw [hus.length]; exact Nat.le_trans hF.ask hk60
      k_steps
      refine Stop.go ?_
      rename News _ _ _ _ => N6
      rename (_ ∧ _ ∧ AllLt _ R) => hl6
      have N7 := news_drop2 N6
      have hS7 := (sep_new N7 hl6.2 hS5).perm (List.Perm.swap _ _ _)
      replace N7 := news_swap N7
      (try (refine (?_ : wpAny _ _ _ _ _ _); k_fold)); k_dflt (refine' take_use hod2 (Sep.off (E := [_]) hS7) (by simp only [List.length_append, List.length_cons, List.length_nil]; omega) (by simp only [List.length_append, List.length_cons, List.length_nil]; omega) ?zqk1 ?zqk2 ?zqk3 N7 ?zqk5 ?zqk6 ?zqk7 ?zqk8 ?_; (case zqk1 => k_asm); (case zqk2 => k_asm); (case zqk3 => k_asm); (case zqk5 => k_asm); (case zqk6 => first | exact rfl | assumption); (case zqk7 => ktr_room); (case zqk8 => ktr_units))
      intro v6 vt6 od3 g3 x3 tg3 tx3 h6 tk6 hv0 hv9 hod3 F6 N6'
      have hv63 : v6 < 62 := by
        simp only [List.length_append, List.length_cons, List.length_nil] at hv9
        omega
      obtain ⟨b9, bt9, hx9⟩ := get_led N6 hus (i := v6.toNat) (by simp only [List.length_append, List.length_cons, List.length_nil] at hv9; omega)
      clear N7 N6
      k_steps
      refine Stop.go ?_
      rename News _ _ _ _ => N9
      subst hRe
      subst hoe
      have N8 := news_sub (news_drop2 N9) fun p hp => (ev_perm _ _ _ _ _ _ _ _ _ _ _).mem_iff.mp hp
      have hS8 := Sep.perm (hS5.same (l' := (dd, od3) :: _) rfl) (ev_perm _ _ _ _ _ _ _ _ _ _ _).symm
      (try (refine (?_ : wpAny _ _ _ _ _ _); k_fold)); k_dflt (refine' spec_use (law_answer_spec hB2 hF hk60 hS8) ?zqk1 ?zqk2 ?zqk3 N8 ?zqk5 ?zqk6 ?zqk7 ?zqk8 ?_; (case zqk1 => k_asm); (case zqk2 => k_asm); (case zqk3 => k_asm); (case zqk5 => k_asm); (case zqk6 => first | exact rfl | assumption); (case zqk7 => ktr_room); (case zqk8 => ktr_units))
      rintro r9 n9 h9 tk9 ⟨rfl, σ', rows', l', rfl, hB9, hF9, hS9⟩ F9 N9
      k_steps
      rename Fr _ _ _ _ => kF9
      rename News _ _ _ _ => kN9
      exact ev_fin (σ' := σ') (rows' := rows') (l' := l') hret (fun _ h => h) KtsTurn.refl hod3 hB9 hF9.next hS9 kF9 kN9
    · w_top off
      k_steps
      refine Stop.go ?_
      rename News _ _ _ _ => N6
      (try (refine (?_ : wpAny _ _ _ _ _ _); k_fold)); k_dflt (refine' take_use hod2 (Sep.off (E := [_]) hS5) (by decide) (by decide) ?zqk1 ?zqk2 ?zqk3 N6 ?zqk5 ?zqk6 ?zqk7 ?zqk8 ?_; (case zqk1 => k_asm); (case zqk2 => k_asm); (case zqk3 => k_asm); (case zqk5 => k_asm); (case zqk6 => first | exact rfl | assumption); (case zqk7 => ktr_room); (case zqk8 => ktr_units))
      intro v6 vt6 od3 g3 x3 tg3 tx3 h6 tk6 hv0 hv9 hod3 F6 N6'
      subst hRe
      clear htail hw1 hw2 hw3 hw4 hk1 hk3 hs3
      generalize hTe : ll' ++ (lp' ++ own2) = T at *
      have hO2 : OwnOff T [dd, wd, rl, al, ps, pd, kn] := Sep.off (E := [_, _, _, _, _, _, _]) hsep2
      refine ap_elim (E := [_, _, _, _, _, _, _]) hsep2 ?_
      dsimp only [Ap, NeP]
      intros
      k_steps
      refine Stop.go ?_
      rename News _ _ _ _ => N7
      rename Obj.IsDictOf _ _ ((Str.ofString "role", _) :: _) => hd9
      subst hTe
      subst hoe
      have N8 := news_sub N7 fun p hp => (ev_perm _ _ _ _ _ _ _ _ _ _ _).mem_iff.mp hp
      have hS8 := fun o9 => Sep.perm (hS5.same (l' := (dd, od3) :: (wd, o9) :: _) rfl) (ev_perm _ _ _ _ _ _ _ _ _ _ _).symm
      have hB5 : Both w wd ps { σ with now := σ.now + 30 * v6 } rows _ := .mk (.mk (c := c) (c2 := c2) hd9 hb hus hr) (pside_world hP2 rfl rfl rfl rfl rfl) hl hp
      (try (refine (?_ : wpAny _ _ _ _ _ _); k_fold)); k_dflt (refine' spec_use (law_time_spec hB5 (hF.world hF.act rfl hF.ask) hk60 (hS8 _)) ?zqk1 ?zqk2 ?zqk3 N8 ?zqk5 ?zqk6 ?zqk7 ?zqk8 ?_; (case zqk1 => k_asm); (case zqk2 => k_asm); (case zqk3 => k_asm); (case zqk5 => k_asm); (case zqk6 => first | exact rfl | assumption); (case zqk7 => ktr_room); (case zqk8 => ktr_units))
      rintro r9 n9 h9 tk9 ⟨rfl, σ', rows', l', rfl, hB9, hF9, hS9⟩ F9 N9
      k_steps
      rename Fr _ _ _ _ => kF9
      rename News _ _ _ _ => kN9
      exact ev_fin (σ' := σ') (rows' := rows') (l' := l') hret (fun _ h => h) KtsTurn.refl hod3 hB9 hF9.next hS9 kF9 kN9
    · w_top off
      rcases hres with ⟨⟨r, ra⟩, pre, post, hpr, hpre, hra, rfl⟩ | ⟨rfl, hno⟩
      · dsimp only at hra
        subst hra
        obtain ⟨ppre, pa, ppost, hprP, hpreE, hpostE⟩ := map_split (hp.trans hl.symm) hpr
        have hinP : (r, pa) ∈ prs := by rw [hprP]; exact List.mem_append_right _ (.head _)
        k_steps
        · refine Stop.go ?_
          rename News _ _ _ _ => N8
          subst hRe
          subst hoe
          have N7 := news_sub N8 fun p hp => (ev_perm3 _ _ _ _ _ _ _ _ _ _ _).mem_iff.mp hp
          have hS7 := Sep.perm hS5 (ev_perm3 _ _ _ _ _ _ _ _ _ _ _).symm
          (try (refine (?_ : wpAny _ _ _ _ _ _); k_fold)); k_dflt (refine' spec_use (law_moved_side hL2 hpr hlenL hndL (by rw [hl]; exact hF.act) hS7) ?zqk1 ?zqk2 ?zqk3 N7 ?zqk5 ?zqk6 ?zqk7 ?zqk8 ?_; (case zqk1 => k_asm); (case zqk2 => k_asm); (case zqk3 => k_asm); (case zqk5 => k_asm); (case zqk6 => first | exact rfl | assumption); (case zqk7 => ktr_room); (case zqk8 => ktr_units))
          rintro r7 n7 h7 tk7 ⟨rfl, ll7, rfl, hL7, hS8⟩ F7 N7'
          have N6 := news_sub N7' fun p hp => (swap_perm _ _ _).mem_iff.mpr hp
          have hS6 := swap_sep hS8
          dsimp only [List.cons_append] at N6
          clear N7'
          k_steps
          refine Stop.go ?_
          rename News _ _ _ _ => N5
          (try (refine (?_ : wpAny _ _ _ _ _ _); k_fold)); k_dflt (refine' spec_use (move_to_spec hP2 hnd hlenP hS6) ?zqk1 ?zqk2 ?zqk3 N5 ?zqk5 ?zqk6 ?zqk7 ?zqk8 ?_; (case zqk1 => k_asm); (case zqk2 => k_asm); (case zqk3 => k_asm); (case zqk5 => k_asm); (case zqk6 => first | exact rfl | assumption); (case zqk7 => ktr_room); (case zqk8 => ktr_units))
          rintro r8 n8 h8 tk8 ⟨rfl, prs', lp8, rfl, hP8, hrows8, hS9⟩ F8 N8'
          k_steps
          rename Fr _ _ _ _ => kF9
          rename News _ _ _ _ => kN9
          have hany : rows.any (isAt r.addr) = true := by rw [← hl]; exact any_map.mpr ⟨(r, ra), by rw [hpr]; exact List.mem_append_right _ (.head _), rfl⟩
          rw [hp] at hP8 hrows8
          rw [hl] at hL7
          rw [opn_in hany] at hrows8
          exact ev_fin (σ' := { σ with active := r.addr, back := bkOf σ rows }) (rows' := upd (isAt r.addr) renew rows) hret (fun _ h => h) KtsTurn.refl hod2 (.mk hL7 hP8 (by rw [upd_rows hpr hpre rfl, hl]) hrows8) ((Fine.world (σ := σ) (σ' := { σ with active := r.addr, back := bkOf σ rows }) (hF.upd (p := isAt r.addr) (f := renew) (fun _ => rfl) hF.asks) (mem_addr (a := r.addr) (upd_addr (f := renew) (fun _ => rfl) _) ⟨r, by rw [← hl, hpr]; simp, rfl⟩) rfl hF.ask).next) (hS9.perm (lp_back _ _ _)) kF9 (news_sub kN9 fun p hp => (lp_back _ _ _).mem_iff.mpr hp)
        · skip
          k_steps
          refine Stop.go ?_
          rename News _ _ _ _ => N6
          exact htail _ _ _ _ _ _ _ _ hod2 rfl rfl (by k_asm) N6
      · k_steps
        · refine Stop.go ?_
          rename News _ _ _ _ => N8
          subst hRe
          (try (refine (?_ : wpAny _ _ _ _ _ _); k_fold)); k_dflt (refine' spec_use (law_row_spec) ?zqk1 ?zqk2 ?zqk3 N8 ?zqk5 ?zqk6 ?zqk7 ?zqk8 ?_; (case zqk1 => k_asm); (case zqk2 => k_asm); (case zqk3 => k_asm); (case zqk5 => k_asm); (case zqk6 => first | exact rfl | assumption); (case zqk7 => ktr_room); (case zqk8 => ktr_units))
          rintro r9 n9 h9 tk9 ⟨ra, ro, aa, c9, v9, ta9, ts9, ti9, tq9, rfl, rfl, hro, hv9, hne1, hne2, hne3⟩ F9 N9
          have hlen : lrs.length < 63 := Nat.lt_of_le_of_lt (len_of hF.len hl) (by omega)
          have hS11 : Sep ((ra, ro) :: (aa, listOf ([] : List Value).toArray c9) :: (dd, od2) :: (wd, o) :: (rl, listOf (lrs.map fun p => Value.ref p.2).toArray c) :: (al, listOf us.toArray c2) :: (ps, instObj 224 pd) :: (pd, pathsO w k0 k1 k2 k3 k4 k5 k6 (.str σ.role tr2) (.bool σ.may) (.ref kn) (.ref act) last (.int σ.top th) (.ref an)) :: (kn, listOf (prs.map fun p => Value.ref p.2).toArray c3) :: (ll' ++ (lp' ++ own2))) := Sep.cons.mpr ⟨fun q hq => by
            rcases List.mem_cons.mp hq with rfl | hq
            · exact Ne.symm hne3
            · exact hne1 q hq, Sep.cons.mpr ⟨hne2, hS5⟩⟩
          generalize hTe : ll' ++ (lp' ++ own2) = T at N9 hS11
          have hO : OwnOff T [ra, aa, dd, wd, rl, al, ps, pd, kn] := Sep.off (E := [_, _, _, _, _, _, _, _, _]) hS11
          clear hne1 hne2 hne3 N8
          refine ap_elim (E := [_, _, _, _, _, _, _, _, _]) hS11 ?_
          dsimp only [Ap, NeP]
          intros
          k_steps
          refine Stop.go ?_
          rename News _ _ _ _ => N8
          subst hTe
          subst hoe
          have hany : rows.any (isAt ad) = false := by rw [← hl]; exact any_no hno
          rw [List.push_toArray, show ∀ x, (lrs.map fun p => Value.ref p.2) ++ [Value.ref x] = (lrs ++ [(newR ad false, x)]).map fun p => Value.ref p.2 from fun x => by rw [List.map_append]; rfl] at N8
          have N7 := news_sub N8 fun p hp => (((ev_perm3 _ _ _ _ _ _ _ _ _ _ _).cons _).cons _).mem_iff.mp hp
          have hS7 := Sep.perm hS11 (((ev_perm3 _ _ _ _ _ _ _ _ _ _ _).cons _).cons _).symm
          obtain ⟨l12, hL12, N12, hS12⟩ := lside_new (r2 := newR ad false) N7 (hS7.same rfl) hr (.mk hro (us := []) .nil hv9) ho hb hus
          have hrows2 : (lrs ++ [(newR ad false, ra)]).map Prod.fst = opn ad rows := by rw [List.map_append, hl, opn_new hany]; rfl
          (try (refine (?_ : wpAny _ _ _ _ _ _); k_fold)); k_dflt (refine' spec_use (law_moved_side hL12 (pre := lrs) (post := []) rfl (by rw [List.length_append]; exact hlen) (nd_of (opn_nodup hF.nd) hrows2) (by rw [hrows2]; exact (hF.opn (ad := ad)).act) hS12) ?zqk1 ?zqk2 ?zqk3 N12 ?zqk5 ?zqk6 ?zqk7 ?zqk8 ?_; (case zqk1 => k_asm); (case zqk2 => k_asm); (case zqk3 => k_asm); (case zqk5 => k_asm); (case zqk6 => first | exact rfl | assumption); (case zqk7 => ktr_room); (case zqk8 => ktr_units))
          rintro r7 n7 h7 tk7 ⟨rfl, ll7, rfl, hL7, hS8⟩ F7 N7'
          have N6 := news_sub N7' fun p hp => (swap_perm _ _ _).mem_iff.mpr hp
          have hS6 := swap_sep hS8
          dsimp only [List.cons_append] at N6
          clear N7' N8 N7 N12
          k_steps
          refine Stop.go ?_
          rename News _ _ _ _ => N5
          (try (refine (?_ : wpAny _ _ _ _ _ _); k_fold)); k_dflt (refine' spec_use (move_to_spec hP2 hnd hlenP hS6) ?zqk1 ?zqk2 ?zqk3 N5 ?zqk5 ?zqk6 ?zqk7 ?zqk8 ?_; (case zqk1 => k_asm); (case zqk2 => k_asm); (case zqk3 => k_asm); (case zqk5 => k_asm); (case zqk6 => first | exact rfl | assumption); (case zqk7 => ktr_room); (case zqk8 => ktr_units))
          rintro r8 n8 h8 tk8 ⟨rfl, prs', lp8, rfl, hP8, hrows8, hS9⟩ F8 N8'
          k_steps
          rename Fr _ _ _ _ => kF9
          rename News _ _ _ _ => kN9
          rw [hp] at hP8 hrows8
          rw [hrows2, opn_new hany, bkOf_new hF.act hany] at hL7
          exact ev_fin (σ' := { σ with active := ad, back := bkOf σ rows }) (rows' := upd (isAt ad) renew (opn ad rows)) hret (fun _ h => h) KtsTurn.refl hod2 (.mk hL7 hP8 (by rw [opn_new hany, upd_new hany, List.map_append, hl]; rfl) hrows8) (Fine.world (σ := σ) (σ' := { σ with active := ad, back := bkOf σ rows }) ((hF.opn (ad := ad)).upd (p := isAt ad) (f := renew) (fun _ => rfl) (hF.opn (ad := ad)).asks) (mem_addr (a := ad) (upd_addr (f := renew) (fun _ => rfl) _) ⟨newR ad false, by rw [opn_new hany]; simp, rfl⟩) rfl (Nat.le_succ_of_le hF.ask)) (hS9.perm (lp_back _ _ _)) kF9 (news_sub kN9 fun p hp => (lp_back _ _ _).mem_iff.mpr hp)
        · skip
          k_steps
          refine Stop.go ?_
          rename News _ _ _ _ => N6
          exact htail _ _ _ _ _ _ _ _ hod2 rfl rfl (by k_asm) N6
    · w_top off
      skip
      k_steps
      refine Stop.go ?_
      rename News _ _ _ _ => N6
      exact htail _ _ _ _ _ _ _ _ hod2 rfl rfl (by k_asm) N6
  case zqevA =>
    intro h5 tk5 m5 od2 g2 x2 tg2 tx2 hod2 F5 N5
    subst hRe
    have hS5 := hsep2.same (l' := (dd, od2) :: _) rfl
    refine wpAny_execs_cons ?_
    k_steps
    refine Stop.go ?_
    rename News _ _ _ _ => N6
    (try (refine (?_ : wpAny _ _ _ _ _ _); k_fold)); k_dflt (refine' take_use hod2 (Sep.off (E := [_]) hS5) (by decide) (by decide) ?zqk1 ?zqk2 ?zqk3 N6 ?zqk5 ?zqk6 ?zqk7 ?zqk8 ?_; (case zqk1 => k_asm); (case zqk2 => k_asm); (case zqk3 => k_asm); (case zqk5 => k_asm); (case zqk6 => first | exact rfl | assumption); (case zqk7 => ktr_room); (case zqk8 => ktr_units))
    intro v6 vt6 od3 g3 x3 tg3 tx3 h6 tk6 hv0 hv9 hod3 F6 N6'
    generalize hTe : ll' ++ (lp' ++ own2) = T at *
    have hO2 : OwnOff T [dd, wd, rl, al, ps, pd, kn] := Sep.off (E := [_, _, _, _, _, _, _]) hsep2
    refine ap_elim (E := [_, _, _, _, _, _, _]) hsep2 ?_
    dsimp only [Ap, NeP]
    intros
    k_steps
    rename Fr _ _ _ _ => kF9
    rename News _ _ _ _ => kN9
    rename Obj.IsDictOf _ _ ((Str.ofString "role", _) :: _) => hd9
    subst hTe
    subst hoe
    have hS8 := fun o9 => Sep.perm (hS5.same (l' := (dd, od3) :: (wd, o9) :: _) rfl) (ev_perm _ _ _ _ _ _ _ _ _ _ _).symm
    have hB9 : Both w wd ps { σ with skip := v6 } rows _ := .mk (.mk (c := c) (c2 := c2) hd9 hb hus hr) (pside_world hP2 rfl rfl rfl rfl rfl) hl hp
    exact ev_fin (rows' := rows) hret (fun _ h => h) KtsTurn.refl hod3 hB9 ((Fine.world (σ' := { σ with skip := v6 }) hF hF.act rfl hF.ask).next) (hS8 _) kF9 (news_sub kN9 fun p hp => (ev_perm _ _ _ _ _ _ _ _ _ _ _).mem_iff.mp hp)
end
section
section
open LCg LCt
variable {prog : Program} {w : World} {A : Around} {h₀ : Heap} {L : Addr} {m : Str → Option Value} {env : Env} {ct elt : PySem.Expr} {x : Str} {scope : Scope} {cl : List (Str × Addr)} {s : Shared} {S : Led → Prop} {Fin : List Value → Led → Prop} {news : Led}
/-- a reading comprehension with a test over any list, of whose items one thing is told -/
theorem rest_some {α : Type} (as : List α) (g : α → Value) (R : Value → Prop) (hS : S news)
    (turn : ∀ (i : Nat) (a : α) I oI C oC D m₂ ys h tk (E' : Value → Shared → Prop), as[i]? = some a → NsObj oC m₂ → m₂ x = some (g a) → Fr h₀ L h m → News h₀ L h ((I, oI) :: (C, oC) :: (D, lst ys) :: news) →
      wpAny (model prog w) A (isTrue ct (compEnvC scope cl C env) (eval ct (compEnvC scope cl C env))) (fun ok s' => if ok = true then
        wpAny (model prog w) A (eval elt (compEnvC scope cl C env)) (VEnd h₀ L m { s with heap := h, toks := tk } ((I, oI) :: (C, oC) :: (D, lst ys) :: news) (fun y => R y)) E' s'
        else VEnd h₀ L m { s with heap := h, toks := tk } ((I, oI) :: (C, oC) :: (D, lst ys) :: news) (fun _ => True) Value.none s') E' { s with heap := h, toks := tk })
    (fin : ∀ ys, (∀ y ∈ ys, R y) → ys.length ≤ as.length → Fin ys news) : CompRestT prog w A h₀ L m env ct elt x scope cl s S (fun i v => (as.map g).toArray[i]? = some v) Fin (as.map g).toArray.size 0 [] news := by
  have key : ∀ (j i : Nat) (ys : List Value), i + j = as.length → (∀ y ∈ ys, R y) → ys.length ≤ i → CompRestT prog w A h₀ L m env ct elt x scope cl s S (fun i v => (as.map g).toArray[i]? = some v) Fin j i ys news := by
    intro j
    induction j with
    | zero =>
      intro i ys hi hy hl
      exact CompRestT.zero (fin ys hy (by omega))
    | succ j ih =>
      intro i ys hi hy hl
      refine CompRestT.succ ?_
      intro v I oI C oC D m₂ h tk E' hv hC hx F N off ne
      have hv' : (as.map g)[i]? = some v := by simpa using hv
      rw [List.getElem?_map] at hv'
      cases ha : as[i]? with
      | none => rw [ha] at hv'; cases hv'
      | some a =>
        rw [ha] at hv'
        have hv2 : g a = v := Option.some.inj hv'
        subst hv2
        refine wpAny_mono (turn i a I oI C oC D m₂ ys h tk E' ha hC hx F N) (fun b s₂ hq => ?_) fun _ _ e => e
        cases b with
        | true =>
          simp only [if_true] at hq ⊢
          refine wpAny_mono hq (fun y s₃ hr => ?_) fun _ _ e => e
          obtain ⟨h', tk', e, F', N', hp⟩ := hr
          refine ⟨h', tk', news, e, F', N', off, hS, ih (i + 1) _ (by omega) (fun z hz => ?_) (by rw [List.length_append]; exact Nat.succ_le_succ hl)⟩
          rcases List.mem_append.mp hz with hz | hz
          · exact hy z hz
          · rw [List.mem_singleton.mp hz]; exact hp
        | false =>
          simp only [Bool.false_eq_true, if_false] at hq ⊢
          obtain ⟨h', tk', e, F', N', hp⟩ := hq
          exact ⟨h', tk', news, e, F', N', off, hS, ih (i + 1) _ (by omega) hy (by omega)⟩
  have h := key as.length 0 [] (by omega) (fun _ h => nomatch h) (Nat.zero_le _)
  simpa using h
end
theorem ints_pairs {ws : List Value} {ms : List Int} (h : IntsAre ws ms) : ∃ ps : List (Int × Tok), ws = ps.map fun p => Value.int p.1 p.2 := by
  induction h with
  | nil => exact ⟨[], rfl⟩
  | cons n t _ ih =>
    obtain ⟨ps, rfl⟩ := ih
    exact ⟨(n, t) :: ps, rfl⟩
theorem ints_of {ws : List Value} (h : ∀ y ∈ ws, ∃ i t, y = Value.int i t) : ∃ ms, IntsAre ws ms := by
  induction ws with
  | nil => exact ⟨[], .nil⟩
  | cons y ws ih =>
    obtain ⟨ms, hm⟩ := ih fun z hz => h z (.tail _ hz)
    obtain ⟨i, t, rfl⟩ := h y (.head _)
    exact ⟨i :: ms, .cons i t hm⟩
theorem law_draws_spec {w mean mg mb} {sl : Addr} {vs : List Value} {ns : List Int} (hI : IntsAre vs ns) (hlen : ns.length ≤ 63) :
   ∀ (dp un : Nat) (gd : Option (List Code)) (cn : Str) (cs : Scope) (a : Addr) (ccd : Value) (cl : List (Str × Addr)) (outer : List Env) (A₀ : Around) (base h₀ : Heap) (L : Addr) (m : Str → Option Value) (sh : Heap) (sg : Array GenState) (sd : Drawn) (st : Nat) (so : OsState) (Q E : Value → Shared → Prop) (news : Led),
    h₀.IsList sl vs.toArray → Below A₀ base outer h₀ → Fr h₀ L sh m → (hd.heap_1 w.params).In h₀ → News h₀ L sh news → Top vw (looseW vw []) mean mg mb h₀ → cs.kind = .function → dp + 3 < recursionLimit → un + 40 < cLine →
    (∀ dd od g x tg tx h' tk', od.IsDictOf (SK w) [("great", .int g tg), ("mixed", .int x tx)] → (∀ q ∈ news, @Ne Nat q.1 dd) → Fr h₀ L h' m → News h₀ L h' ((dd, od) :: news) → Q (.ref dd) ⟨h', sg, sd, tk', so⟩) →
    wpAny (model PySem.Challenge.rw_no0073_01.row.prog w) (ktrTop dp un gd cn cs L a ccd cl outer) (call (.ref 240) [.ref sl]) Q E ⟨sh, sg, sd, st, so⟩ := by
  k_fill; intro dp un gd cn cs a ccd cl outer A₀ base h₀ L m sh sg sd st so Q E news hsl B F X N T hk hd hu hret; have kM := kstMark; w_top off; k_with_none; (k_with "MINE enter" => (k_dflt (refine' code_def ?zqk1 ?zqk2 ?zqk3 ?zqk4 ?zqk5 ?zqkA ?zqkF ?zqkK ?zqk6 ?zqk7 ?zqk8 ?zqk9 ?zqkB ?_ ?zqc2 ?zqc3 ?zqc4 ?zqc5; (case zqkA => exact rfl); (case zqkF => exact rfl); (case zqkK => first | exact rfl | assumption); (case zqk1 => k_asm); (case zqk2 => k_asm); (case zqk3 => k_asm); (case zqk4 => k_asm); (case zqk5 => k_asm); (case zqk6 => k_is); (case zqk7 => k_is); (case zqk8 => ktr_room); (case zqk9 => first | exact BindsTo.of_eq (binds := [(_, _)]) rfl | exact BindsTo.of_eq (binds := [(_, _), (_, _)]) rfl | exact BindsTo.of_eq (binds := [(_, _), (_, _), (_, _)]) rfl | exact BindsTo.of_eq (binds := [(_, _), (_, _), (_, _), (_, _)]) rfl | exact BindsTo.of_eq rfl); (case zqc5 => decide); (case zqkB => exact locs rfl); (case zqc2 => exact rfl); (case zqc3 => exact rfl); (case zqc4 => exact rfl); k_whole; intro g' L' h' FG' F' N' B' X' T'; (try dsimp only); (try k_lift B'); (try k_fold)))); (k_with "call ref" => (k_here; first | k_extra "MINE call" | (refine wpAny_call ?_; walk_at "MINE enter"))); (k_with "call ref" => (k_here; k_dflt (refine' call_cls ?zqk1 ?zqk2 ?zqk3 ?zqk4 ?zqk5 ?zqk6 ?_; (case zqk1 => k_asm); (case zqk2 => k_asm); (case zqk3 => k_asm); (case zqk4 => k_is); (case zqk5 => k_is); (case zqk6 => k_is); k_whole; intro x' d' h' F' N' l1 l2; (try k_lt l1); (try k_lt2 l2); (try k_sweep)); walk_at "MINE enter")); (k_with "TPost" => dsimp only [TPost]); (k_with "MINE enterC" => (k_dflt (refine' code_defC ?zqk1 ?zqk2 ?zqk3 ?zqk4 ?zqk5 ?zqkA ?zqkF ?zqkK ?zqk6 ?zqk7 ?zqk8 ?zqk9 ?zqkB ?zqkD ?_ ?zqc2 ?zqc3 ?zqc4; (case zqkA => exact rfl); (case zqkF => exact rfl); (case zqkK => first | exact rfl | assumption); (case zqk1 => k_asm); (case zqk2 => k_asm); (case zqk3 => k_asm); (case zqk4 => k_asm); (case zqk5 => k_asm); (case zqk6 => k_is); (case zqk7 => k_is); (case zqk8 => ktr_room); (case zqk9 => first | exact BindsTo.of_eq (binds := [(_, _)]) rfl | exact BindsTo.of_eq (binds := [(_, _), (_, _)]) rfl | exact BindsTo.of_eq (binds := [(_, _), (_, _), (_, _)]) rfl | exact BindsTo.of_eq (binds := [(_, _), (_, _), (_, _), (_, _)]) rfl | exact BindsTo.of_eq rfl); (case zqkB => exact rfl); (case zqkD => decide +kernel); (case zqc2 => exact rfl); (case zqc3 => exact rfl); (case zqc4 => exact rfl); k_whole; intro g' L' h' tk' cells' FG' F' N' Y' B' X' T' l1; k_cells Y'; (try simp only [List.cons_append, List.nil_append] at N'); (try dsimp only); (try k_lift B'); (try k_fold)))); (k_with "exec Assign cons ListComp" => (k_here; k_dflt (refine LCt.Assign_ListComp_T (F₀ := by k_asm) (by rfl) (by with_unfolding_all rfl) (by with_unfolding_all rfl) (by decide) (by rfl) (by decide) (by rfl) (by rfl) (by rfl) ?_))); (k_with "subscriptTail" => (k_here; (with_reducible show wpAny _ _ (subscriptTail _ _ (Value.ref _) (Value.str _ _)) _ _ _); k_dflt (refine' kda_item (knd := PySem.strKind _ _) ?zqk1 ?zqk2 ?zqk3 (strKind_is _ _ _ _) ?zqk4 ?_; (case zqk1 => k_asm); (case zqk2 => k_mem); (case zqk3 => assumption); (case zqk4 => rfl); k_whole))); (k_with "setItem ref str" => (k_here; k_dflt (refine' kda_set (knd := PySem.strKind _ _) ?zqF ?zqN ?zqU ?zqd (strKind_is _ _ _ _) ?zqz ?_; (case zqF => k_asm); (case zqN => k_asm); (case zqU => k_updF); (case zqd => assumption); (case zqz => kob_size)); intro h' o' F' N' hd'; (try kob_lit); (try dsimp only at N'); (try dsimp only); (try k_gentoks))); (k_with "compareOp NotEq ref ref" => (k_here; k_dflt (refine' ne_nil ?zqk1 ?zqk2 ?zqk3 ?zqk4 ?_; (case zqk1 => k_asm); (case zqk2 => k_mem); (case zqk3 => k_mem); (case zqk4 => ktr_units)); (try dsimp only [List.isEmpty, Bool.not_true, Bool.not_false, List.map]))); (k_with "MINE ne" => (refine neN ?_; (try dsimp only); first | exact NeA.ne (by assumption) | exact (NeA.ne (by assumption)).symm | omega)); (k_with "compareOp In bytes ref" => (k_here; k_dflt (refine' in_bytes ?zqk1 ?zqk2 ?zqk3 ?_; (case zqk1 => k_asm); (case zqk2 => k_mem); (case zqk3 => assumption)))); (k_with "exec Raise some none" => (k_here; k_dflt (refine' Raise_38 ?zqk1 ?zqk2 ?_; (case zqk1 => k_asm); (case zqk2 => first | rfl | assumption)))); (k_with "call ref" => (k_here; (with_reducible show wpAny _ _ (call (Value.ref 38) _) _ _ _); k_dflt (refine' call_refuse ?zqk1 ?zqk2 ?zqk3 ?_; (case zqk1 => k_asm); (case zqk2 => k_asm); (case zqk3 => k_asm); k_whole); intro e38 t38 h38 F38 N38 hap38 hne38; refine wpAny_call ?_; walk_at "MINE enter")); (k_with "getMethod type:Exception" => (k_here; refine' method_type ?zqF ?zqX ?zqm (by decide +kernel) ?zqe ?zqh ?_; (case zqF => k_asm); (case zqX => k_asm); (case zqm => kernel_rfl); (case zqe => k_dflt k_is); (case zqh => k_handed))); (k_with "call builtin:Exception.__init__" => (k_here; k_dflt (refine' init_w ?zqk1 ?zqk2 ?zqk3 ?zqk4 ?_; (case zqk1 => k_asm); (case zqk2 => k_asm); (case zqk3 => k_asm); (case zqk4 => exact per_e (by assumption) (by assumption)); k_whole); intro h39 t39 F39 N39 hap39 hne39)); (k_with "setAttr ref" => (k_here; (with_reducible show wpAny _ _ (setAttr (Value.ref _) (PySem.Str.ofString "text") _) _ _ _); k_dflt (refine' text_w ?zqk1 ?zqk2 ?zqk3 ?zqk4 ?_; (case zqk1 => k_asm); (case zqk2 => k_asm); (case zqk3 => k_asm); (case zqk4 => exact per_t (by assumption) (by assumption) (by assumption)); k_whole); intro h40 tk40 o40 F40 N40 hc40 hd40)); (k_with "Refusing" => ((rename News _ _ _ (_ :: (_, tupO _) :: _ :: _) => N41); (rename (_ = Data.fields _) => hd41); refine ⟨_, _, _, rfl, Fr.keep (by k_asm), (N41 _ (.head _)).1, by assumption, hd41, ?_⟩)); (k_with "leaving ref" => (k_here; (rename News _ _ _ (_ :: (_, tupO _) :: _ :: _) => N41); (rename (_ = Data.fields _) => hd41); k_dflt (refine' leave_x ?zqk1 ?zqk2 (vs := [_]) N41 ?zqk4 ?zqk5 hd41 ?_; (case zqk1 => assumption); (case zqk2 => k_asm); (case zqk4 => exact per_b (by assumption) (by assumption) (by assumption)); (case zqk5 => assumption); k_whole); intro h42 R42 U42)); (k_with "MINE enterS" => (k_dflt (refine' code_defT ?zqk1 ?zqk2 ?zqk3 ?zqk4 ?zqk5 ?zqkXB ?zqkTB ?zqkD ?zqkA ?zqkF ?zqkK ?zqk6 ?zqk7 ?zqk8 ?zqk9 ?zqkB ?_ ?zqc2 ?zqc3 ?zqc4 ?zqc5; (case zqkA => exact rfl); (case zqkF => exact rfl); (case zqkK => first | exact rfl | assumption); (case zqk1 => k_asm); (case zqk2 => k_asm); (case zqk3 => k_asm); (case zqk4 => k_asm); (case zqk5 => k_asm); (case zqkXB => assumption); (case zqkTB => assumption); (case zqkD => assumption); (case zqk6 => k_is); (case zqk7 => k_is); (case zqk8 => ktr_room); (case zqk9 => first | exact BindsTo.of_eq (binds := [(_, _)]) rfl | exact BindsTo.of_eq (binds := [(_, _), (_, _)]) rfl | exact BindsTo.of_eq (binds := [(_, _), (_, _), (_, _)]) rfl | exact BindsTo.of_eq (binds := [(_, _), (_, _), (_, _), (_, _)]) rfl | exact BindsTo.of_eq rfl); (case zqc5 => decide); (case zqkB => exact locs rfl); (case zqc2 => exact rfl); (case zqc3 => exact rfl); (case zqc4 => exact rfl); k_whole; intro g' L' h' FG' F' N' B' X' T' D'; (try dsimp only); (try k_lift B'); (try k_fold)))); (k_with "exec For Name Subscript cons nil" => (k_here; (rename Fr _ _ _ _ => lF'); (with_unfolding_all refine' For_invVF lF' ?zqk1 ?zqk2 ?_; (case zqk1 => exact rfl); (case zqk2 => exact rfl); k_whole))); (k_with "compareOp In none ref" => (k_here; k_dflt (refine' none_in_pair ?zqk1 ?zqk2 ?_; (case zqk1 => k_asm); (case zqk2 => k_mem)))); (k_with "compareOp In str ref" => (k_here; k_dflt (refine' str_in_pair ?zqk1 ?zqk2 ?_; (case zqk1 => k_asm); (case zqk2 => k_mem)))); (k_with "compareOp Eq ref ref" => (k_here; k_dflt (refine' eq_nil ?zqk1 ?zqk2 ?zqk3 ?zqk4 ?_; (case zqk1 => k_asm); (case zqk2 => k_mem); (case zqk3 => k_mem); (case zqk4 => ktr_units)); (try dsimp only [List.isEmpty, List.map]))); (k_with "call builtin:len" => (k_here; (with_reducible show wpAny _ _ (call (Value.builtin "len") [Value.ref _]) _ _ _); k_dflt (refine' len_led ?zqk1 ?zqk2 ?zqk3 ?_; (case zqk1 => k_asm); (case zqk2 => k_mem); (case zqk3 => exact Nat.le_trans (by assumption) (by decide))))); (k_with "eval ListComp" => (k_here; k_dflt (refine LCt.ListComp_T (F₀ := by k_asm) (by with_unfolding_all rfl) (by decide) (by rfl) (by decide) (by rfl) ?_))); (k_with "subscriptTail" => (k_here; (with_reducible show wpAny _ _ (subscriptTail _ _ (Value.ref _) (Value.int _ _)) _ _ _); k_dflt (refine' item_led ?zqk1 ?zqk2 ?zqk3 ?zqk4 ?zqk5 ?_; (case zqk1 => k_asm); (case zqk2 => k_mem); (case zqk5 => assumption); (case zqk3 => assumption); (case zqk4 => omega)))); (k_with "MINE in" => (refine' Frag.In.keeps ?zqk1 (Fr.keep ?zqk2); (case zqk2 => with_reducible assumption); (case zqk1 => with_reducible assumption))); (k_with "storeName" => (k_here; (try dsimp only); k_dflt (refine' storeX_L ?zqF ?zqN ?_ ?zqa ?zqb; (case zqF => k_asm); (case zqN => k_asm); (case zqa => rfl); (case zqb => rfl); k_whole); intro h' F' N'; (try k_sweep))); (k_with "setAttr ref" => (dsimp only; walk1)); (k_with "call ref" => (dsimp only; walk1)); (k_with "setItem ref str" => (dsimp only; walk1)); refine wpAny_call ?_
  walk_at "MINE enter"
  rename Fr h₀ L _ m => FG9
  have hsl9 := hsl.at (fun o e => FG9.keep _ _ e)
  have hz9 : vs.toArray.size ≤ sizeLine := by rw [List.size_toArray, hI.length, sizeLine_eq]; omega
  have hz8 : ns.length ≤ sizeLine := by rw [sizeLine_eq]; omega
  k_steps
  rename IntsAre _ (List.take _ ns) => hI9
  rename News _ _ _ _ => N9
  rename (_ ∧ AllLt _ news) => hl2
  obtain ⟨ps, hps⟩ := ints_pairs hI9
  subst hps
  have hl9 : ps.length ≤ 63 := by have := hI9.length; rw [List.length_map, List.length_take] at this; omega
  refine LCt.CompSrcT.ledger rfl (by k_asm) (by k_asm) (by k_mem) (by rw [List.size_toArray, List.length_map, sizeLine_eq]; omega) ?_
  intro g9
  refine rest_some ps _ (fun y => ∃ i t, y = Value.int i t) ?_ ?_ ?_
  · exact .inr ⟨_, by k_mem, rfl, _, rfl⟩
  · rintro i ⟨r, pa⟩ I oI C oC D m₂ ys h tk E' hi hC hx F1 N1
    dsimp only at hx
    k_steps
    · exact ⟨_, _, rfl, by k_asm, by k_asm, _, _, rfl⟩
    · exact ⟨_, _, rfl, by k_asm, by k_asm, trivial⟩
  rintro ys hys hlen
  obtain ⟨ms, hms⟩ := ints_of hys
  k_steps
  rename News h₀ L _ _ => N9
  rename Obj.IsDictOf _ _ _ => hd9
  exact hret _ _ _ _ _ _ _ _ hd9 (off_of_lt hl2.2) (by k_asm) (news_sub N9 fun p hp => by
    rcases List.mem_cons.mp hp with rfl | hp
    · exact .tail _ (.tail _ (.head _))
    · exact .tail _ (.tail _ (.tail _ (.tail _ hp))))
end
section
theorem path_new_spec {w mean mg mb} {own : Led} {ad : Str} {t1 : Tok} {pr : Bool} (hS : Sep own) :
  Spec w mean mg mb 3 30 121 [.str ad t1, .bool pr] own (fun r n => ∃ pa pd ca c k0 k1 k2 k3 k4 k5 k6 ts ti tq, r = .ref pa ∧
    n = (pa, instObj 121 pd) :: (pd, pathO w k0 k1 k2 k3 k4 k5 k6 (.str ad t1) (.str (if pr = true then "proven" else "unproven") ts) (.bool pr) (.int 0 ti) (.int 0 tq) (.ref ca) .none) :: (ca, listOf ([] : List Value).toArray c) :: own ∧ Sep n) := by
  unfold Spec; k_fill; intro dp un gd cn cs a ccd cl outer A₀ base h₀ L m sh sg sd st so Q E B F X N T hk hd hu hret; have kM := kstMark; w_top off; k_with_none; (k_with "MINE enter" => (k_dflt (refine' code_def ?zqk1 ?zqk2 ?zqk3 ?zqk4 ?zqk5 ?zqkA ?zqkF ?zqkK ?zqk6 ?zqk7 ?zqk8 ?zqk9 ?zqkB ?_ ?zqc2 ?zqc3 ?zqc4 ?zqc5; (case zqkA => exact rfl); (case zqkF => exact rfl); (case zqkK => first | exact rfl | assumption); (case zqk1 => k_asm); (case zqk2 => k_asm); (case zqk3 => k_asm); (case zqk4 => k_asm); (case zqk5 => k_asm); (case zqk6 => k_is); (case zqk7 => k_is); (case zqk8 => ktr_room); (case zqk9 => first | exact BindsTo.of_eq (binds := [(_, _)]) rfl | exact BindsTo.of_eq (binds := [(_, _), (_, _)]) rfl | exact BindsTo.of_eq (binds := [(_, _), (_, _), (_, _)]) rfl | exact BindsTo.of_eq (binds := [(_, _), (_, _), (_, _), (_, _)]) rfl | exact BindsTo.of_eq rfl); (case zqc5 => decide); (case zqkB => exact locs rfl); (case zqc2 => exact rfl); (case zqc3 => exact rfl); (case zqc4 => exact rfl); k_whole; intro g' L' h' FG' F' N' B' X' T'; (try dsimp only); (try k_lift B'); (try k_fold)))); (k_with "call ref" => (k_here; first | k_extra "MINE call" | (refine wpAny_call ?_; walk_at "MINE enter"))); (k_with "call ref" => (k_here; k_dflt (refine' call_cls ?zqk1 ?zqk2 ?zqk3 ?zqk4 ?zqk5 ?zqk6 ?_; (case zqk1 => k_asm); (case zqk2 => k_asm); (case zqk3 => k_asm); (case zqk4 => k_is); (case zqk5 => k_is); (case zqk6 => k_is); k_whole; intro x' d' h' F' N' l1 l2; (try k_lt l1); (try k_lt2 l2); (try k_sweep)); walk_at "MINE enter")); (k_with "TPost" => dsimp only [TPost]); (k_with "MINE enterC" => (k_dflt (refine' code_defC ?zqk1 ?zqk2 ?zqk3 ?zqk4 ?zqk5 ?zqkA ?zqkF ?zqkK ?zqk6 ?zqk7 ?zqk8 ?zqk9 ?zqkB ?zqkD ?_ ?zqc2 ?zqc3 ?zqc4; (case zqkA => exact rfl); (case zqkF => exact rfl); (case zqkK => first | exact rfl | assumption); (case zqk1 => k_asm); (case zqk2 => k_asm); (case zqk3 => k_asm); (case zqk4 => k_asm); (case zqk5 => k_asm); (case zqk6 => k_is); (case zqk7 => k_is); (case zqk8 => ktr_room); (case zqk9 => first | exact BindsTo.of_eq (binds := [(_, _)]) rfl | exact BindsTo.of_eq (binds := [(_, _), (_, _)]) rfl | exact BindsTo.of_eq (binds := [(_, _), (_, _), (_, _)]) rfl | exact BindsTo.of_eq (binds := [(_, _), (_, _), (_, _), (_, _)]) rfl | exact BindsTo.of_eq rfl); (case zqkB => exact rfl); (case zqkD => decide +kernel); (case zqc2 => exact rfl); (case zqc3 => exact rfl); (case zqc4 => exact rfl); k_whole; intro g' L' h' tk' cells' FG' F' N' Y' B' X' T' l1; k_cells Y'; (try simp only [List.cons_append, List.nil_append] at N'); (try dsimp only); (try k_lift B'); (try k_fold)))); (k_with "exec Assign cons ListComp" => (k_here; k_dflt (refine LCt.Assign_ListComp_T (F₀ := by k_asm) (by rfl) (by with_unfolding_all rfl) (by with_unfolding_all rfl) (by decide) (by rfl) (by decide) (by rfl) (by rfl) (by rfl) ?_))); (k_with "subscriptTail" => (k_here; (with_reducible show wpAny _ _ (subscriptTail _ _ (Value.ref _) (Value.str _ _)) _ _ _); k_dflt (refine' kda_item (knd := PySem.strKind _ _) ?zqk1 ?zqk2 ?zqk3 (strKind_is _ _ _ _) ?zqk4 ?_; (case zqk1 => k_asm); (case zqk2 => k_mem); (case zqk3 => assumption); (case zqk4 => rfl); k_whole))); (k_with "setItem ref str" => (k_here; k_dflt (refine' kda_set (knd := PySem.strKind _ _) ?zqF ?zqN ?zqU ?zqd (strKind_is _ _ _ _) ?zqz ?_; (case zqF => k_asm); (case zqN => k_asm); (case zqU => k_updF); (case zqd => assumption); (case zqz => kob_size)); intro h' o' F' N' hd'; (try kob_lit); (try dsimp only at N'); (try dsimp only); (try k_gentoks))); (k_with "compareOp NotEq ref ref" => (k_here; k_dflt (refine' ne_nil ?zqk1 ?zqk2 ?zqk3 ?zqk4 ?_; (case zqk1 => k_asm); (case zqk2 => k_mem); (case zqk3 => k_mem); (case zqk4 => ktr_units)); (try dsimp only [List.isEmpty, Bool.not_true, Bool.not_false, List.map]))); (k_with "MINE ne" => (refine neN ?_; (try dsimp only); first | exact NeA.ne (by assumption) | exact (NeA.ne (by assumption)).symm | omega)); (k_with "compareOp In bytes ref" => (k_here; k_dflt (refine' in_bytes ?zqk1 ?zqk2 ?zqk3 ?_; (case zqk1 => k_asm); (case zqk2 => k_mem); (case zqk3 => assumption)))); (k_with "exec Raise some none" => (k_here; k_dflt (refine' Raise_38 ?zqk1 ?zqk2 ?_; (case zqk1 => k_asm); (case zqk2 => first | rfl | assumption)))); (k_with "call ref" => (k_here; (with_reducible show wpAny _ _ (call (Value.ref 38) _) _ _ _); k_dflt (refine' call_refuse ?zqk1 ?zqk2 ?zqk3 ?_; (case zqk1 => k_asm); (case zqk2 => k_asm); (case zqk3 => k_asm); k_whole); intro e38 t38 h38 F38 N38 hap38 hne38; refine wpAny_call ?_; walk_at "MINE enter")); (k_with "getMethod type:Exception" => (k_here; refine' method_type ?zqF ?zqX ?zqm (by decide +kernel) ?zqe ?zqh ?_; (case zqF => k_asm); (case zqX => k_asm); (case zqm => kernel_rfl); (case zqe => k_dflt k_is); (case zqh => k_handed))); (k_with "call builtin:Exception.__init__" => (k_here; k_dflt (refine' init_w ?zqk1 ?zqk2 ?zqk3 ?zqk4 ?_; (case zqk1 => k_asm); (case zqk2 => k_asm); (case zqk3 => k_asm); (case zqk4 => exact per_e (by assumption) (by assumption)); k_whole); intro h39 t39 F39 N39 hap39 hne39)); (k_with "setAttr ref" => (k_here; (with_reducible show wpAny _ _ (setAttr (Value.ref _) (PySem.Str.ofString "text") _) _ _ _); k_dflt (refine' text_w ?zqk1 ?zqk2 ?zqk3 ?zqk4 ?_; (case zqk1 => k_asm); (case zqk2 => k_asm); (case zqk3 => k_asm); (case zqk4 => exact per_t (by assumption) (by assumption) (by assumption)); k_whole); intro h40 tk40 o40 F40 N40 hc40 hd40)); (k_with "Refusing" => ((rename News _ _ _ (_ :: (_, tupO _) :: _ :: _) => N41); (rename (_ = Data.fields _) => hd41); refine ⟨_, _, _, rfl, Fr.keep (by k_asm), (N41 _ (.head _)).1, by assumption, hd41, ?_⟩)); (k_with "leaving ref" => (k_here; (rename News _ _ _ (_ :: (_, tupO _) :: _ :: _) => N41); (rename (_ = Data.fields _) => hd41); k_dflt (refine' leave_x ?zqk1 ?zqk2 (vs := [_]) N41 ?zqk4 ?zqk5 hd41 ?_; (case zqk1 => assumption); (case zqk2 => k_asm); (case zqk4 => exact per_b (by assumption) (by assumption) (by assumption)); (case zqk5 => assumption); k_whole); intro h42 R42 U42)); (k_with "MINE enterS" => (k_dflt (refine' code_defT ?zqk1 ?zqk2 ?zqk3 ?zqk4 ?zqk5 ?zqkXB ?zqkTB ?zqkD ?zqkA ?zqkF ?zqkK ?zqk6 ?zqk7 ?zqk8 ?zqk9 ?zqkB ?_ ?zqc2 ?zqc3 ?zqc4 ?zqc5; (case zqkA => exact rfl); (case zqkF => exact rfl); (case zqkK => first | exact rfl | assumption); (case zqk1 => k_asm); (case zqk2 => k_asm); (case zqk3 => k_asm); (case zqk4 => k_asm); (case zqk5 => k_asm); (case zqkXB => assumption); (case zqkTB => assumption); (case zqkD => assumption); (case zqk6 => k_is); (case zqk7 => k_is); (case zqk8 => ktr_room); (case zqk9 => first | exact BindsTo.of_eq (binds := [(_, _)]) rfl | exact BindsTo.of_eq (binds := [(_, _), (_, _)]) rfl | exact BindsTo.of_eq (binds := [(_, _), (_, _), (_, _)]) rfl | exact BindsTo.of_eq (binds := [(_, _), (_, _), (_, _), (_, _)]) rfl | exact BindsTo.of_eq rfl); (case zqc5 => decide); (case zqkB => exact locs rfl); (case zqc2 => exact rfl); (case zqc3 => exact rfl); (case zqc4 => exact rfl); k_whole; intro g' L' h' FG' F' N' B' X' T' D'; (try dsimp only); (try k_lift B'); (try k_fold)))); (k_with "exec For Name Subscript cons nil" => (k_here; (rename Fr _ _ _ _ => lF'); (with_unfolding_all refine' For_invVF lF' ?zqk1 ?zqk2 ?_; (case zqk1 => exact rfl); (case zqk2 => exact rfl); k_whole))); (k_with "compareOp In none ref" => (k_here; k_dflt (refine' none_in_pair ?zqk1 ?zqk2 ?_; (case zqk1 => k_asm); (case zqk2 => k_mem)))); (k_with "compareOp In str ref" => (k_here; k_dflt (refine' str_in_pair ?zqk1 ?zqk2 ?_; (case zqk1 => k_asm); (case zqk2 => k_mem)))); (k_with "compareOp Eq ref ref" => (k_here; k_dflt (refine' eq_nil ?zqk1 ?zqk2 ?zqk3 ?zqk4 ?_; (case zqk1 => k_asm); (case zqk2 => k_mem); (case zqk3 => k_mem); (case zqk4 => ktr_units)); (try dsimp only [List.isEmpty, List.map]))); (k_with "call builtin:len" => (k_here; (with_reducible show wpAny _ _ (call (Value.builtin "len") [Value.ref _]) _ _ _); k_dflt (refine' len_led ?zqk1 ?zqk2 ?zqk3 ?_; (case zqk1 => k_asm); (case zqk2 => k_mem); (case zqk3 => exact Nat.le_trans (by assumption) (by decide))))); (k_with "eval ListComp" => (k_here; k_dflt (refine LCt.ListComp_T (F₀ := by k_asm) (by with_unfolding_all rfl) (by decide) (by rfl) (by decide) (by rfl) ?_))); (k_with "subscriptTail" => (k_here; (with_reducible show wpAny _ _ (subscriptTail _ _ (Value.ref _) (Value.int _ _)) _ _ _); k_dflt (refine' item_led ?zqk1 ?zqk2 ?zqk3 ?zqk4 ?zqk5 ?_; (case zqk1 => k_asm); (case zqk2 => k_mem); (case zqk5 => assumption); (case zqk3 => assumption); (case zqk4 => omega)))); (k_with "MINE in" => (refine' Frag.In.keeps ?zqk1 (Fr.keep ?zqk2); (case zqk2 => with_reducible assumption); (case zqk1 => with_reducible assumption))); (k_with "storeName" => (k_here; (try dsimp only); k_dflt (refine' storeX_L ?zqF ?zqN ?_ ?zqa ?zqb; (case zqF => k_asm); (case zqN => k_asm); (case zqa => rfl); (case zqb => rfl); k_whole); intro h' F' N'; (try k_sweep))); (k_with "setAttr ref" => (dsimp only; walk1)); (k_with "call ref" => (dsimp only; walk1)); (k_with "setItem ref str" => (dsimp only; walk1))
  k_steps
  all_goals (
    rename News h₀ L _ _ => N9
    rename (_ ∧ _ ∧ AllLt _ own) => hl1
    rename (∀ p : Addr × Obj, p ∈ own → p.1 < _) => hlow
    rename (@LT.lt Nat _ _ _) => hlx
    rename (pr = _) => hpr
    subst hpr
    obtain ⟨N10, hS10⟩ := row_add (A := []) (A0 := []) (lp := []) N9 hS rfl (allLt_of hlow) hlx hl1
    exact hret _ _ _ _ ⟨_, _, _, _, _, _, _, _, _, _, _, _, _, _, rfl, rfl, hS10⟩ (by k_asm) N10)
end
section
theorem sep_pair {own : Led} {x d : Addr} {xo od : Obj} (hS : Sep own) (h1 : ∀ p ∈ own, p.1 < d) (h2 : @LT.lt Nat _ d x) : Sep ((x, xo) :: (d, od) :: own) :=
  Sep.cons.mpr ⟨fun q hq => by
    rcases List.mem_cons.mp hq with rfl | hq
    · exact Nat.ne_of_lt h2
    · exact Nat.ne_of_lt (Nat.lt_trans (h1 q hq) h2), Sep.cons.mpr ⟨fun q hq => Nat.ne_of_lt (h1 q hq), hS⟩⟩
theorem paths_perm (an kn p q r x d : Addr × Obj) (own : Led) : (an :: kn :: p :: q :: r :: x :: d :: own).Perm (x :: d :: kn :: p :: q :: r :: an :: own) :=
  (swap_perm [an, kn, p, q, r] [x, d] own).trans (((swap_perm [an] [kn, p, q, r] own).cons d).cons x)
theorem news_tail {a : Addr × Obj} {l : Led} {h₀ h : Heap} {L : Addr} (N : News h₀ L h (a :: l)) : News h₀ L h l := news_sub N fun _ hp => .tail _ hp
noncomputable abbrev startS (role : Str) (ad : Str) (pr may : Bool) : St := { role := role, may := may, active := ad, asked := [], back := if pr = true then some ad else none, top := -1, skip := 0, now := 0 }
theorem paths_spec {w mean mg mb} {own : Led} {role ad : Str} {t1 t2 : Tok} {pr may : Bool} (hS : Sep own) :
  Spec w mean mg mb 6 60 224 [.str role t1, .str ad t2, .bool pr, .bool may] own (fun r n => ∃ ps pa l', r = .ref ps ∧ n = l' ++ own ∧ PSide w (startS role ad pr may) [(newR ad pr, pa)] ps l' ∧ Sep n) := by
  unfold Spec; k_fill; intro dp un gd cn cs a ccd cl outer A₀ base h₀ L m sh sg sd st so Q E B F X N T hk hd hu hret; have kM := kstMark; w_top off; k_with_none; (k_with "MINE enter" => (k_dflt (refine' code_def ?zqk1 ?zqk2 ?zqk3 ?zqk4 ?zqk5 ?zqkA ?zqkF ?zqkK ?zqk6 ?zqk7 ?zqk8 ?zqk9 ?zqkB ?_ ?zqc2 ?zqc3 ?zqc4 ?zqc5; (case zqkA => exact rfl); (case zqkF => exact rfl); (case zqkK => first | exact rfl | assumption); (case zqk1 => k_asm); (case zqk2 => k_asm); (case zqk3 => k_asm); (case zqk4 => k_asm); (case zqk5 => k_asm); (case zqk6 => k_is); (case zqk7 => k_is); (case zqk8 => ktr_room); (case zqk9 => first | exact BindsTo.of_eq (binds := [(_, _)]) rfl | exact BindsTo.of_eq (binds := [(_, _), (_, _)]) rfl | exact BindsTo.of_eq (binds := [(_, _), (_, _), (_, _)]) rfl | exact BindsTo.of_eq (binds := [(_, _), (_, _), (_, _), (_, _)]) rfl | exact BindsTo.of_eq rfl); (case zqc5 => decide); (case zqkB => exact locs rfl); (case zqc2 => exact rfl); (case zqc3 => exact rfl); (case zqc4 => exact rfl); k_whole; intro g' L' h' FG' F' N' B' X' T'; (try dsimp only); (try k_lift B'); (try k_fold)))); (k_with "call ref" => (k_here; first | k_extra "MINE call" | (refine wpAny_call ?_; walk_at "MINE enter"))); (k_with "call ref" => (k_here; k_dflt (refine' call_cls ?zqk1 ?zqk2 ?zqk3 ?zqk4 ?zqk5 ?zqk6 ?_; (case zqk1 => k_asm); (case zqk2 => k_asm); (case zqk3 => k_asm); (case zqk4 => k_is); (case zqk5 => k_is); (case zqk6 => k_is); k_whole; intro x' d' h' F' N' l1 l2; (try k_lt l1); (try k_lt2 l2); (try k_sweep)); walk_at "MINE enter")); (k_with "TPost" => dsimp only [TPost]); (k_with "MINE enterC" => (k_dflt (refine' code_defC ?zqk1 ?zqk2 ?zqk3 ?zqk4 ?zqk5 ?zqkA ?zqkF ?zqkK ?zqk6 ?zqk7 ?zqk8 ?zqk9 ?zqkB ?zqkD ?_ ?zqc2 ?zqc3 ?zqc4; (case zqkA => exact rfl); (case zqkF => exact rfl); (case zqkK => first | exact rfl | assumption); (case zqk1 => k_asm); (case zqk2 => k_asm); (case zqk3 => k_asm); (case zqk4 => k_asm); (case zqk5 => k_asm); (case zqk6 => k_is); (case zqk7 => k_is); (case zqk8 => ktr_room); (case zqk9 => first | exact BindsTo.of_eq (binds := [(_, _)]) rfl | exact BindsTo.of_eq (binds := [(_, _), (_, _)]) rfl | exact BindsTo.of_eq (binds := [(_, _), (_, _), (_, _)]) rfl | exact BindsTo.of_eq (binds := [(_, _), (_, _), (_, _), (_, _)]) rfl | exact BindsTo.of_eq rfl); (case zqkB => exact rfl); (case zqkD => decide +kernel); (case zqc2 => exact rfl); (case zqc3 => exact rfl); (case zqc4 => exact rfl); k_whole; intro g' L' h' tk' cells' FG' F' N' Y' B' X' T' l1; k_cells Y'; (try simp only [List.cons_append, List.nil_append] at N'); (try dsimp only); (try k_lift B'); (try k_fold)))); (k_with "exec Assign cons ListComp" => (k_here; k_dflt (refine LCt.Assign_ListComp_T (F₀ := by k_asm) (by rfl) (by with_unfolding_all rfl) (by with_unfolding_all rfl) (by decide) (by rfl) (by decide) (by rfl) (by rfl) (by rfl) ?_))); (k_with "subscriptTail" => (k_here; (with_reducible show wpAny _ _ (subscriptTail _ _ (Value.ref _) (Value.str _ _)) _ _ _); k_dflt (refine' kda_item (knd := PySem.strKind _ _) ?zqk1 ?zqk2 ?zqk3 (strKind_is _ _ _ _) ?zqk4 ?_; (case zqk1 => k_asm); (case zqk2 => k_mem); (case zqk3 => assumption); (case zqk4 => rfl); k_whole))); (k_with "setItem ref str" => (k_here; k_dflt (refine' kda_set (knd := PySem.strKind _ _) ?zqF ?zqN ?zqU ?zqd (strKind_is _ _ _ _) ?zqz ?_; (case zqF => k_asm); (case zqN => k_asm); (case zqU => k_updF); (case zqd => assumption); (case zqz => kob_size)); intro h' o' F' N' hd'; (try kob_lit); (try dsimp only at N'); (try dsimp only); (try k_gentoks))); (k_with "compareOp NotEq ref ref" => (k_here; k_dflt (refine' ne_nil ?zqk1 ?zqk2 ?zqk3 ?zqk4 ?_; (case zqk1 => k_asm); (case zqk2 => k_mem); (case zqk3 => k_mem); (case zqk4 => ktr_units)); (try dsimp only [List.isEmpty, Bool.not_true, Bool.not_false, List.map]))); (k_with "MINE ne" => (refine neN ?_; (try dsimp only); first | exact NeA.ne (by assumption) | exact (NeA.ne (by assumption)).symm | omega)); (k_with "compareOp In bytes ref" => (k_here; k_dflt (refine' in_bytes ?zqk1 ?zqk2 ?zqk3 ?_; (case zqk1 => k_asm); (case zqk2 => k_mem); (case zqk3 => assumption)))); (k_with "exec Raise some none" => (k_here; k_dflt (refine' Raise_38 ?zqk1 ?zqk2 ?_; (case zqk1 => k_asm); (case zqk2 => first | rfl | assumption)))); (k_with "call ref" => (k_here; (with_reducible show wpAny _ _ (call (Value.ref 38) _) _ _ _); k_dflt (refine' call_refuse ?zqk1 ?zqk2 ?zqk3 ?_; (case zqk1 => k_asm); (case zqk2 => k_asm); (case zqk3 => k_asm); k_whole); intro e38 t38 h38 F38 N38 hap38 hne38; refine wpAny_call ?_; walk_at "MINE enter")); (k_with "getMethod type:Exception" => (k_here; refine' method_type ?zqF ?zqX ?zqm (by decide +kernel) ?zqe ?zqh ?_; (case zqF => k_asm); (case zqX => k_asm); (case zqm => kernel_rfl); (case zqe => k_dflt k_is); (case zqh => k_handed))); (k_with "call builtin:Exception.__init__" => (k_here; k_dflt (refine' init_w ?zqk1 ?zqk2 ?zqk3 ?zqk4 ?_; (case zqk1 => k_asm); (case zqk2 => k_asm); (case zqk3 => k_asm); (case zqk4 => exact per_e (by assumption) (by assumption)); k_whole); intro h39 t39 F39 N39 hap39 hne39)); (k_with "setAttr ref" => (k_here; (with_reducible show wpAny _ _ (setAttr (Value.ref _) (PySem.Str.ofString "text") _) _ _ _); k_dflt (refine' text_w ?zqk1 ?zqk2 ?zqk3 ?zqk4 ?_; (case zqk1 => k_asm); (case zqk2 => k_asm); (case zqk3 => k_asm); (case zqk4 => exact per_t (by assumption) (by assumption) (by assumption)); k_whole); intro h40 tk40 o40 F40 N40 hc40 hd40)); (k_with "Refusing" => ((rename News _ _ _ (_ :: (_, tupO _) :: _ :: _) => N41); (rename (_ = Data.fields _) => hd41); refine ⟨_, _, _, rfl, Fr.keep (by k_asm), (N41 _ (.head _)).1, by assumption, hd41, ?_⟩)); (k_with "leaving ref" => (k_here; (rename News _ _ _ (_ :: (_, tupO _) :: _ :: _) => N41); (rename (_ = Data.fields _) => hd41); k_dflt (refine' leave_x ?zqk1 ?zqk2 (vs := [_]) N41 ?zqk4 ?zqk5 hd41 ?_; (case zqk1 => assumption); (case zqk2 => k_asm); (case zqk4 => exact per_b (by assumption) (by assumption) (by assumption)); (case zqk5 => assumption); k_whole); intro h42 R42 U42)); (k_with "MINE enterS" => (k_dflt (refine' code_defT ?zqk1 ?zqk2 ?zqk3 ?zqk4 ?zqk5 ?zqkXB ?zqkTB ?zqkD ?zqkA ?zqkF ?zqkK ?zqk6 ?zqk7 ?zqk8 ?zqk9 ?zqkB ?_ ?zqc2 ?zqc3 ?zqc4 ?zqc5; (case zqkA => exact rfl); (case zqkF => exact rfl); (case zqkK => first | exact rfl | assumption); (case zqk1 => k_asm); (case zqk2 => k_asm); (case zqk3 => k_asm); (case zqk4 => k_asm); (case zqk5 => k_asm); (case zqkXB => assumption); (case zqkTB => assumption); (case zqkD => assumption); (case zqk6 => k_is); (case zqk7 => k_is); (case zqk8 => ktr_room); (case zqk9 => first | exact BindsTo.of_eq (binds := [(_, _)]) rfl | exact BindsTo.of_eq (binds := [(_, _), (_, _)]) rfl | exact BindsTo.of_eq (binds := [(_, _), (_, _), (_, _)]) rfl | exact BindsTo.of_eq (binds := [(_, _), (_, _), (_, _), (_, _)]) rfl | exact BindsTo.of_eq rfl); (case zqc5 => decide); (case zqkB => exact locs rfl); (case zqc2 => exact rfl); (case zqc3 => exact rfl); (case zqc4 => exact rfl); k_whole; intro g' L' h' FG' F' N' B' X' T' D'; (try dsimp only); (try k_lift B'); (try k_fold)))); (k_with "exec For Name Subscript cons nil" => (k_here; (rename Fr _ _ _ _ => lF'); (with_unfolding_all refine' For_invVF lF' ?zqk1 ?zqk2 ?_; (case zqk1 => exact rfl); (case zqk2 => exact rfl); k_whole))); (k_with "compareOp In none ref" => (k_here; k_dflt (refine' none_in_pair ?zqk1 ?zqk2 ?_; (case zqk1 => k_asm); (case zqk2 => k_mem)))); (k_with "compareOp In str ref" => (k_here; k_dflt (refine' str_in_pair ?zqk1 ?zqk2 ?_; (case zqk1 => k_asm); (case zqk2 => k_mem)))); (k_with "compareOp Eq ref ref" => (k_here; k_dflt (refine' eq_nil ?zqk1 ?zqk2 ?zqk3 ?zqk4 ?_; (case zqk1 => k_asm); (case zqk2 => k_mem); (case zqk3 => k_mem); (case zqk4 => ktr_units)); (try dsimp only [List.isEmpty, List.map]))); (k_with "call builtin:len" => (k_here; (with_reducible show wpAny _ _ (call (Value.builtin "len") [Value.ref _]) _ _ _); k_dflt (refine' len_led ?zqk1 ?zqk2 ?zqk3 ?_; (case zqk1 => k_asm); (case zqk2 => k_mem); (case zqk3 => exact Nat.le_trans (by assumption) (by decide))))); (k_with "eval ListComp" => (k_here; k_dflt (refine LCt.ListComp_T (F₀ := by k_asm) (by with_unfolding_all rfl) (by decide) (by rfl) (by decide) (by rfl) ?_))); (k_with "subscriptTail" => (k_here; (with_reducible show wpAny _ _ (subscriptTail _ _ (Value.ref _) (Value.int _ _)) _ _ _); k_dflt (refine' item_led ?zqk1 ?zqk2 ?zqk3 ?zqk4 ?zqk5 ?_; (case zqk1 => k_asm); (case zqk2 => k_mem); (case zqk5 => assumption); (case zqk3 => assumption); (case zqk4 => omega)))); (k_with "MINE in" => (refine' Frag.In.keeps ?zqk1 (Fr.keep ?zqk2); (case zqk2 => with_reducible assumption); (case zqk1 => with_reducible assumption))); (k_with "storeName" => (k_here; (try dsimp only); k_dflt (refine' storeX_L ?zqF ?zqN ?_ ?zqa ?zqb; (case zqF => k_asm); (case zqN => k_asm); (case zqa => rfl); (case zqb => rfl); k_whole); intro h' F' N'; (try k_sweep))); (k_with "setAttr ref" => (dsimp only; walk1)); (k_with "call ref" => (dsimp only; walk1)); (k_with "setItem ref str" => (dsimp only; walk1)); (k_with "call ref" => (k_here; (with_reducible show wpAny _ _ (call (Value.ref 121) _) _ _ _); refine stop_of ?_))
  k_steps
  refine Stop.go ?_
  rename News _ _ _ _ => N9
  rename (∀ p : Addr × Obj, p ∈ own → p.1 < _) => hlow
  rename (@LT.lt Nat _ _ _) => hlx
  (try (refine (?_ : wpAny _ _ _ _ _ _); k_fold)); k_dflt (refine' spec_use (path_new_spec (sep_pair hS hlow hlx)) ?zqk1 ?zqk2 ?zqk3 N9 ?zqk5 ?zqk6 ?zqk7 ?zqk8 ?_; (case zqk1 => k_asm); (case zqk2 => k_asm); (case zqk3 => k_asm); (case zqk5 => k_asm); (case zqk6 => first | exact rfl | assumption); (case zqk7 => ktr_room); (case zqk8 => (have hcL9 := cLine_is; simp only [units_under_make, units_in1, units_deeper, Around.mark_units]; (try dsimp only [ktrTop]); omega)))
  rintro r6 n6 h6 tk6 ⟨pa, pd, ca, c, k0, k1, k2, k3, k4, k5, k6, ts, ti, tq, rfl, rfl, hS10⟩ F6 N6
  have hO := Sep.off (E := [_, _, _, _, _]) hS10
  dsimp only [List.map] at hO
  refine ap_elim (E := [_, _, _, _, _]) hS10 ?_
  dsimp only [Ap, NeP]
  intros
  k_steps
  all_goals (
    rename News h₀ L _ _ => N9
    rename (pr = _) => hpr
    subst hpr
    rename (_ ∧ _ ∧ _ ∧ _ ∧ _ ∧ _ ∧ AllLt _ own) => hl2
    rename (_ ∧ _ ∧ _ ∧ _ ∧ _ ∧ AllLt _ own) => hl1
    have hS11 := sep_new (news_tail N9) hl1 (hS10.same rfl)
    have hS12 := sep_new N9 hl2 hS11
    refine hret _ _ _ _ ⟨_, pa, _, rfl, rfl, PSide.mk (σ := startS role ad _ may) (.one (.mk (us := []) .nil .none)) (.head _) rfl ?_, hS12.perm (paths_perm _ _ _ _ _ _ _ _)⟩ (by k_asm) (news_sub N9 fun p hp => (paths_perm _ _ _ _ _ _ _ _).mem_iff.mpr hp)
    first | exact .none | exact back_of (.head _) rfl)
end
section
theorem ifexp_any {M : Model} {A : Around} {E : Value → Shared → Prop} {s : Shared} {env : Env} {test body orelse : PySem.Expr} {pos : Pos} {Q : Value → Shared → Prop} (R : Value → Prop)
    (h : wpAny M A (eval (.IfExp test body orelse pos) env) (fun v s₁ => R v ∧ ∃ tk, s₁ = { s with toks := tk }) E s) (k : ∀ v tk, R v → Q v { s with toks := tk }) : wpAny M A (eval (.IfExp test body orelse pos) env) Q E s :=
  wpAny_mono h (fun v s₁ hq => by obtain ⟨h1, tk, rfl⟩ := hq; exact k v tk h1) fun _ _ e => e
theorem start_perm (al rl ra aa wd dd c : Addr × Obj) (lP : Led) : (al :: rl :: ra :: aa :: wd :: dd :: c :: lP).Perm (((wd :: rl :: al :: [ra, aa]) ++ lP) ++ [dd, c]) := by
  have h1 := swap_perm [al, rl, ra, aa] [wd] (dd :: c :: lP)
  have h2 : (wd :: al :: rl :: ra :: aa :: dd :: c :: lP).Perm (wd :: rl :: al :: ra :: aa :: dd :: c :: lP) := (List.Perm.swap _ _ _).cons wd
  have h3 : (wd :: rl :: al :: ra :: aa :: ([dd, c] ++ lP)).Perm (wd :: rl :: al :: ra :: aa :: (lP ++ [dd, c])) := (((((List.perm_append_comm).cons aa).cons ra).cons al).cons rl).cons wd
  have h := (h1.trans h2).trans h3
  simpa only [List.cons_append, List.append_assoc, List.nil_append] using h
theorem turn_perm (i d c : Addr × Obj) (l : Led) : (i :: d :: c :: l).Perm (l ++ (d :: [c, i])) :=
  (List.perm_append_comm (l₁ := [i, d, c]) (l₂ := l)).trans (((List.perm_append_comm (l₁ := [i]) (l₂ := [d, c]))).append_left l)
theorem range_ok {v : Int} (h0 : 0 ≤ v) (h8 : v < 8) : Builtin.Range.small 0 (8 + v) 1 = true ∧ Builtin.Range.rangeSize 0 (8 + v) 1 = (((8 + v).toNat : Nat) : Int) := by
  have : v = 0 ∨ v = 1 ∨ v = 2 ∨ v = 3 ∨ v = 4 ∨ v = 5 ∨ v = 6 ∨ v = 7 := by omega
  rcases this with rfl | rfl | rfl | rfl | rfl | rfl | rfl | rfl <;> exact ⟨by decide +kernel, by decide +kernel⟩
noncomputable abbrev JLaw (w : World) (wd ps dd : Addr) (cq : Addr × Obj) (i : Nat) (n : Led) : Prop :=
  ∃ σ rows l od g x tg tx, n = (dd, od) :: cq :: l ∧ od.IsDictOf (SK w) [("great", .int g tg), ("mixed", .int x tx)] ∧ Both w wd ps σ rows l ∧ Fine i σ rows ∧ Sep n
theorem end_perm (dd c ps pd kn an : Addr × Obj) (ll lp : Led) : (dd :: c :: (ll ++ (ps :: pd :: kn :: (lp ++ [an])))).Perm ([c, ps, pd, an] ++ (dd :: kn :: (ll ++ lp))) := by
  have h1 := ((swap_perm ll [ps, pd, kn] (lp ++ [an])).cons c).cons dd
  have h2 : (ll ++ (lp ++ [an])).Perm (an :: (ll ++ lp)) := by rw [← List.append_assoc]; exact List.perm_append_comm
  have h3 := ((((h2.cons kn).cons pd).cons ps).cons c).cons dd
  have h4 := swap_perm [dd] [c, ps, pd] (kn :: an :: (ll ++ lp))
  have h5 := (((swap_perm [dd, kn] [an] (ll ++ lp)).cons pd).cons ps).cons c
  exact ((h1.trans h3).trans h4).trans h5
theorem eq_pair {A : Around} {s : Shared} {t u : Addr} {x : Str} {y : Array UInt8} {a a' c c' : Tok} (h1 : s.heap.IsTuple t #[.str x a, .bytes y c]) (h2 : s.heap.IsTuple u #[.str x a', .bytes y c']) (hne : t ≠ u) (hu : A.units < cLine) : PySem.SeqAt.EqAt A s (.ref t) (.ref u) true := by
  have h := PySem.SeqAt.RcAt.tuples (e := fun _ => true) h1 h2 hu (fun j j1 j2 => by
    match j, j1, j2 with
    | 0, _, _ => have := PySem.SeqAt.EqAt.str_str (A := A.in1) (s := s) x a x a'; simpa using this
    | 1, _, _ => have := eqAt_bytes (A := A.in1) (s := s) y c y c'; simpa using this)
  exact .of_refs hne h
theorem eq_answers {prog : Program} {w : World} {A : Around} {E : Value → Shared → Prop} {s : Shared} {l b t1 t2 u1 u2 : Addr} {x1 x2 : Str} {y1 y2 : Array UInt8} {a1 a2 a3 a4 c1 c2 c3 c4 : Tok} {Q : Value → Shared → Prop}
    (hl : s.heap.IsList l #[.ref t1, .ref t2, .none]) (hb : s.heap.IsList b #[.ref u1, .ref u2, .none]) (h1 : s.heap.IsTuple t1 #[.str x1 a1, .bytes y1 c1]) (h2 : s.heap.IsTuple t2 #[.str x2 a2, .bytes y2 c2])
    (g1 : s.heap.IsTuple u1 #[.str x1 a3, .bytes y1 c3]) (g2 : s.heap.IsTuple u2 #[.str x2 a4, .bytes y2 c4]) (n1 : t1 ≠ u1) (n2 : t2 ≠ u2) (hu : A.units + 1 < cLine) (h : Q (.bool true) s) :
    wpAny (model prog w) A (compareOp .Eq (.ref l) (.ref b)) Q E s := by
  have hu1 : A.in1.units < cLine := hu
  exact PySem.SeqAt.eq_listAt (e := fun _ => true) hl hb rfl (Nat.lt_of_succ_lt hu) (fun j j1 j2 => by
    match j, j1, j2 with
    | 0, _, _ => exact eq_pair h1 g1 n1 hu1
    | 1, _, _ => exact eq_pair h2 g2 n2 hu1
    | 2, _, _ => exact .same _) h
theorem sep_one {p : Addr × Obj} : Sep [p] := by simp [Sep]
theorem start_both {w : World} {role ad : Str} {pr may : Bool} {wd rl al ra aa ps pa : Addr} {o6 ro : Obj} {vb v9 : Value} {tr ta tt ts tn ta9 ts9 ti9 tq9 : Tok} {c c2 c9 : Nat} {lP : Led} {dq cq : Addr × Obj} {h₀ h : Heap} {L : Addr}
    (hd6 : o6.IsDictOf (SK w) [("role", .str role tr), ("may", .bool may), ("rows", .ref rl), ("active", .str ad ta), ("asked", .ref al), ("back", vb), ("top", .int (-1) tt), ("skip", .int 0 ts), ("now", .int 0 tn)])
    (hvb : StrOptIs vb (if pr = true then some ad else none))
    (hro : ro.IsDictOf (SK w) [("address", .str ad ta9), ("state", .str (if pr = true then "proven" else "unproven") ts9), ("free", .bool pr), ("in", .int 0 ti9), ("out", .int 0 tq9), ("asked", .ref aa), ("end", v9)]) (hv9 : OptIs v9 none)
    (hP : PSide w (startS role ad pr may) [(newR ad pr, pa)] ps lP) (hrole : role = Str.ofString "server" ∨ role = Str.ofString "client")
    (N : News h₀ L h ((al, listOf ([] : List Value).toArray c2) :: (rl, listOf ([Value.ref ra] : List Value).toArray c) :: (ra, ro) :: (aa, listOf ([] : List Value).toArray c9) :: (wd, o6) :: dq :: cq :: lP))
    (hS : Sep ((al, listOf ([] : List Value).toArray c2) :: (rl, listOf ([Value.ref ra] : List Value).toArray c) :: (ra, ro) :: (aa, listOf ([] : List Value).toArray c9) :: (wd, o6) :: dq :: cq :: lP)) :
    ∃ l0, Both w wd ps (startS role ad pr may) [newR ad pr] l0 ∧ Fine 0 (startS role ad pr may) [newR ad pr] ∧ News h₀ L h (dq :: cq :: l0) ∧ Sep (dq :: cq :: l0) := by
  have hL : LSide w (startS role ad pr may) [(newR ad pr, ra)] wd ((wd, o6) :: (rl, listOf ([Value.ref ra] : List Value).toArray c) :: (al, listOf ([] : List Value).toArray c2) :: [(ra, ro), (aa, listOf ([] : List Value).toArray c9)]) := .mk (σ := startS role ad pr may) (lrs := [(newR ad pr, ra)]) (c := c) (c2 := c2) hd6 hvb .nil (.one (.mk (us := []) (c := c9) hro .nil hv9))
  have hB := Both.mk hL hP rfl rfl
  have hF : Fine 0 (startS role ad pr may) [newR ad pr] := ⟨List.nodup_cons.mpr ⟨List.not_mem_nil, List.nodup_nil⟩, ⟨_, .head _, rfl⟩, hrole, Nat.le_refl _, Nat.le_refl _, fun r hr => by rw [List.mem_singleton.mp hr]; exact Nat.le_refl 0⟩
  have hp := (start_perm (al, listOf ([] : List Value).toArray c2) (rl, listOf ([Value.ref ra] : List Value).toArray c) (ra, ro) (aa, listOf ([] : List Value).toArray c9) (wd, o6) dq cq lP).trans (List.perm_append_comm (l₂ := [dq, cq]))
  exact ⟨_, hB, hF, news_sub N fun p hp' => hp.mem_iff.mpr hp', hS.perm hp⟩
local macro_rules | `(tactic| k_qdec) => `(tactic| decide +kernel)
theorem law_holds : PySem.Challenge.rw_no0073_01.Holds := hd (by
  k_go0
  (all_goals try k_fold)
  have kM := kstMark
  k_with_none; (k_with "MINE enter" => (k_dflt (refine' code_def ?zqk1 ?zqk2 ?zqk3 ?zqk4 ?zqk5 ?zqkA ?zqkF ?zqkK ?zqk6 ?zqk7 ?zqk8 ?zqk9 ?zqkB ?_ ?zqc2 ?zqc3 ?zqc4 ?zqc5; (case zqkA => exact rfl); (case zqkF => exact rfl); (case zqkK => first | exact rfl | assumption); (case zqk1 => k_asm); (case zqk2 => k_asm); (case zqk3 => k_asm); (case zqk4 => k_asm); (case zqk5 => k_asm); (case zqk6 => k_is); (case zqk7 => k_is); (case zqk8 => ktr_room); (case zqk9 => first | exact BindsTo.of_eq (binds := [(_, _)]) rfl | exact BindsTo.of_eq (binds := [(_, _), (_, _)]) rfl | exact BindsTo.of_eq (binds := [(_, _), (_, _), (_, _)]) rfl | exact BindsTo.of_eq (binds := [(_, _), (_, _), (_, _), (_, _)]) rfl | exact BindsTo.of_eq rfl); (case zqc5 => decide); (case zqkB => exact locs rfl); (case zqc2 => exact rfl); (case zqc3 => exact rfl); (case zqc4 => exact rfl); k_whole; intro g' L' h' FG' F' N' B' X' T'; (try dsimp only); (try k_lift B'); (try k_fold)))); (k_with "call ref" => (k_here; first | k_extra "MINE call" | (refine wpAny_call ?_; walk_at "MINE enter"))); (k_with "call ref" => (k_here; k_dflt (refine' call_cls ?zqk1 ?zqk2 ?zqk3 ?zqk4 ?zqk5 ?zqk6 ?_; (case zqk1 => k_asm); (case zqk2 => k_asm); (case zqk3 => k_asm); (case zqk4 => k_is); (case zqk5 => k_is); (case zqk6 => k_is); k_whole; intro x' d' h' F' N' l1 l2; (try k_lt l1); (try k_lt2 l2); (try k_sweep)); walk_at "MINE enter")); (k_with "TPost" => dsimp only [TPost]); (k_with "MINE enterC" => (k_dflt (refine' code_defC ?zqk1 ?zqk2 ?zqk3 ?zqk4 ?zqk5 ?zqkA ?zqkF ?zqkK ?zqk6 ?zqk7 ?zqk8 ?zqk9 ?zqkB ?zqkD ?_ ?zqc2 ?zqc3 ?zqc4; (case zqkA => exact rfl); (case zqkF => exact rfl); (case zqkK => first | exact rfl | assumption); (case zqk1 => k_asm); (case zqk2 => k_asm); (case zqk3 => k_asm); (case zqk4 => k_asm); (case zqk5 => k_asm); (case zqk6 => k_is); (case zqk7 => k_is); (case zqk8 => ktr_room); (case zqk9 => first | exact BindsTo.of_eq (binds := [(_, _)]) rfl | exact BindsTo.of_eq (binds := [(_, _), (_, _)]) rfl | exact BindsTo.of_eq (binds := [(_, _), (_, _), (_, _)]) rfl | exact BindsTo.of_eq (binds := [(_, _), (_, _), (_, _), (_, _)]) rfl | exact BindsTo.of_eq rfl); (case zqkB => exact rfl); (case zqkD => decide +kernel); (case zqc2 => exact rfl); (case zqc3 => exact rfl); (case zqc4 => exact rfl); k_whole; intro g' L' h' tk' cells' FG' F' N' Y' B' X' T' l1; k_cells Y'; (try simp only [List.cons_append, List.nil_append] at N'); (try dsimp only); (try k_lift B'); (try k_fold)))); (k_with "exec Assign cons ListComp" => (k_here; k_dflt (refine LCt.Assign_ListComp_T (F₀ := by k_asm) (by rfl) (by with_unfolding_all rfl) (by with_unfolding_all rfl) (by decide) (by rfl) (by decide) (by rfl) (by rfl) (by rfl) ?_))); (k_with "subscriptTail" => (k_here; (with_reducible show wpAny _ _ (subscriptTail _ _ (Value.ref _) (Value.str _ _)) _ _ _); k_dflt (refine' kda_item (knd := PySem.strKind _ _) ?zqk1 ?zqk2 ?zqk3 (strKind_is _ _ _ _) ?zqk4 ?_; (case zqk1 => k_asm); (case zqk2 => k_mem); (case zqk3 => assumption); (case zqk4 => rfl); k_whole))); (k_with "setItem ref str" => (k_here; k_dflt (refine' kda_set (knd := PySem.strKind _ _) ?zqF ?zqN ?zqU ?zqd (strKind_is _ _ _ _) ?zqz ?_; (case zqF => k_asm); (case zqN => k_asm); (case zqU => k_updF); (case zqd => assumption); (case zqz => kob_size)); intro h' o' F' N' hd'; (try kob_lit); (try dsimp only at N'); (try dsimp only); (try k_gentoks))); (k_with "compareOp NotEq ref ref" => (k_here; k_dflt (refine' ne_nil ?zqk1 ?zqk2 ?zqk3 ?zqk4 ?_; (case zqk1 => k_asm); (case zqk2 => k_mem); (case zqk3 => k_mem); (case zqk4 => ktr_units)); (try dsimp only [List.isEmpty, Bool.not_true, Bool.not_false, List.map]))); (k_with "MINE ne" => (refine neN ?_; (try dsimp only); first | exact NeA.ne (by assumption) | exact (NeA.ne (by assumption)).symm | omega)); (k_with "compareOp In bytes ref" => (k_here; k_dflt (refine' in_bytes ?zqk1 ?zqk2 ?zqk3 ?_; (case zqk1 => k_asm); (case zqk2 => k_mem); (case zqk3 => assumption)))); (k_with "exec Raise some none" => (k_here; k_dflt (refine' Raise_38 ?zqk1 ?zqk2 ?_; (case zqk1 => k_asm); (case zqk2 => first | rfl | assumption)))); (k_with "call ref" => (k_here; (with_reducible show wpAny _ _ (call (Value.ref 38) _) _ _ _); k_dflt (refine' call_refuse ?zqk1 ?zqk2 ?zqk3 ?_; (case zqk1 => k_asm); (case zqk2 => k_asm); (case zqk3 => k_asm); k_whole); intro e38 t38 h38 F38 N38 hap38 hne38; refine wpAny_call ?_; walk_at "MINE enter")); (k_with "getMethod type:Exception" => (k_here; refine' method_type ?zqF ?zqX ?zqm (by decide +kernel) ?zqe ?zqh ?_; (case zqF => k_asm); (case zqX => k_asm); (case zqm => kernel_rfl); (case zqe => k_dflt k_is); (case zqh => k_handed))); (k_with "call builtin:Exception.__init__" => (k_here; k_dflt (refine' init_w ?zqk1 ?zqk2 ?zqk3 ?zqk4 ?_; (case zqk1 => k_asm); (case zqk2 => k_asm); (case zqk3 => k_asm); (case zqk4 => exact per_e (by assumption) (by assumption)); k_whole); intro h39 t39 F39 N39 hap39 hne39)); (k_with "setAttr ref" => (k_here; (with_reducible show wpAny _ _ (setAttr (Value.ref _) (PySem.Str.ofString "text") _) _ _ _); k_dflt (refine' text_w ?zqk1 ?zqk2 ?zqk3 ?zqk4 ?_; (case zqk1 => k_asm); (case zqk2 => k_asm); (case zqk3 => k_asm); (case zqk4 => exact per_t (by assumption) (by assumption) (by assumption)); k_whole); intro h40 tk40 o40 F40 N40 hc40 hd40)); (k_with "Refusing" => ((rename News _ _ _ (_ :: (_, tupO _) :: _ :: _) => N41); (rename (_ = Data.fields _) => hd41); refine ⟨_, _, _, rfl, Fr.keep (by k_asm), (N41 _ (.head _)).1, by assumption, hd41, ?_⟩)); (k_with "leaving ref" => (k_here; (rename News _ _ _ (_ :: (_, tupO _) :: _ :: _) => N41); (rename (_ = Data.fields _) => hd41); k_dflt (refine' leave_x ?zqk1 ?zqk2 (vs := [_]) N41 ?zqk4 ?zqk5 hd41 ?_; (case zqk1 => assumption); (case zqk2 => k_asm); (case zqk4 => exact per_b (by assumption) (by assumption) (by assumption)); (case zqk5 => assumption); k_whole); intro h42 R42 U42)); (k_with "MINE enterS" => (k_dflt (refine' code_defT ?zqk1 ?zqk2 ?zqk3 ?zqk4 ?zqk5 ?zqkXB ?zqkTB ?zqkD ?zqkA ?zqkF ?zqkK ?zqk6 ?zqk7 ?zqk8 ?zqk9 ?zqkB ?_ ?zqc2 ?zqc3 ?zqc4 ?zqc5; (case zqkA => exact rfl); (case zqkF => exact rfl); (case zqkK => first | exact rfl | assumption); (case zqk1 => k_asm); (case zqk2 => k_asm); (case zqk3 => k_asm); (case zqk4 => k_asm); (case zqk5 => k_asm); (case zqkXB => assumption); (case zqkTB => assumption); (case zqkD => assumption); (case zqk6 => k_is); (case zqk7 => k_is); (case zqk8 => ktr_room); (case zqk9 => first | exact BindsTo.of_eq (binds := [(_, _)]) rfl | exact BindsTo.of_eq (binds := [(_, _), (_, _)]) rfl | exact BindsTo.of_eq (binds := [(_, _), (_, _), (_, _)]) rfl | exact BindsTo.of_eq (binds := [(_, _), (_, _), (_, _), (_, _)]) rfl | exact BindsTo.of_eq rfl); (case zqc5 => decide); (case zqkB => exact locs rfl); (case zqc2 => exact rfl); (case zqc3 => exact rfl); (case zqc4 => exact rfl); k_whole; intro g' L' h' FG' F' N' B' X' T' D'; (try dsimp only); (try k_lift B'); (try k_fold)))); (k_with "exec For Name Subscript cons nil" => (k_here; (rename Fr _ _ _ _ => lF'); (with_unfolding_all refine' For_invVF lF' ?zqk1 ?zqk2 ?_; (case zqk1 => exact rfl); (case zqk2 => exact rfl); k_whole))); (k_with "compareOp In none ref" => (k_here; k_dflt (refine' none_in_pair ?zqk1 ?zqk2 ?_; (case zqk1 => k_asm); (case zqk2 => k_mem)))); (k_with "compareOp In str ref" => (k_here; k_dflt (refine' str_in_pair ?zqk1 ?zqk2 ?_; (case zqk1 => k_asm); (case zqk2 => k_mem)))); (k_with "compareOp Eq ref ref" => (k_here; k_dflt (refine' eq_nil ?zqk1 ?zqk2 ?zqk3 ?zqk4 ?_; (case zqk1 => k_asm); (case zqk2 => k_mem); (case zqk3 => k_mem); (case zqk4 => ktr_units)); (try dsimp only [List.isEmpty, List.map]))); (k_with "call builtin:len" => (k_here; (with_reducible show wpAny _ _ (call (Value.builtin "len") [Value.ref _]) _ _ _); k_dflt (refine' len_led ?zqk1 ?zqk2 ?zqk3 ?_; (case zqk1 => k_asm); (case zqk2 => k_mem); (case zqk3 => exact Nat.le_trans (by assumption) (by decide))))); (k_with "eval ListComp" => (k_here; k_dflt (refine LCt.ListComp_T (F₀ := by k_asm) (by with_unfolding_all rfl) (by decide) (by rfl) (by decide) (by rfl) ?_))); (k_with "subscriptTail" => (k_here; (with_reducible show wpAny _ _ (subscriptTail _ _ (Value.ref _) (Value.int _ _)) _ _ _); k_dflt (refine' item_led ?zqk1 ?zqk2 ?zqk3 ?zqk4 ?zqk5 ?_; (case zqk1 => k_asm); (case zqk2 => k_mem); (case zqk5 => assumption); (case zqk3 => assumption); (case zqk4 => omega)))); (k_with "MINE in" => (refine' Frag.In.keeps ?zqk1 (Fr.keep ?zqk2); (case zqk2 => with_reducible assumption); (case zqk1 => with_reducible assumption))); (k_with "storeName" => (k_here; (try dsimp only); k_dflt (refine' storeX_L ?zqF ?zqN ?_ ?zqa ?zqb; (case zqF => k_asm); (case zqN => k_asm); (case zqa => rfl); (case zqb => rfl); k_whole); intro h' F' N'; (try k_sweep))); (k_with "setAttr ref" => (dsimp only; walk1)); (k_with "call ref" => (dsimp only; walk1)); (k_with "setItem ref str" => (dsimp only; walk1)); (k_with "pyIter ref" => (k_here; refine stop_of ?_)); (k_with "eval ListComp" => (k_here; refine stop_of ?_)); (k_with "CompSrc" => (k_here; k_dflt (refine LCg.CompSrc.range (by rfl) (by k_asm) (by k_asm) (by assumption) (by first | decide | rfl) (by first | rfl | decide) (by first | size_fits | exact Nat.le_of_ble_eq_true rfl) ?_; intro g'; lcg_lit))); (k_with "compareOp Eq ref ref" => (k_here; refine stop_of ?_)); (k_with "eval IfExp" => (k_here; (with_reducible show wpAny _ _ (eval (PySem.Expr.IfExp _ _ _ _) (envOfC _ _ _ _ _)) _ _ _); refine stop_of ?_)); (k_with "getMethod ref" => (k_here; (with_reducible show wpAny _ _ (getMethod (Value.ref _) (PySem.Str.ofString "update") _) _ _ _); refine stop_of ?_)); (k_with "call ref" => (k_here; (with_reducible show wpAny _ _ (call (Value.ref 224) _) _ _ _); refine stop_of ?_)); (k_with "MINE dig" => (with_reducible ((rename (_ ∧ _) => hx7); (have hy7 := hx7.1); (have hz7 := hx7.2); clear hx7; first | exact hy7 | exact hz7 | k_extra "MINE dig"))); (k_with "MINE ne" => (refine neN ?_; (try dsimp only); first | exact NeA.ne (by with_reducible assumption) | exact (NeA.ne (by with_reducible assumption)).symm | exact Nat.ne_of_lt (by with_reducible assumption) | exact Nat.ne_of_gt (by with_reducible assumption) | exact Nat.ne_of_lt (by k_extra "MINE dig") | exact Nat.ne_of_gt (by k_extra "MINE dig") | omega))
  k_with "MINE call" => ((with_reducible show wpAny _ _ (call (Value.ref 240) _) _ _ _); refine stop_of ?_)
  k_with "MINE call" => ((with_reducible show wpAny _ _ (call (Value.ref 235) _) _ _ _); refine stop_of ?_)
  k_with "MINE call" => ((with_reducible show wpAny _ _ (call (Value.ref 247) _) _ _ _); refine stop_of ?_)
  k_with "MINE call" => ((with_reducible show wpAny _ _ (call (Value.ref 292) _) _ _ _); refine stop_of ?_)
  k_with "MINE call" => ((with_reducible show wpAny _ _ (call (Value.ref 297) _) _ _ _); refine stop_of ?_)
  k_steps
  refine Stop.go ?_
  rename IntsAre _ _ => hI9
  rename Heap.IsList _ _ _ => hL9
  rename (¬ _) => hlen9
  have hlen8 := Int.ofNat_le.mp (Int.not_lt.mp hlen9)
  (try (refine (?_ : wpAny _ _ _ _ _ _); k_fold)); k_dflt (refine' law_draws_spec hI9 hlen8 _ _ _ _ _ _ _ _ _ _ _ _ _ _ _ _ _ _ _ _ _ _ hL9 ?zqk1 ?zqk2 ?zqk3 ?zqk4 ?zqk5 ?zqk6 ?zqk7 ?zqk8 ?_; (case zqk1 => k_asm); (case zqk2 => k_asm); (case zqk3 => k_asm); (case zqk4 => k_asm); (case zqk5 => k_asm); (case zqk6 => first | exact rfl | assumption); (case zqk7 => ktr_room); (case zqk8 => ktr_units))
  rintro dd od g0 x0 tg0 tx0 h0 tk0 hod0 hne0 F0 N0
  have hS0 := fun o => (Sep.cons (o := o)).mpr ⟨hne0, sep_one⟩
  k_steps
  refine Stop.go ?_
  rename News _ _ _ _ => N9
  (try (refine (?_ : wpAny _ _ _ _ _ _); k_fold)); k_dflt (refine' take_use hod0 (Sep.off (E := [_]) (hS0 od)) (by decide) (by decide) ?zqk1 ?zqk2 ?zqk3 N9 ?zqk5 ?zqk6 ?zqk7 ?zqk8 ?_; (case zqk1 => k_asm); (case zqk2 => k_asm); (case zqk3 => k_asm); (case zqk5 => k_asm); (case zqk6 => first | exact rfl | assumption); (case zqk7 => ktr_room); (case zqk8 => ktr_units))
  intro v1 vt1 od1 g1 x1 tg1 tx1 h1 tk1 hv1 hw1 hod1 F1 N1
  clear N9
  k_steps
  refine Stop.go ?_
  rename News _ _ _ _ => N9
  (try (refine (?_ : wpAny _ _ _ _ _ _); k_fold)); k_dflt (refine' take_use hod1 (Sep.off (E := [_]) (hS0 od1)) (by decide) (by decide) ?zqk1 ?zqk2 ?zqk3 N9 ?zqk5 ?zqk6 ?zqk7 ?zqk8 ?_; (case zqk1 => k_asm); (case zqk2 => k_asm); (case zqk3 => k_asm); (case zqk5 => k_asm); (case zqk6 => first | exact rfl | assumption); (case zqk7 => ktr_room); (case zqk8 => ktr_units))
  intro v2 vt2 od2 g2 x2 tg2 tx2 h2 tk2 hv2 hw2 hod2 F2 N2
  clear N9
  k_steps
  refine Stop.go ?_
  rename News _ _ _ _ => N9
  (try (refine (?_ : wpAny _ _ _ _ _ _); k_fold)); k_dflt (refine' take_use hod2 (Sep.off (E := [_]) (hS0 od2)) (by decide) (by decide) ?zqk1 ?zqk2 ?zqk3 N9 ?zqk5 ?zqk6 ?zqk7 ?zqk8 ?_; (case zqk1 => k_asm); (case zqk2 => k_asm); (case zqk3 => k_asm); (case zqk5 => k_asm); (case zqk6 => first | exact rfl | assumption); (case zqk7 => ktr_room); (case zqk8 => ktr_units))
  intro v3 vt3 od3 g3 x3 tg3 tx3 h3 tk3 hv3 hw3 hod3 F3 N3
  clear N9
  k_steps
  refine Stop.go ?_
  refine ifexp_any (fun v => ∃ x t, v = .str x t ∧ (x = Str.ofString "server" ∨ x = Str.ofString "client")) ?_ ?_
  · refine IfExp_ ?_
    k_steps
    · exact .inl rfl
    · exact .inr rfl
  rintro _ tk4 ⟨role, trole, rfl, hrole⟩
  k_steps
  refine Stop.go ?_
  generalize (v3 == 0) = pr at *
  generalize (v2 == 1) = may at *
  rename News _ _ _ _ => N9
  replace N9 := news_tail N9
  (try (refine (?_ : wpAny _ _ _ _ _ _); k_fold)); k_dflt (refine' spec_use (paths_spec (hS0 od3)) ?zqk1 ?zqk2 ?zqk3 N9 ?zqk5 ?zqk6 ?zqk7 ?zqk8 ?_; (case zqk1 => k_asm); (case zqk2 => k_asm); (case zqk3 => k_asm); (case zqk5 => k_asm); (case zqk6 => first | exact rfl | assumption); (case zqk7 => ktr_room); (case zqk8 => ktr_units))
  rintro r4 n4 h4 tk5 ⟨ps, pa, lP, rfl, rfl, hP, hS4⟩ F4 N4
  have N5 := news_sub N4 fun p hp => (List.perm_append_comm (l₁ := lP) (l₂ := [_, _])).mem_iff.mpr hp
  have hS5 := hS4.perm (List.perm_append_comm (l₁ := lP) (l₂ := [_, _]))
  dsimp only [List.cons_append, List.nil_append] at N5 hS5
  clear N4 N9
  have hO := Sep.off (E := [_, _]) hS5
  dsimp only [List.map] at hO
  refine ap_elim (E := [_, _]) hS5 ?_
  dsimp only [Ap, NeP]
  intros
  k_steps
  refine Stop.go ?_
  rename News _ _ _ _ => N9
  (try (refine (?_ : wpAny _ _ _ _ _ _); k_fold)); k_dflt (refine' spec_use (law_row_spec) ?zqk1 ?zqk2 ?zqk3 N9 ?zqk5 ?zqk6 ?zqk7 ?zqk8 ?_; (case zqk1 => k_asm); (case zqk2 => k_asm); (case zqk3 => k_asm); (case zqk5 => k_asm); (case zqk6 => first | exact rfl | assumption); (case zqk7 => ktr_room); (case zqk8 => ktr_units))
  rintro r5 n5 h5 tk6 ⟨ra, ro, aa, c9, v9, ta9, ts9, ti9, tq9, rfl, rfl, hro, hv9, hne1, hne2, hne3⟩ F5 N6
  rename (_ ∧ _ ∧ AllLt _ lP) => hl6
  have hS7 := sep_new N9 hl6 (hS5.same rfl)
  have hS8 : Sep ((ra, ro) :: (aa, listOf ([] : List Value).toArray c9) :: _) := Sep.cons.mpr ⟨fun q hq => by
    rcases List.mem_cons.mp hq with rfl | hq
    · exact Ne.symm hne3
    · exact hne1 q hq, Sep.cons.mpr ⟨hne2, hS7⟩⟩
  have hO : OwnOff lP _ := Sep.off (E := [_, _, _, _, _]) hS8
  dsimp only [List.map] at hO
  refine ap_elim (E := [_, _, _, _, _]) hS8 ?_
  dsimp only [Ap, NeP]
  intros
  clear N9 hne1 hne2 hne3
  k_steps
  refine Stop.go ?_
  rename Obj.IsDictOf _ _ [] => hz'
  clear hz'
  rename Obj.IsDictOf _ _ (strPairs _) => hd'
  have hd3 : Obj.IsDictOf (SK _) _ [("role", .str role _), ("may", .bool may), ("rows", .ref _), ("active", .str "home" _), ("asked", .ref _)] := hd'
  clear hd'
  k_dflt (refine kob_method (knd := PySem.strKind _ _) PySem.F.slot_dict_update PySem.F.type_dict_update (by k_asm) (by k_mem) hd3 ?_)
  refine callWith_dict ?_
  k_steps
  refine Stop.go ?_
  refine ifexp_any (fun v => StrOptIs v (if pr = true then some (Str.ofString "home") else none)) ?_ ?_
  · refine IfExp_ ?_
    k_steps
    · rename (pr = true) => hpr
      subst hpr
      exact .some _ _
    · rename (pr = false) => hpr
      subst hpr
      exact .none
  rintro vb tk7 hvb
  k_steps
  rename Obj.IsDictOf _ _ [] => hz'
  clear hz'
  rename (_ ∧ _ ∧ _ ∧ _ ∧ _ ∧ AllLt _ lP) => hl7
  k_dflt (refine dict_upd (knd := PySem.strKind _ _) (by k_asm) (by k_asm) (by k_updF) hd3 (by k_mem) (by assumption) (by assumption) (by k_ne) (by kob_size) ?_)
  intro h6 o6 F6 N7 hd6
  replace hd6 : Obj.IsDictOf (SK _) o6 [("role", .str role _), ("may", .bool may), ("rows", .ref _), ("active", .str "home" _), ("asked", .ref _), ("back", vb), ("top", .int (-1) _), ("skip", .int 0 _), ("now", .int 0 _)] := hd6
  rename (_ ∧ _ ∧ _ ∧ _ ∧ _ ∧ _ ∧ AllLt _ lP) => hl8
  replace N7 := news_tail N7
  have hS9 := sep_new (news_tail N7) hl7 (hS8.same rfl)
  have hS10 := sep_new N7 hl8 hS9
  have q3 := start_both hd6 hvb hro hv9 hP hrole N7 hS10
  obtain ⟨l0, hB0, hF0, N10, hS11⟩ := q3
  clear hd6 hvb hro hv9 hP hrole hS10 hS9 hS8 hS7 hS5 hS4 hl7 hl8 hd3 hO N7
  have hO := Sep.off (E := [_, _]) hS11
  dsimp only [List.map] at hO
  refine ap_elim (E := [_, _]) hS11 ?_
  dsimp only [Ap, NeP]
  intros
  k_steps
  refine Stop.go ?_
  rename News _ _ _ _ => N9
  (try (refine (?_ : wpAny _ _ _ _ _ _); k_fold)); k_dflt (refine' take_use hod3 (Sep.off (E := [_]) hS11) (by decide) (by decide) ?zqk1 ?zqk2 ?zqk3 N9 ?zqk5 ?zqk6 ?zqk7 ?zqk8 ?_; (case zqk1 => k_asm); (case zqk2 => k_asm); (case zqk3 => k_asm); (case zqk5 => k_asm); (case zqk6 => first | exact rfl | assumption); (case zqk7 => ktr_room); (case zqk8 => ktr_units))
  intro v4 vt4 od4 g4 x4 tg4 tx4 h7 tk8 hv4 hw4 hod4 F7 N8
  clear N9
  k_steps
  refine Stop.go ?_
  rename IsRange _ _ _ _ _ _ _ _ => hr9
  rename News _ _ _ _ => N9
  rename Fr _ _ _ _ => F9
  obtain ⟨hsm, hsz⟩ := range_ok hv4 hw4
  refine loop_rng [] (JLaw _ _ ps dd _) rfl hr9 hsm hsz F9 N9 ⟨_, _, l0, od4, g4, x4, tg4, tx4, rfl, hod4, hB0, hF0, hS11.same rfl⟩ ?_ ?_
  · rintro I it i t u n1 h tk hi hlow ⟨σ, rows, l, od5, g5, x5, tg5, tx5, rfl, hod5, hB5, hF5, hS5⟩ hoff F1 N1
    have hk60 : i + 1 ≤ 60 := by omega
    have hS6 := (Sep.cons (o := it)).mpr ⟨hoff, hS5⟩
    have hO := Sep.off (E := [_, _, _]) hS6
    dsimp only [List.map] at hO
    refine ap_elim (E := [_, _, _]) hS6 ?_
    dsimp only [Ap, NeP]
    intros
    k_steps
    refine Stop.go ?_
    have N2 := news_sub N1 fun p hp => (turn_perm _ _ _ _).mem_iff.mpr hp
    have hS7 := hS6.perm (turn_perm _ _ _ _)
    (try (refine (?_ : wpAny _ _ _ _ _ _); k_fold)); k_dflt (refine' specS_use (law_event_spec hod5 hB5 hF5 (Nat.le_of_succ_le hk60) hS7) ?zqk1 ?zqk2 ?zqk3 N2 ?zqk5 ?zqkx ?zqkt ?zqkd ?zqk6 ?zqk7 ?zqk8 ?_; (case zqk1 => k_asm); (case zqk2 => k_asm); (case zqk3 => k_asm); (case zqk5 => k_asm); (case zqkx => assumption); (case zqkt => assumption); (case zqkd => exact fun b hb => nomatch hb); (case zqk6 => first | exact rfl | assumption); (case zqk7 => ktr_room); (case zqk8 => ktr_units))
    rintro r9 n9 h9 tk9 h₁ ⟨rfl, σ', rows', l', od6, g6, x6, tg6, tx6, rfl, hod6, hB6, hF6, hS8⟩ T9 F8 N8 B9 X9 P9 D9
    replace F8 := turn_nil_fr T9 F8
    replace N8 := turn_nil_news T9 N8
    clear T9 B9 X9 P9 D9 N2
    replace N8 := news_sub N8 fun p hp => (turn_perm _ _ _ _).mem_iff.mp hp
    k_steps
    refine Stop.go ?_
    have N3 := news_sub N8 fun p hp => (turn_perm _ _ _ _).mem_iff.mpr hp
    (try (refine (?_ : wpAny _ _ _ _ _ _); k_fold)); k_dflt (refine' spec_use (law_stands_spec hB6 hF6 hk60 hS8) ?zqk1 ?zqk2 ?zqk3 N3 ?zqk5 ?zqk6 ?zqk7 ?zqk8 ?_; (case zqk1 => k_asm); (case zqk2 => k_asm); (case zqk3 => k_asm); (case zqk5 => k_asm); (case zqk6 => first | exact rfl | assumption); (case zqk7 => ktr_room); (case zqk8 => ktr_units))
    rintro r8 n8 h8 tk8 ⟨rfl, rfl⟩ F10 N10
    clear N3 N8 F8
    replace N10 := news_sub N10 fun p hp => (turn_perm _ _ _ _).mem_iff.mp hp
    k_steps
    have hS9 := Sep.cons.mp (hS8.perm (turn_perm _ _ _ _).symm)
    exact TEnd.intro (by k_asm) N10 _ (.head _) (fun p hp => .tail _ hp) hS9.1 ⟨⟨σ', rows', l', od6, g6, x6, tg6, tx6, rfl, hod6, hB6, hF6, hS9.2⟩, fun y h1 h2 => by dsimp only; rw [if_neg h1]; rfl⟩
  · rintro u n1 h tk ⟨σ, rows, l, od5, g5, x5, tg5, tx5, rfl, hod5, hB5, hF5, hS5⟩ F1 N1
    cases hB5 with
    | @mk lrs prs ll lp hL hP hl hp =>
    cases hP with
    | @mk pd kn an act last c3 c4 k0 k1 k2 k3 k4 k5 k6 tr2 th ra2 lp' hr2 hact hra2 hback =>
    have hS6 := hS5.perm (end_perm _ _ _ _ _ _ _ _)
    have N2 := news_sub N1 fun p hp => (end_perm _ _ _ _ _ _ _ _).mem_iff.mpr (List.mem_append_left _ hp)
    rename Frag.In _ _ => KX9
    rename Top _ _ _ _ _ _ => T9
    rename Below _ _ _ _ => K9
    rename (_ = Data.cell (some (Value.ref ps))) => hcell
    clear hF5 hod5 hr2 hact hra2 hback hL hl hp hS5 N1 hr9 hsm hsz N9 F9 hB0 hF0 hS11 hO hS0 hod0 hod1 hod2 hod3 hod4
    repeat (rename (NeA _ _) => hx9; clear hx9)
    repeat (rename (@LT.lt Nat _ _ _) => hx9; clear hx9)
    repeat (rename (_ ∧ _) => hx9; clear hx9)
    refine ap_elim (E := [_, _, _, _]) hS6 ?_
    dsimp only [Ap, NeP]
    intros
    clear hS6
    k_steps
    refine Stop.go ?_
    rename News _ _ _ _ => N3
    simp only [List.push_toArray, List.nil_append, List.cons_append] at N3
    with_reducible (repeat ((rename (_ ∧ _) => hx7); (have hy7 := hx7.1); (have hz7 := hx7.2); clear hx7))
    k_with "CompEnd" => ((with_reducible (repeat ((rename (_ ∧ _) => hx7); (have hy7 := hx7.1); (have hz7 := hx7.2); clear hx7))); lcg_end)
    k_dflt (refine LCg.ListComp_U (F₀ := by k_asm) (by with_unfolding_all rfl) (by decide) (by rfl) (by decide) (by rfl) ?_)
    k_steps
    refine Stop.go ?_
    rename News _ _ _ _ => N4
    have i0 := N4 _ (.head _)
    have i1 := N4 _ (.tail _ (.head _))
    have i2 := N4 _ (.tail _ (.tail _ (.head _)))
    have i3 := N4 _ (.tail _ (.tail _ (.tail _ (.head _))))
    have i4 := N4 _ (.tail _ (.tail _ (.tail _ (.tail _ (.head _)))))
    have i5 := N4 _ (.tail _ (.tail _ (.tail _ (.tail _ (.tail _ (.head _))))))
    refine eq_answers ⟨_, i3.1, rfl, _, rfl⟩ ⟨_, i0.1, rfl, _, rfl⟩ ⟨_, i5.1, rfl, _, rfl⟩ ⟨_, i4.1, rfl, _, rfl⟩ ⟨_, i2.1, rfl, _, rfl⟩ ⟨_, i1.1, rfl, _, rfl⟩ (by k_ne) (by k_ne) ?_ ?_
    · ktr_units
    k_steps)
end
end Mine
theorem PySem.Challenge.cw_no0073_01_holds : PySem.Challenge.rw_no0073_01.Holds := by
  exact Mine.law_holds
