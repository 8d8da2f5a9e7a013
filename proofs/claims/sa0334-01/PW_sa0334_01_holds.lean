import PyProof.Rows.All
import Wide.All
import OpenK.AllK
import Wide.FinOn
import PySem.Challenge.RW_sa0334_01
open PySem PySem.W PyProof.Rows
set_option Elab.async false
set_option maxRecDepth 100000
namespace Mine
set_option maxHeartbeats 8000000 in
open_top hd for PySem.Challenge.rw_sa0334_01
theorem fills_top : PySem.Challenge.rw_sa0334_01.foot = 4 → Mine.hd.heap_39 = Mine.hd.heap_39 := by
  k_fill
  w_top off
  intro _; rfl
end Mine
namespace Mine
open PySem.Calls PyProof.V PySem.Spec

/-- what a comprehension has gathered after i items -/
def gath (p : Nat → Bool) (g : Nat → Int) : Nat → List Int
  | 0 => []
  | i + 1 => if p i then gath p g i ++ [g i] else gath p g i
theorem gath_len (p : Nat → Bool) (g : Nat → Int) : ∀ i, (gath p g i).length ≤ i
  | 0 => Nat.le_refl _
  | i + 1 => by
    have := gath_len p g i
    unfold gath
    split
    · rw [List.length_append, List.length_singleton]; omega
    · omega

section
variable {prog : Program} {w : World} {A : Around} {E : Value → Shared → Prop} {s : Shared} {h₀ : Heap} {L : Addr} {m : Str → Option Value} {env : Env}

/-- a test that may be missing -/
def tstO (prog : Program) (w : World) (A : Around) (env : Env) (E : Value → Shared → Prop) (yes no : Shared → Prop) (s : Shared) : Option Expr → Prop
  | none => yes s
  | some c => wpAny (model prog w) A (isTrue c env (eval c env)) (fun ok s₃ => if ok = true then yes s₃ else no s₃) E s

theorem loopO (c? : Option Expr) {elt target iter : Expr} {scope : Scope} {pos : Pos} {it acc : Value} {R : Result → Shared → Prop} (I : Nat → Shared → Prop)
    (turn : ∀ n s, I n s → wpAny (model prog w) A (pyNext it) (fun r s₁ => match r with
      | none => R (.ok .next) s₁
      | some v => wpAny (model prog w) A (letOwnedTupleGo target it v) (fun _ s₀ => wpAny (model prog w) A (assign target env v) (fun _ s₂ =>
          tstO prog w A env (notedBy (model prog w) A env fun e s' => R (.error e) s') (fun s₃ => wpAny (model prog w) A (eval elt env) (fun x s₄ =>
            wpAny (model prog w) A (call (.builtin "list.append") [acc, x]) (fun _ s₅ => ∃ m, m < n ∧ I m s₅) (notedBy (model prog w) A env fun e s' => R (.error e) s') s₄) (notedBy (model prog w) A env fun e s' => R (.error e) s') s₃)
            (fun s₃ => ∃ m, m < n ∧ I m s₃) s₂ c?)
          (notedBy (model prog w) A env fun e s' => R (.error e) s') s₀) (notedBy (model prog w) A env fun e s' => R (.error e) s') s₁) (notedBy (model prog w) A env fun e s' => R (.error e) s') s)
    (n : Nat) (h : I n s) : codeAny (model prog w) A (.compLoop (.ListComp elt [⟨target, iter, c?.toList, 0⟩] scope pos) 0 it acc env) R s := by
  cases c? with
  | none => exact kcp_loop I turn n h
  | some c => exact kct_loop I turn n h

theorem blockO (c? : Option Expr) {elt target iter : Expr} {scope : Scope} {cl : List (Str × Addr)} {pos : Pos} {s₂ : Shared} {I : Addr} {fp wr : List Addr} {n : Nat} {P Md : Nat → Value → Heap → Prop} {St : Nat → Heap → Prop} {news : List (Addr × Obj)}
    {RR : Value → Addr → Result → Shared → Prop} (p : Nat → Bool) (g : Nat → Int) (Bnd : Nat → (Str → Option Value) → Prop)
    (W : KTurns prog w A target I fp wr n P Md St) (hsz : n ≤ sizeLine)
    (hself : ∀ h tk (Q : Value → Shared → Prop) (E' : Value → Shared → Prop), St 0 h → Q (.ref I) { s₂ with heap := h, toks := tk } → wpAny (model prog w) A (pyIter (.ref I)) Q E' { s₂ with heap := h, toks := tk })
    (hcell : ∀ y ∈ scope.names, y.2 ≠ .cell) (hkind : scope.kind = .function) (hst : St 0 s₂.heap) (hfp : ∀ b ∈ fp, b < s₂.heap.objs.size)
    (F : Fr h₀ L s₂.heap m) (N : News h₀ L s₂.heap news) (hLw : L ∉ wr) (hw₀ : ∀ b ∈ wr, h₀.get? b = none) (off : ∀ q ∈ news, q.1 ∉ wr)
    (hasg : ∀ i v C h tk mC (Q : Unit → Shared → Prop) (E' : Value → Shared → Prop), i < n → P i v h → h.Ns C mC →
      (∀ mC' h' tk', Bnd i mC' → h'.Ns C mC' → (∀ b o, b ≠ C → h.get? b = some o → h'.get? b = some o) → Q () { s₂ with heap := h', toks := tk' }) →
      wpAny (model prog w) A (assign target (compEnvC scope cl C env) v) Q E' { s₂ with heap := h, toks := tk })
    (htest : ∀ c, c? = some c → ∀ i C D oC ys mC h tk (E' : Value → Shared → Prop), i < n → Bnd i mC → LCg.NsObj oC mC → IntsAre ys (gath p g i) → Fr h₀ L h m → News h₀ L h ((C, oC) :: (D, LCg.lst ys) :: news) → D < C → (∀ q ∈ news, q.1 < D) →
      wpAny (model prog w) A (isTrue c (compEnvC scope cl C env) (eval c (compEnvC scope cl C env))) (fun ok s₃ => ok = p i ∧ ∃ h' tk', s₃ = { s₂ with heap := h', toks := tk' } ∧ InElt h h') E' { s₂ with heap := h, toks := tk })
    (hnone : c? = none → ∀ i, p i = true)
    (helt : ∀ i C D oC ys mC h tk (E' : Value → Shared → Prop), i < n → p i = true → Bnd i mC → LCg.NsObj oC mC → IntsAre ys (gath p g i) → Fr h₀ L h m → News h₀ L h ((C, oC) :: (D, LCg.lst ys) :: news) → D < C → (∀ q ∈ news, q.1 < D) →
      wpAny (model prog w) A (eval elt (compEnvC scope cl C env)) (fun y s₃ => (∃ t, y = .int (g i) t) ∧ ∃ h' tk', s₃ = { s₂ with heap := h', toks := tk' } ∧ InElt h h') E' { s₂ with heap := h, toks := tk })
    (hRR : ∀ D C h tk mC ys, Fr h₀ L h m → News h₀ L h ((D, LCg.lst ys) :: news) → h.Ns C mC → h₀.get? C = none → h₀.get? D = none → C ≠ L → D ≠ L → C ≠ D → (∀ q ∈ news, q.1 ≠ C) → (∀ q ∈ news, q.1 < D) → IntsAre ys (gath p g n) → RR (.ref D) C (.ok .next) { s₂ with heap := h, toks := tk }) :
    wpAny (model prog w) A (newList []) (fun acc s₃ => wpAny (model prog w) A (newFunctionEnv scope env.globals cl [] env.qual none .none (some env)) (fun cenv s₄ =>
      codeAny (model prog w) A (.compStart (.ListComp elt [⟨target, iter, c?.toList, 0⟩] scope pos) 0 (.ref I) acc { cenv with scope := relabel scope env }) (RR acc cenv.locals) s₄) E s₃) E s₂ := by
  refine wpAny_newObj_type (wpAny_newFunctionEnv hcell (by intro y hy; simp at hy) (fun h₁ hns₁ hsb₁ => ?_) hkind)
  dsimp only at hns₁ hsb₁ ⊢
  generalize hH : s₂.heap.push { cls := .type "list", dict := none, data := .seq ([] : List Value).toArray } = H at hns₁ hsb₁ ⊢
  generalize hDd : s₂.heap.objs.size = D
  have hC : H.objs.size = D + 1 := by rw [← hH, Heap.size_push, hDd]
  generalize hCd : H.objs.size = C at hns₁ hsb₁ hC
  have hDlt : D < C := by rw [hC]; exact Nat.lt_succ_self _
  have hDC : D ≠ C := Nat.ne_of_lt hDlt
  have below : ∀ b, b < D → b ≠ C ∧ b ≠ D := fun b hb => ⟨Nat.ne_of_lt (Nat.lt_trans hb hDlt), Nat.ne_of_lt hb⟩
  have hfp' : ∀ b ∈ fp, b ≠ C ∧ b ≠ D := fun b hb => below b (hDd ▸ hfp b hb)
  have hwr' : ∀ b ∈ wr, b ≠ C ∧ b ≠ D := fun b hb => hfp' b (W.sub b hb)
  have hLlt : L < D := hDd ▸ F.ns.lt
  have hLne := below L hLlt
  have hNlt : ∀ q ∈ news, q.1 < D := fun q hq => hDd ▸ Heap.lt_size (N q hq).1
  have fresh₀ : ∀ a, D ≤ a → h₀.get? a = none := fun a ha => by
    cases e : h₀.get? a with
    | none => rfl
    | some o' => exact absurd (Heap.lt_size (F.keep a o' e)) (Nat.not_lt.mpr (hDd ▸ ha))
  have hD₀ : h₀.get? D = none := fresh₀ D (Nat.le_refl _)
  have hC₀ : h₀.get? C = none := fresh₀ C (Nat.le_of_lt hDlt)
  have old : ∀ b o, s₂.heap.get? b = some o → h₁.get? b = some o := fun b o e =>
    hsb₁.extBut b o (by have := Heap.lt_size e; rw [hDd] at this; exact (below b this).1) (Heap.get?_push_of_some _ (hH ▸ Heap.get?_push_of_some _ e))
  have hacc : h₁.get? D = some (LCg.lst []) := hsb₁.extBut _ _ hDC (Heap.get?_push_of_some _ (hH ▸ hDd ▸ Heap.get?_push_size _ rfl))
  have keep₀ : ∀ {x x' : Heap} {S : Addr → Prop}, (∀ b, S b → h₀.get? b = none ∧ b ≠ L) → (∀ b o, ¬ S b → x.get? b = some o → x'.get? b = some o) → Fr h₀ L x m → Fr h₀ L x' m := fun hS hk F' =>
    ⟨F'.ns.at' fun o e => hk _ o (fun q => (hS _ q).2 rfl) e, fun b o e => hk b o (fun q => by rw [(hS _ q).1] at e; cases e) (F'.keep b o e), F'.above⟩
  have loop : ∀ s₃ : Shared, s₃ = { s₂ with heap := h₁, toks := s₂.toks + ([] : List (Str × Value)).length } →
      codeAny (model prog w) A (.compLoop (.ListComp elt [⟨target, iter, c?.toList, 0⟩] scope pos) 0 (.ref I) (.ref D) (compEnvC scope cl C env)) (RR (.ref D) C) s₃ := by
    rintro s₃ rfl
    refine loopO c? (fun k s' => ∃ h' tk i ys mC, s' = { s₂ with heap := h', toks := tk } ∧ i ≤ n ∧ k = n + 1 - i ∧ St i h' ∧ Fr h₀ L h' m ∧ h'.Ns C mC ∧ News h₀ L h' ((D, LCg.lst ys) :: news) ∧ IntsAre ys (gath p g i)) ?_ (n + 1)
      ⟨h₁, _, 0, [], _, rfl, Nat.zero_le _, rfl, W.frame _ _ _ hst fun b _ o e => old b o e, F.keeps old, hns₁, fun q hq => ?_, .nil⟩
    · rintro k s' ⟨h', tk, i, ys, mC, rfl, hi, rfl, hst', F', hn', N', hys⟩
      have nextF : ∀ h₂ : Heap, (∀ b o, b ∉ wr → h'.get? b = some o → h₂.get? b = some o) → Fr h₀ L h₂ m ∧ h₂.Ns C mC ∧ News h₀ L h₂ ((D, LCg.lst ys) :: news) := fun h₂ hk =>
        ⟨keep₀ (S := fun b => b ∈ wr) (fun b hb => ⟨hw₀ b hb, fun q => hLw (q ▸ hb)⟩) hk F', hn'.at' fun o e => hk C o (fun q => (hwr' C q).1 rfl) e, fun q hq => ⟨hk _ _ (by
          rcases List.mem_cons.mp hq with rfl | hq
          · exact fun z => (hwr' _ z).2 rfl
          · exact off q hq) (N' q hq).1, (N' q hq).2⟩⟩
      by_cases hlt : i < n
      · refine W.item i _ _ _ hlt hst' fun v h₂ tk₂ hMd hk₂ => ?_
        refine W.go i v _ _ _ hMd fun h₃ hP hst₃ hk₃ => ?_
        obtain ⟨F₃, hn₃, N₃⟩ := nextF h₃ fun b o hb e => hk₃ b o hb (hk₂ b o hb e)
        refine hasg i v C h₃ tk₂ mC _ _ hlt hP hn₃ fun mC' h₄ tk₄ hB hn₄ hk₄ => ?_
        have hst₄ : St (i + 1) h₄ := W.frame _ _ _ hst₃ fun b hb o e => hk₄ b o (hfp' b hb).1 e
        have F₄ : Fr h₀ L h₄ m := keep₀ (S := fun b => b = C) (fun b hb => ⟨hb ▸ hC₀, fun q => hLne.1 (q ▸ hb)⟩) (fun b o hb e => hk₄ b o hb e) F₃
        have N₄ : News h₀ L h₄ ((D, LCg.lst ys) :: news) := fun q hq => ⟨hk₄ _ _ (by
          rcases List.mem_cons.mp hq with rfl | hq
          · exact hDC
          · exact (below _ (hNlt q hq)).1) (N₃ q hq).1, (N₃ q hq).2⟩
        obtain ⟨oC, heC, hoC⟩ := LCg.ns_obj hn₄
        have N₅ : News h₀ L h₄ ((C, oC) :: (D, LCg.lst ys) :: news) := fun q hq => by
          rcases List.mem_cons.mp hq with rfl | hq
          · exact ⟨heC, Ne.symm hLne.1, hC₀⟩
          · exact N₄ q hq
        have after : ∀ h₅, InElt h₄ h₅ → St (i + 1) h₅ ∧ Fr h₀ L h₅ m ∧ h₅.Ns C mC' ∧ News h₀ L h₅ ((C, oC) :: (D, LCg.lst ys) :: news) := fun h₅ hk₅ =>
          ⟨W.frame _ _ _ hst₄ fun b _ o e => hk₅ b o e, F₄.keeps hk₅, hn₄.keeps hk₅, N₅.grown hk₅⟩
        have yes : ∀ h₅ tk₅, InElt h₄ h₅ → p i = true → wpAny (model prog w) A (eval elt (compEnvC scope cl C env)) (fun x s₄ =>
            wpAny (model prog w) A (call (.builtin "list.append") [.ref D, x]) (fun _ s₅ => ∃ k', k' < n + 1 - i ∧ ∃ h' tk i ys mC, s₅ = { s₂ with heap := h', toks := tk } ∧ i ≤ n ∧ k' = n + 1 - i ∧ St i h' ∧ Fr h₀ L h' m ∧ h'.Ns C mC ∧ News h₀ L h' ((D, LCg.lst ys) :: news) ∧ IntsAre ys (gath p g i)) (notedBy (model prog w) A (compEnvC scope cl C env) fun e s' => RR (.ref D) C (.error e) s') s₄) (notedBy (model prog w) A (compEnvC scope cl C env) fun e s' => RR (.ref D) C (.error e) s') { s₂ with heap := h₅, toks := tk₅ } := fun h₅ tk₅ hk₅ hp => by
          obtain ⟨_, F₅, _, N₆⟩ := after h₅ hk₅
          refine wpAny_mono (helt i C D oC ys mC' h₅ tk₅ _ hlt hp hB hoC hys F₅ N₆ hDlt hNlt) (fun y s₆ h₆ => ?_) fun _ _ e => e
          obtain ⟨⟨t, rfl⟩, h₆, tk₆, rfl, hk₆⟩ := h₆
          obtain ⟨hst₆, F₆, hn₆, N₇⟩ := after h₆ fun b o e => hk₆ b o (hk₅ b o e)
          have zD := (N₇ (D, LCg.lst ys) (.tail _ (.head _))).1
          have hyl := hys.length
          have hgl := gath_len p g i
          refine append_at (hsz := by show ys.toArray.size ≤ sizeLine; rw [List.size_toArray]; omega) zD fun h₇ hs₇ hD₇ => ?_
          refine ⟨n + 1 - (i + 1), by omega, h₇, tk₆, i + 1, ys ++ [.int (g i) t], mC', rfl, hlt, rfl, W.frame _ _ _ hst₆ fun b hb o e => hs₇.extBut b o (hfp' b hb).2 e, ?_, hn₆.at' fun o e => hs₇.extBut C o (Ne.symm hDC) e, fun q hq => ?_, ?_⟩
          · exact keep₀ (S := fun b => b = D) (fun b hb => ⟨hb ▸ hD₀, fun q => hLne.2 (q ▸ hb)⟩) (fun b o hb e => hs₇.extBut b o hb e) F₆
          · rcases List.mem_cons.mp hq with rfl | hq
            · exact ⟨hD₇.trans (congrArg some (LCg.lst_snoc ys _)), (N₇ _ (.tail _ (.head _))).2⟩
            · exact ⟨hs₇.extBut _ _ (below _ (hNlt q hq)).2 (N₇ q (.tail _ (.tail _ hq))).1, (N₇ q (.tail _ (.tail _ hq))).2⟩
          · show IntsAre _ (if p i = true then gath p g i ++ [g i] else gath p g i)
            rw [if_pos hp]
            exact IntsAre.append hys (.cons (g i) t .nil)
        have no : ∀ h₅ tk₅, InElt h₄ h₅ → p i = false → ∃ k', k' < n + 1 - i ∧ ∃ h' tk i ys mC, ({ s₂ with heap := h₅, toks := tk₅ } : Shared) = { s₂ with heap := h', toks := tk } ∧ i ≤ n ∧ k' = n + 1 - i ∧ St i h' ∧ Fr h₀ L h' m ∧ h'.Ns C mC ∧ News h₀ L h' ((D, LCg.lst ys) :: news) ∧ IntsAre ys (gath p g i) := fun h₅ tk₅ hk₅ hp => by
          obtain ⟨hst₅, F₅, hn₅, N₆⟩ := after h₅ hk₅
          refine ⟨n + 1 - (i + 1), by omega, h₅, tk₅, i + 1, ys, mC', rfl, hlt, rfl, hst₅, F₅, hn₅, fun q hq => N₆ q (.tail _ hq), ?_⟩
          show IntsAre _ (if p i = true then gath p g i ++ [g i] else gath p g i)
          rw [hp]
          exact hys
        cases c? with
        | none => exact yes h₄ tk₄ (InElt.start _) (hnone rfl i)
        | some c =>
          refine wpAny_mono (htest c rfl i C D oC ys mC' h₄ tk₄ _ hlt hB hoC hys F₄ N₅ hDlt hNlt) (fun ok s₅ h₅ => ?_) fun _ _ e => e
          obtain ⟨rfl, h₅, tk₅, rfl, hk₅⟩ := h₅
          cases hp : p i with
          | true => simp only [if_true]; exact yes h₅ tk₅ hk₅ hp
          | false => simp only [Bool.false_eq_true, if_false]; exact no h₅ tk₅ hk₅ hp
      · obtain rfl : i = n := Nat.le_antisymm hi (Nat.not_lt.mp hlt)
        refine W.done _ _ _ hst' fun h₂ tk₂ hk₂ => ?_
        obtain ⟨F₂, hn₂, N₂⟩ := nextF h₂ hk₂
        exact hRR D C h₂ tk₂ mC ys F₂ N₂ hn₂ hC₀ hD₀ (Ne.symm hLne.1) (Ne.symm hLne.2) (Ne.symm hDC) (fun q hq => (below _ (hNlt q hq)).1) hNlt hys
    · rcases List.mem_cons.mp hq with rfl | hq
      · exact ⟨hacc, Ne.symm hLne.2, hD₀⟩
      · exact ⟨old _ _ (N q hq).1, (N q hq).2⟩
  exact codeAny_compStart_list (loop _ rfl) (hself _ _ _ _ (W.frame _ _ _ hst fun b _ o e => old b o e) (loop _ rfl))

/-- what the iterator must bring for the block above, and what comes out -/
def ReadyO (prog : Program) (w : World) (A : Around) (h₀ : Heap) (L : Addr) (m : Str → Option Value) (env : Env) (c? : Option Expr) (elt target : Expr) (scope : Scope) (cl : List (Str × Addr)) (Q : Value → Shared → Prop) (it : Value) (s₂ : Shared) : Prop :=
  ∀ X : Prop, (∀ (I : Addr) (fp wr : List Addr) (n : Nat) (P Md : Nat → Value → Heap → Prop) (St : Nat → Heap → Prop) (news : List (Addr × Obj)) (p : Nat → Bool) (g : Nat → Int) (Bnd : Nat → (Str → Option Value) → Prop),
    (it = .ref I) →
    (KTurns prog w A target I fp wr n P Md St) →
    (n ≤ sizeLine) →
    ((∀ h tk (Q : Value → Shared → Prop) (E' : Value → Shared → Prop), St 0 h → Q (.ref I) { s₂ with heap := h, toks := tk } → wpAny (model prog w) A (pyIter (.ref I)) Q E' { s₂ with heap := h, toks := tk })) →
    (St 0 s₂.heap) →
    ((∀ b ∈ fp, b < s₂.heap.objs.size)) →
    (Fr h₀ L s₂.heap m) →
    (News h₀ L s₂.heap news) →
    (L ∉ wr) →
    ((∀ b ∈ wr, h₀.get? b = none)) →
    ((∀ q ∈ news, q.1 ∉ wr)) →
    ((∀ i v C h tk mC (Q : Unit → Shared → Prop) (E' : Value → Shared → Prop), i < n → P i v h → h.Ns C mC → (∀ mC' h' tk', Bnd i mC' → h'.Ns C mC' → (∀ b o, b ≠ C → h.get? b = some o → h'.get? b = some o) → Q () { s₂ with heap := h', toks := tk' }) → wpAny (model prog w) A (assign target (compEnvC scope cl C env) v) Q E' { s₂ with heap := h, toks := tk })) →
    ((∀ c, c? = some c → ∀ i C D oC ys mC h tk (E' : Value → Shared → Prop), i < n → Bnd i mC → LCg.NsObj oC mC → IntsAre ys (gath p g i) → Fr h₀ L h m → News h₀ L h ((C, oC) :: (D, LCg.lst ys) :: news) → D < C → (∀ q ∈ news, q.1 < D) → wpAny (model prog w) A (isTrue c (compEnvC scope cl C env) (eval c (compEnvC scope cl C env))) (fun ok s₃ => ok = p i ∧ ∃ h' tk', s₃ = { s₂ with heap := h', toks := tk' } ∧ InElt h h') E' { s₂ with heap := h, toks := tk })) →
    ((c? = none → ∀ i, p i = true)) →
    ((∀ i C D oC ys mC h tk (E' : Value → Shared → Prop), i < n → p i = true → Bnd i mC → LCg.NsObj oC mC → IntsAre ys (gath p g i) → Fr h₀ L h m → News h₀ L h ((C, oC) :: (D, LCg.lst ys) :: news) → D < C → (∀ q ∈ news, q.1 < D) → wpAny (model prog w) A (eval elt (compEnvC scope cl C env)) (fun y s₃ => (∃ t, y = .int (g i) t) ∧ ∃ h' tk', s₃ = { s₂ with heap := h', toks := tk' } ∧ InElt h h') E' { s₂ with heap := h, toks := tk })) →
    (∀ D h tk ys, Fr h₀ L h m → News h₀ L h ((D, LCg.lst ys) :: news) → (∀ q ∈ news, q.1 < D) → IntsAre ys (gath p g n) → Q (.ref D) { s₂ with heap := h, toks := tk }) → X) → X

theorem ListCompO (c? : Option Expr) (_F : Fr h₀ L s.heap m) {elt target iter : Expr} {scope : Scope} {cl : List (Str × Addr)} {pos : Pos} {Q : Value → Shared → Prop}
    (hclos : closureFor scope env = pure cl) (hcell : ∀ y ∈ scope.names, y.2 ≠ .cell) (hkind : scope.kind = .function)
    (hnames : ∀ y ∈ scope.names, y.2 = .local → scope.names.lookup y.1 = some .local)
    (h : wpAny (model prog w) A (eval iter env) (fun xv s₁ => wpAny (model prog w) A (pyIter xv) (fun it s₂ => ReadyO prog w A h₀ L m env c? elt target scope cl Q it s₂) E s₁) E s)
    (hs : ∀ x, foldedSetIterable iter env x = pure x := by intro _; rfl) :
    wpAny (model prog w) A (eval (.ListComp elt [⟨target, iter, c?.toList, 0⟩] scope pos) env) Q E s := by
  rw [eval_ListComp]
  refine wpAny_comprehension_free (use := none) rfl hs hclos hkind hnames (wpAny_mono h (fun xv s₁ h₁ => wpAny_mono h₁ (fun it s₂ h₂ => ?_) fun _ _ e => e) fun _ _ e => e)
  refine h₂ _ ?_
  intro I fp wr n P Md St news p g Bnd e W hsz hself hst hfp F N hLw hw₀ off hasg htest hnone helt fin
  subst e
  refine blockO c? p g Bnd W hsz hself hcell hkind hst hfp F N hLw hw₀ off hasg htest hnone helt ?_
  intro D C h' tk mC ys F' N' hn hC₀ hD₀ hCL hDL hCD offC hlt hys
  refine ⟨mC, hn, fun h'' hs'' => fin D h'' tk ys (F'.change hs'' hCL hC₀) (fun q hq => ?_) hlt hys⟩
  refine ⟨hs''.extBut _ _ ?_ (N' q hq).1, (N' q hq).2⟩
  rcases List.mem_cons.mp hq with rfl | hq
  · exact Ne.symm hCD
  · exact offC q hq

theorem getD_of {vs : List Value} {ns : List Int} (hi : IntsAre vs ns) {i : Nat} {x : Value} (hx : vs[i]? = some x) : ∃ t, x = .int (ns.getD i 0) t := by
  obtain ⟨k, t, e, hk⟩ := IntsAre.at hi i x hx
  exact ⟨t, by rw [e]; simp [List.getD, hk]⟩

/-- enumerate over a list of ints of the ledger -/
theorem ready_enum (c? : Option Expr) {elt : Expr} {xa xb : Str} {pa pb tp : Pos} {kk : Nat} {scope : Scope} {cl : List (Str × Addr)} {Q : Value → Shared → Prop} {l : Addr} {vs : List Value} {ns : List Int} {k : Nat} {news : List (Addr × Obj)}
    (p : Nat → Bool) (g : Nat → Int)
    (hh : A.handled = none) (hkind : scope.kind = .function) (hxa : scope.names.lookup xa = some .local) (hxb : scope.names.lookup xb = some .local) (hab : xa ≠ xb)
    (F : Fr h₀ L s.heap m) (N : News h₀ L s.heap news) (hm : (l, listOf vs.toArray k) ∈ news) (hi : IntsAre vs ns) (hsz : ns.length ≤ sizeLine)
    (htest : ∀ c, c? = some c → ∀ i C D oC ys mC h tk (E' : Value → Shared → Prop), i < ns.length → (∃ t, mC xa = some (.int (i : Int) t)) → (∃ t, mC xb = some (.int (ns.getD i 0) t)) → LCg.NsObj oC mC → IntsAre ys (gath p g i) → Fr h₀ L h m → News h₀ L h ((C, oC) :: (D, LCg.lst ys) :: news) → D < C → (∀ q ∈ news, q.1 < D) →
      wpAny (model prog w) A (isTrue c (compEnvC scope cl C env) (eval c (compEnvC scope cl C env))) (fun ok s₃ => ok = p i ∧ ∃ h' tk', s₃ = { s with heap := h', toks := tk' } ∧ InElt h h') E' { s with heap := h, toks := tk })
    (hnone : c? = none → ∀ i, p i = true)
    (helt : ∀ i C D oC ys mC h tk (E' : Value → Shared → Prop), i < ns.length → p i = true → (∃ t, mC xa = some (.int (i : Int) t)) → (∃ t, mC xb = some (.int (ns.getD i 0) t)) → LCg.NsObj oC mC → IntsAre ys (gath p g i) → Fr h₀ L h m → News h₀ L h ((C, oC) :: (D, LCg.lst ys) :: news) → D < C → (∀ q ∈ news, q.1 < D) →
      wpAny (model prog w) A (eval elt (compEnvC scope cl C env)) (fun y s₃ => (∃ t, y = .int (g i) t) ∧ ∃ h' tk', s₃ = { s with heap := h', toks := tk' } ∧ InElt h h') E' { s with heap := h, toks := tk })
    (fin : ∀ D h tk ys, Fr h₀ L h m → News h₀ L h ((D, LCg.lst ys) :: news) → (∀ q ∈ news, q.1 < D) → IntsAre ys (gath p g ns.length) → Q (.ref D) { s with heap := h, toks := tk }) :
    wpAny (model prog w) A (call (.type "enumerate") [.ref l]) (fun xv s₁ => wpAny (model prog w) A (pyIter xv) (fun it s₂ => ReadyO prog w A h₀ L m env c? elt (.Tuple [.Name xa pa, .Name xb pb] kk tp) scope cl Q it s₂) E s₁) E s := by
  have hax := N _ hm
  have hl : s.heap.IsList l vs.toArray := ⟨_, hax.1, rfl, k, rfl⟩
  have hlt : l < s.heap.objs.size := Heap.lt_size hax.1
  have hLs : L < s.heap.objs.size := F.ns.lt
  have hlen : vs.toArray.size = ns.length := by rw [List.size_toArray]; exact hi.length
  refine call_enumerate_list hl fun h' hE hI hsz' hk => ?_
  refine wpAny_pyIter_enum hE ?_
  refine fun X kX => kX (s.heap.objs.size + 1) _ _ vs.toArray.size _ _ _ news p g (fun i mC => (∃ t, mC xa = some (.int (i : Int) t)) ∧ ∃ t, mC xb = some (.int (ns.getD i 0) t)) rfl (KTurns.ofWalksU (WalksT.enumerate hh (s.heap.objs.size + 1) s.heap.objs.size l (Nat.succ_ne_self _) (Nat.ne_of_lt (Nat.lt_succ_of_lt hlt)) (Nat.ne_of_lt hlt) vs.toArray).toU) (hlen ▸ hsz) ?_ ⟨⟨_, hE⟩, hI, hl.at fun o e => hk l o e⟩ ?_ (F.keeps hk) (N.grown hk) ?_ ?_ ?_ ?_ ?_ hnone ?_ ?_
  · rintro h tk Q E' ⟨⟨old, he⟩, _⟩ hQ
    exact wpAny_pyIter_enum he hQ
  · intro b hb
    show b < h'.objs.size
    have hb' : b = s.heap.objs.size + 1 ∨ b = s.heap.objs.size ∨ b = l := by simpa using hb
    rw [hsz']
    rcases hb' with rfl | rfl | rfl
    · exact Nat.lt_succ_self _
    · exact Nat.lt_succ_of_lt (Nat.lt_succ_self _)
    · exact Nat.lt_succ_of_lt (Nat.lt_succ_of_lt hlt)
  · intro hb
    have hb' : L = s.heap.objs.size + 1 ∨ L = s.heap.objs.size := by simpa using hb
    rcases hb' with e | e
    · exact absurd hLs (by rw [e]; exact Nat.not_lt.mpr (Nat.le_succ _))
    · exact absurd hLs (by rw [e]; exact Nat.lt_irrefl _)
  · intro b hb
    have hb' : b = s.heap.objs.size + 1 ∨ b = s.heap.objs.size := by simpa using hb
    rcases hb' with rfl | rfl
    · exact ktu_new F (Nat.le_add_right _ _)
    · exact ktu_new F (Nat.le_refl _)
  · intro q hq hb
    have hq' := Heap.lt_size (N q hq).1
    have hb' : q.1 = s.heap.objs.size + 1 ∨ q.1 = s.heap.objs.size := by simpa using hb
    rcases hb' with e | e
    · exact absurd hq' (by rw [e]; exact Nat.not_lt.mpr (Nat.le_succ _))
    · exact absurd hq' (by rw [e]; exact Nat.lt_irrefl _)
  · rintro i v C h tk mC Q E' hin ⟨T, vals, rfl, ⟨t, x, hx, rfl⟩, hT⟩ hn hQ
    obtain ⟨tx, rfl⟩ := getD_of hi (i := i) (x := x) (by simpa using hx)
    refine kcp_assign (s := { s with heap := h, toks := tk }) hh hT (lookup_relabel_local hxa) (lookup_relabel_local hxb) (by simp [compEnvC, relabel, hkind]) hn fun h₁ tk₁ hn₁ hk₁ => ?_
    exact hQ _ h₁ tk₁ ⟨⟨t, by simp [hab]⟩, ⟨tx, by simp⟩⟩ hn₁ hk₁
  · intro c hc i C D oC ys mC h tk E' hin hB
    exact htest c hc i C D oC ys mC h tk E' (hlen ▸ hin) hB.1 hB.2
  · intro i C D oC ys mC h tk E' hin hp hB
    exact helt i C D oC ys mC h tk E' (hlen ▸ hin) hp hB.1 hB.2
  · intro D h tk ys F' N' hlt' hys
    exact fin D h tk ys F' N' hlt' (hlen ▸ hys)

/-- a list of ints of the ledger -/
theorem ready_list (c? : Option Expr) {elt : Expr} {xa : Str} {pa : Pos} {scope : Scope} {cl : List (Str × Addr)} {Q : Value → Shared → Prop} {l : Addr} {vs : List Value} {ns : List Int} {k : Nat} {news : List (Addr × Obj)}
    (p : Nat → Bool) (g : Nat → Int)
    (hh : A.handled = none) (hkind : scope.kind = .function) (hxa : scope.names.lookup xa = some .local)
    (F : Fr h₀ L s.heap m) (N : News h₀ L s.heap news) (hm : (l, listOf vs.toArray k) ∈ news) (hi : IntsAre vs ns) (hsz : ns.length ≤ sizeLine)
    (htest : ∀ c, c? = some c → ∀ i C D oC ys mC h tk (E' : Value → Shared → Prop), i < ns.length → (∃ t, mC xa = some (.int (ns.getD i 0) t)) → LCg.NsObj oC mC → IntsAre ys (gath p g i) → Fr h₀ L h m → News h₀ L h ((C, oC) :: (D, LCg.lst ys) :: news) → D < C → (∀ q ∈ news, q.1 < D) →
      wpAny (model prog w) A (isTrue c (compEnvC scope cl C env) (eval c (compEnvC scope cl C env))) (fun ok s₃ => ok = p i ∧ ∃ h' tk', s₃ = { s with heap := h', toks := tk' } ∧ InElt h h') E' { s with heap := h, toks := tk })
    (hnone : c? = none → ∀ i, p i = true)
    (helt : ∀ i C D oC ys mC h tk (E' : Value → Shared → Prop), i < ns.length → p i = true → (∃ t, mC xa = some (.int (ns.getD i 0) t)) → LCg.NsObj oC mC → IntsAre ys (gath p g i) → Fr h₀ L h m → News h₀ L h ((C, oC) :: (D, LCg.lst ys) :: news) → D < C → (∀ q ∈ news, q.1 < D) →
      wpAny (model prog w) A (eval elt (compEnvC scope cl C env)) (fun y s₃ => (∃ t, y = .int (g i) t) ∧ ∃ h' tk', s₃ = { s with heap := h', toks := tk' } ∧ InElt h h') E' { s with heap := h, toks := tk })
    (fin : ∀ D h tk ys, Fr h₀ L h m → News h₀ L h ((D, LCg.lst ys) :: news) → (∀ q ∈ news, q.1 < D) → IntsAre ys (gath p g ns.length) → Q (.ref D) { s with heap := h, toks := tk }) :
    wpAny (model prog w) A (pyIter (.ref l)) (fun it s₂ => ReadyO prog w A h₀ L m env c? elt (.Name xa pa) scope cl Q it s₂) E s := by
  have hax := N _ hm
  have hl : s.heap.IsList l vs.toArray := ⟨_, hax.1, rfl, k, rfl⟩
  have hlt : l < s.heap.objs.size := Heap.lt_size hax.1
  have hLs : L < s.heap.objs.size := F.ns.lt
  have hlen : vs.toArray.size = ns.length := by rw [List.size_toArray]; exact hi.length
  have hk : ∀ b o, s.heap.get? b = some o → (s.heap.push { cls := .type "list_iterator", data := .fields #[.ref l, .int 0 0] }).get? b = some o := fun b o e => Heap.get?_push_of_some _ e
  refine wpAny_pyIter_list hl ?_
  refine fun X kX => kX s.heap.objs.size _ _ vs.toArray.size _ _ _ news p g (fun i mC => ∃ t, mC xa = some (.int (ns.getD i 0) t)) rfl (KTurns.ofWalks (Walks.list hh s.heap.objs.size l (Nat.ne_of_lt hlt) vs.toArray) (fun i v s' Q E st q => letGo_listiter st.1 q)) (hlen ▸ hsz) ?_ ⟨⟨_, Heap.get?_push_size _ rfl, rfl, rfl⟩, hl.at fun o e => hk l o e⟩ ?_ (F.keeps hk) (N.grown hk) ?_ ?_ ?_ ?_ ?_ hnone ?_ ?_
  · rintro h tk Q E' ⟨hit, _⟩ hQ
    exact wpAny_pyIter_listiter hit hQ
  · intro b hb
    have hb' : b = s.heap.objs.size ∨ b = l := by simpa using hb
    show b < (s.heap.push _).objs.size
    rw [Heap.size_push]
    rcases hb' with rfl | rfl
    · exact Nat.lt_succ_self _
    · exact Nat.lt_succ_of_lt hlt
  · intro hb
    have hb' : L = s.heap.objs.size := by simpa using hb
    exact absurd hLs (by rw [hb']; exact Nat.lt_irrefl _)
  · intro b hb
    have hb' : b = s.heap.objs.size := by simpa using hb
    rw [hb']; exact next_is_new F
  · intro q hq hb
    have hq' := Heap.lt_size (N q hq).1
    have hb' : q.1 = s.heap.objs.size := by simpa using hb
    exact absurd hq' (by rw [hb']; exact Nat.lt_irrefl _)
  · intro i v C h tk mC Q E' hin hx hn hQ
    obtain ⟨tx, rfl⟩ := getD_of hi (i := i) (x := v) (by simpa using hx)
    refine wpAny_assign_Name (wpAny_storeName_local (env := compEnvC scope cl C env) (lookup_relabel_local hxa) hn (fun h₁ hn₁ hs₁ => ?_) (by simp [compEnvC, relabel, hkind]))
    exact hQ _ h₁ _ ⟨tx, by simp⟩ hn₁ fun b o hb e => hs₁.extBut b o hb e
  · intro c hc i C D oC ys mC h tk E' hin hB
    exact htest c hc i C D oC ys mC h tk E' (hlen ▸ hin) hB
  · intro i C D oC ys mC h tk E' hin hp hB
    exact helt i C D oC ys mC h tk E' (hlen ▸ hin) hp hB
  · intro D h tk ys F' N' hlt' hys
    exact fin D h tk ys F' N' hlt' (hlen ▸ hys)

/-- range(n) -/
theorem ready_range (c? : Option Expr) {elt : Expr} {xa : Str} {pa : Pos} {scope : Scope} {cl : List (Str × Addr)} {Q : Value → Shared → Prop} {r : Addr} {b₁ : Int} {t₀ u₀ v₀ : Tok} {n : Nat} {news : List (Addr × Obj)}
    (p : Nat → Bool) (g : Nat → Int)
    (hh : A.handled = none) (hkind : scope.kind = .function) (hxa : scope.names.lookup xa = some .local)
    (F : Fr h₀ L s.heap m) (N : News h₀ L s.heap news) (hr : IsRange s.heap r 0 b₁ 1 t₀ u₀ v₀) (hsmall : Builtin.Range.small 0 b₁ 1 = true) (hn : Builtin.Range.rangeSize 0 b₁ 1 = (n : Int)) (hsz : n ≤ sizeLine)
    (htest : ∀ c, c? = some c → ∀ i C D oC ys mC h tk (E' : Value → Shared → Prop), i < n → (∃ t, mC xa = some (.int (i : Int) t)) → LCg.NsObj oC mC → IntsAre ys (gath p g i) → Fr h₀ L h m → News h₀ L h ((C, oC) :: (D, LCg.lst ys) :: news) → D < C → (∀ q ∈ news, q.1 < D) →
      wpAny (model prog w) A (isTrue c (compEnvC scope cl C env) (eval c (compEnvC scope cl C env))) (fun ok s₃ => ok = p i ∧ ∃ h' tk', s₃ = { s with heap := h', toks := tk' } ∧ InElt h h') E' { s with heap := h, toks := tk })
    (hnone : c? = none → ∀ i, p i = true)
    (helt : ∀ i C D oC ys mC h tk (E' : Value → Shared → Prop), i < n → p i = true → (∃ t, mC xa = some (.int (i : Int) t)) → LCg.NsObj oC mC → IntsAre ys (gath p g i) → Fr h₀ L h m → News h₀ L h ((C, oC) :: (D, LCg.lst ys) :: news) → D < C → (∀ q ∈ news, q.1 < D) →
      wpAny (model prog w) A (eval elt (compEnvC scope cl C env)) (fun y s₃ => (∃ t, y = .int (g i) t) ∧ ∃ h' tk', s₃ = { s with heap := h', toks := tk' } ∧ InElt h h') E' { s with heap := h, toks := tk })
    (fin : ∀ D h tk ys, Fr h₀ L h m → News h₀ L h ((D, LCg.lst ys) :: news) → (∀ q ∈ news, q.1 < D) → IntsAre ys (gath p g n) → Q (.ref D) { s with heap := h, toks := tk }) :
    wpAny (model prog w) A (pyIter (.ref r)) (fun it s₂ => ReadyO prog w A h₀ L m env c? elt (.Name xa pa) scope cl Q it s₂) E s := by
  have hLs : L < s.heap.objs.size := F.ns.lt
  refine wpAny_pyIter_range hr hsmall ?_
  have W := PyProof.Rows.LCg.range_walks (prog := prog) (w := w) (A := A) (I := s.heap.objs.size) hh 0 n
  have hk : ∀ (o' : Obj) b o, s.heap.get? b = some o → (s.heap.push o').get? b = some o := fun o' b o e => Heap.get?_push_of_some _ e
  refine fun X kX => kX s.heap.objs.size _ _ n _ _ _ news p g (fun i mC => ∃ t, mC xa = some (.int (i : Int) t)) rfl (KTurns.ofWalks W (fun i v s' Q E st q => ?_)) hsz ?_ ?_ ?_ (F.keeps (hk _)) (N.grown (hk _)) ?_ ?_ ?_ ?_ ?_ hnone ?_ ?_
  · show wpAny _ _ (pure ()) _ _ _
    exact wpAny_pure q
  · intro h tk Q E' hit hQ
    exact wpAny_pyIter_rangeiter hit hQ
  · show IsRangeIter _ _ _ _ _
    rw [hn]; simpa using Heap.get?_push_size _ rfl
  · intro b hb
    have hb' : b = s.heap.objs.size := by simpa using hb
    show b < (s.heap.push _).objs.size
    rw [Heap.size_push, hb']
    exact Nat.lt_succ_self _
  · intro hb
    have hb' : L = s.heap.objs.size := by simpa using hb
    exact absurd hLs (by rw [hb']; exact Nat.lt_irrefl _)
  · intro b hb
    have hb' : b = s.heap.objs.size := by simpa using hb
    rw [hb']; exact next_is_new F
  · intro q hq hb
    have hq' := Heap.lt_size (N q hq).1
    have hb' : q.1 = s.heap.objs.size := by simpa using hb
    exact absurd hq' (by rw [hb']; exact Nat.lt_irrefl _)
  · rintro i v C h tk mC Q E' hin ⟨tx, rfl⟩ hn hQ
    refine wpAny_assign_Name (wpAny_storeName_local (env := compEnvC scope cl C env) (lookup_relabel_local hxa) hn (fun h₁ hn₁ hs₁ => ?_) (by simp [compEnvC, relabel, hkind]))
    exact hQ _ h₁ _ ⟨tx, by simp⟩ hn₁ fun b o hb e => hs₁.extBut b o hb e
  · intro c hc i C D oC ys mC h tk E' hin hB
    exact htest c hc i C D oC ys mC h tk E' hin hB
  · intro i C D oC ys mC h tk E' hin hp hB
    exact helt i C D oC ys mC h tk E' hin hp hB
  · intro D h tk ys F' N' hlt' hys
    exact fin D h tk ys F' N' hlt' hys
end
end Mine
namespace Mine
open PySem.Calls PyProof.V PySem.Spec
section
variable {prog : Program} {w : World} {A : Around} {E : Value → Shared → Prop} {s : Shared} {h₀ : Heap} {L : Addr} {m : Str → Option Value} {env : Env}

/-- what the iterator must bring for the block above, and what comes out -/
def ReadyA (prog : Program) (w : World) (A : Around) (h₀ : Heap) (L : Addr) (m : Str → Option Value) (env : Env) (c? : Option Expr) (elt target : Expr) (scope : Scope) (cl : List (Str × Addr)) (y : Str) (Q : Flow → Shared → Prop) (it : Value) (s₂ : Shared) : Prop :=
  ∀ X : Prop, (∀ (I : Addr) (fp wr : List Addr) (n : Nat) (P Md : Nat → Value → Heap → Prop) (St : Nat → Heap → Prop) (news : List (Addr × Obj)) (p : Nat → Bool) (g : Nat → Int) (Bnd : Nat → (Str → Option Value) → Prop),
    (it = .ref I) →
    (KTurns prog w A target I fp wr n P Md St) →
    (n ≤ sizeLine) →
    ((∀ h tk (Q : Value → Shared → Prop) (E' : Value → Shared → Prop), St 0 h → Q (.ref I) { s₂ with heap := h, toks := tk } → wpAny (model prog w) A (pyIter (.ref I)) Q E' { s₂ with heap := h, toks := tk })) →
    (St 0 s₂.heap) →
    ((∀ b ∈ fp, b < s₂.heap.objs.size)) →
    (Fr h₀ L s₂.heap m) →
    (News h₀ L s₂.heap news) →
    (L ∉ wr) →
    ((∀ b ∈ wr, h₀.get? b = none)) →
    ((∀ q ∈ news, q.1 ∉ wr)) →
    ((∀ i v C h tk mC (Q : Unit → Shared → Prop) (E' : Value → Shared → Prop), i < n → P i v h → h.Ns C mC → (∀ mC' h' tk', Bnd i mC' → h'.Ns C mC' → (∀ b o, b ≠ C → h.get? b = some o → h'.get? b = some o) → Q () { s₂ with heap := h', toks := tk' }) → wpAny (model prog w) A (assign target (compEnvC scope cl C env) v) Q E' { s₂ with heap := h, toks := tk })) →
    ((∀ c, c? = some c → ∀ i C D oC ys mC h tk (E' : Value → Shared → Prop), i < n → Bnd i mC → LCg.NsObj oC mC → IntsAre ys (gath p g i) → Fr h₀ L h m → News h₀ L h ((C, oC) :: (D, LCg.lst ys) :: news) → D < C → (∀ q ∈ news, q.1 < D) → wpAny (model prog w) A (isTrue c (compEnvC scope cl C env) (eval c (compEnvC scope cl C env))) (fun ok s₃ => ok = p i ∧ ∃ h' tk', s₃ = { s₂ with heap := h', toks := tk' } ∧ InElt h h') E' { s₂ with heap := h, toks := tk })) →
    ((c? = none → ∀ i, p i = true)) →
    ((∀ i C D oC ys mC h tk (E' : Value → Shared → Prop), i < n → p i = true → Bnd i mC → LCg.NsObj oC mC → IntsAre ys (gath p g i) → Fr h₀ L h m → News h₀ L h ((C, oC) :: (D, LCg.lst ys) :: news) → D < C → (∀ q ∈ news, q.1 < D) → wpAny (model prog w) A (eval elt (compEnvC scope cl C env)) (fun y s₃ => (∃ t, y = .int (g i) t) ∧ ∃ h' tk', s₃ = { s₂ with heap := h', toks := tk' } ∧ InElt h h') E' { s₂ with heap := h, toks := tk })) →
    (∀ D h tk ys, Fr h₀ L h (fun z => if z = y then some (.ref D) else m z) → News h₀ L h ((D, LCg.lst ys) :: news) → (∀ q ∈ news, q.1 < D) → IntsAre ys (gath p g n) → Q .next { s₂ with heap := h, toks := tk }) → X) → X

theorem Assign_ListCompO (c? : Option Expr) (_F : Fr h₀ L s.heap m) {elt target iter : Expr} {y : Str} {py : Pos} {scope : Scope} {cl : List (Str × Addr)} {pos spos : Pos} {Q : Flow → Shared → Prop} (hLe : env.locals = L)
    (hsw : swapsWith (.ListComp elt [⟨target, iter, c?.toList, 0⟩] scope pos) (some (.Name y py)) spos.line env = pure true)
    (hclos : closureFor scope env = pure cl) (hcell : ∀ y ∈ scope.names, y.2 ≠ .cell) (hkind : scope.kind = .function)
    (hnames : ∀ y ∈ scope.names, y.2 = .local → scope.names.lookup y.1 = some .local)
    (hy : env.kindOf y = some .local) (hp : (env.scope.kind == .class || (env.scope.kind == .module && env.locals != env.globals)) = false)
    (h : wpAny (model prog w) A (eval iter env) (fun xv s₁ => wpAny (model prog w) A (pyIter xv) (fun it s₂ => ReadyA prog w A h₀ L m env c? elt target scope cl y Q it s₂) E s₁) E s)
    (hs : ∀ x, foldedSetIterable iter env x = pure x := by intro _; rfl) :
    wpAny (model prog w) A (exec (.Assign [.Name y py] (.ListComp elt [⟨target, iter, c?.toList, 0⟩] scope pos) spos) env) Q E s := by
  subst hLe
  rw [exec_Assign_Name_used _ _ _ _ hsw]
  refine wpAny_bind (wpAny_standAt (wpAny_bind ?_))
  show wpAny _ A (do let _ ← comprehension (.ListComp elt [⟨target, iter, c?.toList, 0⟩] scope pos) scope env _ (newList []) false (eval iter env) (some (assign (.Name y py) env))) _ _ s
  refine wpAny_bind (wpAny_mono (wpAny_comprehension_free (use := some (assign (.Name y py) env)) (Q := fun _ s' => Q .next s') rfl hs hclos hkind hnames
    (wpAny_mono h (fun xv s₁ h₁ => wpAny_mono h₁ (fun it s₂ h₂ => ?_) fun _ _ e => e) fun _ _ e => e)) (fun _ s' hq => wpAny_pure (wpAny_pure hq)) fun _ _ e => e)
  refine h₂ _ ?_
  intro I fp wr n P Md St news p g Bnd e W hsz hself hst hfp F N hLw hw₀ off hasg htest hnone helt fin
  subst e
  refine blockO c? p g Bnd W hsz hself hcell hkind hst hfp F N hLw hw₀ off hasg htest hnone helt ?_
  intro D C h' tk mC ys F' N' hn hC₀ hD₀ hCL hDL hCD offC hlt hys
  show wpAny _ A (assign (.Name y py) env (.ref D)) _ _ _
  refine wpAny_assign_Name (wpAny_storeName_local hy F'.ns (fun h₂ hn₂ hs₂ => ?_) hp)
  have hL₀ : h₀.get? env.locals = none := Heap.get?_none_of_le F'.above
  have F₂ : Fr h₀ env.locals h₂ (fun z => if z = y then some (.ref D) else m z) := ⟨hn₂, fun b o e => hs₂.extBut b o (fun q => by rw [q, hL₀] at e; cases e) (F'.keep b o e), F'.above⟩
  refine ⟨mC, hn.sameBut hs₂ hCL, fun h'' hs'' => fin D h'' _ ys (F₂.change hs'' hCL hC₀) (fun q hq => ?_) hlt hys⟩
  have z : h₂.get? q.1 = some q.2 := hs₂.extBut _ _ (N' q hq).2.1 (N' q hq).1
  refine ⟨hs''.extBut _ _ ?_ z, (N' q hq).2⟩
  rcases List.mem_cons.mp hq with rfl | hq
  · exact Ne.symm hCD
  · exact offC q hq

/-- range(n) -/
theorem ready_rangeA (c? : Option Expr) {elt : Expr} {xa : Str} {pa : Pos} {scope : Scope} {cl : List (Str × Addr)} {y : Str} {Q : Flow → Shared → Prop} {r : Addr} {b₁ : Int} {t₀ u₀ v₀ : Tok} {n : Nat} {news : List (Addr × Obj)}
    (p : Nat → Bool) (g : Nat → Int)
    (hh : A.handled = none) (hkind : scope.kind = .function) (hxa : scope.names.lookup xa = some .local)
    (F : Fr h₀ L s.heap m) (N : News h₀ L s.heap news) (hr : IsRange s.heap r 0 b₁ 1 t₀ u₀ v₀) (hsmall : Builtin.Range.small 0 b₁ 1 = true) (hn : Builtin.Range.rangeSize 0 b₁ 1 = (n : Int)) (hsz : n ≤ sizeLine)
    (htest : ∀ c, c? = some c → ∀ i C D oC ys mC h tk (E' : Value → Shared → Prop), i < n → (∃ t, mC xa = some (.int (i : Int) t)) → LCg.NsObj oC mC → IntsAre ys (gath p g i) → Fr h₀ L h m → News h₀ L h ((C, oC) :: (D, LCg.lst ys) :: news) → D < C → (∀ q ∈ news, q.1 < D) →
      wpAny (model prog w) A (isTrue c (compEnvC scope cl C env) (eval c (compEnvC scope cl C env))) (fun ok s₃ => ok = p i ∧ ∃ h' tk', s₃ = { s with heap := h', toks := tk' } ∧ InElt h h') E' { s with heap := h, toks := tk })
    (hnone : c? = none → ∀ i, p i = true)
    (helt : ∀ i C D oC ys mC h tk (E' : Value → Shared → Prop), i < n → p i = true → (∃ t, mC xa = some (.int (i : Int) t)) → LCg.NsObj oC mC → IntsAre ys (gath p g i) → Fr h₀ L h m → News h₀ L h ((C, oC) :: (D, LCg.lst ys) :: news) → D < C → (∀ q ∈ news, q.1 < D) →
      wpAny (model prog w) A (eval elt (compEnvC scope cl C env)) (fun y s₃ => (∃ t, y = .int (g i) t) ∧ ∃ h' tk', s₃ = { s with heap := h', toks := tk' } ∧ InElt h h') E' { s with heap := h, toks := tk })
    (fin : ∀ D h tk ys, Fr h₀ L h (fun z => if z = y then some (.ref D) else m z) → News h₀ L h ((D, LCg.lst ys) :: news) → (∀ q ∈ news, q.1 < D) → IntsAre ys (gath p g n) → Q .next { s with heap := h, toks := tk }) :
    wpAny (model prog w) A (pyIter (.ref r)) (fun it s₂ => ReadyA prog w A h₀ L m env c? elt (.Name xa pa) scope cl y Q it s₂) E s := by
  have hLs : L < s.heap.objs.size := F.ns.lt
  refine wpAny_pyIter_range hr hsmall ?_
  have W := PyProof.Rows.LCg.range_walks (prog := prog) (w := w) (A := A) (I := s.heap.objs.size) hh 0 n
  have hk : ∀ (o' : Obj) b o, s.heap.get? b = some o → (s.heap.push o').get? b = some o := fun o' b o e => Heap.get?_push_of_some _ e
  refine fun X kX => kX s.heap.objs.size _ _ n _ _ _ news p g (fun i mC => ∃ t, mC xa = some (.int (i : Int) t)) rfl (KTurns.ofWalks W (fun i v s' Q E st q => ?_)) hsz ?_ ?_ ?_ (F.keeps (hk _)) (N.grown (hk _)) ?_ ?_ ?_ ?_ ?_ hnone ?_ ?_
  · show wpAny _ _ (pure ()) _ _ _
    exact wpAny_pure q
  · intro h tk Q E' hit hQ
    exact wpAny_pyIter_rangeiter hit hQ
  · show IsRangeIter _ _ _ _ _
    rw [hn]; simpa using Heap.get?_push_size _ rfl
  · intro b hb
    have hb' : b = s.heap.objs.size := by simpa using hb
    show b < (s.heap.push _).objs.size
    rw [Heap.size_push, hb']
    exact Nat.lt_succ_self _
  · intro hb
    have hb' : L = s.heap.objs.size := by simpa using hb
    exact absurd hLs (by rw [hb']; exact Nat.lt_irrefl _)
  · intro b hb
    have hb' : b = s.heap.objs.size := by simpa using hb
    rw [hb']; exact next_is_new F
  · intro q hq hb
    have hq' := Heap.lt_size (N q hq).1
    have hb' : q.1 = s.heap.objs.size := by simpa using hb
    exact absurd hq' (by rw [hb']; exact Nat.lt_irrefl _)
  · rintro i v C h tk mC Q E' hin ⟨tx, rfl⟩ hn hQ
    refine wpAny_assign_Name (wpAny_storeName_local (env := compEnvC scope cl C env) (lookup_relabel_local hxa) hn (fun h₁ hn₁ hs₁ => ?_) (by simp [compEnvC, relabel, hkind]))
    exact hQ _ h₁ _ ⟨tx, by simp⟩ hn₁ fun b o hb e => hs₁.extBut b o hb e
  · intro c hc i C D oC ys mC h tk E' hin hB
    exact htest c hc i C D oC ys mC h tk E' hin hB
  · intro i C D oC ys mC h tk E' hin hp hB
    exact helt i C D oC ys mC h tk E' hin hp hB
  · intro D h tk ys F' N' hlt' hys
    exact fin D h tk ys F' N' hlt' hys
end
end Mine
namespace Mine
/-- out of omega's sight -/
def Hid (p : Prop) : Prop := p
theorem allLt_tl {d : Addr} {p : Addr × Obj} {l : List (Addr × Obj)} (x : AllLt d (p :: l)) : AllLt d l := x.2
theorem allLt_in {d a : Addr} {o : Obj} : ∀ {l : List (Addr × Obj)}, AllLt d l → (a, o) ∈ l → @LT.lt Nat _ a d
  | [], _, h => nomatch h
  | _ :: _, x, h => by
    rcases List.mem_cons.mp h with rfl | h
    · exact x.1
    · exact allLt_in x.2 h
theorem allLt_all {d : Addr} : ∀ {l : List (Addr × Obj)}, AllLt d l → ∀ p ∈ l, p.1 < d
  | [], _, _, h => nomatch h
  | _ :: _, x, _, h => by
    rcases List.mem_cons.mp h with rfl | h
    · exact x.1
    · exact allLt_all x.2 _ h
theorem all_in {d a : Addr} {o : Obj} {l : List (Addr × Obj)} (x : ∀ p ∈ l, p.1 < d) (h : (a, o) ∈ l) : @LT.lt Nat _ a d := x _ h
theorem lt_via {x d a : Addr} {o : Obj} {l : List (Addr × Obj)} (h1 : @LT.lt Nat _ d x) (h2 : AllLt d l) (h3 : (a, o) ∈ l) : @LT.lt Nat _ a x := Nat.lt_trans (allLt_in h2 h3) h1
theorem ne_in {d a : Addr} {o : Obj} {l : List (Addr × Obj)} (x : ∀ p ∈ l, @Ne Nat p.1 d) (h : (a, o) ∈ l) : @Ne Nat a d := x _ h
theorem off1_in {d a : Addr} {o : Obj} : ∀ {l : List (Addr × Obj)}, LCg.Off1 d l → (a, o) ∈ l → @Ne Nat a d
  | [], _, h => nomatch h
  | _ :: _, x, h => by
    rcases List.mem_cons.mp h with rfl | h
    · exact x.1
    · exact off1_in x.2 h

/-- the number that a row of limbs stands for -/
def val (b : Int) : List Int → Int
  | [] => 0
  | x :: r => x + b * val b r
def Lims (b : Int) (xs : List Int) : Prop := ∀ x ∈ xs, 0 ≤ x ∧ x < b

theorem val_append (b : Int) : ∀ xs ys, val b (xs ++ ys) = val b xs + b ^ xs.length * val b ys
  | [], ys => by simp [val]
  | x :: r, ys => by
    rw [List.cons_append, val, val, val_append b r ys, List.length_cons, Int.pow_succ]
    rw [Int.mul_add, ← Int.mul_assoc, Int.mul_comm b (b ^ r.length), Int.add_assoc]
theorem val_snoc (b : Int) (xs : List Int) (y : Int) : val b (xs ++ [y]) = val b xs + b ^ xs.length * y := by
  rw [val_append]; simp [val]
theorem Lims.snoc {b : Int} {xs : List Int} {y : Int} (h : Lims b xs) (h0 : 0 ≤ y) (h1 : y < b) : Lims b (xs ++ [y]) := by
  intro x hx
  rcases List.mem_append.mp hx with hx | hx
  · exact h x hx
  · rw [List.mem_singleton.mp hx]; exact ⟨h0, h1⟩
theorem Lims.getD {b : Int} {xs : List Int} (h : Lims b xs) (hb : 0 < b) (i : Nat) : 0 ≤ xs.getD i 0 ∧ xs.getD i 0 < b := by
  by_cases hi : i < xs.length
  · rw [List.getD_eq_getElem?_getD, List.getElem?_eq_getElem hi]; exact h _ (List.getElem_mem hi)
  · rw [List.getD_eq_getElem?_getD, List.getElem?_eq_none (by omega)]; exact ⟨Int.le_refl _, hb⟩
theorem val_nonneg {b : Int} (hb : 0 < b) : ∀ {xs : List Int}, Lims b xs → 0 ≤ val b xs
  | [], _ => by simp [val]
  | x :: r, h => by
    have h1 := (h x (.head _)).1
    have h2 := val_nonneg hb (xs := r) fun y hy => h y (.tail _ hy)
    have h3 := Int.mul_nonneg (Int.le_of_lt hb) h2
    unfold val; omega
theorem val_lt {b : Int} (hb : 0 < b) : ∀ {xs : List Int}, Lims b xs → val b xs < b ^ xs.length
  | [], _ => by simp [val]
  | x :: r, h => by
    have h1 := (h x (.head _)).2
    have h2 := val_lt hb (xs := r) fun y hy => h y (.tail _ hy)
    have h3 : b * (val b r + 1) ≤ b * b ^ r.length := Int.mul_le_mul_of_nonneg_left (by omega) (Int.le_of_lt hb)
    rw [List.length_cons, Int.pow_succ, Int.mul_comm]
    unfold val
    rw [Int.mul_add] at h3
    omega
theorem take_succ_getD (xs : List Int) {i : Nat} (h : i < xs.length) : xs.take (i + 1) = xs.take i ++ [xs.getD i 0] := by
  rw [List.take_add_one, List.getD_eq_getElem?_getD, List.getElem?_eq_getElem h]; rfl
theorem val_take_succ (b : Int) (xs : List Int) {i : Nat} (h : i < xs.length) : val b (xs.take (i + 1)) = val b (xs.take i) + b ^ i * xs.getD i 0 := by
  rw [take_succ_getD xs h, val_snoc, List.length_take, Nat.min_eq_left (Nat.le_of_lt h)]
theorem val_zeros (b : Int) : ∀ {xs : List Int}, (∀ x ∈ xs, x = 0) → val b xs = 0
  | [], _ => rfl
  | x :: r, h => by unfold val; rw [h x (.head _), val_zeros b fun y hy => h y (.tail _ hy)]; simp
theorem val_take (b : Int) {xs : List Int} {k : Nat} (h : ∀ x ∈ xs.drop k, x = 0) : val b (xs.take k) = val b xs := by
  have e := val_append b (xs.take k) (xs.drop k)
  rw [List.take_append_drop, val_zeros b h] at e
  rw [e]; simp

theorem gath_true_len (g : Nat → Int) : ∀ n, (gath (fun _ => true) g n).length = n
  | 0 => rfl
  | n + 1 => by
    show (if true = true then gath (fun _ => true) g n ++ [g n] else _).length = n + 1
    rw [if_pos rfl, List.length_append, gath_true_len g n]; rfl
theorem gath_true_succ (g : Nat → Int) (n : Nat) : gath (fun _ => true) g (n + 1) = gath (fun _ => true) g n ++ [g n] := by
  show (if true = true then gath (fun _ => true) g n ++ [g n] else _) = _
  rw [if_pos rfl]
theorem sum_snoc (l : List Int) (x : Int) : (l ++ [x]).sum = l.sum + x := by simp
theorem gath_sum (k : Nat) (xs : List Int) : ∀ n, n ≤ xs.length → (gath (fun _ => true) (fun i => xs.getD i 0 * 2 ^ (k * i)) n).sum = val (2 ^ k) (xs.take n)
  | 0, _ => by simp [gath, val]
  | n + 1, h => by
    rw [gath_true_succ, sum_snoc, gath_sum k xs n (by omega), val_take_succ _ _ (by omega), Int.pow_mul, Int.mul_comm (xs.getD n 0)]
theorem gath_val (k : Nat) (xs : List Int) : (gath (fun _ => true) (fun i => xs.getD i 0 * 2 ^ (k * i)) xs.length).sum = val (2 ^ k) xs := by
  rw [gath_sum k xs _ (Nat.le_refl _), List.take_length]

theorem fdiv0 {a b : Int} (ha : 0 ≤ a) (hb : 0 < b) : 0 ≤ a.fdiv b := by
  rw [Int.fdiv_eq_ediv_of_nonneg _ (by omega)]; exact Int.ediv_nonneg ha (by omega)
theorem fdivlt {a b c : Int} (hb : 0 < b) (h : a < c * b) : a.fdiv b < c := by
  rw [Int.fdiv_eq_ediv_of_nonneg _ (by omega)]
  exact (Int.ediv_lt_iff_lt_mul hb).mpr h
theorem fmod0 {a b : Int} (hb : 0 < b) : 0 ≤ a.fmod b := by
  rw [Int.fmod_eq_emod_of_nonneg _ (by omega)]; exact Int.emod_nonneg _ (by omega)
theorem fmod1 {a b : Int} (hb : 0 < b) : a.fmod b < b := by
  rw [Int.fmod_eq_emod_of_nonneg _ (by omega)]; exact Int.emod_lt_of_pos _ hb
theorem fdm {a b : Int} (hb : 0 < b) : a.fmod b + b * a.fdiv b = a := by
  rw [Int.fmod_eq_emod_of_nonneg _ (by omega), Int.fdiv_eq_ediv_of_nonneg _ (by omega)]
  have := Int.mul_ediv_add_emod a b
  omega
theorem band (c : Int) (k : Nat) : Builtin.bitAnd c (1 * 2 ^ k - 1) = c.fmod (2 ^ k) := by rw [Int.one_mul]; exact kbt_maskF c k
theorem two_pos (k : Nat) : (0 : Int) < 2 ^ k := Int.pow_pos (by decide)

/-- five sizes of a limb -/
theorem wd5 {wd : Int} (h1 : 4 ≤ wd) (h2 : wd ≤ 8) : wd.toNat = 4 ∨ wd.toNat = 5 ∨ wd.toNat = 6 ∨ wd.toNat = 7 ∨ wd.toNat = 8 := by omega
theorem pow16 {wd : Int} (h1 : 4 ≤ wd) (h2 : wd ≤ 8) : (16 : Int) ≤ 2 ^ wd.toNat ∧ (2 : Int) ^ wd.toNat ≤ 256 := by
  rcases wd5 h1 h2 with h | h | h | h | h <;> rw [h] <;> decide
end Mine
namespace Mine
theorem val_set (b : Int) : ∀ (f : List Int) {p : Nat} (v : Int), p < f.length → val b (f.set p v) = val b f + b ^ p * (v - f.getD p 0)
  | [], _, _, h => by simp at h
  | x :: r, 0, v, _ => by simp [val]; omega
  | x :: r, p + 1, v, h => by
    have ih := val_set b r (p := p) v (by simpa using h)
    rw [List.set_cons_succ, val, val, ih]
    have e : (x :: r).getD (p + 1) 0 = r.getD p 0 := by simp [List.getD]
    rw [e, Int.pow_succ, Int.mul_add, Int.mul_comm (b ^ p) b, Int.mul_assoc]
    omega
theorem getD_set_ne (f : List Int) {p k : Nat} (v : Int) (h : k ≠ p) : (f.set p v).getD k 0 = f.getD k 0 := by
  rw [List.getD_eq_getElem?_getD, List.getD_eq_getElem?_getD, List.getElem?_set_ne (Ne.symm h)]
theorem Lims.set {b : Int} {f : List Int} (h : Lims b f) (p : Nat) {v : Int} (h0 : 0 ≤ v) (h1 : v < b) : Lims b (f.set p v) := by
  intro x hx
  rcases List.mem_or_eq_of_mem_set hx with hx | rfl
  · exact h x hx
  · exact ⟨h0, h1⟩

/-- one inner turn of mul_school -/
def mstep (W : Nat) (x y : Int) (p : Nat) (st : List Int × Int) : List Int × Int :=
  (st.1.set p (Builtin.bitAnd (st.2 + (st.1.getD p 0 + x * y)) (1 * 2 ^ W - 1)), (st.2 + (st.1.getD p 0 + x * y)).fdiv (2 ^ W))
def minner (W : Nat) (x : Int) (i : Nat) : List Int → Nat → List Int × Int → List Int × Int
  | [], _, st => st
  | y :: r, j, st => minner W x i r (j + 1) (mstep W x y (i + j) st)
def mouter (W : Nat) (ys : List Int) : List Int → Nat → List Int → List Int
  | [], _, f => f
  | x :: r, i, f => mouter W ys r (i + 1) ((minner W x i ys 0 (f, 0)).1.set (i + ys.length) (minner W x i ys 0 (f, 0)).2)
def mulModel (W : Nat) (xs ys : List Int) : List Int := mouter W ys xs 0 (List.replicate (xs.length + ys.length) 0)

theorem mstep_ok {W : Nat} {x y c : Int} {p : Nat} {f : List Int} (hf : Lims (2 ^ W) f) (hp : p < f.length) (hx : 0 ≤ x ∧ x < 2 ^ W) (hy : 0 ≤ y ∧ y < 2 ^ W) (hc : 0 ≤ c ∧ c < 2 ^ W) :
    Lims (2 ^ W) (mstep W x y p (f, c)).1 ∧ (mstep W x y p (f, c)).1.length = f.length ∧ (0 ≤ (mstep W x y p (f, c)).2 ∧ (mstep W x y p (f, c)).2 < 2 ^ W) ∧
    val (2 ^ W) (mstep W x y p (f, c)).1 + (2 ^ W) ^ (p + 1) * (mstep W x y p (f, c)).2 = val (2 ^ W) f + (2 ^ W) ^ p * (c + x * y) ∧ (∀ k, k ≠ p → (mstep W x y p (f, c)).1.getD k 0 = f.getD k 0) := by
  have hb := two_pos W
  have hv := hf.getD hb p
  have hxy : 0 ≤ x * y := Int.mul_nonneg hx.1 hy.1
  have hxy2 : x * y ≤ (2 ^ W - 1) * (2 ^ W - 1) := Int.mul_le_mul (by omega) (by omega) hy.1 (by omega)
  have hexp : ((2 : Int) ^ W - 1) * (2 ^ W - 1) = 2 ^ W * 2 ^ W - 2 ^ W - 2 ^ W + 1 := by
    rw [Int.sub_mul, Int.mul_sub]; omega
  unfold mstep
  dsimp only
  generalize hC : c + (f.getD p 0 + x * y) = C
  have hC0 : 0 ≤ C := by omega
  have hC1 : C < 2 ^ W * 2 ^ W := by omega
  have e := fdm (a := C) hb
  rw [band]
  refine ⟨hf.set p (fmod0 hb) (fmod1 hb), List.length_set, ⟨fdiv0 hC0 hb, fdivlt hb hC1⟩, ?_, fun k hk => getD_set_ne f _ hk⟩
  rw [val_set _ _ _ hp, Int.pow_succ, Int.mul_assoc, Int.add_assoc, ← Int.mul_add]
  congr 2
  omega
theorem minner_ok {W : Nat} {x : Int} (hx : 0 ≤ x ∧ x < 2 ^ W) (i : Nat) : ∀ (ys : List Int) (j : Nat) (f : List Int) (c : Int), Lims (2 ^ W) ys → Lims (2 ^ W) f → (0 ≤ c ∧ c < 2 ^ W) → i + j + ys.length ≤ f.length →
    Lims (2 ^ W) (minner W x i ys j (f, c)).1 ∧ (minner W x i ys j (f, c)).1.length = f.length ∧ (0 ≤ (minner W x i ys j (f, c)).2 ∧ (minner W x i ys j (f, c)).2 < 2 ^ W) ∧
    val (2 ^ W) (minner W x i ys j (f, c)).1 + (2 ^ W) ^ (i + j + ys.length) * (minner W x i ys j (f, c)).2 = val (2 ^ W) f + (2 ^ W) ^ (i + j) * (c + x * val (2 ^ W) ys) ∧ (∀ k, i + j + ys.length ≤ k → (minner W x i ys j (f, c)).1.getD k 0 = f.getD k 0)
  | [], j, f, c, _, hf, hc, _ => ⟨hf, rfl, hc, by simp [minner, val], fun _ _ => rfl⟩
  | y :: r, j, f, c, hys, hf, hc, hl => by
    have hl' : i + j + r.length + 1 ≤ f.length := by simpa [Nat.add_assoc] using hl
    obtain ⟨a1, a2, a3, a4, a5⟩ := mstep_ok (p := i + j) hf (by omega) hx (hys y (.head _)) hc
    obtain ⟨b1, b2, b3, b4, b5⟩ := minner_ok hx i r (j + 1) (mstep W x y (i + j) (f, c)).1 (mstep W x y (i + j) (f, c)).2 (fun z hz => hys z (.tail _ hz)) a1 a3 (by rw [a2]; omega)
    have e1 : i + (j + 1) + r.length = i + j + (y :: r).length := by simp only [List.length_cons]; omega
    have e2 : i + (j + 1) = i + j + 1 := by omega
    rw [e1] at b4 b5
    show Lims (2 ^ W) (minner W x i r (j + 1) (mstep W x y (i + j) (f, c))).1 ∧ _
    refine ⟨b1, b2.trans a2, b3, ?_, fun k hk => (b5 k hk).trans (a5 k (by simp only [List.length_cons] at hk; omega))⟩
    refine b4.trans ?_
    rw [e2, val]
    have e3 : (2 ^ W : Int) ^ (i + j + 1) * ((mstep W x y (i + j) (f, c)).2 + x * val (2 ^ W) r) = (2 ^ W) ^ (i + j + 1) * (mstep W x y (i + j) (f, c)).2 + (2 ^ W) ^ (i + j) * (x * (2 ^ W * val (2 ^ W) r)) := by
      rw [Int.mul_add, Int.pow_succ]
      congr 1
      rw [Int.mul_assoc, Int.mul_left_comm (2 ^ W) x]
    rw [e3, ← Int.add_assoc, a4, Int.add_assoc, ← Int.mul_add, Int.mul_add x, Int.add_assoc]
theorem mouter_ok {W : Nat} {ys : List Int} (hys : Lims (2 ^ W) ys) : ∀ (xs : List Int) (i : Nat) (f : List Int), Lims (2 ^ W) xs → Lims (2 ^ W) f → i + xs.length + ys.length ≤ f.length → (∀ k, i + ys.length ≤ k → f.getD k 0 = 0) →
    Lims (2 ^ W) (mouter W ys xs i f) ∧ (mouter W ys xs i f).length = f.length ∧ val (2 ^ W) (mouter W ys xs i f) = val (2 ^ W) f + (2 ^ W) ^ i * (val (2 ^ W) xs * val (2 ^ W) ys)
  | [], i, f, _, hf, _, _ => ⟨hf, rfl, by simp [mouter, val]⟩
  | x :: r, i, f, hxs, hf, hl, hz => by
    have hl' : i + (r.length + 1) + ys.length ≤ f.length := by simpa using hl
    obtain ⟨b1, b2, b3, b4, b5⟩ := minner_ok (hxs x (.head _)) i ys 0 f 0 hys hf ⟨Int.le_refl _, two_pos W⟩ (by omega)
    generalize hst : minner W x i ys 0 (f, 0) = st at b1 b2 b3 b4 b5
    rw [Nat.add_zero] at b4 b5
    have h0 : st.1.getD (i + ys.length) 0 = 0 := (b5 _ (Nat.le_refl _)).trans (hz _ (Nat.le_refl _))
    obtain ⟨c1, c2, c3⟩ := mouter_ok hys r (i + 1) (st.1.set (i + ys.length) st.2) (fun z hz => hxs z (.tail _ hz)) (b1.set _ b3.1 b3.2) (by rw [List.length_set, b2]; omega) (fun k hk => by
      rw [getD_set_ne _ _ (by omega), b5 k (by omega)]; exact hz k (by omega))
    show Lims (2 ^ W) (mouter W ys r (i + 1) ((minner W x i ys 0 (f, 0)).1.set (i + ys.length) (minner W x i ys 0 (f, 0)).2)) ∧ (mouter W ys r (i + 1) ((minner W x i ys 0 (f, 0)).1.set (i + ys.length) (minner W x i ys 0 (f, 0)).2)).length = _ ∧ val (2 ^ W) (mouter W ys r (i + 1) ((minner W x i ys 0 (f, 0)).1.set (i + ys.length) (minner W x i ys 0 (f, 0)).2)) = _
    rw [hst]
    refine ⟨c1, by rw [c2, List.length_set, b2], ?_⟩
    rw [c3, val_set _ _ _ (by rw [b2]; omega), h0, Int.sub_zero, b4, Int.zero_add, val, Int.pow_succ, Int.add_assoc, Int.mul_assoc, ← Int.mul_add, Int.add_mul, Int.mul_assoc]
theorem lims_zeros {b : Int} (hb : 0 < b) (n : Nat) : Lims b (List.replicate n 0) := fun x hx => by
  rw [(List.mem_replicate.mp hx).2]; exact ⟨Int.le_refl _, hb⟩
theorem mulModel_ok {W : Nat} {xs ys : List Int} (hx : Lims (2 ^ W) xs) (hy : Lims (2 ^ W) ys) : Lims (2 ^ W) (mulModel W xs ys) ∧ val (2 ^ W) (mulModel W xs ys) = val (2 ^ W) xs * val (2 ^ W) ys ∧ (mulModel W xs ys).length = xs.length + ys.length := by
  obtain ⟨a, b, c⟩ := mouter_ok hy xs 0 (List.replicate (xs.length + ys.length) 0) hx (lims_zeros (two_pos W) _) (by rw [List.length_replicate]; omega) (fun k _ => by
    rw [List.getD_eq_getElem?_getD, List.getElem?_replicate]; split <;> rfl)
  refine ⟨a, ?_, by rw [← List.length_replicate (n := xs.length + ys.length) (a := (0 : Int)), ← b]; rfl⟩
  have z : val (2 ^ W : Int) (List.replicate (xs.length + ys.length) 0) = 0 := val_zeros _ fun x hx => (List.mem_replicate.mp hx).2
  rw [z] at c
  unfold mulModel
  rw [c]; simp
end Mine
namespace Mine
theorem minner_snoc (W : Nat) (x : Int) (i : Nat) (y : Int) : ∀ (l : List Int) (j : Nat) (st : List Int × Int), minner W x i (l ++ [y]) j st = mstep W x y (i + (j + l.length)) (minner W x i l j st)
  | [], _, _ => rfl
  | z :: r, j, st => by
    show minner W x i (r ++ [y]) (j + 1) (mstep W x z (i + j) st) = _
    rw [minner_snoc W x i y r]
    show mstep W x y (i + (j + 1 + r.length)) _ = mstep W x y (i + (j + (r.length + 1))) _
    rw [show j + 1 + r.length = j + (r.length + 1) by omega]; rfl
theorem mouter_snoc (W : Nat) (ys : List Int) (x : Int) : ∀ (l : List Int) (i : Nat) (f : List Int), mouter W ys (l ++ [x]) i f = (minner W x (i + l.length) ys 0 (mouter W ys l i f, 0)).1.set (i + l.length + ys.length) (minner W x (i + l.length) ys 0 (mouter W ys l i f, 0)).2
  | [], _, _ => rfl
  | z :: r, i, f => by
    show mouter W ys (r ++ [x]) (i + 1) _ = _
    rw [mouter_snoc W ys x r]
    simp only [List.length_cons]
    rw [show i + 1 + r.length = i + (r.length + 1) by omega]; rfl
theorem minner_take {W : Nat} {x : Int} {i : Nat} {ys : List Int} {j : Nat} (hj : j < ys.length) (st : List Int × Int) : minner W x i (ys.take (j + 1)) 0 st = mstep W x (ys.getD j 0) (i + j) (minner W x i (ys.take j) 0 st) := by
  rw [take_succ_getD ys hj, minner_snoc, List.length_take, Nat.min_eq_left (Nat.le_of_lt hj), Nat.zero_add]
theorem mouter_take {W : Nat} {xs ys : List Int} {i : Nat} (hi : i < xs.length) (f : List Int) : mouter W ys (xs.take (i + 1)) 0 f = (minner W (xs.getD i 0) i ys 0 (mouter W ys (xs.take i) 0 f, 0)).1.set (i + ys.length) (minner W (xs.getD i 0) i ys 0 (mouter W ys (xs.take i) 0 f, 0)).2 := by
  rw [take_succ_getD xs hi, mouter_snoc, List.length_take, Nat.min_eq_left (Nat.le_of_lt hi), Nat.zero_add]
theorem minner_len (W : Nat) (x : Int) (i : Nat) : ∀ (l : List Int) (j : Nat) (st : List Int × Int), (minner W x i l j st).1.length = st.1.length
  | [], _, _ => rfl
  | z :: r, j, st => by
    show (minner W x i r (j + 1) (mstep W x z (i + j) st)).1.length = _
    rw [minner_len W x i r]; exact List.length_set
theorem mouter_len (W : Nat) (ys : List Int) : ∀ (l : List Int) (i : Nat) (f : List Int), (mouter W ys l i f).length = f.length
  | [], _, _ => rfl
  | z :: r, i, f => by
    show (mouter W ys r (i + 1) _).length = _
    rw [mouter_len W ys r, List.length_set, minner_len]
theorem Lims.take {b : Int} {xs : List Int} (h : Lims b xs) (n : Nat) : Lims b (xs.take n) := fun x hx => h x (List.mem_of_mem_take hx)
/-- what holds ahead of an outer and of an inner turn -/
theorem mouter_at {W : Nat} {xs ys : List Int} (hx : Lims (2 ^ W) xs) (hy : Lims (2 ^ W) ys) {i : Nat} (hi : i ≤ xs.length) : Lims (2 ^ W) (mouter W ys (xs.take i) 0 (List.replicate (xs.length + ys.length) 0)) := by
  exact (mouter_ok hy (xs.take i) 0 _ (hx.take i) (lims_zeros (two_pos W) _) (by rw [List.length_replicate, List.length_take, Nat.min_eq_left hi]; omega) (fun k _ => by
    rw [List.getD_eq_getElem?_getD, List.getElem?_replicate]; split <;> rfl)).1
theorem minner_at {W : Nat} {ys f : List Int} {x : Int} {i j : Nat} (hx : 0 ≤ x ∧ x < 2 ^ W) (hy : Lims (2 ^ W) ys) (hf : Lims (2 ^ W) f) (hj : j ≤ ys.length) (hl : i + ys.length ≤ f.length) :
    Lims (2 ^ W) (minner W x i (ys.take j) 0 (f, 0)).1 ∧ 0 ≤ (minner W x i (ys.take j) 0 (f, 0)).2 ∧ (minner W x i (ys.take j) 0 (f, 0)).2 < 2 ^ W := by
  obtain ⟨a, _, b, _⟩ := minner_ok hx i (ys.take j) 0 f 0 (hy.take j) hf ⟨Int.le_refl _, two_pos W⟩ (by rw [List.length_take, Nat.min_eq_left hj]; omega)
  exact ⟨a, b⟩
end Mine
namespace Mine
open PySem.Calls PyProof.V PySem.Spec PyProof.Rows.LCg
section
variable {prog : Program} {w : World} {A : Around} {E : Value → Shared → Prop} {s : Shared} {h₀ : Heap} {L : Addr} {m : Str → Option Value} {env : Env}
/-- a tuple of the ledger -/
def TupIn (t : Addr) (its : Array Value) (news : List (Addr × Obj)) : Prop := False ∨ ∃ o : Obj, (t, o) ∈ news ∧ o.cls = .type "tuple" ∧ ∃ n, o.data = .seq its n
theorem TupIn.isTup {t : Addr} {its : Array Value} {news : List (Addr × Obj)} {h : Heap} (x : TupIn t its news) (N : News h₀ L h news) : h.IsTuple t its := by
  rcases x with h | ⟨o, hm, hc, n, hd⟩
  · exact h.elim
  · exact ⟨o, (N _ hm).1, hc, n, hd⟩
def TupSrc (prog : Program) (w : World) (A : Around) (h₀ : Heap) (L : Addr) (m : Str → Option Value) (env : Env) (elt : Expr) (x : Str) (scope : Scope) (cl : List (Str × Addr)) (y : Str) (Q : Flow → Shared → Prop) (xv : Value) (s₁ : Shared) : Prop :=
  ∃ t its news, xv = .ref t ∧ A.handled = none ∧ Fr h₀ L s₁.heap m ∧ News h₀ L s₁.heap news ∧ TupIn t its news ∧ its.size ≤ sizeLine ∧
    ∀ g, CompRest prog w A h₀ L m env elt x scope cl { s₁ with heap := g } (TupIn t its) (fun i v => its[i]? = some v) (FinA h₀ L m { s₁ with heap := g } y Q) its.size 0 [] news

theorem Assign_ListComp_tup {elt iter : Expr} {x y : Str} {px py : Pos} {scope : Scope} {cl : List (Str × Addr)} {pos spos : Pos} {Q : Flow → Shared → Prop} (_F : Fr h₀ L s.heap m) (hLe : env.locals = L)
    (hsw : swapsWith (.ListComp elt [⟨.Name x px, iter, [], 0⟩] scope pos) (some (.Name y py)) spos.line env = pure true)
    (hclos : closureFor scope env = pure cl) (hcell : ∀ z ∈ scope.names, z.2 ≠ .cell) (hkind : scope.kind = .function)
    (hnames : ∀ z ∈ scope.names, z.2 = .local → scope.names.lookup z.1 = some .local) (hx : scope.names.lookup x = some .local)
    (hy : env.kindOf y = some .local) (hp : (env.scope.kind == .class || (env.scope.kind == .module && env.locals != env.globals)) = false)
    (h : wpAny (model prog w) A (eval iter env) (TupSrc prog w A h₀ L m env elt x scope cl y Q) E s)
    (hs : ∀ x, foldedSetIterable iter env x = pure x := by intro _; rfl) :
    wpAny (model prog w) A (exec (.Assign [.Name y py] (.ListComp elt [⟨.Name x px, iter, [], 0⟩] scope pos) spos) env) Q E s := by
  subst hLe
  rw [exec_Assign_Name_used _ _ _ _ hsw]
  refine wpAny_bind (wpAny_standAt (wpAny_bind ?_))
  show wpAny _ A (do let _ ← comprehension (.ListComp elt [⟨.Name x px, iter, [], 0⟩] scope pos) scope env _ (newList []) false (eval iter env) (some (assign (.Name y py) env))) _ _ s
  refine wpAny_bind (wpAny_mono (wpAny_comprehension_free (use := some (assign (.Name y py) env)) (Q := fun _ s' => Q .next s') rfl hs hclos hkind hnames
    (wpAny_mono h (fun xv s₁ h₁ => ?_) fun _ _ e => e)) (fun _ s' hq => wpAny_pure (wpAny_pure hq)) fun _ _ e => e)
  obtain ⟨t, its, news, rfl, hh, F, N, S, hsz, R⟩ := h₁
  have ht := S.isTup N
  have hlt : t < s₁.heap.objs.size := by obtain ⟨_, e, _⟩ := ht; exact Heap.lt_size e
  have up : ∀ b o, s₁.heap.get? b = some o → (s₁.heap.push { cls := .type "tuple_iterator", data := .fields #[.ref t, .int 0 0] }).get? b = some o := fun b o e => Heap.get?_push_of_some _ e
  have keepT : ∀ {h h' : Heap}, h.IsTuple t its → (∀ b o, h.get? b = some o → h'.get? b = some o) → h'.IsTuple t its := fun q k => let ⟨o, e, r⟩ := q; ⟨o, k _ _ e, r⟩
  refine wpAny_pyIter_tuple ht ?_
  refine block_U (s₂ := { s₁ with heap := s₁.heap.push { cls := .type "tuple_iterator", data := .fields #[.ref t, .int 0 0] } }) (S := TupIn t its) (Walks.tuple hh s₁.heap.objs.size t (Nat.ne_of_lt hlt) its) hsz (fun i h st => by obtain ⟨o, e, _⟩ := st.1; exact ⟨o, e⟩) ?_ hcell hkind hx ⟨⟨_, Heap.get?_push_size _ rfl, rfl, rfl⟩, keepT ht up⟩ ?_
    (F.keeps up) (N.grown up) (Nat.ne_of_lt F.ns.lt) (next_is_new F) (fun p hp => Nat.ne_of_lt (Heap.lt_size (N p hp).1)) S (R _) ?_
  · intro i h h' o nw st e e' k N' S'
    refine ⟨?_, S'.isTup N'⟩
    obtain ⟨o', q, r⟩ := st.1
    rw [e] at q; cases q
    exact ⟨o, e', r⟩
  · intro b hb
    have hb' : b = s₁.heap.objs.size ∨ b = t := by simpa using hb
    show b < (s₁.heap.push _).objs.size
    rw [Heap.size_push]
    rcases hb' with rfl | rfl
    · exact Nat.lt_succ_self _
    · exact Nat.lt_succ_of_lt hlt
  · intro D C h' tk m' ys news' F' N' o1 hn hC₀ hD₀ hCL hDL hCD offC fin
    show wpAny _ A (assign (.Name y py) env (.ref D)) _ _ _
    refine wpAny_assign_Name (wpAny_storeName_local hy F'.ns (fun h₂ hn₂ hs₂ => ?_) hp)
    have hL₀ : h₀.get? env.locals = none := Heap.get?_none_of_le F'.above
    have F₂ : Fr h₀ env.locals h₂ (fun z => if z = y then some (.ref D) else m z) := ⟨hn₂, fun b o e => hs₂.extBut b o (fun q => by rw [q, hL₀] at e; cases e) (F'.keep b o e), F'.above⟩
    refine ⟨m', hn.sameBut hs₂ hCL, fun h'' hs'' => fin D h'' _ (F₂.change hs'' hCL hC₀) (fun p hp => ?_) o1⟩
    have z : h₂.get? p.1 = some p.2 := hs₂.extBut _ _ (N' p hp).2.1 (N' p hp).1
    refine ⟨hs''.extBut _ _ ?_ z, (N' p hp).2⟩
    rcases List.mem_cons.mp hp with rfl | hp
    · exact Ne.symm hCD
    · exact offC p hp

/-- `y = [elt for x in (n0, n1, n2)]`, each element a new list of ints of its own number -/
def RowsSrc (prog : Program) (w : World) (A : Around) (h₀ : Heap) (L : Addr) (m : Str → Option Value) (env : Env) (elt : Expr) (x : Str) (scope : Scope) (cl : List (Str × Addr)) (y : Str) (Q : Flow → Shared → Prop) (Ok : Int → Prop) (Res : Int → List Int → Prop) (xv : Value) (s₁ : Shared) : Prop :=
  ∀ X : Prop, (∀ t nt n0 t0 n1 t1 n2 t2 news, (xv = .ref t) → (A.handled = none) → (Fr h₀ L s₁.heap m) → (News h₀ L s₁.heap news) → ((t, ({ cls := .type "tuple", data := .seq #[.int n0 t0, .int n1 t1, .int n2 t2] nt } : Obj)) ∈ news) → (Ok n0) → (Ok n1) → (Ok n2) → ((∀ n tn C oC mC nw h tk (E' : Value → Shared → Prop), Ok n → NsObj oC mC → mC x = some (.int n tn) → Fr h₀ L h m → News h₀ L h ((C, oC) :: (news ++ nw)) → wpAny (model prog w) A (eval elt (compEnvC scope cl C env)) (fun v s₃ => ∃ r ws zs kk h' tk', v = .ref r ∧ s₃ = { s₁ with heap := h', toks := tk' } ∧ Fr h₀ L h' m ∧ News h₀ L h' ((r, listOf ws.toArray kk) :: (C, oC) :: (news ++ nw)) ∧ AllLt r ((C, oC) :: (news ++ nw)) ∧ IntsAre ws zs ∧ Res n zs) E' { s₁ with heap := h, toks := tk })) → (∀ D r0 r1 r2 ws0 ws1 ws2 zs0 zs1 zs2 k0 k1 k2 h tk, Fr h₀ L h (fun z => if z = y then some (.ref D) else m z) → News h₀ L h ((D, lst [.ref r0, .ref r1, .ref r2]) :: (r0, listOf ws0.toArray k0) :: (r1, listOf ws1.toArray k1) :: (r2, listOf ws2.toArray k2) :: news) → Off1 D news → AllLt r0 news → @Ne Nat r0 D → @Ne Nat r1 D → @Ne Nat r2 D → @LT.lt Nat _ r0 r1 → @LT.lt Nat _ r1 r2 → IntsAre ws0 zs0 → IntsAre ws1 zs1 → IntsAre ws2 zs2 → Res n0 zs0 → Res n1 zs1 → Res n2 zs2 → Q .next { s₁ with heap := h, toks := tk }) → X) → X

theorem allLt_mem {r : Addr} : ∀ {l : List (Addr × Obj)}, AllLt r l → ∀ q ∈ l, q.1 < r
  | [], _, _, h => nomatch h
  | p :: l, x, q, h => by
    rcases List.mem_cons.mp h with rfl | h
    · exact x.1
    · exact allLt_mem x.2 q h

theorem mem_in1 {C I : Addr × Obj} {news nw : List (Addr × Obj)} : ∀ q ∈ C :: (news ++ (I :: nw)), q ∈ I :: C :: (nw ++ news) := fun q h => by
  rcases List.mem_cons.mp h with h | h
  · exact .tail _ (h ▸ .head _)
  · rcases List.mem_append.mp h with h | h
    · exact .tail _ (.tail _ (List.mem_append_right _ h))
    · rcases List.mem_cons.mp h with h | h
      · exact h ▸ .head _
      · exact .tail _ (.tail _ (List.mem_append_left _ h))
theorem mem_out1 {r C I D : Addr × Obj} {news rs : List (Addr × Obj)} : ∀ q ∈ I :: C :: D :: r :: (rs ++ news), q ∈ r :: C :: (news ++ (I :: D :: rs)) := fun q h => by
  rcases List.mem_cons.mp h with h | h
  · exact .tail _ (.tail _ (List.mem_append_right _ (h ▸ .head _)))
  · rcases List.mem_cons.mp h with h | h
    · exact .tail _ (h ▸ .head _)
    · rcases List.mem_cons.mp h with h | h
      · exact .tail _ (.tail _ (List.mem_append_right _ (.tail _ (h ▸ .head _))))
      · rcases List.mem_cons.mp h with h | h
        · exact h ▸ .head _
        · rcases List.mem_append.mp h with h | h
          · exact .tail _ (.tail _ (List.mem_append_right _ (.tail _ (.tail _ h))))
          · exact .tail _ (.tail _ (List.mem_append_left _ h))
theorem mem_fin {D a b c : Addr × Obj} {l : List (Addr × Obj)} : ∀ q ∈ D :: a :: b :: c :: l, q ∈ D :: c :: b :: a :: l := fun q h => by
  rcases List.mem_cons.mp h with h | h
  · exact h ▸ .head _
  · rcases List.mem_cons.mp h with h | h
    · exact .tail _ (.tail _ (.tail _ (h ▸ .head _)))
    · rcases List.mem_cons.mp h with h | h
      · exact .tail _ (.tail _ (h ▸ .head _))
      · rcases List.mem_cons.mp h with h | h
        · exact .tail _ (h ▸ .head _)
        · exact .tail _ (.tail _ (.tail _ (.tail _ h)))
theorem rows_src {elt : Expr} {x : Str} {scope : Scope} {cl : List (Str × Addr)} {y : Str} {Q : Flow → Shared → Prop} {Ok : Int → Prop} {Res : Int → List Int → Prop} {xv : Value} {s₁ : Shared}
    (h : RowsSrc prog w A h₀ L m env elt x scope cl y Q Ok Res xv s₁) : TupSrc prog w A h₀ L m env elt x scope cl y Q xv s₁ := by
  refine h _ ?_
  intro t nt n0 t0 n1 t1 n2 t2 news e hh F N hm o0 o1 o2 el fin
  subst e
  refine ⟨t, _, news, rfl, hh, F, N, .inr ⟨_, hm, rfl, _, rfl⟩, Nat.le_of_ble_eq_true rfl, fun g => ?_⟩
  show CompRest _ _ _ _ _ _ _ _ _ _ _ _ _ _ _ 3 0 [] news
  refine CompRest.succ ?_
  intro v I oI C oC D m₂ hp tk E' hv hC hx F0 N0 off ne
  have hv0 : v = .int n0 t0 := (Option.some.inj hv).symm
  subst hv0
  refine wpAny_mono (el n0 t0 C oC m₂ [(I, oI), (D, lst [])] hp tk E' o0 hC hx F0 (fun q hq => N0 q (mem_in1 q hq))) (fun v s₃ q => ?_) fun _ _ e => e
  obtain ⟨r0, ws0, zs0, k0, h1, tk1, rfl, rfl, F1, N1, l1, i1, e1⟩ := q
  have b1 := allLt_mem l1
  have oN : ∀ q ∈ news, q.1 < r0 := fun q hq => b1 q (.tail _ (List.mem_append_left _ hq))
  refine ⟨h1, tk1, (r0, listOf ws0.toArray k0) :: news, rfl, F1, fun q hq => N1 q (mem_out1 q hq), ⟨⟨Nat.ne_of_gt (b1 (I, oI) (by simp)), Nat.ne_of_gt (b1 (C, oC) (by simp)), Nat.ne_of_gt (b1 (D, lst []) (by simp))⟩, off⟩, .inr ⟨_, .tail _ hm, rfl, _, rfl⟩, ?_⟩
  refine CompRest.succ ?_
  clear F0 N0 off ne hC hx hp tk E' m₂ N1 b1 l1 F1
  intro v I oI C oC D m₂ hp tk E' hv hC hx F0 N0 off ne
  have hv0 : v = .int n1 t1 := (Option.some.inj hv).symm
  subst hv0
  refine wpAny_mono (el n1 t1 C oC m₂ [(I, oI), (D, lst ([] ++ [Value.ref r0])), (r0, listOf ws0.toArray k0)] hp tk E' o1 hC hx F0 (fun q hq => N0 q (mem_in1 q hq))) (fun v s₃ q => ?_) fun _ _ e => e
  obtain ⟨r1, ws1, zs1, k1, h2, tk2, rfl, rfl, F1, N1, l1, i2, e2⟩ := q
  have b1 := allLt_mem l1
  have lt01 : r0 < r1 := b1 (r0, listOf ws0.toArray k0) (by simp)
  refine ⟨h2, tk2, (r1, listOf ws1.toArray k1) :: (r0, listOf ws0.toArray k0) :: news, rfl, F1, fun q hq => N1 q (mem_out1 q hq), ⟨⟨Nat.ne_of_gt (b1 (I, oI) (by simp)), Nat.ne_of_gt (b1 (C, oC) (by simp)), Nat.ne_of_gt (b1 (D, lst ([] ++ [Value.ref r0])) (by simp))⟩, off⟩, .inr ⟨_, .tail _ (.tail _ hm), rfl, _, rfl⟩, ?_⟩
  refine CompRest.succ ?_
  clear F0 N0 off ne hC hx hp tk E' m₂ N1 b1 l1 F1
  intro v I oI C oC D m₂ hp tk E' hv hC hx F0 N0 off ne
  have hv0 : v = .int n2 t2 := (Option.some.inj hv).symm
  subst hv0
  refine wpAny_mono (el n2 t2 C oC m₂ [(I, oI), (D, lst ([] ++ [Value.ref r0] ++ [Value.ref r1])), (r1, listOf ws1.toArray k1), (r0, listOf ws0.toArray k0)] hp tk E' o2 hC hx F0 (fun q hq => N0 q (mem_in1 q hq))) (fun v s₃ q => ?_) fun _ _ e => e
  obtain ⟨r2, ws2, zs2, k2, h3, tk3, rfl, rfl, F1, N1, l1, i3, e3⟩ := q
  have b1 := allLt_mem l1
  have lt12 : r1 < r2 := b1 (r1, listOf ws1.toArray k1) (by simp)
  refine ⟨h3, tk3, (r2, listOf ws2.toArray k2) :: (r1, listOf ws1.toArray k1) :: (r0, listOf ws0.toArray k0) :: news, rfl, F1, fun q hq => N1 q (mem_out1 q hq), ⟨⟨Nat.ne_of_gt (b1 (I, oI) (by simp)), Nat.ne_of_gt (b1 (C, oC) (by simp)), Nat.ne_of_gt (b1 (D, lst ([] ++ [Value.ref r0] ++ [Value.ref r1])) (by simp))⟩, off⟩, .inr ⟨_, .tail _ (.tail _ (.tail _ hm)), rfl, _, rfl⟩, ?_⟩
  refine CompRest.zero ?_
  intro D' h4 tk4 F4 N4 o4
  have o4' : (@Ne Nat r2 D') ∧ (@Ne Nat r1 D') ∧ (@Ne Nat r0 D') ∧ Off1 D' news := o4
  refine fin D' r0 r1 r2 ws0 ws1 ws2 zs0 zs1 zs2 k0 k1 k2 h4 tk4 F4 (fun q hq => N4 q (mem_fin q hq)) o4'.2.2.2 (allLt_of oN) o4'.2.2.1 o4'.2.1 o4'.1 lt01 lt12 i1 i2 i3 e1 e2 e3
end
end Mine
namespace Mine
open PySem.Calls PyProof.V PySem.Spec
section
variable {prog : Program} {w : World} {A : Around} {E : Value → Shared → Prop} {s : Shared} {h₀ : Heap} {env : Env} {x : Str} {body : List Stmt} {Q : Flow → Shared → Prop}
/-- the end of a turn -/
def REnd (h₀ : Heap) (L I : Addr) (oI : Obj) (J : (Str → Option Value) → List (Addr × Obj) → Prop) (s₁ s₂ : Shared) : Prop :=
  ∃ h' tk m' nx, s₂ = { s₁ with heap := h', toks := tk } ∧ Fr h₀ L h' m' ∧ News h₀ L h' ((I, oI) :: nx) ∧ (∀ p ∈ nx, @Ne Nat p.1 I) ∧ J m' nx
def RPost (h₀ : Heap) (L I : Addr) (oI : Obj) (J : (Str → Option Value) → List (Addr × Obj) → Prop) (s₁ : Shared) (Q : Flow → Shared → Prop) (f : Flow) (s₂ : Shared) : Prop :=
  match f with
  | .ret v => Q (.ret v) s₂
  | .brk => Q .next s₂
  | _ => REnd h₀ L I oI J s₁ s₂
theorem range_loopB {r : Addr} {b₀ b₁ : Int} {t₀ u₀ v₀ : Tok} {n : Nat} {m₀ : Str → Option Value} {news : List (Addr × Obj)} (J : Nat → (Str → Option Value) → List (Addr × Obj) → Prop)
    (hh : A.handled = none) (hr : IsRange s.heap r b₀ b₁ 1 t₀ u₀ v₀) (hsmall : Builtin.Range.small b₀ b₁ 1 = true) (hn : Builtin.Range.rangeSize b₀ b₁ 1 = (n : Int)) (F : Fr h₀ env.locals s.heap m₀) (N : News h₀ env.locals s.heap news) (h0 : J 0 m₀ news)
    (turn : ∀ (i : Nat) t m₁ news₁ h tk I oI, i < n → J i m₁ news₁ → (∀ p ∈ news₁, @Ne Nat p.1 I) → Fr h₀ env.locals h (fun y => if y = x then some (.int (b₀ + (i : Int)) t) else m₁ y) → News h₀ env.locals h ((I, oI) :: news₁) →
      wpAny (model prog w) A (execs body env) (RPost h₀ env.locals I oI (J (i + 1)) { s with heap := h, toks := tk } Q) E { s with heap := h, toks := tk })
    (done : ∀ m₁ news₁ h tk, J n m₁ news₁ → Fr h₀ env.locals h m₁ → News h₀ env.locals h news₁ → Q .next { s with heap := h, toks := tk }) :
    wpAny (model prog w) A (pyIter (.ref r)) (fun it s₂ => LoopAtV prog w A h₀ env x body Q E it s₂) E s := by
  refine wpAny_pyIter_range hr hsmall ?_
  have W := PyProof.Rows.LCg.range_walks (prog := prog) (w := w) (A := A) (I := s.heap.objs.size) hh b₀ n
  refine ⟨s.heap.objs.size, [s.heap.objs.size], [s.heap.objs.size], n, _, _, m₀, news, J, rfl, W, ?_, ?_, ?_, ?_, F.push _, (fun p hp => ⟨Heap.get?_push_of_some _ (N p hp).1, (N p hp).2⟩), h0, ?_, ?_⟩
  · intro hm
    exact absurd F.ns.lt ((List.mem_singleton.mp hm) ▸ Nat.lt_irrefl _)
  · intro b hb
    rw [List.mem_singleton.mp hb]
    exact next_is_new F
  · intro p hp hI
    exact absurd (Heap.lt_size (N p hp).1) ((List.mem_singleton.mp hI) ▸ Nat.lt_irrefl _)
  · show IsRangeIter _ _ _ _ _
    rw [hn]; simpa using Heap.get?_push_size _ rfl
  · rintro i v m₁ news₁ s₁ own ⟨hh', tk', rfl⟩ hi ⟨t, rfl⟩ hJ hoff hown1 hown2 hown3 hst F₁ N₁
    obtain ⟨oI, hst'⟩ : ∃ o, hh'.get? s.heap.objs.size = some o := ⟨_, hst⟩
    have hI₀ : h₀.get? s.heap.objs.size = none := next_is_new F
    have hmem := hown3 s.heap.objs.size (List.mem_singleton.mpr rfl) hI₀ oI hst'
    refine wpAny_mono (turn i t m₁ news₁ hh' tk' s.heap.objs.size oI hi hJ (fun p hp q => hoff p hp (List.mem_singleton.mpr q)) F₁ (fun p hp => ?_)) (fun f s₂ p => ?_) fun _ _ e => e
    · rcases List.mem_cons.mp hp with rfl | hp
      · exact N₁ _ (List.mem_append_left _ hmem)
      · exact N₁ p (List.mem_append_right _ hp)
    · have fin : REnd h₀ env.locals s.heap.objs.size oI (J (i + 1)) { s with heap := hh', toks := tk' } s₂ → LoopStepU h₀ env.locals [s.heap.objs.size] own (J (i + 1)) { s with heap := hh', toks := tk' } .next s₂ := by
        rintro ⟨h', tk, m', nx, e, F', N', hne, hj⟩
        refine ⟨rfl, h', tk, m', nx, e, F', fun p hp => ?_, fun p hp q => hne p hp (List.mem_singleton.mp q), hj⟩
        rcases List.mem_append.mp hp with hp | hp
        · have h1 := List.mem_singleton.mp (hown1 p hp)
          have h2 := hown2 p hp
          have h3 : p = (s.heap.objs.size, oI) := Prod.ext h1 (by
            rw [h1] at h2
            exact (Option.some.inj (h2.symm.trans hst')))
          rw [h3]
          exact N' _ (.head _)
        · exact N' p (.tail _ hp)
      cases f with
      | ret v => exact p
      | brk => exact p
      | next => exact fin p
      | cont => exact fin p
  · intro h' tk m' news' F' N' _ hJ
    exact done m' news' h' tk hJ F' N'
theorem range_loop {r : Addr} {b₁ : Int} {t₀ u₀ v₀ : Tok} {n : Nat} {m₀ : Str → Option Value} {news : List (Addr × Obj)} (J : Nat → (Str → Option Value) → List (Addr × Obj) → Prop)
    (hh : A.handled = none) (hr : IsRange s.heap r 0 b₁ 1 t₀ u₀ v₀) (hsmall : Builtin.Range.small 0 b₁ 1 = true) (hn : Builtin.Range.rangeSize 0 b₁ 1 = (n : Int)) (F : Fr h₀ env.locals s.heap m₀) (N : News h₀ env.locals s.heap news) (h0 : J 0 m₀ news)
    (turn : ∀ (i : Nat) t m₁ news₁ h tk I oI, i < n → J i m₁ news₁ → (∀ p ∈ news₁, @Ne Nat p.1 I) → Fr h₀ env.locals h (fun y => if y = x then some (.int (i : Int) t) else m₁ y) → News h₀ env.locals h ((I, oI) :: news₁) →
      wpAny (model prog w) A (execs body env) (RPost h₀ env.locals I oI (J (i + 1)) { s with heap := h, toks := tk } Q) E { s with heap := h, toks := tk })
    (done : ∀ m₁ news₁ h tk, J n m₁ news₁ → Fr h₀ env.locals h m₁ → News h₀ env.locals h news₁ → Q .next { s with heap := h, toks := tk }) :
    wpAny (model prog w) A (pyIter (.ref r)) (fun it s₂ => LoopAtV prog w A h₀ env x body Q E it s₂) E s := by
  refine range_loopB J hh hr hsmall hn F N h0 (fun i t m₁ news₁ h tk I oI hi hJ hne F₁ N₁ => ?_) done
  rw [Int.zero_add] at F₁
  exact turn i t m₁ news₁ h tk I oI hi hJ hne F₁ N₁
end
end Mine
namespace Mine
open PySem.Calls PyProof.V PySem.Spec
/-- the ledger between two turns of the law's loop -/
abbrev ledL (ha st x d r : Addr) (ws wsS wsH : List Value) (kk kS kH : Nat) (e1 e2 e3 e5 e6 : DictEntry) (h4 : Int) (k4 : Value) (nd : Nat) (rest : List (Addr × Obj)) : List (Addr × Obj) :=
  (ha, listOf wsH.toArray kH) :: (st, listOf wsS.toArray kS) :: (r, listOf ws.toArray kk) :: (x, instObj 98 d) :: (d, dictOf [e1, e2, e3, ⟨h4, k4, .ref r⟩, e5, e6] nd) :: rest
def LJ (P : Nat → List Int → Prop) (S H : Nat → List Int) (stored : List Str) (m₀ : Str → Option Value) (ha st x d : Addr) (e1 e2 e3 e5 e6 : DictEntry) (h4 : Int) (k4 : Value) (nd : Nat) (rest : List (Addr × Obj)) (i : Nat) (m : Str → Option Value) (nx : List (Addr × Obj)) : Prop :=
  ∃ r ws wsS wsH kk kS kH zs, nx = ledL ha st x d r ws wsS wsH kk kS kH e1 e2 e3 e5 e6 h4 k4 nd rest ∧ IntsAre ws zs ∧ P i zs ∧ IntsAre wsS (S i) ∧ IntsAre wsH (H i) ∧ (@Ne Nat r d) ∧ (@Ne Nat r st) ∧ (@Ne Nat r ha) ∧ ∀ z, stored.contains z = false → m z = m₀ z
section
variable {prog : Program} {w : World} {A : Around} {E : Value → Shared → Prop} {s : Shared} {h₀ : Heap} {env : Env} {v : Str} {body : List Stmt} {Q : Flow → Shared → Prop}
theorem fr_store {L : Addr} {h : Heap} {stored : List Str} {m₀ m₁ : Str → Option Value} (hm : ∀ z, stored.contains z = false → m₁ z = m₀ z) (F : Fr h₀ L h m₁) : Fr h₀ L h (fun y => if stored.contains y then m₁ y else m₀ y) := by
  have e : (fun y => if stored.contains y then m₁ y else m₀ y) = m₁ := by
    funext y
    cases hc : stored.contains y with
    | true => simp
    | false => simp only [Bool.false_eq_true, if_false]; exact (hm y hc).symm
  rw [e]; exact F
theorem fr_store2 {L : Addr} {h : Heap} {stored : List Str} {m₀ m₁ : Str → Option Value} {q : Value} (hm : ∀ z, stored.contains z = false → m₁ z = m₀ z) (F : Fr h₀ L h (fun y => if y = v then some q else m₁ y)) : Fr h₀ L h (fun y => if y = v then some q else if stored.contains y then m₁ y else m₀ y) := by
  have e : (fun y => if y = v then some q else if stored.contains y then m₁ y else m₀ y) = fun y => if y = v then some q else m₁ y := by
    funext y
    by_cases h1 : y = v
    · simp [h1]
    · simp only [if_neg h1]
      cases hc : stored.contains y with
      | true => simp
      | false => simp only [Bool.false_eq_true, if_false]; exact (hm y hc).symm
  rw [e]; exact F
theorem law_loop {rg : Addr} {b₁ : Int} {t₀ u₀ v₀ : Tok} {n : Nat} {m₀ : Str → Option Value} {ha st x d r : Addr} {ws wsS wsH : List Value} {zs : List Int} {kk kS kH : Nat} {e1 e2 e3 e5 e6 : DictEntry} {h4 : Int} {k4 : Value} {nd : Nat} {rest : List (Addr × Obj)}
    (P : Nat → List Int → Prop) (S H : Nat → List Int) (stored : List Str)
    (hh : A.handled = none) (hr : IsRange s.heap rg 0 b₁ 1 t₀ u₀ v₀) (hsmall : Builtin.Range.small 0 b₁ 1 = true) (hn : Builtin.Range.rangeSize 0 b₁ 1 = (n : Int)) (F : Fr h₀ env.locals s.heap m₀)
    (N : News h₀ env.locals s.heap (ledL ha st x d r ws wsS wsH kk kS kH e1 e2 e3 e5 e6 h4 k4 nd rest)) (I0 : IntsAre ws zs) (IS : IntsAre wsS (S 0)) (IH : IntsAre wsH (H 0)) (P0 : P 0 zs) (r1 : @Ne Nat r d) (r2 : @Ne Nat r st) (r3 : @Ne Nat r ha)
    (turn : ∀ (i : Nat) t (u : Str → Option Value) h tk I oI r ws wsS wsH kk kS kH zs, i < n → P i zs → IntsAre ws zs → IntsAre wsS (S i) → IntsAre wsH (H i) → (@Ne Nat r d) → (@Ne Nat r st) → (@Ne Nat r ha) →
      (∀ p ∈ ledL ha st x d r ws wsS wsH kk kS kH e1 e2 e3 e5 e6 h4 k4 nd rest, @Ne Nat p.1 I) → Fr h₀ env.locals h (fun y => if y = v then some (.int (i : Int) t) else if stored.contains y then u y else m₀ y) → News h₀ env.locals h ((I, oI) :: ledL ha st x d r ws wsS wsH kk kS kH e1 e2 e3 e5 e6 h4 k4 nd rest) →
      wpAny (model prog w) A (execs body env) (RPost h₀ env.locals I oI (LJ P S H stored m₀ ha st x d e1 e2 e3 e5 e6 h4 k4 nd rest (i + 1)) { s with heap := h, toks := tk } Q) E { s with heap := h, toks := tk })
    (done : ∀ (u : Str → Option Value) h tk r ws wsS wsH kk kS kH zs, P n zs → IntsAre ws zs → IntsAre wsS (S n) → IntsAre wsH (H n) → (@Ne Nat r d) → (@Ne Nat r st) → (@Ne Nat r ha) → Fr h₀ env.locals h (fun y => if stored.contains y then u y else m₀ y) → News h₀ env.locals h (ledL ha st x d r ws wsS wsH kk kS kH e1 e2 e3 e5 e6 h4 k4 nd rest) → Q .next { s with heap := h, toks := tk }) :
    wpAny (model prog w) A (pyIter (.ref rg)) (fun it s₂ => LoopAtV prog w A h₀ env v body Q E it s₂) E s := by
  refine range_loop (LJ P S H stored m₀ ha st x d e1 e2 e3 e5 e6 h4 k4 nd rest) hh hr hsmall hn F N ⟨r, ws, wsS, wsH, kk, kS, kH, zs, rfl, I0, P0, IS, IH, r1, r2, r3, fun _ _ => rfl⟩ ?_ ?_
  · rintro i t m₁ news₁ h tk I oI hi ⟨r, ws, wsS, wsH, kk, kS, kH, zs, rfl, a1, a2, a3, a4, a5, a6, a7, a8⟩ hne F₁ N₁
    exact turn i t m₁ h tk I oI r ws wsS wsH kk kS kH zs hi a2 a1 a3 a4 a5 a6 a7 hne (fr_store2 a8 F₁) N₁
  · rintro m₁ news₁ h tk ⟨r, ws, wsS, wsH, kk, kS, kH, zs, rfl, a1, a2, a3, a4, a5, a6, a7, a8⟩ F₁ N₁
    exact done m₁ h tk r ws wsS wsH kk kS kH zs a2 a1 a3 a4 a5 a6 a7 (fr_store a8 F₁) N₁
end
end Mine
namespace Mine
open PySem.Calls PyProof.V PySem.Spec
section
variable {prog : Program} {w : World} {A : Around} {E : Value → Shared → Prop} {s : Shared} {h₀ : Heap} {env : Env} {body : List Stmt} {Q : Flow → Shared → Prop}
/-- the end of a turn: the two iterators stand as they stood, the next state holds -/
def EEnd (h₀ : Heap) (L : Addr) (a1 a2 : Addr × Obj) (J : (Str → Option Value) → List (Addr × Obj) → Prop) (s₁ : Shared) (f : Flow) (s₂ : Shared) : Prop :=
  f = .next ∧ ∃ h' tk m' nx, s₂ = { s₁ with heap := h', toks := tk } ∧ Fr h₀ L h' m' ∧ News h₀ L h' (a1 :: a2 :: nx) ∧ (∀ p ∈ nx, @Ne Nat p.1 a1.1) ∧ (∀ p ∈ nx, @Ne Nat p.1 a2.1) ∧ J m' nx
theorem enum_loop {l : Addr} {vs : List Value} {ns : List Int} {k : Nat} {news : List (Addr × Obj)} {xa xb : Str} {pa pb tp : Pos} {kk : Nat} {m₀ : Str → Option Value} (J : Nat → (Str → Option Value) → List (Addr × Obj) → Prop)
    (hh : A.handled = none) (hxa : env.kindOf xa = some .local) (hxb : env.kindOf xb = some .local) (hp : (env.scope.kind == .class || (env.scope.kind == .module && env.locals != env.globals)) = false)
    (F : Fr h₀ env.locals s.heap m₀) (N : News h₀ env.locals s.heap news) (hi : IntsAre vs ns) (hJl : ∀ i m nx, J i m nx → (l, listOf vs.toArray k) ∈ nx) (J0 : J 0 m₀ news)
    (turn : ∀ (i : Nat) ta tb m₁ nx h tk a1 a2, i < ns.length → J i m₁ nx → (∀ p ∈ nx, @Ne Nat p.1 a1.1) → (∀ p ∈ nx, @Ne Nat p.1 a2.1) →
      Fr h₀ env.locals h (fun z => if z = xb then some (.int (ns.getD i 0) tb) else if z = xa then some (.int (i : Int) ta) else m₁ z) → News h₀ env.locals h (a1 :: a2 :: nx) →
      wpAny (model prog w) A (execs body env) (EEnd h₀ env.locals a1 a2 (J (i + 1)) { s with heap := h, toks := tk }) E { s with heap := h, toks := tk })
    (done : ∀ m₁ nx h tk, J ns.length m₁ nx → Fr h₀ env.locals h m₁ → News h₀ env.locals h nx → Q .next { s with heap := h, toks := tk }) :
    wpAny (model prog w) A (call (.type "enumerate") [.ref l]) (fun xv s₁ => wpAny (model prog w) A (pyIter xv) (fun it s₂ => TurnsAt prog w A h₀ env (.Tuple [.Name xa pa, .Name xb pb] kk tp) body Q E it s₂) E s₁) E s := by
  have hax := N _ (hJl _ _ _ J0)
  have hl : s.heap.IsList l vs.toArray := ⟨_, hax.1, rfl, k, rfl⟩
  have hlt : l < s.heap.objs.size := Heap.lt_size hax.1
  have hLs : env.locals < s.heap.objs.size := F.ns.lt
  have hlen : vs.toArray.size = ns.length := by rw [List.size_toArray]; exact hi.length
  refine call_enumerate_list hl fun h' hE hI hsz hk => ?_
  refine wpAny_pyIter_enum hE ?_
  refine ⟨s.heap.objs.size + 1, _, _, vs.toArray.size, _, _, _, m₀, news, J, rfl,
    KTurns.ofWalksU (WalksT.enumerate hh (s.heap.objs.size + 1) s.heap.objs.size l (Nat.succ_ne_self _) (Nat.ne_of_lt (Nat.lt_succ_of_lt hlt)) (Nat.ne_of_lt hlt) vs.toArray).toU, ?_, ?_, ?_, ⟨⟨_, hE⟩, hI, hl.at fun o e => hk l o e⟩, F.keeps hk, N.grown hk, J0, ?_, ?_⟩
  · intro hb
    have hb' : env.locals = s.heap.objs.size + 1 ∨ env.locals = s.heap.objs.size ∨ env.locals = l := by simpa using hb
    rcases hb' with e | e | e
    · exact ktu_ne 1 hLs e
    · exact Nat.ne_of_lt hLs e
    · exact hax.2.1 e.symm
  · intro b hb
    have hb' : b = s.heap.objs.size + 1 ∨ b = s.heap.objs.size := by simpa using hb
    rcases hb' with rfl | rfl
    · exact ktu_new F (Nat.le_add_right _ _)
    · exact ktu_new F (Nat.le_refl _)
  · intro q hq hb
    have hq' := Heap.lt_size (N q hq).1
    have hb' : q.1 = s.heap.objs.size + 1 ∨ q.1 = s.heap.objs.size := by simpa using hb
    rcases hb' with e | e
    · exact ktu_ne 1 hq' e
    · exact Nat.ne_of_lt hq' e
  · rintro i v m₁ nx h₁ tk₁ own hin ⟨T, vals, rfl, ⟨t, x, hx, rfl⟩, hT⟩ hJ hoff hsub hown hall ⟨⟨old, he⟩, ⟨oi, hoi, hic, _⟩, _⟩ F₁ N₁
    have he' : ∃ oe : Obj, h₁.get? (s.heap.objs.size + 1) = some oe := ⟨_, he⟩
    obtain ⟨oe, hoe⟩ := he'
    obtain ⟨tx, rfl⟩ := getD_of hi (i := i) (x := x) (by simpa using hx)
    have m1 : (s.heap.objs.size + 1, oe) ∈ own := hall _ (by simp) (ktu_new F (Nat.le_add_right _ _)) _ hoe
    have m2 : (s.heap.objs.size, oi) ∈ own := hall _ (by simp) (ktu_new F (Nat.le_refl _)) _ hoi
    refine kcp_assign (s := { s with heap := h₁, toks := tk₁ }) hh hT hxa hxb hp F₁.ns fun h₂ tk₂ hn₂ hk₂ => ?_
    have hL₀ : h₀.get? env.locals = none := Heap.get?_none_of_le F₁.above
    have F₂ : Fr h₀ env.locals h₂ (fun z => if z = xb then some (.int (ns.getD i 0) tx) else if z = xa then some (.int (i : Int) t) else m₁ z) :=
      ⟨hn₂, fun b o e => hk₂ b o (fun q => by rw [q, hL₀] at e; cases e) (F₁.keep b o e), F₁.above⟩
    have N₂ : News h₀ env.locals h₂ (own ++ nx) := fun q hq => ⟨hk₂ _ _ (N₁ q hq).2.1 (N₁ q hq).1, (N₁ q hq).2⟩
    refine wpAny_mono (turn i t tx m₁ nx h₂ tk₂ (s.heap.objs.size + 1, oe) (s.heap.objs.size, oi) (hlen ▸ hin) hJ (fun p hp q => hoff p hp (by simp [q])) (fun p hp q => hoff p hp (by simp [q])) F₂ (fun q hq => ?_)) (fun f s₃ h₃ => ?_) fun _ _ e => e
    · rcases List.mem_cons.mp hq with rfl | hq
      · exact N₂ _ (List.mem_append_left _ m1)
      · rcases List.mem_cons.mp hq with rfl | hq
        · exact N₂ _ (List.mem_append_left _ m2)
        · exact N₂ _ (List.mem_append_right _ hq)
    · obtain ⟨rfl, h₃', tk₃, m', nx', e, F', N', d1, d2, hj⟩ := h₃
      refine ⟨rfl, h₃', tk₃, m', nx', e, F', fun p hp => ?_, fun p hp hb => ?_, hj⟩
      · rcases List.mem_append.mp hp with hp | hp
        · have hb' : p.1 = s.heap.objs.size + 1 ∨ p.1 = s.heap.objs.size ∨ p.1 = l := by simpa using hsub p hp
          have hg := hown p hp
          obtain ⟨pa, po⟩ := p
          rcases hb' with q | q | q
          · have q' : pa = _ := q
            subst q'
            have : po = oe := Option.some.inj (hg.symm.trans hoe)
            rw [this]; exact N' _ (.head _)
          · have q' : pa = _ := q
            subst q'
            have : po = oi := Option.some.inj (hg.symm.trans hoi)
            rw [this]; exact N' _ (.tail _ (.head _))
          · have q' : pa = _ := q
            subst q'
            have : po = listOf vs.toArray k := Option.some.inj (hg.symm.trans (N₁ _ (List.mem_append_right _ (hJl _ _ _ hJ))).1)
            rw [this]; exact N' _ (.tail _ (.tail _ (hJl _ _ _ hj)))
        · exact N' _ (.tail _ (.tail _ hp))
      · have hb' : p.1 = s.heap.objs.size + 1 ∨ p.1 = s.heap.objs.size := by simpa using hb
        rcases hb' with q | q
        · exact d1 p hp q
        · exact d2 p hp q
  · intro h'' tk m' nx F' N' _ hJ
    rw [hlen] at hJ
    exact done m' nx h'' tk hJ F' N'
end
end Mine
namespace Mine
open PySem.Calls PyProof.V PySem.Spec
theorem news_tl {h₀ h : Heap} {L : Addr} {p : Addr × Obj} {l : List (Addr × Obj)} (N : News h₀ L h (p :: l)) : News h₀ L h l := fun q hq => N q (.tail _ hq)
theorem news_rot {h₀ h : Heap} {L : Addr} {p q r : Addr × Obj} {l : List (Addr × Obj)} (N : News h₀ L h (p :: q :: r :: l)) : News h₀ L h (r :: p :: q :: l) := fun z hz => N z (by simp only [List.mem_cons] at hz ⊢; rcases hz with h | h | h | h <;> simp only [h, true_or, or_true])
theorem news_back {h₀ h : Heap} {L : Addr} {p q r : Addr × Obj} {l : List (Addr × Obj)} (N : News h₀ L h (r :: p :: q :: l)) : News h₀ L h (p :: q :: r :: l) := news_rot (news_rot N)
theorem off3 {fa : Addr} {a1 a2 : Addr × Obj} {o : Obj} {rest : List (Addr × Obj)} (d1 : ∀ p ∈ (fa, o) :: rest, @Ne Nat p.1 a1.1) (d2 : ∀ p ∈ (fa, o) :: rest, @Ne Nat p.1 a2.1) (h : ∀ q ∈ rest, q.1 ≠ fa) : ∀ q ∈ a1 :: a2 :: rest, q.1 ≠ fa := by
  intro q hq
  rcases List.mem_cons.mp hq with rfl | hq
  · exact Ne.symm (d1 (fa, o) (.head _))
  · rcases List.mem_cons.mp hq with rfl | hq
    · exact Ne.symm (d2 (fa, o) (.head _))
    · exact h q hq
theorem off_of {fa : Addr} {l : List (Addr × Obj)} (x : AllLt fa l) : ∀ q ∈ l, q.1 ≠ fa := by
  induction l with
  | nil => intro q h; cases h
  | cons p l ih =>
    intro q hq
    rcases List.mem_cons.mp hq with rfl | hq
    · exact Nat.ne_of_lt x.1
    · exact ih x.2 q hq
/-- a list of ints that is filled, all else as it stood -/
def MJ (fa : Addr) (rest : List (Addr × Obj)) (Fn : Nat → List Int) (X : Nat → (Str → Option Value) → Prop) (stored : List Str) (m₀ : Str → Option Value) (i : Nat) (m : Str → Option Value) (nx : List (Addr × Obj)) : Prop :=
  ∃ ws kk, nx = (fa, listOf (List.toArray ws) kk) :: rest ∧ IntsAre ws (Fn i) ∧ X i m ∧ ∀ z, stored.contains z = false → m z = m₀ z
section
variable {prog : Program} {w : World} {A : Around} {E : Value → Shared → Prop} {s : Shared} {h₀ : Heap} {env : Env} {body : List Stmt} {Q : Flow → Shared → Prop} {l fa : Addr} {vs ws₀ : List Value} {ns : List Int} {k k₀ : Nat} {rest : List (Addr × Obj)} {xa xb : Str} {pa pb tp : Pos} {kk : Nat} {m₀ : Str → Option Value}
theorem mul_outer (Fn : Nat → List Int) (stored : List Str)
    (hh : A.handled = none) (hxa : env.kindOf xa = some .local) (hxb : env.kindOf xb = some .local) (hp : (env.scope.kind == .class || (env.scope.kind == .module && env.locals != env.globals)) = false)
    (F : Fr h₀ env.locals s.heap m₀) (N : News h₀ env.locals s.heap ((fa, listOf ws₀.toArray k₀) :: rest)) (hi : IntsAre vs ns) (hm : (l, listOf vs.toArray k) ∈ rest) (hof : ∀ q ∈ rest, q.1 ≠ fa) (I0 : IntsAre ws₀ (Fn 0))
    (turn : ∀ (i : Nat) ta tb (u : Str → Option Value) h tk a1 a2 ws kw, i < ns.length → IntsAre ws (Fn i) → (∀ p ∈ (fa, listOf (List.toArray ws) kw) :: rest, @Ne Nat p.1 a1.1) → (∀ p ∈ (fa, listOf (List.toArray ws) kw) :: rest, @Ne Nat p.1 a2.1) → (∀ q ∈ a1 :: a2 :: rest, q.1 ≠ fa) →
      Fr h₀ env.locals h (fun z => if z = xb then some (.int (ns.getD i 0) tb) else if z = xa then some (.int (i : Int) ta) else if stored.contains z then u z else m₀ z) → News h₀ env.locals h ((fa, listOf ws.toArray kw) :: a1 :: a2 :: rest) →
      wpAny (model prog w) A (execs body env) (EEnd h₀ env.locals a1 a2 (MJ fa rest Fn (fun _ _ => True) stored m₀ (i + 1)) { s with heap := h, toks := tk }) E { s with heap := h, toks := tk })
    (done : ∀ (u : Str → Option Value) h tk ws kw, IntsAre ws (Fn ns.length) → Fr h₀ env.locals h (fun z => if stored.contains z then u z else m₀ z) → News h₀ env.locals h ((fa, listOf (List.toArray ws) kw) :: rest) → Q .next { s with heap := h, toks := tk }) :
    wpAny (model prog w) A (call (.type "enumerate") [.ref l]) (fun xv s₁ => wpAny (model prog w) A (pyIter xv) (fun it s₂ => TurnsAt prog w A h₀ env (.Tuple [.Name xa pa, .Name xb pb] kk tp) body Q E it s₂) E s₁) E s := by
  have em : ∀ m : Str → Option Value, (∀ z, stored.contains z = false → m z = m₀ z) → m = fun z => if stored.contains z then m z else m₀ z := fun m h => by
    funext z
    cases hc : stored.contains z with
    | true => simp
    | false => simp only [Bool.false_eq_true, if_false]; exact h z hc
  refine enum_loop (k := k) (MJ fa rest Fn (fun _ _ => True) stored m₀) hh hxa hxb hp F N hi (fun i m nx hJ => ?_) ⟨ws₀, k₀, rfl, I0, trivial, fun _ _ => rfl⟩ ?_ ?_
  · obtain ⟨ws, kw, rfl, _⟩ := hJ
    exact .tail _ hm
  · rintro i ta tb m₁ nx h tk a1 a2 hi' ⟨ws, kw, rfl, I1, _, hk⟩ d1 d2 F₁ N₁
    rw [em m₁ hk] at F₁
    exact turn i ta tb m₁ h tk a1 a2 ws kw hi' I1 d1 d2 (off3 d1 d2 hof) F₁ (news_rot N₁)
  · rintro m₁ nx h tk ⟨ws, kw, rfl, I1, _, hk⟩ F₁ N₁
    rw [em m₁ hk] at F₁
    exact done m₁ h tk ws kw I1 F₁ N₁
theorem mul_inner (Fn : Nat → List Int) (cn : Str) (cf : Nat → Int) (stored : List Str) {t₀ : Tok}
    (hh : A.handled = none) (hxa : env.kindOf xa = some .local) (hxb : env.kindOf xb = some .local) (hp : (env.scope.kind == .class || (env.scope.kind == .module && env.locals != env.globals)) = false)
    (F : Fr h₀ env.locals s.heap m₀) (N : News h₀ env.locals s.heap ((fa, listOf ws₀.toArray k₀) :: rest)) (hi : IntsAre vs ns) (hm : (l, listOf vs.toArray k) ∈ rest) (hof : ∀ q ∈ rest, q.1 ≠ fa) (I0 : IntsAre ws₀ (Fn 0)) (hc : m₀ cn = some (.int (cf 0) t₀))
    (turn : ∀ (i : Nat) ta tb tc (u : Str → Option Value) h tk a1 a2 ws kw, i < ns.length → IntsAre ws (Fn i) → (∀ p ∈ (fa, listOf (List.toArray ws) kw) :: rest, @Ne Nat p.1 a1.1) → (∀ p ∈ (fa, listOf (List.toArray ws) kw) :: rest, @Ne Nat p.1 a2.1) → (∀ q ∈ a1 :: a2 :: rest, q.1 ≠ fa) →
      Fr h₀ env.locals h (fun z => if z = xb then some (.int (ns.getD i 0) tb) else if z = xa then some (.int (i : Int) ta) else if z = cn then some (.int (cf i) tc) else if stored.contains z then u z else m₀ z) → News h₀ env.locals h ((fa, listOf ws.toArray kw) :: a1 :: a2 :: rest) →
      wpAny (model prog w) A (execs body env) (EEnd h₀ env.locals a1 a2 (MJ fa rest Fn (fun i m => ∃ t, m cn = some (.int (cf i) t)) stored m₀ (i + 1)) { s with heap := h, toks := tk }) E { s with heap := h, toks := tk })
    (done : ∀ (u : Str → Option Value) tc h tk ws kw, IntsAre ws (Fn ns.length) → Fr h₀ env.locals h (fun z => if z = cn then some (.int (cf ns.length) tc) else if stored.contains z then u z else m₀ z) → News h₀ env.locals h ((fa, listOf (List.toArray ws) kw) :: rest) → Q .next { s with heap := h, toks := tk }) :
    wpAny (model prog w) A (call (.type "enumerate") [.ref l]) (fun xv s₁ => wpAny (model prog w) A (pyIter xv) (fun it s₂ => TurnsAt prog w A h₀ env (.Tuple [.Name xa pa, .Name xb pb] kk tp) body Q E it s₂) E s₁) E s := by
  have em : ∀ (m : Str → Option Value) v, m cn = v → (∀ z, stored.contains z = false → m z = m₀ z) → m = fun z => if z = cn then v else if stored.contains z then m z else m₀ z := fun m v hv h => by
    funext z
    by_cases hz : z = cn
    · rw [if_pos hz, hz, hv]
    · rw [if_neg hz]
      cases hc : stored.contains z with
      | true => simp
      | false => simp only [Bool.false_eq_true, if_false]; exact h z hc
  refine enum_loop (k := k) (MJ fa rest Fn (fun i m => ∃ t, m cn = some (.int (cf i) t)) stored m₀) hh hxa hxb hp F N hi (fun i m nx hJ => ?_) ⟨ws₀, k₀, rfl, I0, ⟨_, hc⟩, fun _ _ => rfl⟩ ?_ ?_
  · obtain ⟨ws, kw, rfl, _⟩ := hJ
    exact .tail _ hm
  · rintro i ta tb m₁ nx h tk a1 a2 hi' ⟨ws, kw, rfl, I1, ⟨tc, hv⟩, hk⟩ d1 d2 F₁ N₁
    rw [em m₁ _ hv hk] at F₁
    exact turn i ta tb tc m₁ h tk a1 a2 ws kw hi' I1 d1 d2 (off3 d1 d2 hof) F₁ (news_rot N₁)
  · rintro m₁ nx h tk ⟨ws, kw, rfl, I1, ⟨tc, hv⟩, hk⟩ F₁ N₁
    rw [em m₁ _ hv hk] at F₁
    exact done m₁ tc h tk ws kw I1 F₁ N₁
end
theorem end_loop {h₀ h' : Heap} {L : Addr} {s s₂ : Shared} {a1 a2 : Addr × Obj} {fa : Addr} {rest : List (Addr × Obj)} {Fn : Nat → List Int} {X : Nat → (Str → Option Value) → Prop} {stored : List Str} {m₀ m' : Str → Option Value} {i tk' kw : Nat} {ws : List Value}
    (es : s₂ = { s with heap := h', toks := tk' }) (F : Fr h₀ L h' m') (N : News h₀ L h' ((fa, listOf ws.toArray kw) :: a1 :: a2 :: rest)) (IA : IntsAre ws (Fn i)) (x : X i m') {o : Obj}
    (d1 : ∀ p ∈ (fa, o) :: rest, @Ne Nat p.1 a1.1) (d2 : ∀ p ∈ (fa, o) :: rest, @Ne Nat p.1 a2.1) (hm : ∀ z, stored.contains z = false → m' z = m₀ z) : EEnd h₀ L a1 a2 (MJ fa rest Fn X stored m₀ i) s .next s₂ := by
  refine ⟨rfl, h', tk', m', _, es, F, news_back N, fun p hp => ?_, fun p hp => ?_, ws, kw, rfl, IA, x, hm⟩
  · rcases List.mem_cons.mp hp with rfl | hp
    · exact d1 (fa, o) (.head _)
    · exact d1 _ (.tail _ hp)
  · rcases List.mem_cons.mp hp with rfl | hp
    · exact d2 (fa, o) (.head _)
    · exact d2 _ (.tail _ hp)
end Mine
namespace Mine
/-- the rule's way from x -/
def orb (M a c x : Int) : Nat → Int
  | 0 => x % M
  | k + 1 => (orb M a c x k * a + c) % M
def geo (a : Int) : Nat → Int
  | 0 => 0
  | k + 1 => a * geo a k + 1
theorem orb_nonneg {M a c x : Int} (hM : 0 < M) : ∀ k, 0 ≤ orb M a c x k
  | 0 => Int.emod_nonneg _ (by omega)
  | _ + 1 => Int.emod_nonneg _ (by omega)
theorem orb_lt {M a c x : Int} (hM : 0 < M) : ∀ k, orb M a c x k < M
  | 0 => Int.emod_lt_of_pos _ hM
  | _ + 1 => Int.emod_lt_of_pos _ hM
theorem orb_succ (M a c x : Int) (k : Nat) : ∃ q, orb M a c x (k + 1) = orb M a c x k * a + c + M * q :=
  ⟨-((orb M a c x k * a + c) / M), by
    show (orb M a c x k * a + c) % M = _
    have := Int.emod_add_mul_ediv (orb M a c x k * a + c) M
    rw [Int.mul_neg]; omega⟩
theorem orb_add (M a c x : Int) (i : Nat) : ∀ k, ∃ q, orb M a c x (i + k) = a ^ k * orb M a c x i + c * geo a k + M * q
  | 0 => ⟨0, by simp [geo]⟩
  | k + 1 => by
    obtain ⟨q, hq⟩ := orb_add M a c x i k
    obtain ⟨r, hr⟩ := orb_succ M a c x (i + k)
    refine ⟨a * q + r, ?_⟩
    rw [← Nat.add_assoc, hr, hq, geo, Int.pow_succ]
    grind
/-- two within the bounds are one where M divides what parts them -/
theorem eq_of_dvd {M u v q : Int} (h : u - v = M * q) (u0 : 0 ≤ u) (u1 : u < M) (v0 : 0 ≤ v) (v1 : v < M) : u = v := by
  have hM : 0 < M := by omega
  have h1 : q < 1 := Int.lt_of_mul_lt_mul_left (a := M) (by omega) (by omega)
  have h2 : -1 < q := Int.lt_of_mul_lt_mul_left (a := M) (by omega) (by omega)
  have : q = 0 := by omega
  subst this
  omega
theorem orb_eq_of {M a c x q : Int} (hM : 0 < M) {i j : Nat} (h : orb M a c x i - orb M a c x j = M * q) : orb M a c x i = orb M a c x j :=
  eq_of_dvd h (orb_nonneg hM i) (orb_lt hM i) (orb_nonneg hM j) (orb_lt hM j)
theorem orb_go {M a c x : Int} {i j : Nat} (h : orb M a c x i = orb M a c x j) : ∀ k, orb M a c x (i + k) = orb M a c x (j + k)
  | 0 => h
  | k + 1 => by
    show (orb M a c x (i + k) * a + c) % M = (orb M a c x (j + k) * a + c) % M
    rw [orb_go h k]
/-- an odd factor goes out of a power of two -/
theorem odd_out {a : Int} (ha : a % 2 = 1) : ∀ (e : Nat) {d q : Int}, a * d = 2 ^ e * q → ∃ r, d = 2 ^ e * r
  | 0, d, _, _ => ⟨d, by simp⟩
  | e + 1, d, q, h => by
    have h2 : d % 2 = 0 := by
      have e1 : (a * d) % 2 = 0 := by
        rw [h, Int.pow_succ, Int.mul_comm (2 ^ e), Int.mul_assoc]; omega
      rw [Int.mul_emod, ha] at e1
      omega
    obtain ⟨d', hd'⟩ : ∃ d', d = 2 * d' := ⟨d / 2, by omega⟩
    subst hd'
    rw [Int.pow_succ] at h
    obtain ⟨r, hr⟩ := odd_out ha e (d := d') (q := q) (by grind)
    exact ⟨r, by rw [hr, Int.pow_succ]; grind⟩
theorem two_pos' (e : Nat) : (0 : Int) < 2 ^ e := Int.pow_pos (by decide)
theorem orb_back1 {a c x : Int} {e : Nat} (ha : a % 2 = 1) {i j : Nat} (h : orb (2 ^ e) a c x (i + 1) = orb (2 ^ e) a c x (j + 1)) : orb (2 ^ e) a c x i = orb (2 ^ e) a c x j := by
  obtain ⟨q, hq⟩ := orb_succ (2 ^ e) a c x i
  obtain ⟨r, hr⟩ := orb_succ (2 ^ e) a c x j
  obtain ⟨t, ht⟩ := odd_out ha e (d := orb (2 ^ e) a c x i - orb (2 ^ e) a c x j) (q := r - q) (by grind)
  exact orb_eq_of (two_pos' e) ht
theorem orb_back {a c x : Int} {e : Nat} (ha : a % 2 = 1) {i j : Nat} : ∀ k, orb (2 ^ e) a c x (i + k) = orb (2 ^ e) a c x (j + k) → orb (2 ^ e) a c x i = orb (2 ^ e) a c x j
  | 0, h => h
  | k + 1, h => orb_back ha k (orb_back1 ha h)
/-- an even factor: the way stays from e steps on -/
theorem even_pow {a : Int} (ha : a % 2 = 0) : ∀ e : Nat, ∃ q, a ^ e = 2 ^ e * q
  | 0 => ⟨1, by simp⟩
  | e + 1 => by
    obtain ⟨q, hq⟩ := even_pow ha e
    obtain ⟨b, hb⟩ : ∃ b, a = 2 * b := ⟨a / 2, by omega⟩
    exact ⟨q * b, by rw [Int.pow_succ, hq, hb, Int.pow_succ]; grind⟩
theorem orb_stay1 {a c x : Int} {e : Nat} (ha : a % 2 = 0) : orb (2 ^ e) a c x (e + 1) = orb (2 ^ e) a c x e := by
  obtain ⟨q, hq⟩ := orb_add (2 ^ e) a c x 0 e
  obtain ⟨r, hr⟩ := orb_add (2 ^ e) a c x 1 e
  obtain ⟨t, ht⟩ := even_pow ha e
  rw [Nat.add_comm] at hr
  rw [Nat.zero_add] at hq
  refine orb_eq_of (q := t * orb (2 ^ e) a c x 1 + r - (t * orb (2 ^ e) a c x 0 + q)) (two_pos' e) ?_
  rw [hr, hq, ht]
  grind
theorem orb_stay {a c x : Int} {e : Nat} (ha : a % 2 = 0) : ∀ k, orb (2 ^ e) a c x (e + k) = orb (2 ^ e) a c x e
  | 0 => rfl
  | k + 1 => by
    have h := orb_go (orb_stay1 (c := c) (x := x) (e := e) ha) k
    rw [orb_stay ha k] at h
    rw [← h]
    congr 1; omega
/-- the step of 2 ^ e turns at once, for a factor of one more than a multiple of four -/
theorem hull {a : Int} (ha : a % 4 = 1) : ∀ e : Nat, (∃ u, a ^ (2 ^ e) = 1 + 4 * 2 ^ e * u) ∧ ∃ v, geo a (2 ^ e) = 2 ^ e * (1 + 2 * v)
  | 0 => ⟨⟨a / 4, by rw [Nat.pow_zero, Int.pow_one]; omega⟩, ⟨0, by simp [geo]⟩⟩
  | e + 1 => by
    obtain ⟨⟨u, hu⟩, v, hv⟩ := hull ha e
    have gadd : ∀ i k, geo a (i + k) = a ^ k * geo a i + geo a k := by
      intro i k
      induction k with
      | zero => simp [geo]
      | succ k ih => rw [← Nat.add_assoc, geo, ih, geo, Int.pow_succ]; grind
    have e2 : 2 ^ (e + 1) = 2 ^ e + 2 ^ e := by rw [Nat.pow_succ]; omega
    refine ⟨⟨u + 2 * 2 ^ e * u * u, ?_⟩, v + 2 ^ e * u + 2 * 2 ^ e * u * v, ?_⟩
    · rw [e2, Int.pow_add, hu, Int.pow_succ]; grind
    · rw [e2, gadd, hu, hv, Int.pow_succ]; grind
end Mine
namespace Mine
/-! pigeons -/
theorem pig_erase {l : List Nat} (hn : l.Nodup) {n : Nat} (hb : ∀ x ∈ l, x < n + 1) : ∀ x ∈ l.erase n, x < n := by
  intro x hx
  have h := (hn.mem_erase_iff).mp hx
  have := hb x h.2
  omega
theorem pig : ∀ (n : Nat) {l : List Nat}, l.Nodup → (∀ x ∈ l, x < n) → l.length ≤ n
  | 0, l, _, hb => by
    cases l with
    | nil => exact Nat.le_refl _
    | cons x r => exact absurd (hb x (.head _)) (Nat.not_lt_zero _)
  | n + 1, l, hn, hb => by
    have h := pig n (hn.erase n) (pig_erase hn hb)
    by_cases hm : n ∈ l
    · rw [List.length_erase_of_mem hm] at h; omega
    · rw [List.erase_of_not_mem hm] at h; omega
theorem pig_perm : ∀ (n : Nat) {l : List Nat}, l.Nodup → (∀ x ∈ l, x < n) → l.length = n → l.Perm (List.range n)
  | 0, l, _, _, hl => by
    rw [List.length_eq_zero_iff.mp hl]; exact .refl _
  | n + 1, l, hn, hb, hl => by
    have hm : n ∈ l := by
      by_cases hm : n ∈ l
      · exact hm
      · have h := pig n hn (fun x hx => by
          have h1 := hb x hx
          have h2 : x ≠ n := fun e => hm (e ▸ hx)
          omega)
        omega
    have ih := pig_perm n (hn.erase n) (pig_erase hn hb) (by rw [List.length_erase_of_mem hm]; omega)
    rw [List.range_succ]
    refine (List.perm_cons_erase hm).trans ((ih.cons n).trans ?_)
    exact (List.perm_append_comm (l₁ := [n]) (l₂ := List.range n))
end Mine
namespace Mine
theorem geo_two (a : Int) : ∀ k : Nat, geo a (2 * k) = (1 + a) * geo (a * a) k
  | 0 => by simp [geo]
  | k + 1 => by
    have ih := geo_two a k
    rw [show 2 * (k + 1) = 2 * k + 1 + 1 by omega, geo, geo, ih, geo]
    grind
theorem geo_pow (a : Int) : ∀ k : Nat, (a - 1) * geo a k = a ^ k - 1
  | 0 => by simp [geo]
  | k + 1 => by
    have ih := geo_pow a k
    rw [geo, Int.pow_succ]
    grind
theorem geo_odd {a : Int} (ha : a % 2 = 1) : ∀ k : Nat, geo a k % 2 = (k : Int) % 2
  | 0 => rfl
  | k + 1 => by
    have ih := geo_odd ha k
    rw [geo, Int.add_emod, Int.mul_emod, ha, ih]
    omega
theorem geo_dvd : ∀ (e : Nat) {a : Int} {d : Nat} {q : Int}, a % 4 = 1 → geo a d = 2 ^ e * q → ∃ r : Nat, d = 2 ^ e * r
  | 0, _, d, _, _, _ => ⟨d, by simp⟩
  | e + 1, a, d, q, ha, h => by
    have h1 := geo_odd (a := a) (by omega) d
    have h2 : geo a d % 2 = 0 := by rw [h, Int.pow_succ, Int.mul_comm (2 ^ e), Int.mul_assoc]; omega
    obtain ⟨k, hk⟩ : ∃ k, d = 2 * k := ⟨d / 2, by omega⟩
    subst hk
    obtain ⟨b, hb⟩ : ∃ b, a = 4 * b + 1 := ⟨a / 4, by omega⟩
    have h3 : (2 * b + 1) * geo (a * a) k = 2 ^ e * q := by
      rw [geo_two, Int.pow_succ] at h
      have : 2 * ((2 * b + 1) * geo (a * a) k) = 2 * (2 ^ e * q) := by grind
      omega
    obtain ⟨r, hr⟩ := odd_out (by omega) e h3
    have h4 : (a * a) % 4 = 1 := by rw [Int.mul_emod, ha]; rfl
    obtain ⟨t, ht⟩ := geo_dvd e h4 hr
    exact ⟨t, by rw [ht, Nat.pow_succ]; grind⟩
/-- Hull and Dobell: the way comes back at a multiple of 2 ^ e only -/
theorem hd_back {a c x : Int} {e d : Nat} (ha : a % 4 = 1) (hc : c % 2 = 1) (h : orb (2 ^ e) a c x d = orb (2 ^ e) a c x 0) : ∃ r, d = 2 ^ e * r := by
  obtain ⟨q, hq⟩ := orb_add (2 ^ e) a c x 0 d
  rw [Nat.zero_add, h] at hq
  have hp := geo_pow a d
  generalize orb (2 ^ e) a c x 0 = y at *
  have h1 : ((a - 1) * y + c) * geo a d = 2 ^ e * (-q) := by grind
  obtain ⟨b, hb⟩ : ∃ b, a = 2 * b + 1 := ⟨a / 2, by omega⟩
  have h2 : ((a - 1) * y + c) % 2 = 1 := by
    rw [hb, show (2 * b + 1 - 1) * y = 2 * (b * y) by grind]; omega
  obtain ⟨r, hr⟩ := odd_out h2 e h1
  exact geo_dvd e ha hr
/-- the least one that holds -/
theorem least_of (p : Nat → Prop) : ∀ n : Nat, (∃ k, 1 ≤ k ∧ k ≤ n ∧ p k) → ∃ k, 1 ≤ k ∧ k ≤ n ∧ p k ∧ ∀ j, 1 ≤ j → j < k → ¬ p j
  | 0, h => by obtain ⟨k, h1, h2, _⟩ := h; omega
  | n + 1, h => by
    by_cases h0 : ∃ k, 1 ≤ k ∧ k ≤ n ∧ p k
    · obtain ⟨k, h1, h2, h3, h4⟩ := least_of p n h0
      exact ⟨k, h1, by omega, h3, h4⟩
    · obtain ⟨k, h1, h2, h3⟩ := h
      refine ⟨k, h1, h2, h3, fun j j1 j2 hj => h0 ⟨j, j1, by omega, hj⟩⟩
theorem nodup_map {f : Nat → Nat} : ∀ {n : Nat}, (∀ i j, i < j → j < n → f i ≠ f j) → ((List.range n).map f).Nodup
  | 0, _ => List.nodup_nil
  | n + 1, h => by
    rw [List.range_succ, List.map_append, List.nodup_append]
    refine ⟨nodup_map fun i j h1 h2 => h i j h1 (by omega), by simp, ?_⟩
    intro x hx y hy
    obtain ⟨i, hi, rfl⟩ := List.mem_map.mp hx
    have hy' : y = f n := by simpa using hy
    rw [hy']
    exact h i n (List.mem_range.mp hi) (by omega)
/-- no more of one rest than there are -/
theorem pig_rest {h : Nat → Int} {K : Nat} {q m r : Int} (hq : 0 < q) (h0 : ∀ k, k < K → 0 ≤ h k ∧ h k < q * m) (hr : ∀ k, k < K → h k % q = r) (hi : ∀ i j, i < j → j < K → h i ≠ h j) : (K : Int) ≤ m ∨ K = 0 := by
  by_cases hK : K = 0
  · exact .inr hK
  refine .inl ?_
  have hm : 0 ≤ m := by
    have h1 := h0 0 (by omega)
    by_cases hm : 0 ≤ m
    · exact hm
    · have := Int.mul_le_mul_of_nonneg_left (show m ≤ 0 by omega) (Int.le_of_lt hq)
      omega
  have hd : ∀ k, k < K → 0 ≤ h k / q ∧ h k / q < m := fun k hk => by
    have h1 := h0 k hk
    exact ⟨Int.ediv_nonneg h1.1 (by omega), Int.ediv_lt_of_lt_mul hq (by rw [Int.mul_comm]; exact h1.2)⟩
  have hn : ((List.range K).map fun k => (h k / q).toNat).Nodup := nodup_map fun i j h1 h2 e => by
    have e1 := hd i (by omega)
    have e2 := hd j h2
    have e3 : h i / q = h j / q := by omega
    have e4 := Int.emod_add_mul_ediv (h i) q
    have e5 := Int.emod_add_mul_ediv (h j) q
    rw [hr i (by omega), e3] at e4
    rw [hr j h2] at e5
    exact hi i j h1 h2 (by omega)
  have := pig m.toNat hn (fun x hx => by
    obtain ⟨k, hk, rfl⟩ := List.mem_map.mp hx
    have := hd k (List.mem_range.mp hk)
    omega)
  rw [List.length_map, List.length_range] at this
  omega
end Mine
namespace Mine
theorem pow_cast (e : Nat) : ((2 ^ e : Nat) : Int) = 2 ^ e := by simp
theorem per_of {a c x : Int} (e : Nat) (ha : a % 2 = 1) : ∃ P, 1 ≤ P ∧ P ≤ 2 ^ e ∧ orb (2 ^ e) a c x P = orb (2 ^ e) a c x 0 ∧ ∀ i j, i < j → j < P → orb (2 ^ e) a c x i ≠ orb (2 ^ e) a c x j := by
  have hM := two_pos' e
  have hc := pow_cast e
  have back : ∀ i j, i < j → orb (2 ^ e) a c x i = orb (2 ^ e) a c x j → orb (2 ^ e) a c x (j - i) = orb (2 ^ e) a c x 0 := fun i j hij h => by
    refine (orb_back (i := 0) (j := j - i) ha i ?_).symm
    rw [Nat.zero_add, Nat.sub_add_cancel (by omega)]; exact h
  have hex : ∃ k, 1 ≤ k ∧ k ≤ 2 ^ e ∧ orb (2 ^ e) a c x k = orb (2 ^ e) a c x 0 := by
    by_cases h : ∃ k, 1 ≤ k ∧ k ≤ 2 ^ e ∧ orb (2 ^ e) a c x k = orb (2 ^ e) a c x 0
    · exact h
    · have hn : ((List.range (2 ^ e + 1)).map fun k => (orb (2 ^ e) a c x k).toNat).Nodup := nodup_map fun i j h1 h2 q => by
        have e1 := orb_nonneg (a := a) (c := c) (x := x) hM i
        have e2 := orb_nonneg (a := a) (c := c) (x := x) hM j
        exact h ⟨j - i, by omega, by omega, back i j h1 (by omega)⟩
      have := pig (2 ^ e) hn (fun y hy => by
        obtain ⟨k, _, rfl⟩ := List.mem_map.mp hy
        have e1 := orb_nonneg (a := a) (c := c) (x := x) hM k
        have e2 := orb_lt (a := a) (c := c) (x := x) hM k
        omega)
      rw [List.length_map, List.length_range] at this
      omega
  obtain ⟨P, p1, p2, p3, p4⟩ := least_of _ _ hex
  exact ⟨P, p1, p2, p3, fun i j h1 h2 q => p4 (j - i) (by omega) (by omega) (back i j h1 q)⟩
/-- all come only where Hull and Dobell say so -/
theorem per_full {a c x : Int} {e P : Nat} (he : 2 ≤ e) (ha : a % 2 = 1) (hP : P ≤ 2 ^ e) (hd : ∀ i j, i < j → j < P → orb (2 ^ e) a c x i ≠ orb (2 ^ e) a c x j) (hn : ¬ (c % 2 = 1 ∧ a % 4 = 1)) : P < 2 ^ e := by
  have hM := two_pos' e
  have hc := pow_cast e
  obtain ⟨f, rfl⟩ : ∃ f, e = f + 2 := ⟨e - 2, by omega⟩
  have h4 : (2 : Int) ^ (f + 2) = 4 * 2 ^ f := by rw [Int.pow_succ, Int.pow_succ]; omega
  have h4n : (2 : Nat) ^ (f + 2) = 4 * 2 ^ f := by rw [Nat.pow_succ, Nat.pow_succ]; omega
  have hf := two_pos' f
  have hcf := pow_cast f
  by_cases hlt : P < 2 ^ (f + 2)
  · exact hlt
  have hPe : P = 2 ^ (f + 2) := by omega
  exfalso
  by_cases hc2 : c % 2 = 0
  · -- the parity stays
    have step : ∀ k, orb (2 ^ (f + 2)) a c x (k + 1) % 2 = orb (2 ^ (f + 2)) a c x k % 2 := fun k => by
      obtain ⟨q, hq⟩ := orb_succ (2 ^ (f + 2)) a c x k
      obtain ⟨b, hb⟩ : ∃ b, a = 2 * b + 1 := ⟨a / 2, by omega⟩
      obtain ⟨g, hg⟩ : ∃ g, c = 2 * g := ⟨c / 2, by omega⟩
      have : orb (2 ^ (f + 2)) a c x (k + 1) = orb (2 ^ (f + 2)) a c x k + 2 * (orb (2 ^ (f + 2)) a c x k * b + g + 2 * 2 ^ f * q) := by
        rw [hq, h4]; generalize orb (4 * 2 ^ f) a c x k = y; rw [hb, hg]; grind
      omega
    have all : ∀ k, orb (2 ^ (f + 2)) a c x k % 2 = orb (2 ^ (f + 2)) a c x 0 % 2 := fun k => by
      induction k with
      | zero => rfl
      | succ k ih => rw [step, ih]
    have := pig_rest (h := orb (2 ^ (f + 2)) a c x) (K := P) (q := 2) (m := 2 * 2 ^ f) (r := orb (2 ^ (f + 2)) a c x 0 % 2) (by decide)
      (fun k _ => ⟨orb_nonneg hM k, by have := orb_lt (a := a) (c := c) (x := x) hM k; omega⟩) (fun k _ => all k) (fun i j h1 h2 => hd i j h1 h2)
    omega
  · -- two steps keep the rest by four
    have ha4 : a % 4 = 3 := by omega
    have step : ∀ k, orb (2 ^ (f + 2)) a c x (k + 2) % 4 = orb (2 ^ (f + 2)) a c x k % 4 := fun k => by
      obtain ⟨q, hq⟩ := orb_succ (2 ^ (f + 2)) a c x k
      obtain ⟨r, hr⟩ := orb_succ (2 ^ (f + 2)) a c x (k + 1)
      obtain ⟨b, hb⟩ : ∃ b, a = 4 * b + 3 := ⟨a / 4, by omega⟩
      have : ∃ t, orb (2 ^ (f + 2)) a c x (k + 2) = orb (2 ^ (f + 2)) a c x k + 4 * t := by
        rw [show k + 2 = k + 1 + 1 from rfl, hr, hq, h4]
        generalize orb (4 * 2 ^ f) a c x k = y
        rw [hb]
        exact ⟨y * (4 * b * b + 6 * b + 2) + c * (b + 1) + 2 ^ f * q * (4 * b + 3) + 2 ^ f * r, by grind⟩
      obtain ⟨t, ht⟩ := this
      omega
    have all : ∀ k, orb (2 ^ (f + 2)) a c x (2 * k) % 4 = orb (2 ^ (f + 2)) a c x 0 % 4 := fun k => by
      induction k with
      | zero => rfl
      | succ k ih => rw [show 2 * (k + 1) = 2 * k + 2 by omega, step, ih]
    have := pig_rest (h := fun k => orb (2 ^ (f + 2)) a c x (2 * k)) (K := 2 * 2 ^ f) (q := 4) (m := 2 ^ f) (r := orb (2 ^ (f + 2)) a c x 0 % 4) (by decide)
      (fun k _ => ⟨orb_nonneg hM _, by have := orb_lt (a := a) (c := c) (x := x) hM (2 * k); omega⟩) (fun k _ => all k) (fun i j h1 h2 => hd _ _ (by omega) (by omega))
    omega
end Mine
namespace Mine
/-- the states of the law, one after another -/
def sts (M a c x : Int) (n : Nat) : List Int := (List.range n).map fun j => orb M a c x (j + 1)
def fst (S : List Int) : Nat → Bool := fun i => !((S.take i).any (· == S.getD i 0))
theorem sts_len (M a c x : Int) (n : Nat) : (sts M a c x n).length = n := by rw [sts, List.length_map, List.length_range]
theorem sts_getD {M a c x : Int} {n i : Nat} (h : i < n) : (sts M a c x n).getD i 0 = orb M a c x (i + 1) := by
  rw [List.getD_eq_getElem?_getD, List.getElem?_eq_getElem (by rw [sts_len]; exact h)]
  simp [sts]
theorem mem_take {S : List Int} {i : Nat} {y : Int} (hi : i ≤ S.length) : y ∈ S.take i ↔ ∃ j, j < i ∧ S.getD j 0 = y := by
  constructor
  · intro h
    obtain ⟨j, hj, rfl⟩ := List.getElem_of_mem h
    rw [List.length_take] at hj
    refine ⟨j, by omega, ?_⟩
    rw [List.getD_eq_getElem?_getD, List.getElem?_eq_getElem (by omega), List.getElem_take]; rfl
  · rintro ⟨j, hj, rfl⟩
    rw [List.getD_eq_getElem?_getD, List.getElem?_eq_getElem (by omega)]
    exact List.mem_iff_getElem.mpr ⟨j, by rw [List.length_take]; omega, by rw [List.getElem_take]; rfl⟩
theorem fst_iff {M a c x : Int} {n i : Nat} (h : i < n) : fst (sts M a c x n) i = true ↔ ∀ j, j < i → orb M a c x (j + 1) ≠ orb M a c x (i + 1) := by
  rw [fst, Bool.not_eq_true', List.any_eq_false, sts_getD h]
  constructor
  · intro H j hj q
    refine H (orb M a c x (j + 1)) ((mem_take (by rw [sts_len]; omega)).mpr ⟨j, hj, sts_getD (by omega)⟩) ?_
    simpa using q
  · intro H y hy q
    obtain ⟨j, hj, rfl⟩ := (mem_take (by rw [sts_len]; omega)).mp hy
    rw [sts_getD (by omega)] at q
    exact H j hj (by simpa using q)
theorem gath_thr {p : Nat → Bool} {g : Nat → Int} {P n : Nat} (h1 : ∀ i, i < P → p i = true) (h2 : ∀ i, P ≤ i → i < n → p i = false) : ∀ i, i ≤ n → (gath p g i).length = min i P
  | 0, _ => by simp [gath]
  | i + 1, h => by
    have ih := gath_thr (g := g) h1 h2 i (by omega)
    show (if p i = true then gath p g i ++ [g i] else gath p g i).length = _
    by_cases hi : i < P
    · rw [h1 i hi, if_pos rfl, List.length_append, ih, List.length_singleton]; omega
    · rw [h2 i (by omega) (by omega), if_neg (by decide), ih]; omega
theorem gath_miss {p : Nat → Bool} {g : Nat → Int} {k : Nat} (hk : p k = false) : ∀ i, k < i → (gath p g i).length < i
  | 0, h => absurd h (Nat.not_lt_zero _)
  | i + 1, h => by
    show (if p i = true then gath p g i ++ [g i] else gath p g i).length < _
    by_cases hi : i = k
    · subst hi
      rw [hk, if_neg (by decide)]
      exact Nat.lt_succ_of_le (gath_len p g i)
    · have ih := gath_miss (g := g) hk i (by omega)
      split
      · rw [List.length_append, List.length_singleton]; omega
      · omega
/-- an odd factor: as many are unlike as the way is long till it comes back -/
theorem odd_count {a c x : Int} {e P : Nat} (ha : a % 2 = 1) (p1 : 1 ≤ P) (p2 : P ≤ 2 ^ e) (p3 : orb (2 ^ e) a c x P = orb (2 ^ e) a c x 0) (p4 : ∀ i j, i < j → j < P → orb (2 ^ e) a c x i ≠ orb (2 ^ e) a c x j) (g : Nat → Int) :
    (gath (fst (sts (2 ^ e) a c x (2 ^ e))) g (2 ^ e)).length = P := by
  rw [gath_thr (P := P) (n := 2 ^ e) ?_ ?_ _ (Nat.le_refl _)]
  · omega
  · intro i hi
    refine (fst_iff (by omega)).mpr fun j hj q => ?_
    exact p4 j i hj hi (orb_back1 ha q)
  · intro i h1 h2
    rw [← Bool.not_eq_true, fst_iff h2]
    intro H
    refine H (i - P) (by omega) ?_
    have := orb_go p3 (i - P + 1)
    rw [show P + (i - P + 1) = i + 1 by omega, Nat.zero_add] at this
    exact this.symm
theorem even_count {a c x : Int} {e : Nat} (he : 1 ≤ e) (ha : a % 2 = 0) (g : Nat → Int) : (gath (fst (sts (2 ^ e) a c x (2 ^ e))) g (2 ^ e)).length < 2 ^ e := by
  have hlt : e < 2 ^ e := Nat.lt_two_pow_self
  refine gath_miss (k := e) ?_ _ hlt
  rw [← Bool.not_eq_true, fst_iff hlt]
  intro H
  refine H (e - 1) (by omega) ?_
  rw [show e - 1 + 1 = e by omega]
  exact (orb_stay1 ha).symm
theorem drop_sts {a c x : Int} {e : Nat} (he : 1 ≤ e) (ha : a % 2 = 0) : (sts (2 ^ e) a c x (2 ^ e)).drop (e - 1) = List.replicate (2 ^ e - (e - 1)) ((sts (2 ^ e) a c x (2 ^ e)).getD (e - 1) 0) := by
  have hlt : e < 2 ^ e := Nat.lt_two_pow_self
  rw [List.eq_replicate_iff]
  refine ⟨by rw [List.length_drop, sts_len], fun y hy => ?_⟩
  obtain ⟨i, hi, rfl⟩ := List.getElem_of_mem hy
  rw [List.length_drop, sts_len] at hi
  rw [List.getElem_drop, sts_getD (by omega)]
  simp only [sts, List.getElem_map, List.getElem_range]
  rw [show e - 1 + 1 = e by omega, show e - 1 + i + 1 = e + i by omega]
  exact orb_stay ha i
theorem drop_take {a c x : Int} {e P : Nat} (p2 : P ≤ 2 ^ e) (p3 : orb (2 ^ e) a c x P = orb (2 ^ e) a c x 0) : (sts (2 ^ e) a c x (2 ^ e)).drop P = (sts (2 ^ e) a c x (2 ^ e)).take (2 ^ e - P) := by
  apply List.ext_getElem
  · rw [List.length_drop, List.length_take, sts_len]; omega
  · intro i h1 h2
    rw [List.length_drop, sts_len] at h1
    rw [List.getElem_drop, List.getElem_take]
    simp only [sts, List.getElem_map, List.getElem_range]
    have := orb_go p3 (i + 1)
    rw [Nat.zero_add, show P + (i + 1) = P + i + 1 by omega] at this
    exact this
/-- all come once: each of 0 .. 2 ^ e - 1 -/
theorem all_perm {a c x : Int} {e : Nat} (ha : a % 2 = 1) (p4 : ∀ i j, i < j → j < 2 ^ e → orb (2 ^ e) a c x i ≠ orb (2 ^ e) a c x j) : (sts (2 ^ e) a c x (2 ^ e)).Perm ((List.range (2 ^ e)).map fun i : Nat => (i : Int)) := by
  have hM := two_pos' e
  have hc := pow_cast e
  have hn : ((List.range (2 ^ e)).map fun j => (orb (2 ^ e) a c x (j + 1)).toNat).Nodup := nodup_map fun i j h1 h2 q => by
    have e1 := orb_nonneg (a := a) (c := c) (x := x) hM (i + 1)
    have e2 := orb_nonneg (a := a) (c := c) (x := x) hM (j + 1)
    exact p4 i j h1 h2 (orb_back1 ha (by omega))
  have h := pig_perm (2 ^ e) hn (fun y hy => by
    obtain ⟨k, _, rfl⟩ := List.mem_map.mp hy
    have e1 := orb_nonneg (a := a) (c := c) (x := x) hM (k + 1)
    have e2 := orb_lt (a := a) (c := c) (x := x) hM (k + 1)
    omega) (by rw [List.length_map, List.length_range])
  have h2 := h.map (fun i : Nat => (i : Int))
  rw [List.map_map] at h2
  refine List.Perm.trans (List.Perm.of_eq ?_) h2
  refine List.map_congr_left fun j _ => ?_
  have e1 := orb_nonneg (a := a) (c := c) (x := x) hM (j + 1)
  show _ = ((orb (2 ^ e) a c x (j + 1)).toNat : Int)
  omega
end Mine
namespace Mine
theorem halves_count {a c x : Int} {e k : Nat} (ha : a % 2 = 1) (p4 : ∀ i j, i < j → j < 2 ^ e → orb (2 ^ e) a c x i ≠ orb (2 ^ e) a c x j) (h : Int) :
    ((List.range (2 ^ e)).map fun j => orb (2 ^ e) a c x (j + 1) / 2 ^ k).count h = ((List.range (2 ^ e)).map fun i : Nat => (i : Int) / 2 ^ k).count h := by
  have q := (all_perm (c := c) (x := x) ha p4).map (fun y : Int => y / 2 ^ k)
  rw [sts, List.map_map, List.map_map] at q
  exact q.count_eq h
theorem count_tab : ∀ e, 2 ≤ e → e ≤ 6 → ∀ h : Nat, h < 2 ^ (e / 2) → ((List.range (2 ^ e)).map fun i : Nat => (i : Int) / 2 ^ (e - e / 2)).count (h : Int) = 2 ^ (e - e / 2) := by
  have t2 : ∀ h : Nat, h < 2 → ((List.range 4).map fun i : Nat => (i : Int) / 2).count (h : Int) = 2 := by decide +kernel
  have t3 : ∀ h : Nat, h < 2 → ((List.range 8).map fun i : Nat => (i : Int) / 4).count (h : Int) = 4 := by decide +kernel
  have t4 : ∀ h : Nat, h < 4 → ((List.range 16).map fun i : Nat => (i : Int) / 4).count (h : Int) = 4 := by decide +kernel
  have t5 : ∀ h : Nat, h < 4 → ((List.range 32).map fun i : Nat => (i : Int) / 8).count (h : Int) = 8 := by decide +kernel
  have t6 : ∀ h : Nat, h < 8 → ((List.range 64).map fun i : Nat => (i : Int) / 8).count (h : Int) = 8 := by decide +kernel
  intro e h1 h2
  have : e = 2 ∨ e = 3 ∨ e = 4 ∨ e = 5 ∨ e = 6 := by omega
  rcases this with rfl | rfl | rfl | rfl | rfl
  · exact t2
  · exact t3
  · exact t4
  · exact t5
  · exact t6
theorem fm {a b : Int} (hb : 0 ≤ b) : a.fmod b = a % b := Int.fmod_eq_emod_of_nonneg _ hb
theorem master {wi av cv bv : Int} (h1 : 2 ≤ wi) (h2 : wi ≤ 6) {S H G : List Int}
    (hS : List.map (fun j => orb (2 ^ wi.toNat) av cv bv (j + 1)) (List.range (2 ^ wi.toNat : Int).toNat) = S)
    (hH : List.map (fun j => orb (2 ^ wi.toNat) av cv bv (j + 1) / 2 ^ (wi - wi.fdiv 2).toNat) (List.range (2 ^ wi.toNat : Int).toNat) = H)
    (hG : gath (fun i => !((S.take i).any (· == S.getD i 0))) (fun i => S.getD i 0) S.length = G) :
    S.length = (2 ^ wi.toNat : Int).toNat ∧ H.length = S.length ∧ (∀ i, i < S.length → 0 ≤ S.getD i 0 ∧ S.getD i 0 < 2 ^ wi.toNat) ∧
    ((cv.fmod 2 == 1) && (av.fmod 4 == 1)) = ((G.length : Int) == 2 ^ wi.toNat) ∧
    ((((G.length : Int) == 2 ^ wi.toNat) = true ∧ S.getD (S.length - 1) 0 = bv.fmod (2 ^ wi.toNat) ∧ ∀ h : Nat, h < 2 ^ (wi.fdiv 2).toNat → H.count (h : Int) = 2 ^ (wi - wi.fdiv 2).toNat) ∨
     (((G.length : Int) == 2 ^ wi.toNat) = false ∧ (av.fmod 2 == 1) = true ∧ 1 ≤ G.length ∧ G.length < S.length ∧ S.getD (G.length - 1) 0 = bv.fmod (2 ^ wi.toNat) ∧ (∀ i, i < G.length - 1 → S.getD i 0 ≠ bv.fmod (2 ^ wi.toNat)) ∧ S.drop G.length = S.take (S.length - G.length)) ∨
     (((G.length : Int) == 2 ^ wi.toNat) = false ∧ (av.fmod 2 == 1) = false ∧ S.drop (wi - 1).toNat = List.replicate (2 ^ wi.toNat - wi + 1).toNat (S.getD (wi - 1).toNat 0))) := by
  obtain ⟨e, rfl⟩ : ∃ e : Nat, wi = e := ⟨wi.toNat, by omega⟩
  have hM := two_pos' e
  have hc := pow_cast e
  have e1 : 2 ≤ e := by omega
  have e2 : e ≤ 6 := by omega
  rw [Int.toNat_natCast] at *
  have hn : ((2 : Int) ^ e).toNat = 2 ^ e := by omega
  have hf : (e : Int).fdiv 2 = ((e / 2 : Nat) : Int) := by rw [Int.fdiv_eq_ediv_of_nonneg _ (by decide)]; omega
  have hf2 : ((e : Int) - ((e / 2 : Nat) : Int)).toNat = e - e / 2 := by omega
  rw [hf, hf2] at hH
  rw [hf, hf2, hn, Int.toNat_natCast]
  rw [hn] at hS hH
  have hS' : sts (2 ^ e) av cv bv (2 ^ e) = S := hS
  have hSl : S.length = 2 ^ e := by rw [← hS', sts_len]
  have hHl : H.length = 2 ^ e := by rw [← hH, List.length_map, List.length_range]
  have hg : ∀ i, i < 2 ^ e → S.getD i 0 = orb (2 ^ e) av cv bv (i + 1) := fun i hi => by rw [← hS']; exact sts_getD hi
  have hG' : gath (fst (sts (2 ^ e) av cv bv (2 ^ e))) (fun i => S.getD i 0) (2 ^ e) = G := by rw [hS', ← hSl]; exact hG
  have hge : 2 ^ 2 ≤ 2 ^ e := Nat.pow_le_pow_right (by decide) e1
  rw [fm (by decide : (0 : Int) ≤ 2), fm (by decide : (0 : Int) ≤ 2), fm (by decide : (0 : Int) ≤ 4), fm (Int.le_of_lt hM)]
  have h0 : orb (2 ^ e) av cv bv 0 = bv % 2 ^ e := rfl
  refine ⟨hSl, by rw [hSl, hHl], fun i hi => ?_, ?_⟩
  · rw [hSl] at hi
    rw [hg i hi]
    exact ⟨orb_nonneg hM _, orb_lt hM _⟩
  have tr : ∀ {x y : Int}, x = y → (x == y) = true := fun h => beq_iff_eq.mpr h
  have fa : ∀ {x y : Int}, x ≠ y → (x == y) = false := fun h => beq_eq_false_iff_ne.mpr h
  rw [hSl]
  by_cases ha : av % 2 = 1
  · obtain ⟨P, p1, p2, p3, p4⟩ := per_of (c := cv) (x := bv) e ha
    have hU : G.length = P := by rw [← hG']; exact odd_count ha p1 p2 p3 p4 _
    by_cases hh : cv % 2 = 1 ∧ av % 4 = 1
    · obtain ⟨r, hr⟩ := hd_back hh.2 hh.1 p3
      have hP : P = 2 ^ e := by
        have : r ≠ 0 := by rintro rfl; omega
        have := Nat.le_mul_of_pos_right (2 ^ e) (Nat.pos_of_ne_zero this)
        omega
      subst hP
      refine ⟨by rw [tr hh.1, tr hh.2, tr (show (G.length : Int) = 2 ^ e by omega)]; rfl, .inl ⟨tr (by omega), ?_, fun h hh' => ?_⟩⟩
      · rw [hg _ (by omega), Nat.sub_add_cancel (by omega), p3, h0]
      · rw [← hH, halves_count ha p4]
        exact count_tab e e1 e2 h hh'
    · have hlt := per_full e1 ha p2 p4 hh
      refine ⟨?_, .inr (.inl ⟨fa (by omega), tr ha, by omega, by omega, ?_, fun i hi => ?_, ?_⟩)⟩
      · rw [fa (show (G.length : Int) ≠ 2 ^ e by omega)]
        by_cases h2 : cv % 2 = 1
        · rw [tr h2, fa (fun h4 => hh ⟨h2, h4⟩)]; rfl
        · rw [fa h2]; rfl
      · rw [hU, hg _ (by omega), Nat.sub_add_cancel p1, p3, h0]
      · rw [hg _ (by omega), ← h0]
        exact fun q => p4 0 (i + 1) (by omega) (by omega) q.symm
      · rw [hU, ← hS']; exact drop_take p2 p3
  · have hlt : G.length < 2 ^ e := by rw [← hG']; exact even_count (by omega) (by omega) _
    refine ⟨?_, .inr (.inr ⟨fa (by omega), fa ha, ?_⟩)⟩
    · rw [fa (show (G.length : Int) ≠ 2 ^ e by omega), fa (show av % 4 ≠ 1 by omega), Bool.and_false]
    rw [show ((e : Int) - 1).toNat = e - 1 by omega, show ((2 : Int) ^ e - e + 1).toNat = 2 ^ e - (e - 1) by have := Nat.lt_two_pow_self (n := e); omega, ← hS']
    exact drop_sts (by omega) (by omega)
theorem lt_two {wi : Int} (h : 0 ≤ wi) : wi < 2 ^ wi.toNat := by
  obtain ⟨e, rfl⟩ : ∃ e : Nat, wi = e := ⟨wi.toNat, by omega⟩
  have := Nat.lt_two_pow_self (n := e)
  have := pow_cast e
  rw [Int.toNat_natCast]
  omega
theorem any_of {S : List Int} {i : Nat} {k : Int} (hi : i < S.length) (h : S.getD i 0 = k) : S.any (· == k) = true := by
  rw [List.any_eq_true]
  refine ⟨S[i], List.getElem_mem hi, ?_⟩
  rw [List.getD_eq_getElem?_getD, List.getElem?_eq_getElem hi] at h
  simpa using h
/-- k is first met at i -/
def IdxIs (ns : List Int) (k i : Int) : Prop := ∃ j : Nat, (j : Int) = i ∧ j < ns.length ∧ ns.getD j 0 = k ∧ ∀ a, a < j → ns.getD a 0 ≠ k
theorem two_half {wi : Int} (h1 : 2 ≤ wi) (h2 : wi ≤ 6) : (1 : Int) ≤ 2 ^ (wi.fdiv 2).toNat ∧ (2 : Int) ^ (wi.fdiv 2).toNat ≤ 8 := by
  have : wi = 2 ∨ wi = 3 ∨ wi = 4 ∨ wi = 5 ∨ wi = 6 := by omega
  rcases this with h | h | h | h | h <;> subst h <;> decide
end Mine
local macro_rules | `(tactic| passes_own) => `(tactic| with_reducible assumption)
local macro_rules | `(tactic| k_all) => `(tactic| with_reducible assumption)
namespace Mine
section
variable {prog p : Program} {w : World} {loose : List Str} {mean : ExcName → Option Value} {mg mb : Str → Option Value}
  {dp un : Nat} {gd : Option (List Code)} {cn : Str} {cs : Scope} {a : Addr} {ccd : Value} {cl : List (Str × Addr)} {outer : List Env} {A₀ : Around} {base h₀ : Heap} {L : Addr} {m : Str → Option Value} {news : List (Addr × Obj)} {s : Shared}
  {Q E : Value → Shared → Prop}
theorem News.dup {h₀ h : Heap} {L : Addr} {l : List (Addr × Obj)} {q : Addr × Obj} (N : News h₀ L h l) (hm : q ∈ l) : News h₀ L h (q :: l) := fun p hp => by
  rcases List.mem_cons.mp hp with rfl | hp
  · exact N _ hm
  · exact N p hp
theorem News.drop2 {h₀ h : Heap} {L : Addr} {l : List (Addr × Obj)} {q r : Addr × Obj} (N : News h₀ L h (q :: r :: l)) : News h₀ L h (q :: l) := fun p hp => by
  rcases List.mem_cons.mp hp with rfl | hp
  · exact N _ (.head _)
  · exact N p (.tail _ (.tail _ hp))
theorem News.drop1 {h₀ h : Heap} {L : Addr} {l : List (Addr × Obj)} {q : Addr × Obj} (N : News h₀ L h (q :: l)) : News h₀ L h l := fun p hp => N p (.tail _ hp)
theorem norm_zero {xs : List Int} {k : Int} (h0 : min (xs.length : Int) 0 ≤ k)
    (h : ∀ j : Int, k < j → j ≤ xs.length → (if 0 < j then if (xs.getD (j - 1).toNat 0 == 0) = true then true else false else false) = true) : ∀ x ∈ xs.drop k.toNat, x = 0 := by
  intro x hx
  obtain ⟨i, hi, rfl⟩ := List.mem_iff_getElem.mp hx
  rw [List.length_drop] at hi
  have hk : 0 ≤ k := by omega
  have := h (k + i + 1) (by omega) (by omega)
  rw [if_pos (by omega)] at this
  have e : (k + i + 1 - 1).toNat = k.toNat + i := by omega
  rw [e] at this
  rw [List.getElem_drop]
  simp only [List.getD_eq_getElem?_getD] at this
  rw [List.getElem?_eq_getElem (by omega)] at this
  simpa using this
set_option maxHeartbeats 4000000 in
theorem call_normal {la : Addr} {vs : List Value} {xs : List Int} {nn : Nat} {b : Int}
    (B : Below A₀ base outer h₀) (F : Fr h₀ L s.heap m) (X : (Mine.hd.heap_39 w.params).In h₀) (N : News h₀ L s.heap news) (T : Top p loose mean mg mb h₀) (hk : cs.kind = .function)
    (hm : (la, listOf vs.toArray nn) ∈ news) (hv : IntsAre vs xs) (hlen : xs.length ≤ 1000) (hL : Lims b xs)
    (hd : dp < 400)
    (ret : ∀ r ws zs kk h' tk', Fr h₀ L h' m → News h₀ L h' ((r, listOf ws.toArray kk) :: news) → AllLt r news → IntsAre ws zs → Lims b zs → val b zs = val b xs → zs.length ≤ xs.length → Q (.ref r) { s with heap := h', toks := tk' }) :
    wpAny (model prog w) (ktrTop dp un gd cn cs L a ccd cl outer) (call (.ref 46) [.ref la]) Q E s := by
  have N0 := News.dup N hm
  clear N
  refine wpAny_call ?_
  k_dflt (refine' code_def (binds := [(Str.ofString "a", .ref la)]) ?k1 ?k2 ?k3 ?k4 ?k5 ?kA ?kF ?kK ?k6 ?k7 ?k8 ?k9 ?kB ?_ ?c2 ?c3 ?c4 ?c5; (case kA => exact rfl); (case kF => exact rfl); (case kK => assumption); (case k1 => k_asm); (case k2 => k_asm); (case k3 => k_asm); (case k4 => k_asm); (case k5 => k_asm); (case k6 => k_is); (case k7 => k_is); (case k8 => ktr_room); (case k9 => exact BindsTo.of_eq rfl); (case c5 => decide); (case kB => exact locs rfl); (case c2 => exact rfl); (case c3 => exact rfl); (case c4 => exact rfl); k_whole; intro g' L' h' FG' F' N' B' X' T' ; (try dsimp only); (try k_fold))
  k_steps
  rename_i hI9 hC9 hL9 hl9 kF9 kN9 Tc9 kX9
  refine ret _ _ _ _ _ _ kF9 (News.drop2 kN9) hl9.2 hI9 ?_ (val_take b ?_) hL9
  · intro x hx
    exact hL x (List.mem_of_mem_take hx)
  · exact norm_zero (by assumption) (by assumption)
set_option maxHeartbeats 4000000 in
theorem call_number {la : Addr} {vs : List Value} {xs : List Int} {nn : Nat} {wd : Int} {tw : Tok}
    (B : Below A₀ base outer h₀) (F : Fr h₀ L s.heap m) (X : (Mine.hd.heap_39 w.params).In h₀) (N : News h₀ L s.heap news) (T : Top p loose mean mg mb h₀) (hk : cs.kind = .function)
    (hm : (la, listOf vs.toArray nn) ∈ news) (hv : IntsAre vs xs) (hL : Lims (2 ^ wd.toNat) xs) (hlen : xs.length ≤ 8) (hw1 : 4 ≤ wd) (hw2 : wd ≤ 8)
    (hd : dp < 400)
    (ret : ∀ t h' tk', Fr h₀ L h' m → News h₀ L h' news → Q (.int (val (2 ^ wd.toNat) xs) t) { s with heap := h', toks := tk' }) :
    wpAny (model prog w) (ktrTop dp un gd cn cs L a ccd cl outer) (call (.ref 128) [.ref la, .int wd tw]) Q E s := by
  have N0 := News.dup N hm
  clear N
  refine wpAny_call ?_
  k_dflt (refine' code_defC (binds := [(Str.ofString "row", .ref la), (Str.ofString "w", .int wd tw)]) ?k1 ?k2 ?k3 ?k4 ?k5 ?kA ?kF ?kK ?k6 ?k7 ?k8 ?k9 ?kB ?kD ?_ ?c2 ?c3 ?c4; (case kA => exact rfl); (case kF => exact rfl); (case kK => assumption); (case k1 => k_asm); (case k2 => k_asm); (case k3 => k_asm); (case k4 => k_asm); (case k5 => k_asm); (case k6 => k_is); (case k7 => k_is); (case k8 => ktr_room); (case k9 => exact BindsTo.of_eq rfl); (case kB => exact rfl); (case kD => decide +kernel); (case c2 => exact rfl); (case c3 => exact rfl); (case c4 => exact rfl); k_whole; intro g' L' h' tk' cells' FG' F' N' Y' B' X' T' l1; (try k_lt l1); k_cells Y'; (try simp only [List.cons_append, List.nil_append] at N'); (try dsimp only); (try k_lift B'); (try k_fold))
  (repeat' (first | (k_unfold; (try dsimp only)) | (k_end; wrow_close) | ((fail_if_success (with_reducible show wpAny _ _ (eval (Expr.ListComp _ _ _ _) _) _ _ _)); (fail_if_success (with_reducible show KswEnd _ _ _ _ _ _ _ _ _ _ _ _)); (fail_if_success (with_reducible show wpAny _ _ (pyIter _) _ _ _)); (fail_if_success (with_reducible show wpAny _ _ (exec (Stmt.While _ _ _ _) _) _ _ _)); (first | walk1 | (dsimp only; walk1))) | (leave1; walk_say "STEP leave1"; try dsimp only) | fail "no step"))
  rename Fr _ _ _ _ => F0
  refine ListCompO none F0 (by with_unfolding_all rfl) (by decide) (by rfl) (by decide) ?_
  (repeat' (first | (k_unfold; (try dsimp only)) | (k_end; wrow_close) | ((fail_if_success (with_reducible show wpAny _ _ (eval (Expr.ListComp _ _ _ _) _) _ _ _)); (fail_if_success (with_reducible show KswEnd _ _ _ _ _ _ _ _ _ _ _ _)); (fail_if_success (with_reducible show wpAny _ _ (pyIter _) _ _ _)); (fail_if_success (with_reducible show wpAny _ _ (exec (Stmt.While _ _ _ _) _) _ _ _)); (first | walk1 | (dsimp only; walk1))) | (leave1; walk_say "STEP leave1"; try dsimp only) | fail "no step"))
  rename News _ _ _ _ => N1
  rename Fr _ _ _ _ => F1
  have hsz : xs.length ≤ sizeLine := by rw [sizeLine_eq]; omega
  refine ready_enum none (fun _ => true) (fun i => xs.getD i 0 * 2 ^ (wd.toNat * i)) rfl rfl rfl rfl (by decide) F1 N1 (by k_mem) hv hsz (by intro c h; cases h) (fun _ _ => rfl) ?_ ?_
  · intro i C D oC ys mC h tk E' hi _ ha hb' hoC hys F2 N2 hDC hD
    obtain ⟨ta, ha⟩ := ha
    obtain ⟨tb, hb'⟩ := hb'
    have hp16 := pow16 hw1 hw2
    have hbb := hL.getD (two_pos _) i
    have hbc : xs.getD i 0 < 256 := by omega
    have hi8 : (i : Int) ≤ 8 := by omega
    have hq0 : 0 ≤ wd * (i : Int) := Int.mul_nonneg (by omega) (by omega)
    have hq1 : wd * (i : Int) ≤ 64 := by
      have := Int.mul_le_mul hw2 hi8 (by omega) (by decide : (0 : Int) ≤ 8)
      omega
    have hq2 : (wd * (i : Int)).toNat = wd.toNat * i := by
      have hw : ((wd.toNat : Nat) : Int) = wd := Int.toNat_of_nonneg (by omega)
      have : ((wd.toNat * i : Nat) : Int) = wd * (i : Int) := by rw [Int.natCast_mul, hw]
      rw [← this]; rfl
    (repeat' (first | (k_unfold; (try dsimp only)) | (k_end; wrow_close) | ((fail_if_success (with_reducible show wpAny _ _ (eval (Expr.ListComp _ _ _ _) _) _ _ _)); (fail_if_success (with_reducible show KswEnd _ _ _ _ _ _ _ _ _ _ _ _)); (fail_if_success (with_reducible show wpAny _ _ (pyIter _) _ _ _)); (fail_if_success (with_reducible show wpAny _ _ (exec (Stmt.While _ _ _ _) _) _ _ _)); (first | walk1 | (dsimp only; walk1))) | (leave1; walk_say "STEP leave1"; try dsimp only) | fail "no step"))
    · rw [hq2]
    · exact InElt.start _
  · intro D h tk ys F2 N2 hD hys
    (repeat' (first | (k_unfold; (try dsimp only)) | (k_end; wrow_close) | ((fail_if_success (with_reducible show wpAny _ _ (eval (Expr.ListComp _ _ _ _) _) _ _ _)); (fail_if_success (with_reducible show KswEnd _ _ _ _ _ _ _ _ _ _ _ _)); (fail_if_success (with_reducible show wpAny _ _ (pyIter _) _ _ _)); (fail_if_success (with_reducible show wpAny _ _ (exec (Stmt.While _ _ _ _) _) _ _ _)); (first | walk1 | (dsimp only; walk1))) | (leave1; walk_say "STEP leave1"; try dsimp only) | fail "no step"))
    rename_i kF9 kN9 Tc9 kX9
    rw [gath_val]
    exact ret _ _ _ kF9 (fun q hq => kN9 q (.tail _ (.tail _ (.tail _ hq))))
end
end Mine
namespace Mine
section
variable {prog p : Program} {w : World} {loose : List Str} {mean : ExcName → Option Value} {mg mb : Str → Option Value}
  {dp un : Nat} {gd : Option (List Code)} {cn : Str} {cs : Scope} {a : Addr} {ccd : Value} {cl : List (Str × Addr)} {outer : List Env} {A₀ : Around} {base h₀ : Heap} {L : Addr} {m : Str → Option Value} {news : List (Addr × Obj)} {s : Shared}
  {Q E : Value → Shared → Prop}
/-- between two turns of add -/
def AddI (b : Int) (xs ys : List Int) (t : Nat) (carry : Int) (found : List Int) : Prop :=
  found.length = t ∧ Lims b found ∧ 0 ≤ carry ∧ carry ≤ 1 ∧ val b found + b ^ t * carry = val b (xs.take t) + val b (ys.take t)
theorem addI_and {b : Int} {xs ys : List Int} {t : Nat} {carry : Int} {found : List Int} (h : AddI b xs ys t carry found) : found.length = t ∧ AddI b xs ys t carry found := ⟨h.1, h⟩
theorem addI_zero (b : Int) (xs ys : List Int) : AddI b xs ys 0 0 [] := ⟨rfl, fun _ h => (nomatch h), Int.le_refl _, by decide, by simp [val]⟩
theorem addI_step {b : Int} {xs ys : List Int} {t : Nat} {carry x y : Int} {found : List Int} (hb : 0 < b) (h : AddI b xs ys t carry found) (hx0 : 0 ≤ x) (hx1 : x < b) (hy0 : 0 ≤ y) (hy1 : y < b)
    (hX : val b (xs.take (t + 1)) = val b (xs.take t) + b ^ t * x) (hY : val b (ys.take (t + 1)) = val b (ys.take t) + b ^ t * y) :
    AddI b xs ys (t + 1) ((carry + (x + y)).fdiv b) (found ++ [(carry + (x + y)).fmod b]) := by
  obtain ⟨h1, h2, h3, h4, h5⟩ := h
  refine ⟨by rw [List.length_append, List.length_singleton, h1], h2.snoc (fmod0 hb) (fmod1 hb), fdiv0 (by omega) hb, ?_, ?_⟩
  · have := fdivlt (a := carry + (x + y)) (c := 2) hb (by omega)
    omega
  · have e := fdm (a := carry + (x + y)) hb
    rw [val_snoc, h1, hX, hY, Int.pow_succ, Int.mul_assoc, Int.add_assoc, ← Int.mul_add, e, Int.mul_add, Int.mul_add]
    omega
theorem take_all_succ (b : Int) (ys : List Int) {t : Nat} (h : ys.length ≤ t) : val b (ys.take (t + 1)) = val b (ys.take t) + b ^ t * 0 := by
  rw [List.take_of_length_le (by omega), List.take_of_length_le h]; simp
theorem addI_turn1 {W : Nat} {xs ys pre found : List Int} {k carry : Int} (h : AddI (2 ^ W) xs ys pre.length carry found) (hx : Lims (2 ^ W) xs) (hy : Lims (2 ^ W) ys) (hk : k = 0 + (pre.length : Int)) (h1 : pre.length < xs.length) (h2 : pre.length < ys.length) :
    AddI (2 ^ W) xs ys (pre ++ [k]).length ((carry + (xs.getD k.toNat 0 + ys.getD k.toNat 0)).fdiv (2 ^ W)) (found ++ [Builtin.bitAnd (carry + (xs.getD k.toNat 0 + ys.getD k.toNat 0)) (1 * 2 ^ W - 1)]) := by
  have e : k.toNat = pre.length := by omega
  rw [List.length_append, List.length_singleton, band, e]
  exact addI_step (two_pos W) h (hx.getD (two_pos W) _).1 (hx.getD (two_pos W) _).2 (hy.getD (two_pos W) _).1 (hy.getD (two_pos W) _).2 (val_take_succ _ _ h1) (val_take_succ _ _ h2)
theorem addI_turn2 {W : Nat} {xs ys pre found : List Int} {k carry : Int} (h : AddI (2 ^ W) xs ys (pre.length + ys.length) carry found) (hx : Lims (2 ^ W) xs) (hk : k = (ys.length : Int) + (pre.length : Int)) (h1 : pre.length + ys.length < xs.length) :
    AddI (2 ^ W) xs ys ((pre ++ [k]).length + ys.length) ((carry + xs.getD k.toNat 0).fdiv (2 ^ W)) (found ++ [Builtin.bitAnd (carry + xs.getD k.toNat 0) (1 * 2 ^ W - 1)]) := by
  have e : k.toNat = pre.length + ys.length := by omega
  have e2 : (pre ++ [k]).length + ys.length = pre.length + ys.length + 1 := by rw [List.length_append, List.length_singleton]; omega
  rw [e2, band, e]
  have := addI_step (two_pos W) h (hx.getD (two_pos W) _).1 (hx.getD (two_pos W) _).2 (Int.le_refl 0) (two_pos W) (val_take_succ _ _ h1) (take_all_succ _ _ (by omega))
  rw [Int.add_zero] at this
  exact this
theorem addI_mid {b : Int} {xs ys found : List Int} {n : Nat} {carry : Int} (h : AddI b xs ys (rangeKs 0 n).length carry found) (e : n = ys.length) : AddI b xs ys (([] : List Int).length + ys.length) carry found := by
  rw [rangeKs_length, e] at h
  rw [List.length_nil, Nat.zero_add]; exact h
theorem addI_end0 {b : Int} {xs ys : List Int} {n : Nat} {a₀ : Int} {carry : Int} {found : List Int} (h : AddI b xs ys ((rangeKs a₀ n).length + ys.length) carry found) (hn : n + ys.length = xs.length) (h0 : ¬ 0 < carry) : Lims b found ∧ val b found = val b xs + val b ys ∧ found.length = xs.length := by
  rw [rangeKs_length, hn] at h
  obtain ⟨h1, h2, h3, h4, h5⟩ := h
  have e : carry = 0 := by omega
  rw [e, List.take_of_length_le (Nat.le_refl _), List.take_of_length_le (by omega)] at h5
  exact ⟨h2, by simpa using h5, h1⟩
theorem addI_end1 {b : Int} {xs ys : List Int} {n : Nat} {a₀ : Int} {carry : Int} {found : List Int} (hb : 1 < b) (h : AddI b xs ys ((rangeKs a₀ n).length + ys.length) carry found) (hn : n + ys.length = xs.length) : Lims b (found ++ [carry]) ∧ val b (found ++ [carry]) = val b xs + val b ys ∧ (found ++ [carry]).length = xs.length + 1 := by
  rw [rangeKs_length, hn] at h
  obtain ⟨h1, h2, h3, h4, h5⟩ := h
  refine ⟨h2.snoc h3 (by omega), ?_, by rw [List.length_append, List.length_singleton, h1]⟩
  rw [val_snoc, h1, h5, List.take_of_length_le (Nat.le_refl _), List.take_of_length_le (by omega)]
/-- behind the swap of add -/
def AddJ (b : Int) (wd : Int) (tw : Tok) (xs ys : List Int) (g : Heap) (L : Addr) (news : List (Addr × Obj)) (s : Shared) (f : Flow) (s₂ : Shared) : Prop :=
  f = .next ∧ ∃ (h : Heap) (tk : Nat) (m : Str → Option Value) (la lb : Addr) (vs us : List Value) (nn mm : Nat) (xs' ys' : List Int), s₂ = { s with heap := h, toks := tk } ∧ Fr g L h (fun y => if y = Str.ofString "a" then some (.ref la) else if y = Str.ofString "b" then some (.ref lb) else if y = Str.ofString "w" then some (.int wd tw) else m y) ∧ News g L h news ∧
    (la, listOf (List.toArray vs) nn) ∈ news ∧ (lb, listOf (List.toArray us) mm) ∈ news ∧ IntsAre vs xs' ∧ IntsAre us ys' ∧ Lims b xs' ∧ Lims b ys' ∧ ys'.length ≤ xs'.length ∧ xs'.length ≤ 50 ∧ xs'.length = max xs.length ys.length ∧ val b xs' + val b ys' = val b xs + val b ys
theorem fr_abw {g h : Heap} {L : Addr} {m : Str → Option Value} {A B C : Str} {a b c : Value} (F : Fr g L h m) (ha : m A = some a) (hb : m B = some b) (hc : m C = some c) : Fr g L h (fun y => if y = A then some a else if y = B then some b else if y = C then some c else m y) := by
  have e : (fun y => if y = A then some a else if y = B then some b else if y = C then some c else m y) = m := by
    funext y
    by_cases h1 : y = A
    · rw [if_pos h1, h1, ha]
    · rw [if_neg h1]
      by_cases h2 : y = B
      · rw [if_pos h2, h2, hb]
      · rw [if_neg h2]
        by_cases h3 : y = C
        · rw [if_pos h3, h3, hc]
        · rw [if_neg h3]
  rw [e]; exact F
set_option maxHeartbeats 20000000 in
theorem call_add {la lb : Addr} {vs us : List Value} {xs ys : List Int} {nn mm : Nat} {wd : Int} {tw : Tok}
    (B : Below A₀ base outer h₀) (F : Fr h₀ L s.heap m) (X : (Mine.hd.heap_39 w.params).In h₀) (N : News h₀ L s.heap news) (T : Top p loose mean mg mb h₀) (hk : cs.kind = .function)
    (hm : (la, listOf vs.toArray nn) ∈ news) (hm2 : (lb, listOf us.toArray mm) ∈ news) (hv : IntsAre vs xs) (hv2 : IntsAre us ys) (hLx : Lims (2 ^ wd.toNat) xs) (hLy : Lims (2 ^ wd.toNat) ys) (hlen : xs.length ≤ 50) (hlen2 : ys.length ≤ 50) (hw1 : 4 ≤ wd) (hw2 : wd ≤ 8)
    (hd : dp < 390)
    (ret : ∀ r ws zs kk h' tk', Fr h₀ L h' m → News h₀ L h' ((r, listOf ws.toArray kk) :: news) → AllLt r news → IntsAre ws zs → Lims (2 ^ wd.toNat) zs → val (2 ^ wd.toNat) zs = val (2 ^ wd.toNat) xs + val (2 ^ wd.toNat) ys → zs.length ≤ max xs.length ys.length + 1 → Q (.ref r) { s with heap := h', toks := tk' }) :
    wpAny (model prog w) (ktrTop dp un gd cn cs L a ccd cl outer) (call (.ref 53) [.ref la, .ref lb, .int wd tw]) Q E s := by
  have N0 := News.dup (News.dup N hm2) (List.mem_cons_of_mem _ hm)
  clear N
  have hp16 := pow16 hw1 hw2
  k_with "state" => first
    | exact ⟨rfl, addI_zero _ _ _⟩
    | exact addI_and (addI_turn1 (by first | assumption | exact And.right (by with_reducible assumption)) (by assumption) (by assumption) (by assumption) (by omega) (by omega))
    | exact addI_and (addI_mid (by first | assumption | exact And.right (by with_reducible assumption)) (by omega))
    | exact addI_and (addI_turn2 (by first | assumption | exact And.right (by with_reducible assumption)) (by assumption) (by assumption) (by omega))
  refine wpAny_call ?_
  k_dflt (refine' code_def (binds := [(Str.ofString "a", .ref la), (Str.ofString "b", .ref lb), (Str.ofString "w", .int wd tw)]) ?k1 ?k2 ?k3 ?k4 ?k5 ?kA ?kF ?kK ?k6 ?k7 ?k8 ?k9 ?kB ?_ ?c2 ?c3 ?c4 ?c5; (case kA => exact rfl); (case kF => exact rfl); (case kK => assumption); (case k1 => k_asm); (case k2 => k_asm); (case k3 => k_asm); (case k4 => k_asm); (case k5 => k_asm); (case k6 => k_is); (case k7 => k_is); (case k8 => ktr_room); (case k9 => exact BindsTo.of_eq rfl); (case c5 => decide); (case kB => exact locs rfl); (case c2 => exact rfl); (case c3 => exact rfl); (case c4 => exact rfl); k_whole; intro g' L' h' FG' F' N' B' X' T' ; (try dsimp only); (try k_fold))
  (repeat' (first | (k_unfold; (try dsimp only)) | (k_end; wrow_close) | ((fail_if_success (with_reducible show wpAny _ _ (exec (Stmt.If _ _ _ _) _) _ _ _)); (fail_if_success (with_reducible show wpAny _ _ (eval (Expr.ListComp _ _ _ _) _) _ _ _)); (fail_if_success (with_reducible show KswEnd _ _ _ _ _ _ _ _ _ _ _ _)); (fail_if_success (with_reducible show wpAny _ _ (pyIter _) _ _ _)); (fail_if_success (with_reducible show wpAny _ _ (exec (Stmt.While _ _ _ _) _) _ _ _)); (first | walk1 | (dsimp only; walk1))) | (leave1; walk_say "STEP leave1"; try dsimp only) | fail "no step"))
  rename Fr _ _ _ _ => F1
  rename News _ _ _ _ => N1
  refine wpAny_mono (Q := AddJ (2 ^ wd.toNat) wd tw xs ys g' L' ((la, listOf vs.toArray nn) :: (lb, listOf us.toArray mm) :: news) s) ?_ (fun f s5 hJ => ?_) (fun _ _ e => e)
  · (repeat' (first | (k_unfold; (try dsimp only)) | (k_end; wrow_close) | ((fail_if_success (with_reducible show wpAny _ _ (eval (Expr.ListComp _ _ _ _) _) _ _ _)); (fail_if_success (with_reducible show KswEnd _ _ _ _ _ _ _ _ _ _ _ _)); (fail_if_success (with_reducible show wpAny _ _ (pyIter _) _ _ _)); (fail_if_success (with_reducible show wpAny _ _ (exec (Stmt.While _ _ _ _) _) _ _ _)); (first | walk1 | (dsimp only; walk1))) | (leave1; walk_say "STEP leave1"; try dsimp only) | fail "no step"))
    · rename Fr _ _ _ _ => F2
      rename News _ _ _ _ => N2
      refine ⟨rfl, _, _, _, lb, la, us, vs, mm, nn, ys, xs, rfl, fr_abw F2 rfl rfl rfl, fun q hq => N2 q (by first | exact hq | exact .tail _ hq), .tail _ (.head _), .head _, hv2, hv, hLy, hLx, by omega, hlen2, by omega, Int.add_comm _ _⟩
    · refine ⟨rfl, _, _, _, la, lb, vs, us, nn, mm, xs, ys, rfl, fr_abw F1 rfl rfl rfl, N1, .head _, .tail _ (.head _), hv, hv2, hLx, hLy, by omega, hlen, by omega, rfl⟩
  clear F1 N1
  obtain ⟨rfl, h1, tk1, m1, la', lb', vs', us', nn', mm', xs', ys', rfl, F1, N1, M1, M2, J1, J2, K1, K2, hle, hl1, hl2, hsum⟩ := hJ
  have N3 := News.dup (News.dup N1 M2) (List.mem_cons_of_mem _ M1)
  clear N1 M1 M2 hm hm2 hv hv2 hLx hLy hlen hlen2 N0
  have hl3 : Hid _ := hl2
  have hsum : Hid _ := hsum
  clear hl2
  (try dsimp only)
  (repeat' (first | (k_unfold; (try dsimp only)) | (k_end; wrow_close) | ((fail_if_success (with_reducible show wpAny _ _ (eval (Expr.ListComp _ _ _ _) _) _ _ _)); (fail_if_success (with_reducible show KswEnd _ _ _ _ _ _ _ _ _ _ _ _)); (fail_if_success (with_reducible show wpAny _ _ (pyIter _) _ _ _)); (fail_if_success (with_reducible show wpAny _ _ (exec (Stmt.While _ _ _ _) _) _ _ _)); (first | walk1 | (dsimp only; walk1))) | (leave1; walk_say "STEP leave1"; try dsimp only) | fail "no step"))
  k_state_given ["a", "b"] (fun a b pre carry found => found.length = pre.length ∧ AddI (2 ^ wd.toNat) a b pre.length carry found) "carry" "found"
  all_goals (repeat' (first | (k_unfold; (try dsimp only)) | (k_end; wrow_close) | ((fail_if_success (with_reducible show wpAny _ _ (eval (Expr.ListComp _ _ _ _) _) _ _ _)); (fail_if_success (with_reducible show KswEnd _ _ _ _ _ _ _ _ _ _ _ _)); (fail_if_success (with_reducible show wpAny _ _ (pyIter _) _ _ _)); (fail_if_success (with_reducible show wpAny _ _ (exec (Stmt.While _ _ _ _) _) _ _ _)); (first | walk1 | (dsimp only; walk1))) | (leave1; walk_say "STEP leave1"; try dsimp only) | fail "no step"))
  all_goals k_state_given ["a", "b"] (fun a b pre carry found => found.length = pre.length + b.length ∧ AddI (2 ^ wd.toNat) a b (pre.length + b.length) carry found) "carry" "found"
  all_goals (repeat' (first | (k_unfold; (try dsimp only)) | (k_end; wrow_close) | ((fail_if_success (with_reducible show wpAny _ _ (eval (Expr.ListComp _ _ _ _) _) _ _ _)); (fail_if_success (with_reducible show KswEnd _ _ _ _ _ _ _ _ _ _ _ _)); (fail_if_success (with_reducible show wpAny _ _ (pyIter _) _ _ _)); (fail_if_success (with_reducible show wpAny _ _ (exec (Stmt.While _ _ _ _) _) _ _ _)); (first | walk1 | (dsimp only; walk1))) | (leave1; walk_say "STEP leave1"; try dsimp only) | fail "no step"))
  all_goals rename_i kF9 kN9 Tc9 kX9
  all_goals (try simp only [List.push_toArray] at kN9)
  · have e := addI_end1 (by omega) (by assumption : AddI (2 ^ wd.toNat) xs' ys' (_ + ys'.length) _ _) (by omega)
    refine' ret _ _ _ _ _ _ kF9 ?n3 ?l3 ?i3 ?c3 ?v3 ?e3
    case n3 => (((refine kst_newsOf (by assumption) (List.forall_mem_cons.mpr ⟨?_, ?_⟩)); (focus k_mem); (focus (intro q9 hq9; (repeat (first | exact hq9 | refine List.mem_cons_of_mem _ ?_))))))
    case i3 => exact IntsAre.append (by assumption) (.cons _ _ .nil)
    case l3 => (first | assumption | exact And.right (by assumption) | exact And.right (And.right (by assumption)) | exact And.right (And.right (And.right (by assumption))) | exact And.right (And.right (And.right (And.right (by assumption)))) | exact And.right (And.right (And.right (And.right (And.right (by assumption))))) | assumption | exact allLt_of (by assumption) | exact (allLt_tl (by assumption)) | exact (allLt_tl (allLt_tl (by assumption))) | exact (allLt_tl (allLt_tl (allLt_tl (by assumption)))) | exact (allLt_tl (allLt_tl (allLt_tl (allLt_tl (by assumption))))) | exact (allLt_tl (allLt_tl (allLt_tl (allLt_tl (allLt_tl (by assumption)))))) | exact allLt_tl (allLt_of (by assumption)))
    case c3 => exact e.1
    case v3 => exact e.2.1.trans hsum
    case e3 => rw [e.2.2]; unfold Hid at hl3; omega
  · have e := addI_end0 (by assumption : AddI (2 ^ wd.toNat) xs' ys' (_ + ys'.length) _ _) (by omega) (by omega)
    refine' ret _ _ _ _ _ _ kF9 ?n4 ?l4 ?i4 ?c4 ?v4 ?e4
    case n4 => (((refine kst_newsOf (by assumption) (List.forall_mem_cons.mpr ⟨?_, ?_⟩)); (focus k_mem); (focus (intro q9 hq9; (repeat (first | exact hq9 | refine List.mem_cons_of_mem _ ?_))))))
    case i4 => assumption
    case l4 => (first | assumption | exact And.right (by assumption) | exact And.right (And.right (by assumption)) | exact And.right (And.right (And.right (by assumption))) | exact And.right (And.right (And.right (And.right (by assumption)))) | exact And.right (And.right (And.right (And.right (And.right (by assumption))))) | assumption | exact allLt_of (by assumption) | exact (allLt_tl (by assumption)) | exact (allLt_tl (allLt_tl (by assumption))) | exact (allLt_tl (allLt_tl (allLt_tl (by assumption)))) | exact (allLt_tl (allLt_tl (allLt_tl (allLt_tl (by assumption))))) | exact (allLt_tl (allLt_tl (allLt_tl (allLt_tl (allLt_tl (by assumption)))))) | exact allLt_tl (allLt_of (by assumption)))
    case c4 => exact e.1
    case v4 => exact e.2.1.trans hsum
    case e4 => rw [e.2.2]; unfold Hid at hl3; omega
end
end Mine
namespace Mine
section
variable {prog p : Program} {w : World} {loose : List Str} {mean : ExcName → Option Value} {mg mb : Str → Option Value}
  {dp un : Nat} {gd : Option (List Code)} {cn : Str} {cs : Scope} {a : Addr} {ccd : Value} {cl : List (Str × Addr)} {outer : List Env} {A₀ : Around} {base h₀ : Heap} {L : Addr} {m : Str → Option Value} {news : List (Addr × Obj)} {s : Shared}
  {Q E : Value → Shared → Prop}
theorem limbs_step {b x N : Int} {found : List Int} {n : Nat} (hb : 0 < b) (hn : found.length = n) (hL : Lims b found) (h : val b found + b ^ n * x = N) : Lims b (found ++ [x.fmod b]) ∧ val b (found ++ [x.fmod b]) + b ^ (n + 1) * x.fdiv b = N := by
  refine ⟨hL.snoc (fmod0 hb) (fmod1 hb), ?_⟩
  have e := fdm (a := x) hb
  rw [val_snoc, hn, Int.pow_succ, Int.mul_assoc, Int.add_assoc, ← Int.mul_add, e, h]
/-- between two turns of _law_limbs -/
def LimbI (b N x : Int) (found : List Int) : Prop := Lims b found ∧ val b found + b ^ found.length * x = N ∧ 0 ≤ x ∧ x * 16 ^ found.length ≤ 255
theorem limbI_zero {b N : Int} (h0 : 0 ≤ N) (h1 : N < 256) : LimbI b N N [] := ⟨fun _ h => (nomatch h), by simp [val], h0, by simp; omega⟩
theorem limbI_step {W : Nat} {N x : Int} {found : List Int} (hW : (16 : Int) ≤ 2 ^ W) (h : LimbI (2 ^ W) N x found) : LimbI (2 ^ W) N (x.fdiv (2 ^ W)) (found ++ [x.fmod (2 ^ W)]) := by
  obtain ⟨h1, h2, h3, h4⟩ := h
  obtain ⟨a1, a2⟩ := limbs_step (two_pos W) rfl h1 h2
  have h0 := fdiv0 h3 (two_pos W)
  refine ⟨a1, by rw [List.length_append, List.length_singleton]; exact a2, h0, ?_⟩
  rw [List.length_append, List.length_singleton, Int.pow_succ]
  have e := fdm (a := x) (two_pos W)
  have e0 := fmod0 (a := x) (two_pos W)
  have e1 : 16 * x.fdiv (2 ^ W) ≤ 2 ^ W * x.fdiv (2 ^ W) := Int.mul_le_mul_of_nonneg_right hW h0
  have e2 : 16 * x.fdiv (2 ^ W) ≤ x := by omega
  have p : (0 : Int) ≤ 16 ^ found.length := Int.le_of_lt (Int.pow_pos (by decide))
  have e3 := Int.mul_le_mul_of_nonneg_right e2 p
  have e4 : x.fdiv (2 ^ W) * (16 ^ found.length * 16) = 16 * x.fdiv (2 ^ W) * 16 ^ found.length := by
    rw [Int.mul_comm 16 (x.fdiv (2 ^ W)), Int.mul_assoc, Int.mul_comm 16]
  omega
theorem limbI_len {b N x : Int} {found : List Int} (h : LimbI b N x found) (hx : 0 < x) : found.length ≤ 1 := by
  obtain ⟨h1, h2, h3, h4⟩ := h
  by_cases hl : found.length ≤ 1
  · exact hl
  · have e : (16 : Int) ^ 2 ≤ 16 ^ found.length := by
      have := Nat.pow_le_pow_right (n := 16) (by decide) (show 2 ≤ found.length by omega)
      exact_mod_cast this
    have e3 := Int.mul_le_mul (show (1 : Int) ≤ x by omega) e (by decide) (by omega)
    omega
theorem limbI_turn {W : Nat} {N x : Int} {found : List Int} (hW : (16 : Int) ≤ 2 ^ W) (h : LimbI (2 ^ W) N x found) (hx : 0 < x) : (found ++ [x.fmod (2 ^ W)]).length ≤ 2 ∧ LimbI (2 ^ W) N (x.fdiv (2 ^ W)) (found ++ [x.fmod (2 ^ W)]) := by
  have := limbI_len h hx
  exact ⟨by rw [List.length_append, List.length_singleton]; omega, limbI_step hW h⟩
theorem limbI_less {W : Nat} {x : Int} (hW : (16 : Int) ≤ 2 ^ W) (hx : 0 < x) : (x.fdiv (2 ^ W)).toNat < x.toNat := by
  have h0 := fdiv0 (Int.le_of_lt hx) (two_pos W)
  have e := fdm (a := x) (two_pos W)
  have e0 := fmod0 (a := x) (two_pos W)
  have e1 : 16 * x.fdiv (2 ^ W) ≤ 2 ^ W * x.fdiv (2 ^ W) := Int.mul_le_mul_of_nonneg_right hW h0
  omega
theorem limbI_end {b N x : Int} {found : List Int} (h : LimbI b N x found) (hx : ¬ 0 < x) : Lims b found ∧ val b found = N := by
  obtain ⟨h1, h2, h3, h4⟩ := h
  have e : x = 0 := by omega
  rw [e] at h2
  exact ⟨h1, by simpa using h2⟩
set_option maxHeartbeats 4000000 in
theorem call_limbs {wd nb : Int} {tw tn : Tok}
    (B : Below A₀ base outer h₀) (F : Fr h₀ L s.heap m) (X : (Mine.hd.heap_39 w.params).In h₀) (N : News h₀ L s.heap news) (T : Top p loose mean mg mb h₀) (hk : cs.kind = .function)
    (hw1 : 4 ≤ wd) (hw2 : wd ≤ 8) (hn1 : 0 ≤ nb) (hn2 : nb < 256)
    (hd : dp < 390)
    (ret : ∀ r ws zs kk h' tk', Fr h₀ L h' m → News h₀ L h' ((r, listOf ws.toArray kk) :: news) → AllLt r news → IntsAre ws zs → Lims (2 ^ wd.toNat) zs → val (2 ^ wd.toNat) zs = nb → zs.length ≤ 2 → Q (.ref r) { s with heap := h', toks := tk' }) :
    wpAny (model prog w) (ktrTop dp un gd cn cs L a ccd cl outer) (call (.ref 123) [.int nb tn, .int wd tw]) Q E s := by
  have hp16 := pow16 hw1 hw2
  have N0 := N
  clear N
  have hP : 0 < (2 : Int) ^ wd.toNat := two_pos _
  k_with "state" => first
    | exact ⟨Nat.zero_le _, limbI_zero hn1 hn2⟩
    | exact limbI_turn hp16.1 (by with_reducible assumption) (by with_reducible assumption)
  k_with "measure" => exact limbI_less hp16.1 (by with_reducible assumption)
  refine wpAny_call ?_
  k_dflt (refine' code_def (binds := [(Str.ofString "number", .int nb tn), (Str.ofString "w", .int wd tw)]) ?k1 ?k2 ?k3 ?k4 ?k5 ?kA ?kF ?kK ?k6 ?k7 ?k8 ?k9 ?kB ?_ ?c2 ?c3 ?c4 ?c5; (case kA => exact rfl); (case kF => exact rfl); (case kK => assumption); (case k1 => k_asm); (case k2 => k_asm); (case k3 => k_asm); (case k4 => k_asm); (case k5 => k_asm); (case k6 => k_is); (case k7 => k_is); (case k8 => ktr_room); (case k9 => exact BindsTo.of_eq rfl); (case c5 => decide); (case kB => exact locs rfl); (case c2 => exact rfl); (case c3 => exact rfl); (case c4 => exact rfl); k_whole; intro g' L' h' FG' F' N' B' X' T' ; (try dsimp only); (try k_fold))
  (repeat' (first | (k_unfold; (try dsimp only)) | (k_end; wrow_close) | ((fail_if_success (with_reducible show wpAny _ _ (eval (Expr.ListComp _ _ _ _) _) _ _ _)); (fail_if_success (with_reducible show KswEnd _ _ _ _ _ _ _ _ _ _ _ _)); (fail_if_success (with_reducible show wpAny _ _ (pyIter _) _ _ _)); (fail_if_success (with_reducible show wpAny _ _ (exec (Stmt.While _ _ _ _) _) _ _ _)); (first | walk1 | (dsimp only; walk1))) | (leave1; walk_say "STEP leave1"; try dsimp only) | fail "no step"))
  rename_i l9 hA9 lt9 hB9 F9 N9
  (((show wpAny ?M ?A (exec (Stmt.While _ _ _ _) ?env) _ ?E _); have hOwn9 : PassesOwn ?M ?A ?env ?E := by with_unfolding_all exact PySem.PassesOwn.leaving))
  refine' ksw_while (σ := Int × Tok × List Value × List Int × Nat) (fun c => (l9, listOf c.2.2.1.toArray c.2.2.2.2) :: news) (fun c => [(Str.ofString "number", Value.int c.1 c.2.1)]) (fun c => IntsAre c.2.2.1 c.2.2.2.1) [] (fun c => c.2.2.2.1.length ≤ 2 ∧ LimbI (2 ^ wd.toNat) nb c.1 c.2.2.2.1) (fun c => c.1.toNat) (nb, tn, [], [], 0) F9 ?q1 ?q2 ?q3 ?q4 ?q5
  case q1 => exact N9
  case q2 => exact .nil
  case q3 => exact List.forall_mem_cons.mpr ⟨rfl, List.forall_mem_nil _⟩
  case q4 => exact ⟨Nat.zero_le _, limbI_zero hn1 hn2⟩
  clear F9 N9
  rintro ⟨x, tx, ws, zs, kk⟩ u h tk1 hI ⟨hl, hP1⟩ F2 N2
  have hlw := hI.length
  dsimp only at hI hl hP1 F2 N2 hlw
  (repeat' (first | (k_unfold; (try dsimp only)) | (k_end; wrow_close) | ((fail_if_success (with_reducible show wpAny _ _ (eval (Expr.ListComp _ _ _ _) _) _ _ _)); (fail_if_success (with_reducible show KswEnd _ _ _ _ _ _ _ _ _ _ _ _)); (fail_if_success (with_reducible show wpAny _ _ (pyIter _) _ _ _)); (fail_if_success (with_reducible show wpAny _ _ (exec (Stmt.While _ _ _ _) _) _ _ _)); (first | walk1 | (dsimp only; walk1))) | (leave1; walk_say "STEP leave1"; try dsimp only) | fail "no step"))
  · rename 0 < x => hx
    rename News _ _ _ _ => N3
    rename Fr _ _ _ _ => F3
    (try simp only [List.push_toArray] at N3)
    refine ksw_end (x.fdiv (2 ^ wd.toNat), _, ws ++ [.int (x.fmod (2 ^ wd.toNat)) _], zs ++ [x.fmod (2 ^ wd.toNat)], _) F3 N3 (fun q hq => hq) (IntsAre.append hI (.cons _ _ .nil)) (List.forall_mem_cons.mpr ⟨rfl, List.forall_mem_nil _⟩) ?_ (limbI_turn hp16.1 hP1 hx) (limbI_less hp16.1 hx)
    intro z h2 _
    have h3 := h2 _ (.head _)
    dsimp only at h3
    simp [kstB, h3]
  · rename ¬ 0 < x => hx
    rename_i kF9 kN9 Tc9 kX9
    have e := limbI_end hP1 hx
    exact ret _ _ _ _ _ _ kF9 kN9 (by first | exact lt9 | exact allLt_of lt9) hI e.1 e.2 hl
end
end Mine
namespace Mine
section
variable {prog p : Program} {w : World} {loose : List Str} {mean : ExcName → Option Value} {mg mb : Str → Option Value}
  {dp un : Nat} {gd : Option (List Code)} {cn : Str} {cs : Scope} {a : Addr} {ccd : Value} {cl : List (Str × Addr)} {outer : List Env} {A₀ : Around} {base h₀ : Heap} {L : Addr} {m : Str → Option Value} {news : List (Addr × Obj)} {s : Shared}
  {Q E : Value → Shared → Prop}
theorem and_high {x y : Int} (k : Nat) (hx0 : 0 ≤ x) (hx1 : x < 2 ^ k) (hy : 0 ≤ y) : Builtin.bitAnd x (y * 2 ^ k) = 0 := by
  obtain ⟨n, rfl⟩ := Int.eq_ofNat_of_zero_le hx0
  obtain ⟨m, rfl⟩ := Int.eq_ofNat_of_zero_le hy
  have e1 : ((m : Int) * 2 ^ k) = ((m * 2 ^ k : Nat) : Int) := by push_cast; rfl
  have hn : n < 2 ^ k := by exact_mod_cast hx1
  rw [e1]
  show ((n &&& (m * 2 ^ k) : Nat) : Int) = 0
  have : n &&& (m * 2 ^ k) = 0 := by
    apply Nat.eq_of_testBit_eq
    intro i
    rw [Nat.testBit_and, Nat.testBit_mul_two_pow, Nat.zero_testBit]
    by_cases h : k ≤ i
    · rw [Nat.testBit_lt_two_pow (Nat.lt_of_lt_of_le hn (Nat.pow_le_pow_right (by decide) h)), Bool.false_and]
    · simp [h]
  rw [this]; rfl
theorem lor_add {x y : Int} (k : Nat) (hx0 : 0 ≤ x) (hx1 : x < 2 ^ k) (hy : 0 ≤ y) : Builtin.bitOr x (y * 2 ^ k) = x + y * 2 ^ k := by
  have h1 := bitXor_and x (y * 2 ^ k)
  have h2 : Builtin.bitXor x (y * 2 ^ k) = Builtin.bitOr x (y * 2 ^ k) - Builtin.bitAnd x (y * 2 ^ k) := rfl
  rw [and_high k hx0 hx1 hy] at h1 h2
  omega
theorem shr_arith {W n : Nat} {x y V' V'' : Int} (hW : W = 4 ∨ W = 5 ∨ W = 6 ∨ W = 7 ∨ W = 8) (hn : n = 1 ∨ n = 2 ∨ n = 3) (hx0 : 0 ≤ x) (hx1 : x < 2 ^ W) (hy0 : 0 ≤ y) (hV : V' = y + 2 ^ W * V'') :
    0 ≤ (x / 2 ^ n + y * 2 ^ (W - n)) % 2 ^ W ∧ (x / 2 ^ n + y * 2 ^ (W - n)) % 2 ^ W < 2 ^ W ∧ (x + 2 ^ W * V') / 2 ^ n = (x / 2 ^ n + y * 2 ^ (W - n)) % 2 ^ W + 2 ^ W * (V' / 2 ^ n) ∧ x / 2 ^ n < 2 ^ (W - n) ∧ 0 ≤ x / 2 ^ n := by
  have hp : (0 : Int) < 2 ^ n := Int.pow_pos (by decide)
  have hq : (0 : Int) < 2 ^ (W - n) := Int.pow_pos (by decide)
  have hb : (2 : Int) ^ W = 2 ^ n * 2 ^ (W - n) := by rw [← Int.pow_add]; congr 1; omega
  have hb0 : (0 : Int) < 2 ^ W := Int.pow_pos (by decide)
  generalize (2 : Int) ^ n = p at *
  generalize (2 : Int) ^ (W - n) = q at *
  generalize (2 : Int) ^ W = b at *
  subst hb
  have hX : x / p < q := Int.ediv_lt_of_lt_mul hp (by rw [Int.mul_comm]; exact hx1)
  have hX0 : 0 ≤ x / p := Int.ediv_nonneg hx0 (Int.le_of_lt hp)
  refine ⟨Int.emod_nonneg _ (Int.ne_of_gt hb0), Int.emod_lt_of_pos _ hb0, ?_, hX, hX0⟩
  have e1 : (x + p * q * V') / p = x / p + q * V' := by rw [Int.mul_assoc, Int.add_mul_ediv_left _ _ (Int.ne_of_gt hp)]
  have hy := Int.emod_add_mul_ediv y p
  have hv := Int.emod_add_mul_ediv V' p
  have hm : V' % p = y % p := by rw [hV, Int.mul_assoc, Int.add_mul_emod_self_left]
  have r0 := Int.emod_nonneg y (Int.ne_of_gt hp)
  have r1 := Int.emod_lt_of_pos y hp
  have e2 : (x / p + y * q) % (p * q) = x / p + y % p * q := by
    have : x / p + y * q = x / p + y % p * q + p * q * (y / p) := by
      conv => lhs; rw [← hy]
      grind
    rw [this, Int.add_mul_emod_self_left]
    refine Int.emod_eq_of_lt (Int.add_nonneg hX0 (Int.mul_nonneg r0 (Int.le_of_lt hq))) ?_
    have := Int.mul_le_mul_of_nonneg_right (show y % p ≤ p - 1 by omega) (Int.le_of_lt hq)
    rw [Int.sub_mul, Int.one_mul] at this
    omega
  rw [e1, e2]
  conv => lhs; rw [← hv, hm]
  grind
/-- between two turns of shift_right -/
def ShrI (W n : Nat) (xs : List Int) (t : Nat) (found : List Int) : Prop :=
  found.length = t ∧ Lims (2 ^ W) found ∧ val (2 ^ W) found + (2 ^ W) ^ t * (val (2 ^ W) (xs.drop t) / 2 ^ n) = val (2 ^ W) xs / 2 ^ n
theorem shrI_zero (W n : Nat) (xs : List Int) : ShrI W n xs 0 [] := ⟨rfl, fun _ h => (nomatch h), by simp [val]⟩
theorem val_drop (b : Int) (xs : List Int) {t : Nat} (h : t < xs.length) : val b (xs.drop t) = xs.getD t 0 + b * val b (xs.drop (t + 1)) := by
  rw [List.drop_eq_getElem_cons h, val, List.getD_eq_getElem?_getD, List.getElem?_eq_getElem h]; rfl
theorem val_drop' (b : Int) (xs : List Int) (t : Nat) : val b (xs.drop t) = xs.getD t 0 + b * val b (xs.drop (t + 1)) := by
  by_cases h : t < xs.length
  · exact val_drop b xs h
  · rw [List.drop_eq_nil_of_le (by omega), List.drop_eq_nil_of_le (by omega), List.getD_eq_getElem?_getD, List.getElem?_eq_none (by omega)]; simp [val]
theorem shrI_step {W n : Nat} {xs found : List Int} {t : Nat} (hW : W = 4 ∨ W = 5 ∨ W = 6 ∨ W = 7 ∨ W = 8) (hn : n = 1 ∨ n = 2 ∨ n = 3) (hL : Lims (2 ^ W) xs) (h : ShrI W n xs t found) :
    ShrI W n xs (t + 1) (found ++ [Builtin.bitAnd (Builtin.bitOr ((xs.getD t 0).fdiv (2 ^ n)) (xs.getD (t + 1) 0 * 2 ^ (W - n))) (1 * 2 ^ W - 1)]) := by
  obtain ⟨h1, h2, h3⟩ := h
  have hx := hL.getD (two_pos W) t
  have hy := hL.getD (two_pos W) (t + 1)
  obtain ⟨a1, a2, a3, a4, a5⟩ := shr_arith (n := n) hW hn hx.1 hx.2 hy.1 (val_drop' (2 ^ W) xs (t + 1))
  rw [band, Int.fdiv_eq_ediv_of_nonneg _ (Int.le_of_lt (two_pos n)), lor_add _ a5 a4 hy.1, Int.fmod_eq_emod_of_nonneg _ (Int.le_of_lt (two_pos W))]
  refine ⟨by rw [List.length_append, List.length_singleton, h1], h2.snoc a1 a2, ?_⟩
  rw [val_snoc, h1, Int.pow_succ, Int.mul_assoc, Int.add_assoc, ← Int.mul_add, ← a3, ← val_drop', h3]
theorem shrI_turn {W n n' k' : Nat} {xs pre found : List Int} {k : Int} (hW : Hid (W = 4 ∨ W = 5 ∨ W = 6 ∨ W = 7 ∨ W = 8)) (hn : Hid (n = 1 ∨ n = 2 ∨ n = 3)) (hn' : n' = n) (hk' : k' = W - n) (hL : Lims (2 ^ W) xs) (h : ShrI W n xs pre.length found) (hk : k = 0 + (pre.length : Int)) :
    (found ++ [Builtin.bitAnd (Builtin.bitOr ((xs.getD k.toNat 0).fdiv (2 ^ n')) (xs.getD (k + 1).toNat 0 * 2 ^ k')) (1 * 2 ^ W - 1)]).length = (pre ++ [k]).length ∧
    ShrI W n xs (pre ++ [k]).length (found ++ [Builtin.bitAnd (Builtin.bitOr ((xs.getD k.toNat 0).fdiv (2 ^ n')) (xs.getD (k + 1).toNat 0 * 2 ^ k')) (1 * 2 ^ W - 1)]) := by
  subst hn' hk'
  have e : k.toNat = pre.length := by omega
  have e2 : (k + 1).toNat = pre.length + 1 := by omega
  have e3 : (pre ++ [k]).length = pre.length + 1 := by rw [List.length_append, List.length_singleton]
  rw [e, e2, e3]
  have := shrI_step hW hn hL h
  exact ⟨this.1, this⟩
theorem shrI_last {W n n' k' : Nat} {xs pre found : List Int} {k : Int} (hW : Hid (W = 4 ∨ W = 5 ∨ W = 6 ∨ W = 7 ∨ W = 8)) (hn : Hid (n = 1 ∨ n = 2 ∨ n = 3)) (hn' : n' = n) (hk' : k' = W - n) (hL : Lims (2 ^ W) xs) (h : ShrI W n xs pre.length found) (hk : k = 0 + (pre.length : Int)) (hl : ¬ k + 1 < (xs.length : Int)) :
    (found ++ [Builtin.bitAnd (Builtin.bitOr ((xs.getD k.toNat 0).fdiv (2 ^ n')) (0 * 2 ^ k')) (1 * 2 ^ W - 1)]).length = (pre ++ [k]).length ∧
    ShrI W n xs (pre ++ [k]).length (found ++ [Builtin.bitAnd (Builtin.bitOr ((xs.getD k.toNat 0).fdiv (2 ^ n')) (0 * 2 ^ k')) (1 * 2 ^ W - 1)]) := by
  have e : xs.getD (k + 1).toNat 0 = 0 := by rw [List.getD_eq_getElem?_getD, List.getElem?_eq_none (by omega)]; rfl
  have := shrI_turn (k := k) hW hn hn' hk' hL h hk
  rw [e] at this
  exact this
theorem shrI_end {W n : Nat} {xs found : List Int} {k : Nat} (h : ShrI W n xs (rangeKs 0 k).length found) (hk : k = xs.length) : Lims (2 ^ W) found ∧ val (2 ^ W) found = val (2 ^ W) xs / 2 ^ n ∧ found.length = xs.length := by
  rw [rangeKs_length, hk] at h
  obtain ⟨h1, h2, h3⟩ := h
  rw [List.drop_length] at h3
  refine ⟨h2, ?_, h1⟩
  rw [← h3]; simp [val]
theorem fdiv_small {a b : Int} (h0 : 0 ≤ a) (h : a < b) : a.fdiv b = 0 := by
  rw [Int.fdiv_eq_ediv_of_nonneg _ (by omega)]; exact Int.ediv_eq_zero_of_lt h0 h
theorem fmod_small {a b : Int} (h0 : 0 ≤ a) (h : a < b) : a.fmod b = a := by
  rw [Int.fmod_eq_emod_of_nonneg _ (by omega)]; exact Int.emod_eq_of_lt h0 h
theorem lshift_lim {prog : Program} {w : World} {A : Around} {E : Value → Shared → Prop} {s : Shared} {Q : Value → Shared → Prop} {b : Int} {xs : List Int} {i : Nat} {n : Int} {t u : Tok} (hL : Lims b xs) (hb : 16 ≤ b ∧ b ≤ 256) (hn : 0 ≤ n) (hn2 : n ≤ 1000000)
    (h : Q (.int (xs.getD i 0 * 2 ^ n.toNat) s.toks) { s with toks := s.toks + 1 }) : wpAny (model prog w) A (binaryOp .LShift (.int (xs.getD i 0) t) (.int n u)) Q E s :=
  lshift_int_small hn hn2 (by have := hL.getD (by omega) i; omega) h
local macro_rules | `(tactic| walk_at "binaryOp LShift int int") => `(tactic| (k_here; (with_reducible show wpAny _ _ (binaryOp _ (Value.int (List.getD _ _ _) _) (Value.int _ _)) _ _ _); refine lshift_lim (by with_reducible assumption) (by with_reducible assumption) (by omega) (by omega) ?_))
set_option maxHeartbeats 4000000 in
theorem call_shr {la : Addr} {vs : List Value} {xs : List Int} {nn : Nat} {wd nb : Int} {tw tn : Tok}
    (B : Below A₀ base outer h₀) (F : Fr h₀ L s.heap m) (X : (Mine.hd.heap_39 w.params).In h₀) (N : News h₀ L s.heap news) (T : Top p loose mean mg mb h₀) (hk : cs.kind = .function)
    (hm : (la, listOf vs.toArray nn) ∈ news) (hv : IntsAre vs xs) (hL : Lims (2 ^ wd.toNat) xs) (hlen : xs.length ≤ 50) (hw1 : 4 ≤ wd) (hw2 : wd ≤ 8) (hn1 : 1 ≤ nb) (hn2 : nb ≤ 3)
    (hd : dp < 390)
    (ret : ∀ r ws zs kk h' tk', Fr h₀ L h' m → News h₀ L h' ((r, listOf ws.toArray kk) :: news) → AllLt r news → IntsAre ws zs → Lims (2 ^ wd.toNat) zs → val (2 ^ wd.toNat) zs = val (2 ^ wd.toNat) xs / 2 ^ nb.toNat → zs.length ≤ xs.length → Q (.ref r) { s with heap := h', toks := tk' }) :
    wpAny (model prog w) (ktrTop dp un gd cn cs L a ccd cl outer) (call (.ref 60) [.ref la, .int nb tn, .int wd tw]) Q E s := by
  have N0 := News.dup N hm
  clear N
  have hp16 := pow16 hw1 hw2
  have h5 : Hid _ := wd5 hw1 hw2
  have h3 : Hid (nb.toNat = 1 ∨ nb.toNat = 2 ∨ nb.toNat = 3) := by unfold Hid; omega
  have hs0 : nb.fdiv wd = 0 := fdiv_small (by omega) (by omega)
  have hf0 : nb.fmod wd = nb := fmod_small (by omega) (by omega)
  have hf1 : (nb.fmod wd).toNat = nb.toNat := by rw [hf0]
  have hf2 : (wd - nb.fmod wd).toNat = wd.toNat - nb.toNat := by rw [hf0]; omega
  k_with "state" => first
    | with_reducible exact ⟨rfl, shrI_zero _ _ _⟩
    | with_reducible exact shrI_turn h5 h3 hf1 hf2 hL (by with_reducible assumption) (by with_reducible assumption)
    | with_reducible exact shrI_last h5 h3 hf1 hf2 hL (by with_reducible assumption) (by with_reducible assumption) (by with_reducible assumption)
  refine wpAny_call ?_
  k_dflt (refine' code_def (binds := [(Str.ofString "a", .ref la), (Str.ofString "n", .int nb tn), (Str.ofString "w", .int wd tw)]) ?k1 ?k2 ?k3 ?k4 ?k5 ?kA ?kF ?kK ?k6 ?k7 ?k8 ?k9 ?kB ?_ ?c2 ?c3 ?c4 ?c5; (case kA => exact rfl); (case kF => exact rfl); (case kK => assumption); (case k1 => k_asm); (case k2 => k_asm); (case k3 => k_asm); (case k4 => k_asm); (case k5 => k_asm); (case k6 => k_is); (case k7 => k_is); (case k8 => ktr_room); (case k9 => exact BindsTo.of_eq rfl); (case c5 => decide); (case kB => exact locs rfl); (case c2 => exact rfl); (case c3 => exact rfl); (case c4 => exact rfl); k_whole; intro g' L' h' FG' F' N' B' X' T' ; (try dsimp only); (try k_fold))
  (repeat' (first | (k_unfold; (try dsimp only)) | (k_end; wrow_close) | ((fail_if_success (with_reducible show wpAny _ _ (eval (Expr.ListComp _ _ _ _) _) _ _ _)); (fail_if_success (with_reducible show KswEnd _ _ _ _ _ _ _ _ _ _ _ _)); (fail_if_success (with_reducible show wpAny _ _ (pyIter _) _ _ _)); (fail_if_success (with_reducible show wpAny _ _ (exec (Stmt.While _ _ _ _) _) _ _ _)); (first | walk1 | (dsimp only; walk1))) | (leave1; walk_say "STEP leave1"; try dsimp only) | fail "no step"))
  k_state_given ["a"] (fun xs pre found => found.length = pre.length ∧ ShrI wd.toNat nb.toNat xs pre.length found) "found"
  all_goals (repeat' (first | (k_unfold; (try dsimp only)) | (k_end; wrow_close) | ((fail_if_success (with_reducible show wpAny _ _ (eval (Expr.ListComp _ _ _ _) _) _ _ _)); (fail_if_success (with_reducible show KswEnd _ _ _ _ _ _ _ _ _ _ _ _)); (fail_if_success (with_reducible show wpAny _ _ (pyIter _) _ _ _)); (fail_if_success (with_reducible show wpAny _ _ (exec (Stmt.While _ _ _ _) _) _ _ _)); (first | walk1 | (dsimp only; walk1))) | (leave1; walk_say "STEP leave1"; try dsimp only) | fail "no step"))
  rename News _ _ _ _ => N5
  rename Fr _ _ _ _ => F5
  have e := shrI_end (by assumption) (by omega)
  refine' call_normal (b := 2 ^ wd.toNat) B' F5 X' N5 T' rfl (by k_mem) (by assumption) (by rw [e.2.2]; omega) e.1 (by (first | omega | ((try simp only [depth_deeper, depth_caller]); (try dsimp only [ktrTop]); omega) | ((try simp only [depth_under_make, depth_under_kw, depth_in1, depth_deeper, depth_caller]); (try dsimp only [ktrTop]); (try simp only [depth_under_make, depth_under_kw, depth_in1, depth_deeper, depth_caller]); omega))) ?_
  intro r ws zs kk h9 tk9 F9 N9 lt9 I9 L9 v9 len9
  (repeat' (first | (k_unfold; (try dsimp only)) | (k_end; wrow_close) | ((fail_if_success (with_reducible show wpAny _ _ (eval (Expr.ListComp _ _ _ _) _) _ _ _)); (fail_if_success (with_reducible show KswEnd _ _ _ _ _ _ _ _ _ _ _ _)); (fail_if_success (with_reducible show wpAny _ _ (pyIter _) _ _ _)); (fail_if_success (with_reducible show wpAny _ _ (exec (Stmt.While _ _ _ _) _) _ _ _)); (first | walk1 | (dsimp only; walk1))) | (leave1; walk_say "STEP leave1"; try dsimp only) | fail "no step"))
  rename_i kF9 kN9 Tc9 kX9
  refine' ret _ _ _ _ _ _ kF9 ?n1 ?l1 I9 L9 (v9.trans e.2.1) (by rw [e.2.2] at len9; exact len9)
  case n1 => (((refine kst_newsOf (by assumption) (List.forall_mem_cons.mpr ⟨?_, ?_⟩)); (focus k_mem); (focus (intro q9 hq9; (repeat (first | exact hq9 | refine List.mem_cons_of_mem _ ?_))))))
  case l1 => (first | assumption | exact And.right (by assumption) | exact And.right (And.right (by assumption)) | exact And.right (And.right (And.right (by assumption))) | exact And.right (And.right (And.right (And.right (by assumption)))) | exact And.right (And.right (And.right (And.right (And.right (by assumption))))) | assumption | exact allLt_of (by assumption) | exact (allLt_tl (by assumption)) | exact (allLt_tl (allLt_tl (by assumption))) | exact (allLt_tl (allLt_tl (allLt_tl (by assumption)))) | exact (allLt_tl (allLt_tl (allLt_tl (allLt_tl (by assumption))))) | exact (allLt_tl (allLt_tl (allLt_tl (allLt_tl (allLt_tl (by assumption)))))) | exact allLt_tl (allLt_of (by assumption)))
end
end Mine
namespace Mine
section
variable {prog p : Program} {w : World} {loose : List Str} {mean : ExcName → Option Value} {mg mb : Str → Option Value}
  {dp un : Nat} {gd : Option (List Code)} {cn : Str} {cs : Scope} {a : Addr} {ccd : Value} {cl : List (Str × Addr)} {outer : List Env} {A₀ : Around} {base h₀ : Heap} {L : Addr} {m : Str → Option Value} {news : List (Addr × Obj)} {s : Shared}
  {Q E : Value → Shared → Prop}
set_option maxHeartbeats 4000000 in
theorem call_spun {news₀ : List (Addr × Obj)} {la lb : Addr} {vs : List Value} {xs : List Int} {nn mm : Nat} {k many : Int} {t tm : Tok}
    (B : Below A₀ base outer h₀) (F : Fr h₀ L s.heap m) (X : (Mine.hd.heap_39 w.params).In h₀) (N : News h₀ L s.heap news) (T : Top p loose mean mg mb h₀) (hk : cs.kind = .function)
    (hN : news = (la, listOf [.int k t, .ref lb].toArray nn) :: (lb, listOf vs.toArray mm) :: news₀) (hlb : lb < la) (hap : ∀ q ∈ news₀, q.1 ≠ la) (hv : IntsAre vs xs) (hlen : xs.length ≤ 1000) (hk0 : 0 ≤ k) (hk1 : k ≤ 8) (hm0 : 0 < many) (hm1 : many ≤ 256)
    (hd : dp < 400)
    (ret : ∀ r t1 t2 nn2 h' tk', 0 ≤ r → r < many → Fr h₀ L h' m → News h₀ L h' ((la, listOf [.int (k + 1) t1, .ref lb].toArray nn2) :: (lb, listOf vs.toArray mm) :: news₀) → Q (.int r t2) { s with heap := h', toks := tk' }) :
    wpAny (model prog w) (ktrTop dp un gd cn cs L a ccd cl outer) (call (.ref 116) [.ref la, .int many tm]) Q E s := by
  subst hN
  have hlb2 : (@Ne Nat la lb) := Nat.ne_of_gt hlb
  refine wpAny_call ?_
  k_dflt (refine' code_def (binds := [(Str.ofString "wheel", .ref la), (Str.ofString "many", .int many tm)]) ?k1 ?k2 ?k3 ?k4 ?k5 ?kA ?kF ?kK ?k6 ?k7 ?k8 ?k9 ?kB ?_ ?c2 ?c3 ?c4 ?c5; (case kA => exact rfl); (case kF => exact rfl); (case kK => assumption); (case k1 => k_asm); (case k2 => k_asm); (case k3 => k_asm); (case k4 => k_asm); (case k5 => k_asm); (case k6 => k_is); (case k7 => k_is); (case k8 => ktr_room); (case k9 => exact BindsTo.of_eq rfl); (case c5 => decide); (case kB => exact locs rfl); (case c2 => exact rfl); (case c3 => exact rfl); (case c4 => exact rfl); k_whole; intro g' L' h' FG' F' N' B' X' T' ; (try dsimp only); (try k_fold))
  (repeat' (first | (k_unfold; (try dsimp only)) | (k_end; wrow_close) | ((fail_if_success (with_reducible show wpAny _ _ (eval (Expr.ListComp _ _ _ _) _) _ _ _)); (fail_if_success (with_reducible show KswEnd _ _ _ _ _ _ _ _ _ _ _ _)); (fail_if_success (with_reducible show wpAny _ _ (pyIter _) _ _ _)); (fail_if_success (with_reducible show wpAny _ _ (exec (Stmt.While _ _ _ _) _) _ _ _)); (first | walk1 | (dsimp only; walk1))) | (leave1; walk_say "STEP leave1"; try dsimp only) | fail "no step"))
  all_goals rename_i kF9 kN9 Tc9 kX9
  all_goals exact ret _ _ _ _ _ _ (fmod0 hm0) (fmod1 hm0) kF9 kN9
end
end Mine
namespace Mine
section
variable {prog p : Program} {w : World} {loose : List Str} {mean : ExcName → Option Value} {mg mb : Str → Option Value}
  {dp un : Nat} {gd : Option (List Code)} {cn : Str} {cs : Scope} {a : Addr} {ccd : Value} {cl : List (Str × Addr)} {outer : List Env} {A₀ : Around} {base h₀ : Heap} {L : Addr} {m : Str → Option Value} {news : List (Addr × Obj)} {s : Shared}
  {Q E : Value → Shared → Prop}
theorem low_zero {W n : Nat} {x R : Int} (h : n < W) : (x + 2 ^ W * R) % 2 ^ n = x % 2 ^ n := by
  have hb : (2 : Int) ^ W = 2 ^ n * 2 ^ (W - n) := by rw [← Int.pow_add]; congr 1; omega
  rw [hb, Int.mul_assoc, Int.add_mul_emod_self_left]
theorem low_one {W n : Nat} {x y R : Int} (hW : n - W ≤ W) (h : W ≤ n) (hx0 : 0 ≤ x) (hx1 : x < 2 ^ W) : (x + 2 ^ W * (y + 2 ^ W * R)) % 2 ^ n = x + 2 ^ W * (y % 2 ^ (n - W)) := by
  have hn : (2 : Int) ^ n = 2 ^ W * 2 ^ (n - W) := by rw [← Int.pow_add]; congr 1; omega
  have hb : (2 : Int) ^ W = 2 ^ (n - W) * 2 ^ (W - (n - W)) := by rw [← Int.pow_add]; congr 1; omega
  have hz : (y + 2 ^ W * R) % 2 ^ (n - W) = y % 2 ^ (n - W) := by
    rw [hb, Int.mul_assoc, Int.add_mul_emod_self_left]
  have hc : (0 : Int) < 2 ^ (n - W) := Int.pow_pos (by decide)
  have hb0 : (0 : Int) < 2 ^ W := Int.pow_pos (by decide)
  rw [hn]
  generalize y + 2 ^ W * R = z at *
  generalize (2 : Int) ^ (n - W) = c at *
  clear hb hn
  generalize (2 : Int) ^ W = b at *
  have e := Int.emod_add_mul_ediv z c
  have r0 := Int.emod_nonneg z (Int.ne_of_gt hc)
  have r1 := Int.emod_lt_of_pos z hc
  have : x + b * z = x + b * (z % c) + b * c * (z / c) := by
    conv => lhs; rw [← e]
    grind
  rw [this, Int.add_mul_emod_self_left, hz]
  rw [hz] at r0 r1
  refine Int.emod_eq_of_lt (Int.add_nonneg hx0 (Int.mul_nonneg (Int.le_of_lt hb0) r0)) ?_
  have := Int.mul_le_mul_of_nonneg_left (show y % c ≤ c - 1 by omega) (Int.le_of_lt hb0)
  rw [Int.mul_sub, Int.mul_one] at this
  omega
theorem fd_cases {nb wd : Int} (hw1 : 4 ≤ wd) (hw2 : wd ≤ 8) (hn1 : 2 ≤ nb) (hn2 : nb ≤ 6) : (nb.fdiv wd = 0 ∧ nb.fmod wd = nb ∧ nb < wd) ∨ (nb.fdiv wd = 1 ∧ nb.fmod wd = nb - wd ∧ wd ≤ nb) := by
  by_cases h : nb < wd
  · exact .inl ⟨by rw [Int.fdiv_eq_ediv_of_nonneg _ (by omega)]; exact Int.ediv_eq_zero_of_lt (by omega) h, by rw [Int.fmod_eq_emod_of_nonneg _ (by omega)]; exact Int.emod_eq_of_lt (by omega) h, h⟩
  · have e := fdm (a := nb) (b := wd) (by omega)
    have e0 := fmod0 (a := nb) (b := wd) (by omega)
    have e1 := fmod1 (a := nb) (b := wd) (by omega)
    have h1 := fdivlt (a := nb) (b := wd) (c := 2) (by omega) (by omega)
    have h2 := fdiv0 (a := nb) (b := wd) (by omega) (by omega)
    have h3 : nb.fdiv wd ≠ 0 := fun z => by rw [z] at e; omega
    have h4 : nb.fdiv wd = 1 := by omega
    refine .inr ⟨h4, ?_, by omega⟩
    rw [h4] at e; omega
theorem low_short {W n : Nat} {xs : List Int} {q : Int} (hW : W = 4 ∨ W = 5 ∨ W = 6 ∨ W = 7 ∨ W = 8) (hn : n = 2 ∨ n = 3 ∨ n = 4 ∨ n = 5 ∨ n = 6) (hL : Lims (2 ^ W) xs) (hq : (q = 0 ∧ n < W) ∨ (q = 1 ∧ W ≤ n)) (h : (xs.length : Int) ≤ q) : val (2 ^ W) xs = val (2 ^ W) xs % 2 ^ n ∧ xs.length ≤ 1 := by
  match xs, hL, h with
  | [], _, _ => exact ⟨by simp [val], by simp⟩
  | [x], hL, h =>
    have hx := hL x (.head _)
    refine ⟨?_, Nat.le_refl _⟩
    have hWn : W ≤ n := by
      rcases hq with ⟨a, b⟩ | ⟨a, b⟩
      · rw [a] at h; simp at h
      · exact b
    show x + 2 ^ W * 0 = (x + 2 ^ W * 0) % 2 ^ n
    have : (2 : Int) ^ W ≤ 2 ^ n := by
      have := Nat.pow_le_pow_right (n := 2) (by decide) hWn
      exact_mod_cast this
    rw [Int.mul_zero, Int.add_zero, Int.emod_eq_of_lt hx.1 (by omega)]
  | _ :: _ :: _, _, h => rcases hq with ⟨a, b⟩ | ⟨a, b⟩ <;> (rw [a] at h; simp only [List.length_cons] at h; omega)
theorem low_long {W n k : Nat} {xs : List Int} {q : Int} (hW : W = 4 ∨ W = 5 ∨ W = 6 ∨ W = 7 ∨ W = 8) (hn : n = 2 ∨ n = 3 ∨ n = 4 ∨ n = 5 ∨ n = 6) (hL : Lims (2 ^ W) xs) (hq : (q = 0 ∧ k = n ∧ n < W) ∨ (q = 1 ∧ k = n - W ∧ W ≤ n)) (h : q < (xs.length : Int)) :
    Lims (2 ^ W) (xs.take q.toNat ++ [Builtin.bitAnd (xs.getD q.toNat 0) (1 * 2 ^ k - 1)]) ∧ val (2 ^ W) (xs.take q.toNat ++ [Builtin.bitAnd (xs.getD q.toNat 0) (1 * 2 ^ k - 1)]) = val (2 ^ W) xs % 2 ^ n ∧ (xs.take q.toNat ++ [Builtin.bitAnd (xs.getD q.toNat 0) (1 * 2 ^ k - 1)]).length ≤ 2 := by
  rw [band, Int.fmod_eq_emod_of_nonneg _ (Int.le_of_lt (two_pos k))]
  have hW4 : 4 ≤ W := by clear hn hq h; omega
  have hn6 : n ≤ 6 := by clear hW hq h; omega
  clear hW hn
  have hkW : k ≤ W := by
    rcases hq with ⟨_, rfl, h1⟩ | ⟨_, rfl, h1⟩
    · exact Nat.le_of_lt h1
    · omega
  have hk : (2 : Int) ^ k ≤ 2 ^ W := by
    have := Nat.pow_le_pow_right (n := 2) (by decide) hkW
    exact_mod_cast this
  have hg := hL.getD (two_pos W) q.toNat
  refine ⟨Lims.snoc (fun x hx => hL x (List.mem_of_mem_take hx)) (Int.emod_nonneg _ (Int.ne_of_gt (two_pos k))) (Int.lt_of_lt_of_le (Int.emod_lt_of_pos _ (two_pos k)) hk), ?_, ?_⟩
  · rcases hq with ⟨rfl, rfl, h1⟩ | ⟨rfl, rfl, h1⟩
    · show val (2 ^ W) ([] ++ [xs.getD 0 0 % 2 ^ k]) = _
      rw [List.nil_append]
      have e := val_drop' (2 ^ W) xs 0
      rw [List.drop_zero] at e
      rw [e, low_zero h1]
      simp [val]
    · have e := val_drop' (2 ^ W) xs 0
      rw [List.drop_zero, val_drop' (2 ^ W) xs 1] at e
      have hx := hL.getD (two_pos W) 0
      rw [e, low_one (by omega) h1 hx.1 hx.2]
      have e2 : xs.take (1 : Int).toNat = [xs.getD 0 0] := by
        have := take_succ_getD xs (i := 0) (by omega)
        simpa using this
      rw [e2]
      simp [val]
  · have hq1 : q.toNat ≤ 1 := by
      rcases hq with ⟨rfl, _, _⟩ | ⟨rfl, _, _⟩
      · exact Nat.zero_le _
      · exact Nat.le_refl _
    rw [List.length_append, List.length_take, List.length_singleton]
    exact Nat.succ_le_succ (Nat.le_trans (Nat.min_le_left _ _) hq1)
set_option maxHeartbeats 4000000 in
theorem call_low {la : Addr} {vs : List Value} {xs : List Int} {nn : Nat} {wd nb : Int} {tw tn : Tok}
    (B : Below A₀ base outer h₀) (F : Fr h₀ L s.heap m) (X : (Mine.hd.heap_39 w.params).In h₀) (N : News h₀ L s.heap news) (T : Top p loose mean mg mb h₀) (hk : cs.kind = .function)
    (hm : (la, listOf vs.toArray nn) ∈ news) (hv : IntsAre vs xs) (hL : Lims (2 ^ wd.toNat) xs) (hlen : xs.length ≤ 50) (hw1 : 4 ≤ wd) (hw2 : wd ≤ 8) (hn1 : 2 ≤ nb) (hn2 : nb ≤ 6)
    (hd : dp < 390)
    (ret : ∀ r ws zs kk h' tk', Fr h₀ L h' m → News h₀ L h' ((r, listOf ws.toArray kk) :: news) → AllLt r news → IntsAre ws zs → Lims (2 ^ wd.toNat) zs → val (2 ^ wd.toNat) zs = val (2 ^ wd.toNat) xs % 2 ^ nb.toNat → zs.length ≤ 2 → Q (.ref r) { s with heap := h', toks := tk' }) :
    wpAny (model prog w) (ktrTop dp un gd cn cs L a ccd cl outer) (call (.ref 67) [.ref la, .int nb tn, .int wd tw]) Q E s := by
  have N0 := News.dup N hm
  clear N
  have hp16 := pow16 hw1 hw2
  have h5 : Hid _ := wd5 hw1 hw2
  have h3 : Hid (nb.toNat = 2 ∨ nb.toNat = 3 ∨ nb.toNat = 4 ∨ nb.toNat = 5 ∨ nb.toNat = 6) := by unfold Hid; omega
  have hfd := fd_cases hw1 hw2 hn1 hn2
  have hb4 : 0 ≤ nb.fmod wd ∧ nb.fmod wd ≤ 6 ∧ 0 ≤ nb.fdiv wd ∧ nb.fdiv wd ≤ 1 := by
    rcases hfd with ⟨a, b, c⟩ | ⟨a, b, c⟩
    · rw [a, b]; omega
    · rw [a, b]; omega
  obtain ⟨hf0, hf1, hs0, hs1⟩ := hb4
  have hq1 : (nb.fdiv wd = 0 ∧ nb.toNat < wd.toNat) ∨ (nb.fdiv wd = 1 ∧ wd.toNat ≤ nb.toNat) := by
    rcases hfd with ⟨a, b, c⟩ | ⟨a, b, c⟩
    · exact .inl ⟨a, by omega⟩
    · exact .inr ⟨a, by omega⟩
  have hq2 : Hid ((nb.fdiv wd = 0 ∧ (nb.fmod wd).toNat = nb.toNat ∧ nb.toNat < wd.toNat) ∨ (nb.fdiv wd = 1 ∧ (nb.fmod wd).toNat = nb.toNat - wd.toNat ∧ wd.toNat ≤ nb.toNat)) := by
    rcases hfd with ⟨a, b, c⟩ | ⟨a, b, c⟩
    · exact .inl ⟨a, by rw [b], by omega⟩
    · exact .inr ⟨a, by rw [b]; omega, by omega⟩
  have hq1 : Hid _ := hq1
  clear hfd
  refine wpAny_call ?_
  k_dflt (refine' code_def (binds := [(Str.ofString "a", .ref la), (Str.ofString "n", .int nb tn), (Str.ofString "w", .int wd tw)]) ?k1 ?k2 ?k3 ?k4 ?k5 ?kA ?kF ?kK ?k6 ?k7 ?k8 ?k9 ?kB ?_ ?c2 ?c3 ?c4 ?c5; (case kA => exact rfl); (case kF => exact rfl); (case kK => assumption); (case k1 => k_asm); (case k2 => k_asm); (case k3 => k_asm); (case k4 => k_asm); (case k5 => k_asm); (case k6 => k_is); (case k7 => k_is); (case k8 => ktr_room); (case k9 => exact BindsTo.of_eq rfl); (case c5 => decide); (case kB => exact locs rfl); (case c2 => exact rfl); (case c3 => exact rfl); (case c4 => exact rfl); k_whole; intro g' L' h' FG' F' N' B' X' T' ; (try dsimp only); (try k_fold))
  (repeat' (first | (k_unfold; (try dsimp only)) | (k_end; wrow_close) | ((fail_if_success (with_reducible show wpAny _ _ (eval (Expr.ListComp _ _ _ _) _) _ _ _)); (fail_if_success (with_reducible show KswEnd _ _ _ _ _ _ _ _ _ _ _ _)); (fail_if_success (with_reducible show wpAny _ _ (pyIter _) _ _ _)); (fail_if_success (with_reducible show wpAny _ _ (exec (Stmt.While _ _ _ _) _) _ _ _)); (first | walk1 | (dsimp only; walk1))) | (leave1; walk_say "STEP leave1"; try dsimp only) | fail "no step"))
  · rename_i kF9 kN9 Tc9 kX9
    have e := low_short (W := wd.toNat) (n := nb.toNat) (q := nb.fdiv wd) h5 h3 hL hq1 (by omega)
    refine' ret _ _ _ _ _ _ kF9 ?n1 ?l1 (by with_reducible assumption) hL e.1 (by omega)
    case n1 => (((refine kst_newsOf (by assumption) (List.forall_mem_cons.mpr ⟨?_, ?_⟩)); (focus k_mem); (focus (intro q9 hq9; (repeat (first | exact hq9 | refine List.mem_cons_of_mem _ ?_))))))
    case l1 => (first | assumption | exact And.right (by assumption) | exact And.right (And.right (by assumption)) | exact And.right (And.right (And.right (by assumption))) | exact And.right (And.right (And.right (And.right (by assumption)))) | exact And.right (And.right (And.right (And.right (And.right (by assumption))))) | assumption | exact allLt_of (by assumption) | exact (allLt_tl (by assumption)) | exact (allLt_tl (allLt_tl (by assumption))) | exact (allLt_tl (allLt_tl (allLt_tl (by assumption)))) | exact (allLt_tl (allLt_tl (allLt_tl (allLt_tl (by assumption))))) | exact (allLt_tl (allLt_tl (allLt_tl (allLt_tl (allLt_tl (by assumption)))))) | exact allLt_tl (allLt_of (by assumption)))
  · have e := low_long (W := wd.toNat) (n := nb.toNat) (k := (nb.fmod wd).toNat) (q := nb.fdiv wd) h5 h3 hL hq2 (by omega)
    rename News _ _ _ _ => N5
    rename Fr _ _ _ _ => F5
    refine' call_normal (b := 2 ^ wd.toNat) B' F5 X' N5 T' rfl (by k_mem) (by assumption) (by omega) e.1 (by (first | omega | ((try simp only [depth_deeper, depth_caller]); (try dsimp only [ktrTop]); omega) | ((try simp only [depth_under_make, depth_under_kw, depth_in1, depth_deeper, depth_caller]); (try dsimp only [ktrTop]); (try simp only [depth_under_make, depth_under_kw, depth_in1, depth_deeper, depth_caller]); omega))) ?_
    intro r ws zs kk h9 tk9 F9 N9 lt9 I9 L9 v9 len9
    (repeat' (first | (k_unfold; (try dsimp only)) | (k_end; wrow_close) | ((fail_if_success (with_reducible show wpAny _ _ (eval (Expr.ListComp _ _ _ _) _) _ _ _)); (fail_if_success (with_reducible show KswEnd _ _ _ _ _ _ _ _ _ _ _ _)); (fail_if_success (with_reducible show wpAny _ _ (pyIter _) _ _ _)); (fail_if_success (with_reducible show wpAny _ _ (exec (Stmt.While _ _ _ _) _) _ _ _)); (first | walk1 | (dsimp only; walk1))) | (leave1; walk_say "STEP leave1"; try dsimp only) | fail "no step"))
    rename_i kF9 kN9 Tc9 kX9
    refine' ret _ _ _ _ _ _ kF9 ?n2 ?l2 I9 L9 (v9.trans e.2.1) (by omega)
    case n2 => (((refine kst_newsOf (by assumption) (List.forall_mem_cons.mpr ⟨?_, ?_⟩)); (focus k_mem); (focus (intro q9 hq9; (repeat (first | exact hq9 | refine List.mem_cons_of_mem _ ?_))))))
    case l2 => (first | assumption | exact And.right (by assumption) | exact And.right (And.right (by assumption)) | exact And.right (And.right (And.right (by assumption))) | exact And.right (And.right (And.right (And.right (by assumption)))) | exact And.right (And.right (And.right (And.right (And.right (by assumption))))) | assumption | exact allLt_of (by assumption) | exact (allLt_tl (by assumption)) | exact (allLt_tl (allLt_tl (by assumption))) | exact (allLt_tl (allLt_tl (allLt_tl (by assumption)))) | exact (allLt_tl (allLt_tl (allLt_tl (allLt_tl (by assumption))))) | exact (allLt_tl (allLt_tl (allLt_tl (allLt_tl (allLt_tl (by assumption)))))) | exact allLt_tl (allLt_of (by assumption)))
end
end Mine
local macro_rules | `(tactic| k_lt $h:ident) => `(tactic| (have hA9 := allLt_of $h; replace $h := allLt_of $h; simp only [AllLt, and_true] at $h:ident))
local macro_rules | `(tactic| k_ne) => `(tactic| (refine neN ?_; (try dsimp only); first | with_reducible assumption | exact Ne.symm (by with_reducible assumption) | exact Nat.ne_of_gt (by first | with_reducible assumption | exact Mine.allLt_in (by with_reducible assumption) (by k_mem) | exact Mine.all_in (by with_reducible assumption) (by k_mem) | exact Mine.lt_via (by with_reducible assumption) (by with_reducible assumption) (by k_mem)) | exact Nat.ne_of_lt (by first | with_reducible assumption | exact Mine.allLt_in (by with_reducible assumption) (by k_mem) | exact Mine.all_in (by with_reducible assumption) (by k_mem) | exact Mine.lt_via (by with_reducible assumption) (by with_reducible assumption) (by k_mem)) | exact Mine.ne_in (by with_reducible assumption) (by k_mem) | exact Ne.symm (Mine.ne_in (by with_reducible assumption) (by k_mem)) | exact Mine.off1_in (by with_reducible assumption) (by k_mem) | exact Ne.symm (Mine.off1_in (by with_reducible assumption) (by k_mem)) | ((show @Ne Nat _ _); (try dsimp only); omega)))
namespace Mine
section
variable {prog p : Program} {w : World} {loose : List Str} {mean : ExcName → Option Value} {mg mb : Str → Option Value}
  {dp un : Nat} {gd : Option (List Code)} {cn : Str} {cs : Scope} {a : Addr} {ccd : Value} {cl : List (Str × Addr)} {outer : List Env} {A₀ : Around} {base h₀ : Heap} {L : Addr} {m : Str → Option Value} {news : List (Addr × Obj)} {s : Shared}
  {Q E : Value → Shared → Prop}
theorem keepI {A B C : Str} {v1 v2 v3 v4 v5 : Option Value} {u m₀ : Str → Option Value} : ∀ z, [A, B, C].contains z = false → (fun y => if y = C then v1 else if y = C then v5 else if y = B then v2 else if y = A then v3 else if y = C then v4 else if [A, B, C].contains y then u y else m₀ y) z = m₀ z := by
  intro z hz
  have h0 := hz
  simp only [List.contains_cons, List.contains_nil, Bool.or_false, Bool.or_eq_false_iff, beq_eq_false_iff_ne] at h0
  simp only [if_neg h0.1, if_neg h0.2.1, if_neg h0.2.2, hz, Bool.false_eq_true, if_false]
theorem keepO {A B C D F : Str} {v1 v2 v3 v4 : Option Value} {u u2 m₀ : Str → Option Value} : ∀ z, [A, B, C, D, F].contains z = false → (fun y => if y = C then v1 else if [D, F, C].contains y then u2 y else if y = C then v2 else if y = B then v3 else if y = A then v4 else if [A, B, C, D, F].contains y then u y else m₀ y) z = m₀ z := by
  intro z hz
  have h0 := hz
  simp only [List.contains_cons, List.contains_nil, Bool.or_false, Bool.or_eq_false_iff, beq_eq_false_iff_ne] at h0
  have h1 : [D, F, C].contains z = false := by simp only [List.contains_cons, List.contains_nil, Bool.or_false, Bool.or_eq_false_iff, beq_eq_false_iff_ne]; exact ⟨h0.2.2.2.1, h0.2.2.2.2, h0.2.2.1⟩
  simp only [if_neg h0.1, if_neg h0.2.1, if_neg h0.2.2.1, hz, h1, Bool.false_eq_true, if_false]
set_option maxHeartbeats 20000000 in
theorem call_mul {la lb : Addr} {vs us : List Value} {xs ys : List Int} {nn mm : Nat} {wd : Int} {tw : Tok}
    (B : Below A₀ base outer h₀) (F : Fr h₀ L s.heap m) (X : (Mine.hd.heap_39 w.params).In h₀) (N : News h₀ L s.heap news) (T : Top p loose mean mg mb h₀) (hk : cs.kind = .function)
    (hm : (la, listOf vs.toArray nn) ∈ news) (hm2 : (lb, listOf us.toArray mm) ∈ news) (hv : IntsAre vs xs) (hv2 : IntsAre us ys) (hLx : Lims (2 ^ wd.toNat) xs) (hLy : Lims (2 ^ wd.toNat) ys) (hlen : xs.length ≤ 2) (hlen2 : ys.length ≤ 2) (hw1 : 4 ≤ wd) (hw2 : wd ≤ 8)
    (hd : dp < 390)
    (ret : ∀ r ws zs kk h' tk', Fr h₀ L h' m → News h₀ L h' ((r, listOf ws.toArray kk) :: news) → AllLt r news → IntsAre ws zs → Lims (2 ^ wd.toNat) zs → val (2 ^ wd.toNat) zs = val (2 ^ wd.toNat) xs * val (2 ^ wd.toNat) ys → zs.length ≤ 4 → Q (.ref r) { s with heap := h', toks := tk' }) :
    wpAny (model prog w) (ktrTop dp un gd cn cs L a ccd cl outer) (call (.ref 109) [.ref la, .ref lb, .int wd tw]) Q E s := by
  have N0 := News.dup (News.dup N hm2) (List.mem_cons_of_mem _ hm)
  clear N
  have hp16 := pow16 hw1 hw2
  have e := mulModel_ok (W := wd.toNat) hLx hLy
  refine wpAny_call ?_
  k_dflt (refine' code_def (binds := [(Str.ofString "a", .ref la), (Str.ofString "b", .ref lb), (Str.ofString "w", .int wd tw)]) ?k1 ?k2 ?k3 ?k4 ?k5 ?kA ?kF ?kK ?k6 ?k7 ?k8 ?k9 ?kB ?_ ?c2 ?c3 ?c4 ?c5; (case kA => exact rfl); (case kF => exact rfl); (case kK => assumption); (case k1 => k_asm); (case k2 => k_asm); (case k3 => k_asm); (case k4 => k_asm); (case k5 => k_asm); (case k6 => k_is); (case k7 => k_is); (case k8 => ktr_room); (case k9 => exact BindsTo.of_eq rfl); (case c5 => decide); (case kB => exact locs rfl); (case c2 => exact rfl); (case c3 => exact rfl); (case c4 => exact rfl); k_whole; intro g' L' h' FG' F' N' B' X' T' ; (try dsimp only); (try k_fold))
  (repeat' (first | (k_unfold; (try dsimp only)) | (k_end; wrow_close) | ((fail_if_success (with_reducible show wpAny _ _ (exec (Stmt.For (Expr.Tuple _ _ _) _ _ _ _) _) _ _ _)); (fail_if_success (with_reducible show wpAny _ _ (call (Value.type "enumerate") _) _ _ _)); (fail_if_success (with_reducible show wpAny _ _ (call (Value.ref 46) _) _ _ _)); (fail_if_success (with_reducible show EEnd _ _ _ _ _ _ _ _)); (first | walk1 | (dsimp only; walk1))) | (leave1; walk_say "STEP leave1"; try dsimp only) | fail "no step"))
  rename AllLt _ _ => hD
  clear hD
  rename AllLt _ _ => hD
  rename News _ _ _ _ => N5
  rename Fr _ _ _ _ => F5
  rename IntsAre (List.flatten _) _ => I5
  have hz5 : (List.replicate ((xs.length : Int) + (ys.length : Int)).toNat [(0 : Int)]).flatten = List.replicate (xs.length + ys.length) 0 := by
    rw [List.flatten_replicate_singleton, show ((xs.length : Int) + (ys.length : Int)).toNat = xs.length + ys.length by omega]
  rw [hz5] at I5
  generalize hZ : List.replicate (xs.length + ys.length) (0 : Int) = Z at I5
  (((show wpAny ?M ?A (exec (Stmt.For _ _ _ _ _) ?env) _ ?E _); have hOwn9 : PassesOwn ?M ?A ?env ?E := by with_unfolding_all exact PySem.PassesOwn.leaving))
  refine For_turns F5 ?_
  (repeat' (first | (k_unfold; (try dsimp only)) | (k_end; wrow_close) | ((fail_if_success (with_reducible show wpAny _ _ (exec (Stmt.For (Expr.Tuple _ _ _) _ _ _ _) _) _ _ _)); (fail_if_success (with_reducible show wpAny _ _ (call (Value.type "enumerate") _) _ _ _)); (fail_if_success (with_reducible show wpAny _ _ (call (Value.ref 46) _) _ _ _)); (fail_if_success (with_reducible show EEnd _ _ _ _ _ _ _ _)); (first | walk1 | (dsimp only; walk1))) | (leave1; walk_say "STEP leave1"; try dsimp only) | fail "no step"))
  refine mul_outer (fun i => mouter wd.toNat ys (xs.take i) 0 Z) [Str.ofString "at", Str.ofString "limb", Str.ofString "carry", Str.ofString "spot", Str.ofString "other"] rfl rfl rfl rfl F5 (news_tl N5) hv (by k_mem) (off_of hD) I5 ?_ ?_
  · intro i ta tb u h tk a1 a2 ws kw hi I6 d1 d2 d3 F6 N6
    clear F5 N5
    (repeat' (first | (k_unfold; (try dsimp only)) | (k_end; wrow_close) | ((fail_if_success (with_reducible show wpAny _ _ (exec (Stmt.For (Expr.Tuple _ _ _) _ _ _ _) _) _ _ _)); (fail_if_success (with_reducible show wpAny _ _ (call (Value.type "enumerate") _) _ _ _)); (fail_if_success (with_reducible show wpAny _ _ (call (Value.ref 46) _) _ _ _)); (fail_if_success (with_reducible show EEnd _ _ _ _ _ _ _ _)); (first | walk1 | (dsimp only; walk1))) | (leave1; walk_say "STEP leave1"; try dsimp only) | fail "no step"))
    rename News _ _ _ _ => N7
    rename Fr _ _ _ _ => F7
    refine For_turns F7 ?_
    (repeat' (first | (k_unfold; (try dsimp only)) | (k_end; wrow_close) | ((fail_if_success (with_reducible show wpAny _ _ (exec (Stmt.For (Expr.Tuple _ _ _) _ _ _ _) _) _ _ _)); (fail_if_success (with_reducible show wpAny _ _ (call (Value.type "enumerate") _) _ _ _)); (fail_if_success (with_reducible show wpAny _ _ (call (Value.ref 46) _) _ _ _)); (fail_if_success (with_reducible show EEnd _ _ _ _ _ _ _ _)); (first | walk1 | (dsimp only; walk1))) | (leave1; walk_say "STEP leave1"; try dsimp only) | fail "no step"))
    have hxi := hLx.getD (two_pos _) i
    have hyb := hLy.getD (two_pos wd.toNat)
    have hFL : Lims (2 ^ wd.toNat) (mouter wd.toNat ys (xs.take i) 0 Z) := by rw [← hZ]; exact mouter_at hLx hLy (Nat.le_of_lt hi)
    have hFl : (mouter wd.toNat ys (xs.take i) 0 Z).length = xs.length + ys.length := by rw [mouter_len, ← hZ, List.length_replicate]
    generalize hFd : mouter wd.toNat ys (xs.take i) 0 Z = Fi at I6 hFL hFl
    have hFt : mouter wd.toNat ys (xs.take (i + 1)) 0 Z = _ := (mouter_take hi Z).trans (by rw [hFd])
    generalize hxd : xs.getD i 0 = x at *
    refine mul_inner (fun j => (minner wd.toNat x i (ys.take j) 0 (Fi, 0)).1) (Str.ofString "carry") (fun j => (minner wd.toNat x i (ys.take j) 0 (Fi, 0)).2) [Str.ofString "spot", Str.ofString "other", Str.ofString "carry"] rfl rfl rfl rfl F7 N7 hv2 (by k_mem) d3 I6 (if_pos rfl) ?_ ?_
    · intro j tb' to' tc u2 h2 tk2 b1 b2 ws2 kw2 hj I8 e1 e2 e3 F8 N8
      clear F7 N7 F6 N6
      have hyj := hyb j
      have hmt := minner_take (W := wd.toNat) (x := x) (i := i) hj (Fi, 0)
      obtain ⟨hsL, hs0, hs1⟩ := minner_at (i := i) (j := j) hxi hLy hFL (Nat.le_of_lt hj) (by omega)
      have hsl := minner_len wd.toNat x i (ys.take j) 0 (Fi, 0)
      generalize hst : minner wd.toNat x i (ys.take j) 0 (Fi, 0) = st at *
      have hsv := hsL.getD (two_pos wd.toNat) (i + j)
      have hsl2 : st.1.length = xs.length + ys.length := hsl.trans hFl
      generalize hyd : ys.getD j 0 = y at *
      (repeat' (first | (k_unfold; (try dsimp only)) | (k_end; wrow_close) | ((fail_if_success (with_reducible show wpAny _ _ (exec (Stmt.For (Expr.Tuple _ _ _) _ _ _ _) _) _ _ _)); (fail_if_success (with_reducible show wpAny _ _ (call (Value.type "enumerate") _) _ _ _)); (fail_if_success (with_reducible show wpAny _ _ (call (Value.ref 46) _) _ _ _)); (fail_if_success (with_reducible show EEnd _ _ _ _ _ _ _ _)); (first | walk1 | (dsimp only; walk1))) | (leave1; walk_say "STEP leave1"; try dsimp only) | fail "no step"))
      rename News _ _ _ _ => N9
      rename Fr _ _ _ _ => F9
      rename IntsAre (List.set _ _ _) _ => I9
      rw [show ((i : Int) + (j : Int)).toNat = i + j by omega] at I9 F9 N9
      refine end_loop rfl F9 N9 (by rw [hmt]; exact I9) ⟨_, (if_pos rfl).trans (by rw [hmt]; rfl)⟩ e1 e2 keepI
    · intro u2 tc h2 tk2 ws2 kw2 I8 F8 N8
      clear F7 N7 F6 N6
      rw [List.take_length] at I8 F8
      have hsl := (minner_len wd.toNat x i ys 0 (Fi, 0)).trans hFl
      generalize hst : minner wd.toNat x i ys 0 (Fi, 0) = st at *
      (try dsimp only)
      (repeat' (first | (k_unfold; (try dsimp only)) | (k_end; wrow_close) | ((fail_if_success (with_reducible show wpAny _ _ (exec (Stmt.For (Expr.Tuple _ _ _) _ _ _ _) _) _ _ _)); (fail_if_success (with_reducible show wpAny _ _ (call (Value.type "enumerate") _) _ _ _)); (fail_if_success (with_reducible show wpAny _ _ (call (Value.ref 46) _) _ _ _)); (fail_if_success (with_reducible show EEnd _ _ _ _ _ _ _ _)); (first | walk1 | (dsimp only; walk1))) | (leave1; walk_say "STEP leave1"; try dsimp only) | fail "no step"))
      rename News _ _ _ _ => N9
      rename Fr _ _ _ _ => F9
      rename IntsAre (List.set _ _ _) _ => I9
      rw [show ((i : Int) + (ys.length : Int)).toNat = i + ys.length by omega] at I9 N9
      refine end_loop rfl F9 N9 (by rw [hFt]; exact I9) trivial d1 d2 keepO
  · intro u h tk ws kw I6 F6 N6
    clear F5 N5
    have hmo : mouter wd.toNat ys (xs.take xs.length) 0 Z = mulModel wd.toNat xs ys := by rw [List.take_length, ← hZ]; rfl
    (try dsimp only at I6)
    rw [hmo] at I6
    (try dsimp only)
    (repeat' (first | (k_unfold; (try dsimp only)) | (k_end; wrow_close) | ((fail_if_success (with_reducible show wpAny _ _ (exec (Stmt.For (Expr.Tuple _ _ _) _ _ _ _) _) _ _ _)); (fail_if_success (with_reducible show wpAny _ _ (call (Value.type "enumerate") _) _ _ _)); (fail_if_success (with_reducible show wpAny _ _ (call (Value.ref 46) _) _ _ _)); (fail_if_success (with_reducible show EEnd _ _ _ _ _ _ _ _)); (first | walk1 | (dsimp only; walk1))) | (leave1; walk_say "STEP leave1"; try dsimp only) | fail "no step"))
    refine' call_normal (b := 2 ^ wd.toNat) (xs := mulModel wd.toNat xs ys) B' F6 X' N6 T' rfl (by k_mem) I6 (by rw [e.2.2]; omega) e.1 (by (first | omega | ((try simp only [depth_deeper, depth_caller]); (try dsimp only [ktrTop]); omega) | ((try simp only [depth_under_make, depth_under_kw, depth_in1, depth_deeper, depth_caller]); (try dsimp only [ktrTop]); (try simp only [depth_under_make, depth_under_kw, depth_in1, depth_deeper, depth_caller]); omega))) ?_
    intro r ws9 zs kk h9 tk9 F9 N9 lt9 I9 L9 v9 len9
    clear F6 N6
    (repeat' (first | (k_unfold; (try dsimp only)) | (k_end; wrow_close) | ((fail_if_success (with_reducible show wpAny _ _ (exec (Stmt.For (Expr.Tuple _ _ _) _ _ _ _) _) _ _ _)); (fail_if_success (with_reducible show wpAny _ _ (call (Value.type "enumerate") _) _ _ _)); (fail_if_success (with_reducible show wpAny _ _ (call (Value.ref 46) _) _ _ _)); (fail_if_success (with_reducible show EEnd _ _ _ _ _ _ _ _)); (first | walk1 | (dsimp only; walk1))) | (leave1; walk_say "STEP leave1"; try dsimp only) | fail "no step"))
    refine' ret _ _ _ _ _ _ (by with_reducible assumption) ?n1 ?l1 I9 L9 (v9.trans e.2.1) (by rw [e.2.2] at len9; omega)
    case n1 => (((refine kst_newsOf (by assumption) (List.forall_mem_cons.mpr ⟨?_, ?_⟩)); (focus k_mem); (focus (intro q9 hq9; (repeat (first | exact hq9 | refine List.mem_cons_of_mem _ ?_))))))
    case l1 => exact allLt_tl (allLt_tl (allLt_tl (allLt_tl lt9)))
end
end Mine
namespace Mine
section
variable {prog p : Program} {w : World} {loose : List Str} {mean : ExcName → Option Value} {mg mb : Str → Option Value}
  {dp un : Nat} {gd : Option (List Code)} {cn : Str} {cs : Scope} {a : Addr} {ccd : Value} {cl : List (Str × Addr)} {outer : List Env} {A₀ : Around} {base h₀ : Heap} {L : Addr} {m : Str → Option Value} {news : List (Addr × Obj)} {s : Shared}
  {Q E : Value → Shared → Prop}
theorem news_p5 {h₀ h : Heap} {L : Addr} {a b c d e f : Addr × Obj} {l : List (Addr × Obj)} (N : News h₀ L h (a :: b :: c :: d :: e :: f :: l)) : News h₀ L h (a :: l) := fun q hq => by
  rcases List.mem_cons.mp hq with hq | hq
  · exact hq ▸ N _ (.head _)
  · exact N q (.tail _ (.tail _ (.tail _ (.tail _ (.tail _ (.tail _ hq))))))
set_option maxHeartbeats 20000000 in
theorem call_step {x d rA rC r : Addr} {t1 t2 t3 t4 t5 t6 u1 u2 : Tok} {ws wsA wsC : List Value} {zs za zc : List Int} {kk kA kC : Nat} {wd wi : Int} {rest : List (Addr × Obj)}
    (B : Below A₀ base outer h₀) (F : Fr h₀ L s.heap m) (X : (Mine.hd.heap_39 w.params).In h₀) (N : News h₀ L s.heap news) (T : Top p loose mean mg mb h₀) (hk : cs.kind = .function)
    (hN : news = (x, instObj 98 d) :: (d, dictOf [⟨PyData.keyHash w.params (Str.ofString "a"), .str (Str.ofString "a") t1, .ref rA⟩, ⟨PyData.keyHash w.params (Str.ofString "c"), .str (Str.ofString "c") t2, .ref rC⟩, ⟨PyData.keyHash w.params (Str.ofString "width"), .str (Str.ofString "width") t3, .int wi u1⟩, ⟨PyData.keyHash w.params (Str.ofString "state"), .str (Str.ofString "state") t4, .ref r⟩, ⟨PyData.keyHash w.params (Str.ofString "w"), .str (Str.ofString "w") t5, .int wd u2⟩, ⟨PyData.keyHash w.params (Str.ofString "mul"), .str (Str.ofString "mul") t6, .ref 109⟩] 6) :: rest) (hxd : @Ne Nat x d) (hod : ∀ q ∈ rest, q.1 ≠ d) (hmr : (r, listOf ws.toArray kk) ∈ rest) (hmA : (rA, listOf wsA.toArray kA) ∈ rest) (hmC : (rC, listOf wsC.toArray kC) ∈ rest)
    (I0 : IntsAre ws zs) (IA : IntsAre wsA za) (IC : IntsAre wsC zc) (L0 : Lims (2 ^ wd.toNat) zs) (LA : Lims (2 ^ wd.toNat) za) (LC : Lims (2 ^ wd.toNat) zc) (g0 : zs.length ≤ 2) (gA : za.length ≤ 2) (gC : zc.length ≤ 2) (hw1 : 4 ≤ wd) (hw2 : wd ≤ 8) (hi1 : 2 ≤ wi) (hi2 : wi ≤ 6)
    (hd : dp < 380)
    (ret : ∀ r' ws' zs' kk' h' tk', Fr h₀ L h' m → News h₀ L h' ((r', listOf (List.toArray ws') kk') :: (x, instObj 98 d) :: (d, dictOf [⟨PyData.keyHash w.params (Str.ofString "a"), .str (Str.ofString "a") t1, .ref rA⟩, ⟨PyData.keyHash w.params (Str.ofString "c"), .str (Str.ofString "c") t2, .ref rC⟩, ⟨PyData.keyHash w.params (Str.ofString "width"), .str (Str.ofString "width") t3, .int wi u1⟩, ⟨PyData.keyHash w.params (Str.ofString "state"), .str (Str.ofString "state") t4, .ref r'⟩, ⟨PyData.keyHash w.params (Str.ofString "w"), .str (Str.ofString "w") t5, .int wd u2⟩, ⟨PyData.keyHash w.params (Str.ofString "mul"), .str (Str.ofString "mul") t6, .ref 109⟩] 6) :: rest) → AllLt r' ((x, instObj 98 d) :: (d, dictOf [⟨PyData.keyHash w.params (Str.ofString "a"), .str (Str.ofString "a") t1, .ref rA⟩, ⟨PyData.keyHash w.params (Str.ofString "c"), .str (Str.ofString "c") t2, .ref rC⟩, ⟨PyData.keyHash w.params (Str.ofString "width"), .str (Str.ofString "width") t3, .int wi u1⟩, ⟨PyData.keyHash w.params (Str.ofString "state"), .str (Str.ofString "state") t4, .ref r⟩, ⟨PyData.keyHash w.params (Str.ofString "w"), .str (Str.ofString "w") t5, .int wd u2⟩, ⟨PyData.keyHash w.params (Str.ofString "mul"), .str (Str.ofString "mul") t6, .ref 109⟩] 6) :: rest) → IntsAre ws' zs' → Lims (2 ^ wd.toNat) zs' → val (2 ^ wd.toNat) zs' = (val (2 ^ wd.toNat) zs * val (2 ^ wd.toNat) za + val (2 ^ wd.toNat) zc) % 2 ^ wi.toNat → zs'.length ≤ 2 → Q .none { s with heap := h', toks := tk' }) :
    wpAny (model prog w) (ktrTop dp un gd cn cs L a ccd cl outer) (call (.ref 88) [.ref x]) Q E s := by
  subst hN
  have N0 := News.dup (News.dup (News.dup N (List.mem_cons_of_mem _ (List.mem_cons_of_mem _ hmC))) (List.mem_cons_of_mem _ (List.mem_cons_of_mem _ (List.mem_cons_of_mem _ hmA)))) (List.mem_cons_of_mem _ (List.mem_cons_of_mem _ (List.mem_cons_of_mem _ (List.mem_cons_of_mem _ hmr))))
  clear N
  have hrd : @Ne Nat r d := hod _ hmr
  have hAd : @Ne Nat rA d := hod _ hmA
  have hCd : @Ne Nat rC d := hod _ hmC
  refine wpAny_call ?_
  k_dflt (refine' code_def (binds := [(Str.ofString "self", .ref x)]) ?k1 ?k2 ?k3 ?k4 ?k5 ?kA ?kF ?kK ?k6 ?k7 ?k8 ?k9 ?kB ?_ ?c2 ?c3 ?c4 ?c5; (case kA => exact rfl); (case kF => exact rfl); (case kK => assumption); (case k1 => k_asm); (case k2 => k_asm); (case k3 => k_asm); (case k4 => k_asm); (case k5 => k_asm); (case k6 => k_is); (case k7 => k_is); (case k8 => ktr_room); (case k9 => exact BindsTo.of_eq rfl); (case c5 => decide); (case kB => exact locs rfl); (case c2 => exact rfl); (case c3 => exact rfl); (case c4 => exact rfl); k_whole; intro g' L' h' FG' F' N' B' X' T' ; (try dsimp only); (try k_fold))
  (repeat' (first | (k_unfold; (try dsimp only)) | (k_end; wrow_close) | (first | (k_here; (with_reducible show wpAny _ _ (call (Value.ref 109) [Value.ref _, Value.ref _, Value.int _ _]) _ _ _); k_dflt (refine' call_mul ?kBz1 ?kFz1 ?kXz1 ?kNz1 ?kTz1 ?kKz1 ?kmz1 ?knz1 ?ivz1 ?iwz1 ?iLz1 ?jLz1 ?ilz1 ?jlz1 ?w1z1 ?w2z1 ?kdz1 ?_; (case kFz1 => k_asm); (case kNz1 => k_asm); (case kBz1 => k_asm); (case kXz1 => k_asm); (case kTz1 => k_asm); (case kKz1 => exact rfl); (case kmz1 => k_mem); (case knz1 => k_mem); (case ivz1 => with_reducible assumption); (case iwz1 => with_reducible assumption); (case iLz1 => with_reducible assumption); (case jLz1 => with_reducible assumption); (case ilz1 => omega); (case jlz1 => omega); (case w1z1 => omega); (case w2z1 => omega); (case kdz1 => (first | omega | ((try simp only [depth_deeper, depth_caller]); (try dsimp only [ktrTop]); omega) | ((try simp only [depth_under_make, depth_under_kw, depth_in1, depth_deeper, depth_caller]); (try dsimp only [ktrTop]); (try simp only [depth_under_make, depth_under_kw, depth_in1, depth_deeper, depth_caller]); omega)))); intro _ _ _ _ _ _ _ _ _ _ _ _ _; (try dsimp only); (try k_sweep)) | (k_here; (with_reducible show wpAny _ _ (call (Value.ref 53) [Value.ref _, Value.ref _, Value.int _ _]) _ _ _); k_dflt (refine' call_add ?kBz2 ?kFz2 ?kXz2 ?kNz2 ?kTz2 ?kKz2 ?kmz2 ?knz2 ?ivz2 ?iwz2 ?iLz2 ?jLz2 ?ilz2 ?jlz2 ?w1z2 ?w2z2 ?kdz2 ?_; (case kFz2 => k_asm); (case kNz2 => k_asm); (case kBz2 => k_asm); (case kXz2 => k_asm); (case kTz2 => k_asm); (case kKz2 => exact rfl); (case kmz2 => k_mem); (case knz2 => k_mem); (case ivz2 => with_reducible assumption); (case iwz2 => with_reducible assumption); (case iLz2 => with_reducible assumption); (case jLz2 => with_reducible assumption); (case ilz2 => omega); (case jlz2 => omega); (case w1z2 => omega); (case w2z2 => omega); (case kdz2 => (first | omega | ((try simp only [depth_deeper, depth_caller]); (try dsimp only [ktrTop]); omega) | ((try simp only [depth_under_make, depth_under_kw, depth_in1, depth_deeper, depth_caller]); (try dsimp only [ktrTop]); (try simp only [depth_under_make, depth_under_kw, depth_in1, depth_deeper, depth_caller]); omega)))); intro _ _ _ _ _ _ _ _ _ _ _ _ _; (try dsimp only); (try k_sweep)) | (k_here; (with_reducible show wpAny _ _ (call (Value.ref 60) [Value.ref _, Value.int _ _, Value.int _ _]) _ _ _); k_dflt (refine' call_shr ?kBz3 ?kFz3 ?kXz3 ?kNz3 ?kTz3 ?kKz3 ?kmz3 ?ivz3 ?iLz3 ?ilz3 ?w1z3 ?w2z3 ?n1z3 ?n2z3 ?kdz3 ?_; (case kFz3 => k_asm); (case kNz3 => k_asm); (case kBz3 => k_asm); (case kXz3 => k_asm); (case kTz3 => k_asm); (case kKz3 => exact rfl); (case kmz3 => k_mem); (case ivz3 => with_reducible assumption); (case iLz3 => with_reducible assumption); (case ilz3 => omega); (case w1z3 => omega); (case w2z3 => omega); (case n1z3 => omega); (case n2z3 => omega); (case kdz3 => (first | omega | ((try simp only [depth_deeper, depth_caller]); (try dsimp only [ktrTop]); omega) | ((try simp only [depth_under_make, depth_under_kw, depth_in1, depth_deeper, depth_caller]); (try dsimp only [ktrTop]); (try simp only [depth_under_make, depth_under_kw, depth_in1, depth_deeper, depth_caller]); omega)))); intro _ _ _ _ _ _ _ _ _ _ _ _ _; (try dsimp only); (try k_sweep)) | (k_here; (with_reducible show wpAny _ _ (call (Value.ref 67) [Value.ref _, Value.int _ _, Value.int _ _]) _ _ _); k_dflt (refine' call_low ?kBz4 ?kFz4 ?kXz4 ?kNz4 ?kTz4 ?kKz4 ?kmz4 ?ivz4 ?iLz4 ?ilz4 ?w1z4 ?w2z4 ?n1z4 ?n2z4 ?kdz4 ?_; (case kFz4 => k_asm); (case kNz4 => k_asm); (case kBz4 => k_asm); (case kXz4 => k_asm); (case kTz4 => k_asm); (case kKz4 => exact rfl); (case kmz4 => k_mem); (case ivz4 => with_reducible assumption); (case iLz4 => with_reducible assumption); (case ilz4 => omega); (case w1z4 => omega); (case w2z4 => omega); (case n1z4 => omega); (case n2z4 => omega); (case kdz4 => (first | omega | ((try simp only [depth_deeper, depth_caller]); (try dsimp only [ktrTop]); omega) | ((try simp only [depth_under_make, depth_under_kw, depth_in1, depth_deeper, depth_caller]); (try dsimp only [ktrTop]); (try simp only [depth_under_make, depth_under_kw, depth_in1, depth_deeper, depth_caller]); omega)))); intro _ _ _ _ _ _ _ _ _ _ _ _ _; (try dsimp only); (try k_sweep)) | (k_here; (with_reducible show wpAny _ _ (call (Value.ref 128) [Value.ref _, Value.int _ _]) _ _ _); k_dflt (refine' call_number ?kBz5 ?kFz5 ?kXz5 ?kNz5 ?kTz5 ?kKz5 ?kmz5 ?ivz5 ?iLz5 ?ilz5 ?w1z5 ?w2z5 ?kdz5 ?_; (case kFz5 => k_asm); (case kNz5 => k_asm); (case kBz5 => k_asm); (case kXz5 => k_asm); (case kTz5 => k_asm); (case kKz5 => exact rfl); (case kmz5 => k_mem); (case ivz5 => with_reducible assumption); (case iLz5 => with_reducible assumption); (case ilz5 => omega); (case w1z5 => omega); (case w2z5 => omega); (case kdz5 => (first | omega | ((try simp only [depth_deeper, depth_caller]); (try dsimp only [ktrTop]); omega) | ((try simp only [depth_under_make, depth_under_kw, depth_in1, depth_deeper, depth_caller]); (try dsimp only [ktrTop]); (try simp only [depth_under_make, depth_under_kw, depth_in1, depth_deeper, depth_caller]); omega)))); intro _ _ _ _ _; (try dsimp only); (try k_sweep)) | (k_here; (with_reducible show wpAny _ _ (call (Value.ref 123) [Value.int _ _, Value.int _ _]) _ _ _); k_dflt (refine' call_limbs ?kBz6 ?kFz6 ?kXz6 ?kNz6 ?kTz6 ?kKz6 ?w1z6 ?w2z6 ?n1z6 ?n2z6 ?kdz6 ?_; (case kFz6 => k_asm); (case kNz6 => k_asm); (case kBz6 => k_asm); (case kXz6 => k_asm); (case kTz6 => k_asm); (case kKz6 => exact rfl); (case w1z6 => omega); (case w2z6 => omega); (case n1z6 => omega); (case n2z6 => omega); (case kdz6 => (first | omega | ((try simp only [depth_deeper, depth_caller]); (try dsimp only [ktrTop]); omega) | ((try simp only [depth_under_make, depth_under_kw, depth_in1, depth_deeper, depth_caller]); (try dsimp only [ktrTop]); (try simp only [depth_under_make, depth_under_kw, depth_in1, depth_deeper, depth_caller]); omega)))); intro _ _ _ _ _ _ _ _ _ _ _ _ _; (try dsimp only); (try k_sweep)) | (k_here; (with_reducible show wpAny _ _ (call (Value.ref 116) [Value.ref _, Value.int _ _]) _ _ _); k_dflt (refine' call_spun ?kBz7 ?kFz7 ?kXz7 ?kNz7 ?kTz7 ?kKz7 rfl ?lbz7 ?apz7 ?ivz7 ?ilz7 ?k0z7 ?k1z7 ?m0z7 ?m1z7 ?kdz7 ?_; (case kFz7 => k_asm); (case kNz7 => k_asm); (case kBz7 => k_asm); (case kXz7 => k_asm); (case kTz7 => k_asm); (case kKz7 => exact rfl); (case lbz7 => (first | (first | with_reducible assumption | exact allLt_in (by with_reducible assumption) (by k_mem) | exact all_in (by with_reducible assumption) (by k_mem) | exact lt_via (by with_reducible assumption) (by with_reducible assumption) (by k_mem) | ((show @LT.lt Nat _ _ _); omega)) | ((show @LT.lt Nat _ _ _); omega))); (case apz7 => ((repeat (refine List.forall_mem_cons.mpr ⟨by ((try dsimp only); (first | with_reducible assumption | exact Ne.symm (by with_reducible assumption) | exact Nat.ne_of_gt (by first | with_reducible assumption | exact allLt_in (by with_reducible assumption) (by k_mem) | exact all_in (by with_reducible assumption) (by k_mem) | exact lt_via (by with_reducible assumption) (by with_reducible assumption) (by k_mem)) | exact Nat.ne_of_lt (by first | with_reducible assumption | exact allLt_in (by with_reducible assumption) (by k_mem) | exact all_in (by with_reducible assumption) (by k_mem) | exact lt_via (by with_reducible assumption) (by with_reducible assumption) (by k_mem)) | exact ne_in (by with_reducible assumption) (by k_mem) | exact Ne.symm (ne_in (by with_reducible assumption) (by k_mem)) | exact off1_in (by with_reducible assumption) (by k_mem) | exact Ne.symm (off1_in (by with_reducible assumption) (by k_mem)) | ((show @Ne Nat _ _); (try dsimp only); omega))), ?_⟩)); exact List.forall_mem_nil _)); (case ivz7 => with_reducible assumption); (case ilz7 => (simp only [List.length_map, List.length_take]; omega)); (case k0z7 => omega); (case k1z7 => omega); (case m0z7 => omega); (case m1z7 => omega); (case kdz7 => (first | omega | ((try simp only [depth_deeper, depth_caller]); (try dsimp only [ktrTop]); omega) | ((try simp only [depth_under_make, depth_under_kw, depth_in1, depth_deeper, depth_caller]); (try dsimp only [ktrTop]); (try simp only [depth_under_make, depth_under_kw, depth_in1, depth_deeper, depth_caller]); omega)))); intro _ _ _ _ _ _ _ _ _ _; (try dsimp only); (try k_sweep)) | (k_here; (with_reducible show wpAny _ _ (call (Value.ref 116) [Value.ref _, Value.int _ _]) _ _ _); k_dflt (refine' spun_at1 ?kBz8 ?kFz8 ?kXz8 ?kNz8 ?kTz8 ?kKz8 ?lbz8 ?axz8 ?apz8 ?ivz8 ?ilz8 ?k0z8 ?k1z8 ?m0z8 ?m1z8 ?kdz8 ?_; (case kFz8 => k_asm); (case kNz8 => k_asm); (case kBz8 => k_asm); (case kXz8 => k_asm); (case kTz8 => k_asm); (case kKz8 => exact rfl); (case axz8 => ((try dsimp only); (first | with_reducible assumption | exact Ne.symm (by with_reducible assumption) | exact Nat.ne_of_gt (by first | with_reducible assumption | exact allLt_in (by with_reducible assumption) (by k_mem) | exact all_in (by with_reducible assumption) (by k_mem) | exact lt_via (by with_reducible assumption) (by with_reducible assumption) (by k_mem)) | exact Nat.ne_of_lt (by first | with_reducible assumption | exact allLt_in (by with_reducible assumption) (by k_mem) | exact all_in (by with_reducible assumption) (by k_mem) | exact lt_via (by with_reducible assumption) (by with_reducible assumption) (by k_mem)) | exact ne_in (by with_reducible assumption) (by k_mem) | exact Ne.symm (ne_in (by with_reducible assumption) (by k_mem)) | exact off1_in (by with_reducible assumption) (by k_mem) | exact Ne.symm (off1_in (by with_reducible assumption) (by k_mem)) | ((show @Ne Nat _ _); (try dsimp only); omega)))); (case lbz8 => (first | (first | with_reducible assumption | exact allLt_in (by with_reducible assumption) (by k_mem) | exact all_in (by with_reducible assumption) (by k_mem) | exact lt_via (by with_reducible assumption) (by with_reducible assumption) (by k_mem) | ((show @LT.lt Nat _ _ _); omega)) | ((show @LT.lt Nat _ _ _); omega))); (case apz8 => ((repeat (refine List.forall_mem_cons.mpr ⟨by ((try dsimp only); (first | with_reducible assumption | exact Ne.symm (by with_reducible assumption) | exact Nat.ne_of_gt (by first | with_reducible assumption | exact allLt_in (by with_reducible assumption) (by k_mem) | exact all_in (by with_reducible assumption) (by k_mem) | exact lt_via (by with_reducible assumption) (by with_reducible assumption) (by k_mem)) | exact Nat.ne_of_lt (by first | with_reducible assumption | exact allLt_in (by with_reducible assumption) (by k_mem) | exact all_in (by with_reducible assumption) (by k_mem) | exact lt_via (by with_reducible assumption) (by with_reducible assumption) (by k_mem)) | exact ne_in (by with_reducible assumption) (by k_mem) | exact Ne.symm (ne_in (by with_reducible assumption) (by k_mem)) | exact off1_in (by with_reducible assumption) (by k_mem) | exact Ne.symm (off1_in (by with_reducible assumption) (by k_mem)) | ((show @Ne Nat _ _); (try dsimp only); omega))), ?_⟩)); exact List.forall_mem_nil _)); (case ivz8 => with_reducible assumption); (case ilz8 => (simp only [List.length_map, List.length_take]; omega)); (case k0z8 => omega); (case k1z8 => omega); (case m0z8 => omega); (case m1z8 => omega); (case kdz8 => (first | omega | ((try simp only [depth_deeper, depth_caller]); (try dsimp only [ktrTop]); omega) | ((try simp only [depth_under_make, depth_under_kw, depth_in1, depth_deeper, depth_caller]); (try dsimp only [ktrTop]); (try simp only [depth_under_make, depth_under_kw, depth_in1, depth_deeper, depth_caller]); omega)))); intro _ _ _ _ _ _ _ _ _ _; (try dsimp only); (try k_sweep))) | ((fail_if_success (with_reducible show Exists _)); (fail_if_success (with_reducible show LCg.FinA _ _ _ _ _ _ _ _)); (fail_if_success (with_reducible show KswEnd _ _ _ _ _ _ _ _ _ _ _ _)); (fail_if_success (with_reducible show wpAny _ _ (pyIter _) _ _ _)); (fail_if_success (with_reducible show wpAny _ _ (exec (Stmt.While _ _ _ _) _) _ _ _)); (fail_if_success (with_reducible show wpAny _ _ (exec (Stmt.Assign [Expr.Name _ _] (Expr.ListComp _ [⟨_, Expr.Tuple _ _ _, _, _⟩] _ _) _) _) _ _ _)); (first | (fail_if_success (with_reducible show wpAny _ _ (call (Value.ref _) _) _ _ _)) | (with_reducible show wpAny _ _ (call (Value.ref 98) _) _ _ _) | (with_reducible show wpAny _ _ (call (Value.ref 95) _) _ _ _) | (with_reducible show wpAny _ _ (call (Value.ref 88) _) _ _ _)); (first | walk1 | (dsimp only; walk1))) | (leave1; walk_say "STEP leave1"; try dsimp only) | fail "no step"))
  rename_i kF9 kN9 Tc9 kX9
  rename val _ _ = _ % _ => e1
  rename val _ _ = _ + _ => e2
  rename val _ _ = _ * _ => e3
  rename AllLt _ _ => a9
  refine ret _ _ _ _ _ _ kF9 (news_p5 kN9) (allLt_tl (allLt_tl (allLt_tl (allLt_tl (allLt_tl a9))))) (by with_reducible assumption) (by with_reducible assumption) (e1.trans (by rw [e2, e3])) (by with_reducible assumption)
set_option maxHeartbeats 20000000 in
theorem call_take {x d rA rC r : Addr} {t1 t2 t3 t4 t5 t6 u1 u2 : Tok} {ws wsA wsC : List Value} {zs za zc : List Int} {kk kA kC : Nat} {wd wi : Int} {rest : List (Addr × Obj)}
    (B : Below A₀ base outer h₀) (F : Fr h₀ L s.heap m) (X : (Mine.hd.heap_39 w.params).In h₀) (N : News h₀ L s.heap news) (T : Top p loose mean mg mb h₀) (hk : cs.kind = .function)
    (hN : news = (x, instObj 98 d) :: (d, dictOf [⟨PyData.keyHash w.params (Str.ofString "a"), .str (Str.ofString "a") t1, .ref rA⟩, ⟨PyData.keyHash w.params (Str.ofString "c"), .str (Str.ofString "c") t2, .ref rC⟩, ⟨PyData.keyHash w.params (Str.ofString "width"), .str (Str.ofString "width") t3, .int wi u1⟩, ⟨PyData.keyHash w.params (Str.ofString "state"), .str (Str.ofString "state") t4, .ref r⟩, ⟨PyData.keyHash w.params (Str.ofString "w"), .str (Str.ofString "w") t5, .int wd u2⟩, ⟨PyData.keyHash w.params (Str.ofString "mul"), .str (Str.ofString "mul") t6, .ref 109⟩] 6) :: rest) (hxd : @Ne Nat x d) (hod : ∀ q ∈ rest, q.1 ≠ d) (hmr : (r, listOf ws.toArray kk) ∈ rest) (hmA : (rA, listOf wsA.toArray kA) ∈ rest) (hmC : (rC, listOf wsC.toArray kC) ∈ rest)
    (I0 : IntsAre ws zs) (IA : IntsAre wsA za) (IC : IntsAre wsC zc) (L0 : Lims (2 ^ wd.toNat) zs) (LA : Lims (2 ^ wd.toNat) za) (LC : Lims (2 ^ wd.toNat) zc) (g0 : zs.length ≤ 2) (gA : za.length ≤ 2) (gC : zc.length ≤ 2) (hw1 : 4 ≤ wd) (hw2 : wd ≤ 8) (hi1 : 2 ≤ wi) (hi2 : wi ≤ 6)
    (hd : dp < 375)
    (ret : ∀ T tt r' rh ws' wsh zs' zsh kk' kh h' tk', Fr h₀ L h' m → News h₀ L h' ((T, ({ cls := .type "tuple", data := .seq #[.ref rh, .int (wi.fdiv 2) tt] } : Obj)) :: (rh, listOf (List.toArray wsh) kh) :: (r', listOf (List.toArray ws') kk') :: (x, instObj 98 d) :: (d, dictOf [⟨PyData.keyHash w.params (Str.ofString "a"), .str (Str.ofString "a") t1, .ref rA⟩, ⟨PyData.keyHash w.params (Str.ofString "c"), .str (Str.ofString "c") t2, .ref rC⟩, ⟨PyData.keyHash w.params (Str.ofString "width"), .str (Str.ofString "width") t3, .int wi u1⟩, ⟨PyData.keyHash w.params (Str.ofString "state"), .str (Str.ofString "state") t4, .ref r'⟩, ⟨PyData.keyHash w.params (Str.ofString "w"), .str (Str.ofString "w") t5, .int wd u2⟩, ⟨PyData.keyHash w.params (Str.ofString "mul"), .str (Str.ofString "mul") t6, .ref 109⟩] 6) :: rest) → AllLt r' ((x, instObj 98 d) :: (d, dictOf [⟨PyData.keyHash w.params (Str.ofString "a"), .str (Str.ofString "a") t1, .ref rA⟩, ⟨PyData.keyHash w.params (Str.ofString "c"), .str (Str.ofString "c") t2, .ref rC⟩, ⟨PyData.keyHash w.params (Str.ofString "width"), .str (Str.ofString "width") t3, .int wi u1⟩, ⟨PyData.keyHash w.params (Str.ofString "state"), .str (Str.ofString "state") t4, .ref r⟩, ⟨PyData.keyHash w.params (Str.ofString "w"), .str (Str.ofString "w") t5, .int wd u2⟩, ⟨PyData.keyHash w.params (Str.ofString "mul"), .str (Str.ofString "mul") t6, .ref 109⟩] 6) :: rest) → AllLt rh ((r', listOf (List.toArray ws') kk') :: (x, instObj 98 d) :: (d, dictOf [⟨PyData.keyHash w.params (Str.ofString "a"), .str (Str.ofString "a") t1, .ref rA⟩, ⟨PyData.keyHash w.params (Str.ofString "c"), .str (Str.ofString "c") t2, .ref rC⟩, ⟨PyData.keyHash w.params (Str.ofString "width"), .str (Str.ofString "width") t3, .int wi u1⟩, ⟨PyData.keyHash w.params (Str.ofString "state"), .str (Str.ofString "state") t4, .ref r'⟩, ⟨PyData.keyHash w.params (Str.ofString "w"), .str (Str.ofString "w") t5, .int wd u2⟩, ⟨PyData.keyHash w.params (Str.ofString "mul"), .str (Str.ofString "mul") t6, .ref 109⟩] 6) :: rest) → AllLt T ((rh, listOf (List.toArray wsh) kh) :: (r', listOf (List.toArray ws') kk') :: (x, instObj 98 d) :: (d, dictOf [⟨PyData.keyHash w.params (Str.ofString "a"), .str (Str.ofString "a") t1, .ref rA⟩, ⟨PyData.keyHash w.params (Str.ofString "c"), .str (Str.ofString "c") t2, .ref rC⟩, ⟨PyData.keyHash w.params (Str.ofString "width"), .str (Str.ofString "width") t3, .int wi u1⟩, ⟨PyData.keyHash w.params (Str.ofString "state"), .str (Str.ofString "state") t4, .ref r'⟩, ⟨PyData.keyHash w.params (Str.ofString "w"), .str (Str.ofString "w") t5, .int wd u2⟩, ⟨PyData.keyHash w.params (Str.ofString "mul"), .str (Str.ofString "mul") t6, .ref 109⟩] 6) :: rest) → IntsAre ws' zs' → Lims (2 ^ wd.toNat) zs' → val (2 ^ wd.toNat) zs' = (val (2 ^ wd.toNat) zs * val (2 ^ wd.toNat) za + val (2 ^ wd.toNat) zc) % 2 ^ wi.toNat → zs'.length ≤ 2 → IntsAre wsh zsh → Lims (2 ^ wd.toNat) zsh → val (2 ^ wd.toNat) zsh = val (2 ^ wd.toNat) zs' / 2 ^ (wi - wi.fdiv 2).toNat → zsh.length ≤ 2 → Q (.ref T) { s with heap := h', toks := tk' }) :
    wpAny (model prog w) (ktrTop dp un gd cn cs L a ccd cl outer) (call (.ref 95) [.ref x]) Q E s := by
  subst hN
  have hfd : 1 ≤ wi - wi.fdiv 2 ∧ wi - wi.fdiv 2 ≤ 3 := by
    rw [Int.fdiv_eq_ediv_of_nonneg _ (by decide)]; omega
  obtain ⟨hfd1, hfd2⟩ := hfd
  refine wpAny_call ?_
  k_dflt (refine' code_def (binds := [(Str.ofString "self", .ref x)]) ?k1 ?k2 ?k3 ?k4 ?k5 ?kA ?kF ?kK ?k6 ?k7 ?k8 ?k9 ?kB ?_ ?c2 ?c3 ?c4 ?c5; (case kA => exact rfl); (case kF => exact rfl); (case kK => assumption); (case k1 => k_asm); (case k2 => k_asm); (case k3 => k_asm); (case k4 => k_asm); (case k5 => k_asm); (case k6 => k_is); (case k7 => k_is); (case k8 => ktr_room); (case k9 => exact BindsTo.of_eq rfl); (case c5 => decide); (case kB => exact locs rfl); (case c2 => exact rfl); (case c3 => exact rfl); (case c4 => exact rfl); k_whole; intro g' L' h' FG' F' N' B' X' T' ; (try dsimp only); (try k_fold))
  (repeat' (first | (k_unfold; (try dsimp only)) | (k_end; wrow_close) | (first | (k_here; (with_reducible show wpAny _ _ (call (Value.ref 109) [Value.ref _, Value.ref _, Value.int _ _]) _ _ _); k_dflt (refine' call_mul ?kBz1 ?kFz1 ?kXz1 ?kNz1 ?kTz1 ?kKz1 ?kmz1 ?knz1 ?ivz1 ?iwz1 ?iLz1 ?jLz1 ?ilz1 ?jlz1 ?w1z1 ?w2z1 ?kdz1 ?_; (case kFz1 => k_asm); (case kNz1 => k_asm); (case kBz1 => k_asm); (case kXz1 => k_asm); (case kTz1 => k_asm); (case kKz1 => exact rfl); (case kmz1 => k_mem); (case knz1 => k_mem); (case ivz1 => with_reducible assumption); (case iwz1 => with_reducible assumption); (case iLz1 => with_reducible assumption); (case jLz1 => with_reducible assumption); (case ilz1 => omega); (case jlz1 => omega); (case w1z1 => omega); (case w2z1 => omega); (case kdz1 => (first | omega | ((try simp only [depth_deeper, depth_caller]); (try dsimp only [ktrTop]); omega) | ((try simp only [depth_under_make, depth_under_kw, depth_in1, depth_deeper, depth_caller]); (try dsimp only [ktrTop]); (try simp only [depth_under_make, depth_under_kw, depth_in1, depth_deeper, depth_caller]); omega)))); intro _ _ _ _ _ _ _ _ _ _ _ _ _; (try dsimp only); (try k_sweep)) | (k_here; (with_reducible show wpAny _ _ (call (Value.ref 53) [Value.ref _, Value.ref _, Value.int _ _]) _ _ _); k_dflt (refine' call_add ?kBz2 ?kFz2 ?kXz2 ?kNz2 ?kTz2 ?kKz2 ?kmz2 ?knz2 ?ivz2 ?iwz2 ?iLz2 ?jLz2 ?ilz2 ?jlz2 ?w1z2 ?w2z2 ?kdz2 ?_; (case kFz2 => k_asm); (case kNz2 => k_asm); (case kBz2 => k_asm); (case kXz2 => k_asm); (case kTz2 => k_asm); (case kKz2 => exact rfl); (case kmz2 => k_mem); (case knz2 => k_mem); (case ivz2 => with_reducible assumption); (case iwz2 => with_reducible assumption); (case iLz2 => with_reducible assumption); (case jLz2 => with_reducible assumption); (case ilz2 => omega); (case jlz2 => omega); (case w1z2 => omega); (case w2z2 => omega); (case kdz2 => (first | omega | ((try simp only [depth_deeper, depth_caller]); (try dsimp only [ktrTop]); omega) | ((try simp only [depth_under_make, depth_under_kw, depth_in1, depth_deeper, depth_caller]); (try dsimp only [ktrTop]); (try simp only [depth_under_make, depth_under_kw, depth_in1, depth_deeper, depth_caller]); omega)))); intro _ _ _ _ _ _ _ _ _ _ _ _ _; (try dsimp only); (try k_sweep)) | (k_here; (with_reducible show wpAny _ _ (call (Value.ref 60) [Value.ref _, Value.int _ _, Value.int _ _]) _ _ _); k_dflt (refine' call_shr ?kBz3 ?kFz3 ?kXz3 ?kNz3 ?kTz3 ?kKz3 ?kmz3 ?ivz3 ?iLz3 ?ilz3 ?w1z3 ?w2z3 ?n1z3 ?n2z3 ?kdz3 ?_; (case kFz3 => k_asm); (case kNz3 => k_asm); (case kBz3 => k_asm); (case kXz3 => k_asm); (case kTz3 => k_asm); (case kKz3 => exact rfl); (case kmz3 => k_mem); (case ivz3 => with_reducible assumption); (case iLz3 => with_reducible assumption); (case ilz3 => omega); (case w1z3 => omega); (case w2z3 => omega); (case n1z3 => omega); (case n2z3 => omega); (case kdz3 => (first | omega | ((try simp only [depth_deeper, depth_caller]); (try dsimp only [ktrTop]); omega) | ((try simp only [depth_under_make, depth_under_kw, depth_in1, depth_deeper, depth_caller]); (try dsimp only [ktrTop]); (try simp only [depth_under_make, depth_under_kw, depth_in1, depth_deeper, depth_caller]); omega)))); intro _ _ _ _ _ _ _ _ _ _ _ _ _; (try dsimp only); (try k_sweep)) | (k_here; (with_reducible show wpAny _ _ (call (Value.ref 67) [Value.ref _, Value.int _ _, Value.int _ _]) _ _ _); k_dflt (refine' call_low ?kBz4 ?kFz4 ?kXz4 ?kNz4 ?kTz4 ?kKz4 ?kmz4 ?ivz4 ?iLz4 ?ilz4 ?w1z4 ?w2z4 ?n1z4 ?n2z4 ?kdz4 ?_; (case kFz4 => k_asm); (case kNz4 => k_asm); (case kBz4 => k_asm); (case kXz4 => k_asm); (case kTz4 => k_asm); (case kKz4 => exact rfl); (case kmz4 => k_mem); (case ivz4 => with_reducible assumption); (case iLz4 => with_reducible assumption); (case ilz4 => omega); (case w1z4 => omega); (case w2z4 => omega); (case n1z4 => omega); (case n2z4 => omega); (case kdz4 => (first | omega | ((try simp only [depth_deeper, depth_caller]); (try dsimp only [ktrTop]); omega) | ((try simp only [depth_under_make, depth_under_kw, depth_in1, depth_deeper, depth_caller]); (try dsimp only [ktrTop]); (try simp only [depth_under_make, depth_under_kw, depth_in1, depth_deeper, depth_caller]); omega)))); intro _ _ _ _ _ _ _ _ _ _ _ _ _; (try dsimp only); (try k_sweep)) | (k_here; (with_reducible show wpAny _ _ (call (Value.ref 128) [Value.ref _, Value.int _ _]) _ _ _); k_dflt (refine' call_number ?kBz5 ?kFz5 ?kXz5 ?kNz5 ?kTz5 ?kKz5 ?kmz5 ?ivz5 ?iLz5 ?ilz5 ?w1z5 ?w2z5 ?kdz5 ?_; (case kFz5 => k_asm); (case kNz5 => k_asm); (case kBz5 => k_asm); (case kXz5 => k_asm); (case kTz5 => k_asm); (case kKz5 => exact rfl); (case kmz5 => k_mem); (case ivz5 => with_reducible assumption); (case iLz5 => with_reducible assumption); (case ilz5 => omega); (case w1z5 => omega); (case w2z5 => omega); (case kdz5 => (first | omega | ((try simp only [depth_deeper, depth_caller]); (try dsimp only [ktrTop]); omega) | ((try simp only [depth_under_make, depth_under_kw, depth_in1, depth_deeper, depth_caller]); (try dsimp only [ktrTop]); (try simp only [depth_under_make, depth_under_kw, depth_in1, depth_deeper, depth_caller]); omega)))); intro _ _ _ _ _; (try dsimp only); (try k_sweep)) | (k_here; (with_reducible show wpAny _ _ (call (Value.ref 123) [Value.int _ _, Value.int _ _]) _ _ _); k_dflt (refine' call_limbs ?kBz6 ?kFz6 ?kXz6 ?kNz6 ?kTz6 ?kKz6 ?w1z6 ?w2z6 ?n1z6 ?n2z6 ?kdz6 ?_; (case kFz6 => k_asm); (case kNz6 => k_asm); (case kBz6 => k_asm); (case kXz6 => k_asm); (case kTz6 => k_asm); (case kKz6 => exact rfl); (case w1z6 => omega); (case w2z6 => omega); (case n1z6 => omega); (case n2z6 => omega); (case kdz6 => (first | omega | ((try simp only [depth_deeper, depth_caller]); (try dsimp only [ktrTop]); omega) | ((try simp only [depth_under_make, depth_under_kw, depth_in1, depth_deeper, depth_caller]); (try dsimp only [ktrTop]); (try simp only [depth_under_make, depth_under_kw, depth_in1, depth_deeper, depth_caller]); omega)))); intro _ _ _ _ _ _ _ _ _ _ _ _ _; (try dsimp only); (try k_sweep)) | (k_here; (with_reducible show wpAny _ _ (call (Value.ref 116) [Value.ref _, Value.int _ _]) _ _ _); k_dflt (refine' call_spun ?kBz7 ?kFz7 ?kXz7 ?kNz7 ?kTz7 ?kKz7 rfl ?lbz7 ?apz7 ?ivz7 ?ilz7 ?k0z7 ?k1z7 ?m0z7 ?m1z7 ?kdz7 ?_; (case kFz7 => k_asm); (case kNz7 => k_asm); (case kBz7 => k_asm); (case kXz7 => k_asm); (case kTz7 => k_asm); (case kKz7 => exact rfl); (case lbz7 => (first | (first | with_reducible assumption | exact allLt_in (by with_reducible assumption) (by k_mem) | exact all_in (by with_reducible assumption) (by k_mem) | exact lt_via (by with_reducible assumption) (by with_reducible assumption) (by k_mem) | ((show @LT.lt Nat _ _ _); omega)) | ((show @LT.lt Nat _ _ _); omega))); (case apz7 => ((repeat (refine List.forall_mem_cons.mpr ⟨by ((try dsimp only); (first | with_reducible assumption | exact Ne.symm (by with_reducible assumption) | exact Nat.ne_of_gt (by first | with_reducible assumption | exact allLt_in (by with_reducible assumption) (by k_mem) | exact all_in (by with_reducible assumption) (by k_mem) | exact lt_via (by with_reducible assumption) (by with_reducible assumption) (by k_mem)) | exact Nat.ne_of_lt (by first | with_reducible assumption | exact allLt_in (by with_reducible assumption) (by k_mem) | exact all_in (by with_reducible assumption) (by k_mem) | exact lt_via (by with_reducible assumption) (by with_reducible assumption) (by k_mem)) | exact ne_in (by with_reducible assumption) (by k_mem) | exact Ne.symm (ne_in (by with_reducible assumption) (by k_mem)) | exact off1_in (by with_reducible assumption) (by k_mem) | exact Ne.symm (off1_in (by with_reducible assumption) (by k_mem)) | ((show @Ne Nat _ _); (try dsimp only); omega))), ?_⟩)); exact List.forall_mem_nil _)); (case ivz7 => with_reducible assumption); (case ilz7 => (simp only [List.length_map, List.length_take]; omega)); (case k0z7 => omega); (case k1z7 => omega); (case m0z7 => omega); (case m1z7 => omega); (case kdz7 => (first | omega | ((try simp only [depth_deeper, depth_caller]); (try dsimp only [ktrTop]); omega) | ((try simp only [depth_under_make, depth_under_kw, depth_in1, depth_deeper, depth_caller]); (try dsimp only [ktrTop]); (try simp only [depth_under_make, depth_under_kw, depth_in1, depth_deeper, depth_caller]); omega)))); intro _ _ _ _ _ _ _ _ _ _; (try dsimp only); (try k_sweep)) | (k_here; (with_reducible show wpAny _ _ (call (Value.ref 116) [Value.ref _, Value.int _ _]) _ _ _); k_dflt (refine' spun_at1 ?kBz8 ?kFz8 ?kXz8 ?kNz8 ?kTz8 ?kKz8 ?lbz8 ?axz8 ?apz8 ?ivz8 ?ilz8 ?k0z8 ?k1z8 ?m0z8 ?m1z8 ?kdz8 ?_; (case kFz8 => k_asm); (case kNz8 => k_asm); (case kBz8 => k_asm); (case kXz8 => k_asm); (case kTz8 => k_asm); (case kKz8 => exact rfl); (case axz8 => ((try dsimp only); (first | with_reducible assumption | exact Ne.symm (by with_reducible assumption) | exact Nat.ne_of_gt (by first | with_reducible assumption | exact allLt_in (by with_reducible assumption) (by k_mem) | exact all_in (by with_reducible assumption) (by k_mem) | exact lt_via (by with_reducible assumption) (by with_reducible assumption) (by k_mem)) | exact Nat.ne_of_lt (by first | with_reducible assumption | exact allLt_in (by with_reducible assumption) (by k_mem) | exact all_in (by with_reducible assumption) (by k_mem) | exact lt_via (by with_reducible assumption) (by with_reducible assumption) (by k_mem)) | exact ne_in (by with_reducible assumption) (by k_mem) | exact Ne.symm (ne_in (by with_reducible assumption) (by k_mem)) | exact off1_in (by with_reducible assumption) (by k_mem) | exact Ne.symm (off1_in (by with_reducible assumption) (by k_mem)) | ((show @Ne Nat _ _); (try dsimp only); omega)))); (case lbz8 => (first | (first | with_reducible assumption | exact allLt_in (by with_reducible assumption) (by k_mem) | exact all_in (by with_reducible assumption) (by k_mem) | exact lt_via (by with_reducible assumption) (by with_reducible assumption) (by k_mem) | ((show @LT.lt Nat _ _ _); omega)) | ((show @LT.lt Nat _ _ _); omega))); (case apz8 => ((repeat (refine List.forall_mem_cons.mpr ⟨by ((try dsimp only); (first | with_reducible assumption | exact Ne.symm (by with_reducible assumption) | exact Nat.ne_of_gt (by first | with_reducible assumption | exact allLt_in (by with_reducible assumption) (by k_mem) | exact all_in (by with_reducible assumption) (by k_mem) | exact lt_via (by with_reducible assumption) (by with_reducible assumption) (by k_mem)) | exact Nat.ne_of_lt (by first | with_reducible assumption | exact allLt_in (by with_reducible assumption) (by k_mem) | exact all_in (by with_reducible assumption) (by k_mem) | exact lt_via (by with_reducible assumption) (by with_reducible assumption) (by k_mem)) | exact ne_in (by with_reducible assumption) (by k_mem) | exact Ne.symm (ne_in (by with_reducible assumption) (by k_mem)) | exact off1_in (by with_reducible assumption) (by k_mem) | exact Ne.symm (off1_in (by with_reducible assumption) (by k_mem)) | ((show @Ne Nat _ _); (try dsimp only); omega))), ?_⟩)); exact List.forall_mem_nil _)); (case ivz8 => with_reducible assumption); (case ilz8 => (simp only [List.length_map, List.length_take]; omega)); (case k0z8 => omega); (case k1z8 => omega); (case m0z8 => omega); (case m1z8 => omega); (case kdz8 => (first | omega | ((try simp only [depth_deeper, depth_caller]); (try dsimp only [ktrTop]); omega) | ((try simp only [depth_under_make, depth_under_kw, depth_in1, depth_deeper, depth_caller]); (try dsimp only [ktrTop]); (try simp only [depth_under_make, depth_under_kw, depth_in1, depth_deeper, depth_caller]); omega)))); intro _ _ _ _ _ _ _ _ _ _; (try dsimp only); (try k_sweep))) | ((fail_if_success (with_reducible show Exists _)); (fail_if_success (with_reducible show LCg.FinA _ _ _ _ _ _ _ _)); (fail_if_success (with_reducible show KswEnd _ _ _ _ _ _ _ _ _ _ _ _)); (fail_if_success (with_reducible show wpAny _ _ (pyIter _) _ _ _)); (fail_if_success (with_reducible show wpAny _ _ (exec (Stmt.While _ _ _ _) _) _ _ _)); (fail_if_success (with_reducible show wpAny _ _ (exec (Stmt.Assign [Expr.Name _ _] (Expr.ListComp _ [⟨_, Expr.Tuple _ _ _, _, _⟩] _ _) _) _) _ _ _)); (first | (fail_if_success (with_reducible show wpAny _ _ (call (Value.ref _) _) _ _ _)) | (with_reducible show wpAny _ _ (call (Value.ref 98) _) _ _ _) | (with_reducible show wpAny _ _ (call (Value.ref 95) _) _ _ _) | (with_reducible show wpAny _ _ (call (Value.ref 88) _) _ _ _)); (first | walk1 | (dsimp only; walk1))) | (leave1; walk_say "STEP leave1"; try dsimp only) | fail "no step"))
  rename News _ _ _ _ => N5
  rename Fr _ _ _ _ => F5
  (try dsimp only [List.cons_append, List.nil_append, List.append_nil])
  refine' call_step B' F5 X' N5 T' rfl rfl hxd hod hmr hmA hmC I0 IA IC L0 LA LC g0 gA gC hw1 hw2 hi1 hi2 (by (first | omega | ((try simp only [depth_deeper, depth_caller]); (try dsimp only [ktrTop]); omega) | ((try simp only [depth_under_make, depth_under_kw, depth_in1, depth_deeper, depth_caller]); (try dsimp only [ktrTop]); (try simp only [depth_under_make, depth_under_kw, depth_in1, depth_deeper, depth_caller]); omega))) ?_
  intro r2 ws2 zs2 kk2 h2 tk2 F2 N2 a2 J2 L2 v2 l2
  clear F5 N5
  have hrd : @Ne Nat r2 d := Nat.ne_of_gt (allLt_in a2 (.tail _ (.head _)))
  (try dsimp only)
  (repeat' (first | (k_unfold; (try dsimp only)) | (k_end; wrow_close) | (first | (k_here; (with_reducible show wpAny _ _ (call (Value.ref 109) [Value.ref _, Value.ref _, Value.int _ _]) _ _ _); k_dflt (refine' call_mul ?kBz1 ?kFz1 ?kXz1 ?kNz1 ?kTz1 ?kKz1 ?kmz1 ?knz1 ?ivz1 ?iwz1 ?iLz1 ?jLz1 ?ilz1 ?jlz1 ?w1z1 ?w2z1 ?kdz1 ?_; (case kFz1 => k_asm); (case kNz1 => k_asm); (case kBz1 => k_asm); (case kXz1 => k_asm); (case kTz1 => k_asm); (case kKz1 => exact rfl); (case kmz1 => k_mem); (case knz1 => k_mem); (case ivz1 => with_reducible assumption); (case iwz1 => with_reducible assumption); (case iLz1 => with_reducible assumption); (case jLz1 => with_reducible assumption); (case ilz1 => omega); (case jlz1 => omega); (case w1z1 => omega); (case w2z1 => omega); (case kdz1 => (first | omega | ((try simp only [depth_deeper, depth_caller]); (try dsimp only [ktrTop]); omega) | ((try simp only [depth_under_make, depth_under_kw, depth_in1, depth_deeper, depth_caller]); (try dsimp only [ktrTop]); (try simp only [depth_under_make, depth_under_kw, depth_in1, depth_deeper, depth_caller]); omega)))); intro _ _ _ _ _ _ _ _ _ _ _ _ _; (try dsimp only); (try k_sweep)) | (k_here; (with_reducible show wpAny _ _ (call (Value.ref 53) [Value.ref _, Value.ref _, Value.int _ _]) _ _ _); k_dflt (refine' call_add ?kBz2 ?kFz2 ?kXz2 ?kNz2 ?kTz2 ?kKz2 ?kmz2 ?knz2 ?ivz2 ?iwz2 ?iLz2 ?jLz2 ?ilz2 ?jlz2 ?w1z2 ?w2z2 ?kdz2 ?_; (case kFz2 => k_asm); (case kNz2 => k_asm); (case kBz2 => k_asm); (case kXz2 => k_asm); (case kTz2 => k_asm); (case kKz2 => exact rfl); (case kmz2 => k_mem); (case knz2 => k_mem); (case ivz2 => with_reducible assumption); (case iwz2 => with_reducible assumption); (case iLz2 => with_reducible assumption); (case jLz2 => with_reducible assumption); (case ilz2 => omega); (case jlz2 => omega); (case w1z2 => omega); (case w2z2 => omega); (case kdz2 => (first | omega | ((try simp only [depth_deeper, depth_caller]); (try dsimp only [ktrTop]); omega) | ((try simp only [depth_under_make, depth_under_kw, depth_in1, depth_deeper, depth_caller]); (try dsimp only [ktrTop]); (try simp only [depth_under_make, depth_under_kw, depth_in1, depth_deeper, depth_caller]); omega)))); intro _ _ _ _ _ _ _ _ _ _ _ _ _; (try dsimp only); (try k_sweep)) | (k_here; (with_reducible show wpAny _ _ (call (Value.ref 60) [Value.ref _, Value.int _ _, Value.int _ _]) _ _ _); k_dflt (refine' call_shr ?kBz3 ?kFz3 ?kXz3 ?kNz3 ?kTz3 ?kKz3 ?kmz3 ?ivz3 ?iLz3 ?ilz3 ?w1z3 ?w2z3 ?n1z3 ?n2z3 ?kdz3 ?_; (case kFz3 => k_asm); (case kNz3 => k_asm); (case kBz3 => k_asm); (case kXz3 => k_asm); (case kTz3 => k_asm); (case kKz3 => exact rfl); (case kmz3 => k_mem); (case ivz3 => with_reducible assumption); (case iLz3 => with_reducible assumption); (case ilz3 => omega); (case w1z3 => omega); (case w2z3 => omega); (case n1z3 => omega); (case n2z3 => omega); (case kdz3 => (first | omega | ((try simp only [depth_deeper, depth_caller]); (try dsimp only [ktrTop]); omega) | ((try simp only [depth_under_make, depth_under_kw, depth_in1, depth_deeper, depth_caller]); (try dsimp only [ktrTop]); (try simp only [depth_under_make, depth_under_kw, depth_in1, depth_deeper, depth_caller]); omega)))); intro _ _ _ _ _ _ _ _ _ _ _ _ _; (try dsimp only); (try k_sweep)) | (k_here; (with_reducible show wpAny _ _ (call (Value.ref 67) [Value.ref _, Value.int _ _, Value.int _ _]) _ _ _); k_dflt (refine' call_low ?kBz4 ?kFz4 ?kXz4 ?kNz4 ?kTz4 ?kKz4 ?kmz4 ?ivz4 ?iLz4 ?ilz4 ?w1z4 ?w2z4 ?n1z4 ?n2z4 ?kdz4 ?_; (case kFz4 => k_asm); (case kNz4 => k_asm); (case kBz4 => k_asm); (case kXz4 => k_asm); (case kTz4 => k_asm); (case kKz4 => exact rfl); (case kmz4 => k_mem); (case ivz4 => with_reducible assumption); (case iLz4 => with_reducible assumption); (case ilz4 => omega); (case w1z4 => omega); (case w2z4 => omega); (case n1z4 => omega); (case n2z4 => omega); (case kdz4 => (first | omega | ((try simp only [depth_deeper, depth_caller]); (try dsimp only [ktrTop]); omega) | ((try simp only [depth_under_make, depth_under_kw, depth_in1, depth_deeper, depth_caller]); (try dsimp only [ktrTop]); (try simp only [depth_under_make, depth_under_kw, depth_in1, depth_deeper, depth_caller]); omega)))); intro _ _ _ _ _ _ _ _ _ _ _ _ _; (try dsimp only); (try k_sweep)) | (k_here; (with_reducible show wpAny _ _ (call (Value.ref 128) [Value.ref _, Value.int _ _]) _ _ _); k_dflt (refine' call_number ?kBz5 ?kFz5 ?kXz5 ?kNz5 ?kTz5 ?kKz5 ?kmz5 ?ivz5 ?iLz5 ?ilz5 ?w1z5 ?w2z5 ?kdz5 ?_; (case kFz5 => k_asm); (case kNz5 => k_asm); (case kBz5 => k_asm); (case kXz5 => k_asm); (case kTz5 => k_asm); (case kKz5 => exact rfl); (case kmz5 => k_mem); (case ivz5 => with_reducible assumption); (case iLz5 => with_reducible assumption); (case ilz5 => omega); (case w1z5 => omega); (case w2z5 => omega); (case kdz5 => (first | omega | ((try simp only [depth_deeper, depth_caller]); (try dsimp only [ktrTop]); omega) | ((try simp only [depth_under_make, depth_under_kw, depth_in1, depth_deeper, depth_caller]); (try dsimp only [ktrTop]); (try simp only [depth_under_make, depth_under_kw, depth_in1, depth_deeper, depth_caller]); omega)))); intro _ _ _ _ _; (try dsimp only); (try k_sweep)) | (k_here; (with_reducible show wpAny _ _ (call (Value.ref 123) [Value.int _ _, Value.int _ _]) _ _ _); k_dflt (refine' call_limbs ?kBz6 ?kFz6 ?kXz6 ?kNz6 ?kTz6 ?kKz6 ?w1z6 ?w2z6 ?n1z6 ?n2z6 ?kdz6 ?_; (case kFz6 => k_asm); (case kNz6 => k_asm); (case kBz6 => k_asm); (case kXz6 => k_asm); (case kTz6 => k_asm); (case kKz6 => exact rfl); (case w1z6 => omega); (case w2z6 => omega); (case n1z6 => omega); (case n2z6 => omega); (case kdz6 => (first | omega | ((try simp only [depth_deeper, depth_caller]); (try dsimp only [ktrTop]); omega) | ((try simp only [depth_under_make, depth_under_kw, depth_in1, depth_deeper, depth_caller]); (try dsimp only [ktrTop]); (try simp only [depth_under_make, depth_under_kw, depth_in1, depth_deeper, depth_caller]); omega)))); intro _ _ _ _ _ _ _ _ _ _ _ _ _; (try dsimp only); (try k_sweep)) | (k_here; (with_reducible show wpAny _ _ (call (Value.ref 116) [Value.ref _, Value.int _ _]) _ _ _); k_dflt (refine' call_spun ?kBz7 ?kFz7 ?kXz7 ?kNz7 ?kTz7 ?kKz7 rfl ?lbz7 ?apz7 ?ivz7 ?ilz7 ?k0z7 ?k1z7 ?m0z7 ?m1z7 ?kdz7 ?_; (case kFz7 => k_asm); (case kNz7 => k_asm); (case kBz7 => k_asm); (case kXz7 => k_asm); (case kTz7 => k_asm); (case kKz7 => exact rfl); (case lbz7 => (first | (first | with_reducible assumption | exact allLt_in (by with_reducible assumption) (by k_mem) | exact all_in (by with_reducible assumption) (by k_mem) | exact lt_via (by with_reducible assumption) (by with_reducible assumption) (by k_mem) | ((show @LT.lt Nat _ _ _); omega)) | ((show @LT.lt Nat _ _ _); omega))); (case apz7 => ((repeat (refine List.forall_mem_cons.mpr ⟨by ((try dsimp only); (first | with_reducible assumption | exact Ne.symm (by with_reducible assumption) | exact Nat.ne_of_gt (by first | with_reducible assumption | exact allLt_in (by with_reducible assumption) (by k_mem) | exact all_in (by with_reducible assumption) (by k_mem) | exact lt_via (by with_reducible assumption) (by with_reducible assumption) (by k_mem)) | exact Nat.ne_of_lt (by first | with_reducible assumption | exact allLt_in (by with_reducible assumption) (by k_mem) | exact all_in (by with_reducible assumption) (by k_mem) | exact lt_via (by with_reducible assumption) (by with_reducible assumption) (by k_mem)) | exact ne_in (by with_reducible assumption) (by k_mem) | exact Ne.symm (ne_in (by with_reducible assumption) (by k_mem)) | exact off1_in (by with_reducible assumption) (by k_mem) | exact Ne.symm (off1_in (by with_reducible assumption) (by k_mem)) | ((show @Ne Nat _ _); (try dsimp only); omega))), ?_⟩)); exact List.forall_mem_nil _)); (case ivz7 => with_reducible assumption); (case ilz7 => (simp only [List.length_map, List.length_take]; omega)); (case k0z7 => omega); (case k1z7 => omega); (case m0z7 => omega); (case m1z7 => omega); (case kdz7 => (first | omega | ((try simp only [depth_deeper, depth_caller]); (try dsimp only [ktrTop]); omega) | ((try simp only [depth_under_make, depth_under_kw, depth_in1, depth_deeper, depth_caller]); (try dsimp only [ktrTop]); (try simp only [depth_under_make, depth_under_kw, depth_in1, depth_deeper, depth_caller]); omega)))); intro _ _ _ _ _ _ _ _ _ _; (try dsimp only); (try k_sweep)) | (k_here; (with_reducible show wpAny _ _ (call (Value.ref 116) [Value.ref _, Value.int _ _]) _ _ _); k_dflt (refine' spun_at1 ?kBz8 ?kFz8 ?kXz8 ?kNz8 ?kTz8 ?kKz8 ?lbz8 ?axz8 ?apz8 ?ivz8 ?ilz8 ?k0z8 ?k1z8 ?m0z8 ?m1z8 ?kdz8 ?_; (case kFz8 => k_asm); (case kNz8 => k_asm); (case kBz8 => k_asm); (case kXz8 => k_asm); (case kTz8 => k_asm); (case kKz8 => exact rfl); (case axz8 => ((try dsimp only); (first | with_reducible assumption | exact Ne.symm (by with_reducible assumption) | exact Nat.ne_of_gt (by first | with_reducible assumption | exact allLt_in (by with_reducible assumption) (by k_mem) | exact all_in (by with_reducible assumption) (by k_mem) | exact lt_via (by with_reducible assumption) (by with_reducible assumption) (by k_mem)) | exact Nat.ne_of_lt (by first | with_reducible assumption | exact allLt_in (by with_reducible assumption) (by k_mem) | exact all_in (by with_reducible assumption) (by k_mem) | exact lt_via (by with_reducible assumption) (by with_reducible assumption) (by k_mem)) | exact ne_in (by with_reducible assumption) (by k_mem) | exact Ne.symm (ne_in (by with_reducible assumption) (by k_mem)) | exact off1_in (by with_reducible assumption) (by k_mem) | exact Ne.symm (off1_in (by with_reducible assumption) (by k_mem)) | ((show @Ne Nat _ _); (try dsimp only); omega)))); (case lbz8 => (first | (first | with_reducible assumption | exact allLt_in (by with_reducible assumption) (by k_mem) | exact all_in (by with_reducible assumption) (by k_mem) | exact lt_via (by with_reducible assumption) (by with_reducible assumption) (by k_mem) | ((show @LT.lt Nat _ _ _); omega)) | ((show @LT.lt Nat _ _ _); omega))); (case apz8 => ((repeat (refine List.forall_mem_cons.mpr ⟨by ((try dsimp only); (first | with_reducible assumption | exact Ne.symm (by with_reducible assumption) | exact Nat.ne_of_gt (by first | with_reducible assumption | exact allLt_in (by with_reducible assumption) (by k_mem) | exact all_in (by with_reducible assumption) (by k_mem) | exact lt_via (by with_reducible assumption) (by with_reducible assumption) (by k_mem)) | exact Nat.ne_of_lt (by first | with_reducible assumption | exact allLt_in (by with_reducible assumption) (by k_mem) | exact all_in (by with_reducible assumption) (by k_mem) | exact lt_via (by with_reducible assumption) (by with_reducible assumption) (by k_mem)) | exact ne_in (by with_reducible assumption) (by k_mem) | exact Ne.symm (ne_in (by with_reducible assumption) (by k_mem)) | exact off1_in (by with_reducible assumption) (by k_mem) | exact Ne.symm (off1_in (by with_reducible assumption) (by k_mem)) | ((show @Ne Nat _ _); (try dsimp only); omega))), ?_⟩)); exact List.forall_mem_nil _)); (case ivz8 => with_reducible assumption); (case ilz8 => (simp only [List.length_map, List.length_take]; omega)); (case k0z8 => omega); (case k1z8 => omega); (case m0z8 => omega); (case m1z8 => omega); (case kdz8 => (first | omega | ((try simp only [depth_deeper, depth_caller]); (try dsimp only [ktrTop]); omega) | ((try simp only [depth_under_make, depth_under_kw, depth_in1, depth_deeper, depth_caller]); (try dsimp only [ktrTop]); (try simp only [depth_under_make, depth_under_kw, depth_in1, depth_deeper, depth_caller]); omega)))); intro _ _ _ _ _ _ _ _ _ _; (try dsimp only); (try k_sweep))) | ((fail_if_success (with_reducible show Exists _)); (fail_if_success (with_reducible show LCg.FinA _ _ _ _ _ _ _ _)); (fail_if_success (with_reducible show KswEnd _ _ _ _ _ _ _ _ _ _ _ _)); (fail_if_success (with_reducible show wpAny _ _ (pyIter _) _ _ _)); (fail_if_success (with_reducible show wpAny _ _ (exec (Stmt.While _ _ _ _) _) _ _ _)); (fail_if_success (with_reducible show wpAny _ _ (exec (Stmt.Assign [Expr.Name _ _] (Expr.ListComp _ [⟨_, Expr.Tuple _ _ _, _, _⟩] _ _) _) _) _ _ _)); (first | (fail_if_success (with_reducible show wpAny _ _ (call (Value.ref _) _) _ _ _)) | (with_reducible show wpAny _ _ (call (Value.ref 98) _) _ _ _) | (with_reducible show wpAny _ _ (call (Value.ref 95) _) _ _ _) | (with_reducible show wpAny _ _ (call (Value.ref 88) _) _ _ _)); (first | walk1 | (dsimp only; walk1))) | (leave1; walk_say "STEP leave1"; try dsimp only) | fail "no step"))
  rename_i kF9 kN9 Tc9 kX9
  rename val _ _ = _ / _ => e1
  refine ret _ _ _ _ _ _ _ _ _ _ _ _ kF9 kN9 a2 (by with_reducible assumption) (by with_reducible assumption) J2 L2 v2 l2 (by with_reducible assumption) (by with_reducible assumption) e1 (Nat.le_trans (by with_reducible assumption) l2)
end
end Mine
namespace Mine
theorem spun_at1 {prog p : Program} {w : World} {loose : List Str} {mean : ExcName → Option Value} {mg mb : Str → Option Value}
  {dp un : Nat} {gd : Option (List Code)} {cn : Str} {cs : Scope} {a : Addr} {ccd : Value} {cl : List (Str × Addr)} {outer : List Env} {A₀ : Around} {base h₀ : Heap} {L : Addr} {m : Str → Option Value} {s : Shared}
  {Q E : Value → Shared → Prop} {x : Addr × Obj} {news₀ : List (Addr × Obj)} {la lb : Addr} {vs : List Value} {xs : List Int} {nn mm : Nat} {k many : Int} {t tm : Tok}
    (B : Below A₀ base outer h₀) (F : Fr h₀ L s.heap m) (X : (Mine.hd.heap_39 w.params).In h₀) (N : News h₀ L s.heap (x :: (la, listOf [.int k t, .ref lb].toArray nn) :: (lb, listOf vs.toArray mm) :: news₀)) (T : Top p loose mean mg mb h₀) (hk : cs.kind = .function)
    (hlb : lb < la) (hx : x.1 ≠ la) (hap : ∀ q ∈ news₀, q.1 ≠ la) (hv : IntsAre vs xs) (hlen : xs.length ≤ 1000) (hk0 : 0 ≤ k) (hk1 : k ≤ 8) (hm0 : 0 < many) (hm1 : many ≤ 256) (hd : dp < 400)
    (ret : ∀ r t1 t2 nn2 h' tk', 0 ≤ r → r < many → Fr h₀ L h' m → News h₀ L h' ((la, listOf [.int (k + 1) t1, .ref lb].toArray nn2) :: (lb, listOf vs.toArray mm) :: x :: news₀) → Q (.int r t2) { s with heap := h', toks := tk' }) :
    wpAny (model prog w) (ktrTop dp un gd cn cs L a ccd cl outer) (call (.ref 116) [.ref la, .int many tm]) Q E s := by
  refine call_spun (news₀ := x :: news₀) (t := t) (nn := nn) (news := (la, listOf [.int k t, .ref lb].toArray nn) :: (lb, listOf vs.toArray mm) :: x :: news₀) B F X (N := fun q hq => ?_) T hk rfl hlb (fun q hq => ?_) hv hlen hk0 hk1 hm0 hm1 hd ret
  · simp only [List.mem_cons] at hq
    rcases hq with rfl | rfl | rfl | hq
    · exact N _ (.tail _ (.head _))
    · exact N _ (.tail _ (.tail _ (.head _)))
    · exact N _ (.head _)
    · exact N _ (.tail _ (.tail _ (.tail _ hq)))
  · rcases List.mem_cons.mp hq with rfl | hq
    · exact hx
    · exact hap q hq
theorem News.of4 {h₀ h : Heap} {L : Addr} {a b c d x : Addr × Obj} {l : List (Addr × Obj)} (N : News h₀ L h (a :: b :: c :: d :: x :: l)) : News h₀ L h (a :: b :: c :: d :: l) := fun q hq => by
  simp only [List.mem_cons] at hq
  rcases hq with h | h | h | h | h
  · exact N q (by simp [h])
  · exact N q (by simp [h])
  · exact N q (by simp [h])
  · exact N q (by simp [h])
  · exact N q (by simp [h])
theorem led_cut {h₀ h : Heap} {L : Addr} {t a b tp r x d : Addr × Obj} {l : List (Addr × Obj)} (N : News h₀ L h (t :: a :: b :: tp :: r :: x :: d :: l)) : News h₀ L h (a :: b :: r :: x :: d :: l) := fun q hq => by
  simp only [List.mem_cons] at hq
  rcases hq with h | h | h | h | h | h
  · exact N q (by simp [h])
  · exact N q (by simp [h])
  · exact N q (by simp [h])
  · exact N q (by simp [h])
  · exact N q (by simp [h])
  · exact N q (by simp [h])
section
variable {prog : Program} {w : World} {A : Around} {E : Value → Shared → Prop} {s : Shared} {h₀ : Heap} {L l : Addr} {m : Str → Option Value} {news : List (Addr × Obj)} {value slice : PySem.Expr} {vs : List Value} {ns : List Int} {t : Tok} {y : Int} {Q : Value → Shared → Prop}
theorem slice_elt (F : Fr h₀ L s.heap m) (N : News h₀ L s.heap news) (hl : s.heap.IsList l vs.toArray) (hi : IntsAre vs ns) (h0 : 0 ≤ y) (hz : ns.length ≤ sizeLine)
    (h : ∀ D ws h', Fr h₀ L h' m → News h₀ L h' ((D, listOf (List.toArray ws) 0) :: news) → InElt s.heap h' → (∀ p ∈ news, p.1 < D) → IntsAre ws (ns.take y.toNat) → Q (.ref D) { s with heap := h' })
    (hs : subscripted slice false (.ref l) (.ref s.heap.objs.size) = operate [.ref s.heap.objs.size, .ref l] (getItem (.ref l) (.ref s.heap.objs.size))) (ht : ∀ r, letTemporaryGo value (.ref l) r = pure ()) :
    wpAny (model prog w) A (subscriptTail value slice (.ref l) (.ref s.heap.objs.size)) Q E { s with heap := s.heap.push { cls := .type "slice", data := .fields #[.none, .int y t, .none] } } := by
  have hz' : vs.toArray.size ≤ sizeLine := by rw [List.size_toArray, hi.length]; exact hz
  refine subscriptTail_ops (Heap.IsList.typeIs (s := { s with heap := s.heap.push { cls := .type "slice", data := .fields #[.none, .int y t, .none] } }) (hl.push _)) list_getitem_lookup
    (wpAny_getItem_list_slice (hl.push _) (Heap.IsSliceOf.new ..) .none (.int _ _) .none (by simp) ?_ hz') hs ht
  have N1 := News.push (F.push { cls := .type "slice", data := .fields #[.none, .int y t, .none] }) (N.grown fun _ _ e => Heap.get?_push_of_some _ e) { cls := .type "list", data := .seq (slicePick vs.toArray none (some y) none) }
  rw [Heap.size_push] at N1
  show Q (.ref (s.heap.push _).objs.size) _
  rw [Heap.size_push]
  refine h _ (slicePick vs.toArray none (some y) none).toList _ ((F.push _).push _) ?_ (fun b o e => Heap.get?_push_of_some _ (Heap.get?_push_of_some _ e)) (fun p hp => Nat.lt_succ_of_lt (Heap.lt_size (N p hp).1)) (kmk_upto hi h0)
  rw [Array.toArray_toList]
  exact N1
end
section
variable {prog : Program} {w : World} {A : Around} {E : Value → Shared → Prop} {s : Shared} {h₀ : Heap} {L D : Addr} {m : Str → Option Value} {news : List (Addr × Obj)} {vs : List Value} {ns : List Int} {n : Nat} {k i : Int} {t : Tok}
theorem in_true {Q : Value → Shared → Prop} (N : News h₀ L s.heap news) (hm : (D, listOf vs.toArray n) ∈ news) (hi : IntsAre vs ns) (e : ns.any (· == k) = true) (h : Q (.bool true) s) : wpAny (model prog w) A (compareOp .In (.int k t) (.ref D)) Q E s :=
  in_list_ints ⟨_, (N _ hm).1, rfl, n, rfl⟩ hi (by rw [e]; exact h)
theorem kf_ints_of {vs : List Value} {ns : List Int} (hi : IntsAre vs ns) : kf_ints vs = true := by
  induction hi with
  | nil => rfl
  | cons k t _ ih => exact ih
theorem kf_at_of {k : Int} {vs : List Value} {ns : List Int} (hi : IntsAre vs ns) : ∀ {j : Nat}, j < ns.length → ns.getD j 0 = k → (∀ a, a < j → ns.getD a 0 ≠ k) → kf_at k vs = some j := by
  induction hi with
  | nil => intro j h; exact absurd h (Nat.not_lt_zero _)
  | cons y ty _ ih =>
    intro j h1 h2 h3
    unfold kf_at
    cases j with
    | zero =>
      have e : isInt k (.int y ty) = true := by
        have : y = k := by simpa using h2
        rw [this]; simp [isInt]
      rw [e]; rfl
    | succ j =>
      have e : isInt k (.int y ty) = false := by
        have : y ≠ k := by simpa using h3 0 (by omega)
        simp [isInt, this]
      rw [e, ih (j := j) (by simpa using h1) (by simpa using h2) (fun a ha => by simpa using h3 (a + 1) (by omega))]; rfl
theorem index_is {Q : Value → Shared → Prop} (N : News h₀ L s.heap news) (hm : (D, listOf vs.toArray n) ∈ news) (hi : IntsAre vs ns) (x : IdxIs ns k i) (hz : ns.length ≤ sizeLine) (h : Q (.int i s.toks) { s with toks := s.toks + 1 }) :
    wpAny (model prog w) A (call (.builtin "list.index") [.ref D, .int k t]) Q E s := by
  obtain ⟨j, e, j1, j2, j3⟩ := x
  exact kf_index N hm (kf_ints_of hi) (kf_at_of hi j1 j2 j3) e (by show vs.length ≤ sizeLine; rw [hi.length]; exact hz) h
end
section
variable {prog : Program} {w : World} {A : Around} {E : Value → Shared → Prop} {s : Shared} {h₀ : Heap} {L D : Addr} {m : Str → Option Value} {news : List (Addr × Obj)} {vs : List Value} {ns : List Int} {n : Nat} {k : Int} {t : Tok}
theorem item_last {value slice : PySem.Expr} {Q : Value → Shared → Prop} (N : News h₀ L s.heap news) (hm : (D, listOf vs.toArray n) ∈ news) (hi : IntsAre vs ns) (h0 : 1 ≤ ns.length) (e : ns.getD (ns.length - 1) 0 = k) (h : ∀ t, Q (.int k t) s)
    (hs : subscripted slice false (.ref D) (.int (-1) t) = operate [.ref D, .int (-1) t] (getItem (.ref D) (.int (-1) t))) (hg : ∀ r, letTemporaryGo value (.ref D) r = pure ()) : wpAny (model prog w) A (subscriptTail value slice (.ref D) (.int (-1) t)) Q E s := by
  refine item_list_ints_neg ⟨_, (N _ hm).1, rfl, n, rfl⟩ hi (by decide) (by omega) (by decide) (fun t => ?_) hs hg
  rw [show ((-1 : Int) + (ns.length : Nat)).toNat = ns.length - 1 by omega, e]
  exact h t
end
theorem half_lt {wi u v y : Int} (h1 : 2 ≤ wi) (h2 : wi ≤ 6) (hv : v = u / 2 ^ (wi - wi.fdiv 2).toNat) (hu : u = y % 2 ^ wi.toNat) : v < 2 ^ (wi.fdiv 2).toNat := by
  have : wi = 2 ∨ wi = 3 ∨ wi = 4 ∨ wi = 5 ∨ wi = 6 := by omega
  have e2 : (2 : Int).fdiv 2 = 1 ∧ (3 : Int).fdiv 2 = 1 ∧ (4 : Int).fdiv 2 = 2 ∧ (5 : Int).fdiv 2 = 2 ∧ (6 : Int).fdiv 2 = 3 := by decide
  obtain ⟨e2, e3, e4, e5, e6⟩ := e2
  rcases this with rfl | rfl | rfl | rfl | rfl
  · rw [e2] at hv ⊢; simp at *; omega
  · rw [e3] at hv ⊢; simp at *; omega
  · rw [e4] at hv ⊢; simp at *; omega
  · rw [e5] at hv ⊢; simp at *; omega
  · rw [e6] at hv ⊢; simp at *; omega
theorem news_xd {h₀ h : Heap} {L : Addr} {i a b r x d : Addr × Obj} {l : List (Addr × Obj)} (N : News h₀ L h (i :: a :: b :: r :: x :: d :: l)) : News h₀ L h (x :: d :: i :: a :: b :: r :: l) := fun q hq => by
  rcases List.mem_cons.mp hq with hq | hq
  · exact hq ▸ N _ (.tail _ (.tail _ (.tail _ (.tail _ (.head _)))))
  · rcases List.mem_cons.mp hq with hq | hq
    · exact hq ▸ N _ (.tail _ (.tail _ (.tail _ (.tail _ (.tail _ (.head _))))))
    · rcases List.mem_cons.mp hq with hq | hq
      · exact hq ▸ N _ (.head _)
      · rcases List.mem_cons.mp hq with hq | hq
        · exact hq ▸ N _ (.tail _ (.head _))
        · rcases List.mem_cons.mp hq with hq | hq
          · exact hq ▸ N _ (.tail _ (.tail _ (.head _)))
          · rcases List.mem_cons.mp hq with hq | hq
            · exact hq ▸ N _ (.tail _ (.tail _ (.tail _ (.head _))))
            · exact N q (.tail _ (.tail _ (.tail _ (.tail _ (.tail _ (.tail _ hq))))))
theorem news_dx {h₀ h : Heap} {L : Addr} {t rh i a b r r0 x d : Addr × Obj} {l : List (Addr × Obj)} (N : News h₀ L h (t :: rh :: r :: x :: d :: i :: a :: b :: r0 :: l)) : News h₀ L h (i :: a :: b :: r :: x :: d :: l) := fun q hq => by
  have M : News h₀ L h (x :: d :: i :: a :: b :: r0 :: l) := fun q hq => N q (.tail _ (.tail _ (.tail _ hq)))
  rcases List.mem_cons.mp hq with hq | hq
  · exact hq ▸ M _ (.tail _ (.tail _ (.head _)))
  · rcases List.mem_cons.mp hq with hq | hq
    · exact hq ▸ M _ (.tail _ (.tail _ (.tail _ (.head _))))
    · rcases List.mem_cons.mp hq with hq | hq
      · exact hq ▸ M _ (.tail _ (.tail _ (.tail _ (.tail _ (.head _)))))
      · rcases List.mem_cons.mp hq with hq | hq
        · exact hq ▸ N _ (.tail _ (.tail _ (.head _)))
        · rcases List.mem_cons.mp hq with hq | hq
          · exact hq ▸ M _ (.head _)
          · rcases List.mem_cons.mp hq with hq | hq
            · exact hq ▸ M _ (.tail _ (.head _))
            · exact M q (.tail _ (.tail _ (.tail _ (.tail _ (.tail _ (.tail _ hq))))))
theorem keep_map {A B C : Str} {v1 v2 v3 : Option Value} {u m₀ : Str → Option Value} : ∀ z, [A, B, C].contains z = false → (fun y => if y = B then v1 else if y = A then v2 else if y = C then v3 else if [A, B, C].contains y then u y else m₀ y) z = m₀ z := by
  intro z hz
  have h0 := hz
  simp only [List.contains_cons, List.contains_nil, Bool.or_false, Bool.or_eq_false_iff, beq_eq_false_iff_ne] at h0
  obtain ⟨h1, h2, h3⟩ := h0
  simp only [if_neg h1, if_neg h2, if_neg h3, hz, Bool.false_eq_true, if_false]
theorem end_turn {h₀ h' : Heap} {L : Addr} {s s₂ : Shared} {Q : Flow → Shared → Prop} {p1 p2 p9 : Addr × Obj} {P : Nat → List Int → Prop} {S H : Nat → List Int} {stored : List Str} {m₀ m' : Str → Option Value} {I ha st x d r1 : Addr} {oI : Obj} {ws wsS wsH : List Value} {zs : List Int} {kk kS kH tk' : Nat} {e1 e2 e3 e5 e6 : DictEntry} {h4 : Int} {k4 : Value} {nd : Nat} {rest : List (Addr × Obj)} {i : Nat}
    (es : s₂ = { s with heap := h', toks := tk' }) (F : Fr h₀ L h' m')
    (N : News h₀ L h' (p1 :: p2 :: (r1, listOf ws.toArray kk) :: (x, instObj 98 d) :: (d, dictOf [e1, e2, e3, ⟨h4, k4, .ref r1⟩, e5, e6] nd) :: (I, oI) :: (ha, listOf wsH.toArray kH) :: (st, listOf wsS.toArray kS) :: p9 :: rest))
    (IA : IntsAre ws zs) (Pz : P i zs) (IS : IntsAre wsS (S i)) (IH : IntsAre wsH (H i)) (d1 : @Ne Nat r1 d) (d2 : @Ne Nat r1 st) (d3 : @Ne Nat r1 ha) (d4 : @Ne Nat r1 I) (d5 : @Ne Nat ha I) (d6 : @Ne Nat st I) (d7 : @Ne Nat x I) (d8 : @Ne Nat d I) (d9 : ∀ p ∈ rest, @Ne Nat p.1 I)
    (hm : ∀ z, stored.contains z = false → m' z = m₀ z) : RPost h₀ L I oI (LJ P S H stored m₀ ha st x d e1 e2 e3 e5 e6 h4 k4 nd rest i) s Q .next s₂ := by
  refine ⟨h', tk', m', _, es, F, news_dx N, ?_, r1, ws, wsS, wsH, kk, kS, kH, zs, rfl, IA, Pz, IS, IH, d1, d2, d3, hm⟩
  · intro p hp
    simp only [ledL, List.mem_cons] at hp
    rcases hp with h | h | h | h | h | h
    · rw [h]; exact d5
    · rw [h]; exact d6
    · rw [h]; exact d4
    · rw [h]; exact d7
    · rw [h]; exact d8
    · exact d9 p h
theorem gath_false (g : Nat → Int) : ∀ n, gath (fun _ => false) g n = []
  | 0 => rfl
  | n + 1 => by show (if false = true then _ else gath (fun _ => false) g n) = []; rw [if_neg (by decide)]; exact gath_false g n
theorem gath_const {H : List Int} {e f : Nat} (h : ∀ h : Nat, h < 2 ^ e → H.count (h : Int) = 2 ^ f) : gath (fun _ => true) (fun i => ((H.count (i : Int) : Nat) : Int)) ((2 : Int) ^ e).toNat = List.replicate ((2 : Int) ^ e).toNat (2 ^ f) := by
  have hc := pow_cast e
  have hM := two_pos' e
  have hn : ((2 : Int) ^ e).toNat = 2 ^ e := by omega
  rw [hn]
  have : ∀ n, n ≤ 2 ^ e → gath (fun _ => true) (fun i => ((H.count (i : Int) : Nat) : Int)) n = List.replicate n (2 ^ f) := by
    intro n
    induction n with
    | zero => intro _; rfl
    | succ n ih =>
      intro hle
      rw [gath_true_succ, ih (by omega), List.replicate_succ', h n (by omega), pow_cast]
  exact this _ (Nat.le_refl _)
theorem and_join {M : Model} {A : Around} {env : Env} {E : Value → Shared → Prop} {s : Shared} {e₁ e₂ : PySem.Expr} {pos : Pos} {b1 b2 b : Bool} {Q : Value → Shared → Prop} (hb : (b1 && b2) = b) (h : ∀ tk, Q (.bool b) { s with toks := tk })
    (h1 : wpAny M A (eval e₁ env) (fun v s₁ => ∃ tk, v = .bool b1 ∧ s₁ = { s with toks := tk }) E s) (h2 : ∀ tk, wpAny M A (eval e₂ env) (fun v s₁ => ∃ tk, v = .bool b2 ∧ s₁ = { s with toks := tk }) E { s with toks := tk }) :
    wpAny M A (eval (.BoolOp .And [e₁, e₂] pos) env) Q E s := by
  refine BoolOp_and (wpAny_mono h1 (fun v s₁ hv => ?_) fun _ _ e => e)
  obtain ⟨tk, rfl, rfl⟩ := hv
  refine wpAny_truthy_bool ?_
  cases b1 with
  | false => subst hb; exact h tk
  | true =>
    refine BoolOp_one (wpAny_mono (h2 tk) (fun v s₁ hv => ?_) fun _ _ e => e)
    obtain ⟨tk', rfl, rfl⟩ := hv
    rw [Bool.true_and] at hb
    subst hb
    exact h tk'
set_option maxHeartbeats 0 in
noncomputable def sL : { P : Prop // PLift P → PySem.Challenge.rw_sa0334_01.Holds } := ⟨_, fun hNL => Mine.hd (by
  k_go0
  (all_goals try k_fold)
  (repeat' (first | (k_unfold; (try dsimp only)) | (k_end; wrow_close) | (first | (k_here; (with_reducible show wpAny _ _ (call (Value.ref 109) [Value.ref _, Value.ref _, Value.int _ _]) _ _ _); k_dflt (refine' call_mul ?kBz1 ?kFz1 ?kXz1 ?kNz1 ?kTz1 ?kKz1 ?kmz1 ?knz1 ?ivz1 ?iwz1 ?iLz1 ?jLz1 ?ilz1 ?jlz1 ?w1z1 ?w2z1 ?kdz1 ?_; (case kFz1 => k_asm); (case kNz1 => k_asm); (case kBz1 => k_asm); (case kXz1 => k_asm); (case kTz1 => k_asm); (case kKz1 => exact rfl); (case kmz1 => k_mem); (case knz1 => k_mem); (case ivz1 => with_reducible assumption); (case iwz1 => with_reducible assumption); (case iLz1 => with_reducible assumption); (case jLz1 => with_reducible assumption); (case ilz1 => omega); (case jlz1 => omega); (case w1z1 => omega); (case w2z1 => omega); (case kdz1 => (first | omega | ((try simp only [depth_deeper, depth_caller]); (try dsimp only [ktrTop]); omega) | ((try simp only [depth_under_make, depth_under_kw, depth_in1, depth_deeper, depth_caller]); (try dsimp only [ktrTop]); (try simp only [depth_under_make, depth_under_kw, depth_in1, depth_deeper, depth_caller]); omega)))); intro _ _ _ _ _ _ _ _ _ _ _ _ _; (try dsimp only); (try k_sweep)) | (k_here; (with_reducible show wpAny _ _ (call (Value.ref 53) [Value.ref _, Value.ref _, Value.int _ _]) _ _ _); k_dflt (refine' call_add ?kBz2 ?kFz2 ?kXz2 ?kNz2 ?kTz2 ?kKz2 ?kmz2 ?knz2 ?ivz2 ?iwz2 ?iLz2 ?jLz2 ?ilz2 ?jlz2 ?w1z2 ?w2z2 ?kdz2 ?_; (case kFz2 => k_asm); (case kNz2 => k_asm); (case kBz2 => k_asm); (case kXz2 => k_asm); (case kTz2 => k_asm); (case kKz2 => exact rfl); (case kmz2 => k_mem); (case knz2 => k_mem); (case ivz2 => with_reducible assumption); (case iwz2 => with_reducible assumption); (case iLz2 => with_reducible assumption); (case jLz2 => with_reducible assumption); (case ilz2 => omega); (case jlz2 => omega); (case w1z2 => omega); (case w2z2 => omega); (case kdz2 => (first | omega | ((try simp only [depth_deeper, depth_caller]); (try dsimp only [ktrTop]); omega) | ((try simp only [depth_under_make, depth_under_kw, depth_in1, depth_deeper, depth_caller]); (try dsimp only [ktrTop]); (try simp only [depth_under_make, depth_under_kw, depth_in1, depth_deeper, depth_caller]); omega)))); intro _ _ _ _ _ _ _ _ _ _ _ _ _; (try dsimp only); (try k_sweep)) | (k_here; (with_reducible show wpAny _ _ (call (Value.ref 60) [Value.ref _, Value.int _ _, Value.int _ _]) _ _ _); k_dflt (refine' call_shr ?kBz3 ?kFz3 ?kXz3 ?kNz3 ?kTz3 ?kKz3 ?kmz3 ?ivz3 ?iLz3 ?ilz3 ?w1z3 ?w2z3 ?n1z3 ?n2z3 ?kdz3 ?_; (case kFz3 => k_asm); (case kNz3 => k_asm); (case kBz3 => k_asm); (case kXz3 => k_asm); (case kTz3 => k_asm); (case kKz3 => exact rfl); (case kmz3 => k_mem); (case ivz3 => with_reducible assumption); (case iLz3 => with_reducible assumption); (case ilz3 => omega); (case w1z3 => omega); (case w2z3 => omega); (case n1z3 => omega); (case n2z3 => omega); (case kdz3 => (first | omega | ((try simp only [depth_deeper, depth_caller]); (try dsimp only [ktrTop]); omega) | ((try simp only [depth_under_make, depth_under_kw, depth_in1, depth_deeper, depth_caller]); (try dsimp only [ktrTop]); (try simp only [depth_under_make, depth_under_kw, depth_in1, depth_deeper, depth_caller]); omega)))); intro _ _ _ _ _ _ _ _ _ _ _ _ _; (try dsimp only); (try k_sweep)) | (k_here; (with_reducible show wpAny _ _ (call (Value.ref 67) [Value.ref _, Value.int _ _, Value.int _ _]) _ _ _); k_dflt (refine' call_low ?kBz4 ?kFz4 ?kXz4 ?kNz4 ?kTz4 ?kKz4 ?kmz4 ?ivz4 ?iLz4 ?ilz4 ?w1z4 ?w2z4 ?n1z4 ?n2z4 ?kdz4 ?_; (case kFz4 => k_asm); (case kNz4 => k_asm); (case kBz4 => k_asm); (case kXz4 => k_asm); (case kTz4 => k_asm); (case kKz4 => exact rfl); (case kmz4 => k_mem); (case ivz4 => with_reducible assumption); (case iLz4 => with_reducible assumption); (case ilz4 => omega); (case w1z4 => omega); (case w2z4 => omega); (case n1z4 => omega); (case n2z4 => omega); (case kdz4 => (first | omega | ((try simp only [depth_deeper, depth_caller]); (try dsimp only [ktrTop]); omega) | ((try simp only [depth_under_make, depth_under_kw, depth_in1, depth_deeper, depth_caller]); (try dsimp only [ktrTop]); (try simp only [depth_under_make, depth_under_kw, depth_in1, depth_deeper, depth_caller]); omega)))); intro _ _ _ _ _ _ _ _ _ _ _ _ _; (try dsimp only); (try k_sweep)) | (k_here; (with_reducible show wpAny _ _ (call (Value.ref 128) [Value.ref _, Value.int _ _]) _ _ _); k_dflt (refine' call_number ?kBz5 ?kFz5 ?kXz5 ?kNz5 ?kTz5 ?kKz5 ?kmz5 ?ivz5 ?iLz5 ?ilz5 ?w1z5 ?w2z5 ?kdz5 ?_; (case kFz5 => k_asm); (case kNz5 => k_asm); (case kBz5 => k_asm); (case kXz5 => k_asm); (case kTz5 => k_asm); (case kKz5 => exact rfl); (case kmz5 => k_mem); (case ivz5 => with_reducible assumption); (case iLz5 => with_reducible assumption); (case ilz5 => omega); (case w1z5 => omega); (case w2z5 => omega); (case kdz5 => (first | omega | ((try simp only [depth_deeper, depth_caller]); (try dsimp only [ktrTop]); omega) | ((try simp only [depth_under_make, depth_under_kw, depth_in1, depth_deeper, depth_caller]); (try dsimp only [ktrTop]); (try simp only [depth_under_make, depth_under_kw, depth_in1, depth_deeper, depth_caller]); omega)))); intro _ _ _ _ _; (try dsimp only); (try k_sweep)) | (k_here; (with_reducible show wpAny _ _ (call (Value.ref 123) [Value.int _ _, Value.int _ _]) _ _ _); k_dflt (refine' call_limbs ?kBz6 ?kFz6 ?kXz6 ?kNz6 ?kTz6 ?kKz6 ?w1z6 ?w2z6 ?n1z6 ?n2z6 ?kdz6 ?_; (case kFz6 => k_asm); (case kNz6 => k_asm); (case kBz6 => k_asm); (case kXz6 => k_asm); (case kTz6 => k_asm); (case kKz6 => exact rfl); (case w1z6 => omega); (case w2z6 => omega); (case n1z6 => omega); (case n2z6 => omega); (case kdz6 => (first | omega | ((try simp only [depth_deeper, depth_caller]); (try dsimp only [ktrTop]); omega) | ((try simp only [depth_under_make, depth_under_kw, depth_in1, depth_deeper, depth_caller]); (try dsimp only [ktrTop]); (try simp only [depth_under_make, depth_under_kw, depth_in1, depth_deeper, depth_caller]); omega)))); intro _ _ _ _ _ _ _ _ _ _ _ _ _; (try dsimp only); (try k_sweep)) | (k_here; (with_reducible show wpAny _ _ (call (Value.ref 116) [Value.ref _, Value.int _ _]) _ _ _); k_dflt (refine' call_spun ?kBz7 ?kFz7 ?kXz7 ?kNz7 ?kTz7 ?kKz7 rfl ?lbz7 ?apz7 ?ivz7 ?ilz7 ?k0z7 ?k1z7 ?m0z7 ?m1z7 ?kdz7 ?_; (case kFz7 => k_asm); (case kNz7 => k_asm); (case kBz7 => k_asm); (case kXz7 => k_asm); (case kTz7 => k_asm); (case kKz7 => exact rfl); (case lbz7 => (first | (first | with_reducible assumption | exact allLt_in (by with_reducible assumption) (by k_mem) | exact all_in (by with_reducible assumption) (by k_mem) | exact lt_via (by with_reducible assumption) (by with_reducible assumption) (by k_mem) | ((show @LT.lt Nat _ _ _); omega)) | ((show @LT.lt Nat _ _ _); omega))); (case apz7 => ((repeat (refine List.forall_mem_cons.mpr ⟨by ((try dsimp only); (first | with_reducible assumption | exact Ne.symm (by with_reducible assumption) | exact Nat.ne_of_gt (by first | with_reducible assumption | exact allLt_in (by with_reducible assumption) (by k_mem) | exact all_in (by with_reducible assumption) (by k_mem) | exact lt_via (by with_reducible assumption) (by with_reducible assumption) (by k_mem)) | exact Nat.ne_of_lt (by first | with_reducible assumption | exact allLt_in (by with_reducible assumption) (by k_mem) | exact all_in (by with_reducible assumption) (by k_mem) | exact lt_via (by with_reducible assumption) (by with_reducible assumption) (by k_mem)) | exact ne_in (by with_reducible assumption) (by k_mem) | exact Ne.symm (ne_in (by with_reducible assumption) (by k_mem)) | exact off1_in (by with_reducible assumption) (by k_mem) | exact Ne.symm (off1_in (by with_reducible assumption) (by k_mem)) | ((show @Ne Nat _ _); (try dsimp only); omega))), ?_⟩)); exact List.forall_mem_nil _)); (case ivz7 => with_reducible assumption); (case ilz7 => (simp only [List.length_map, List.length_take]; omega)); (case k0z7 => omega); (case k1z7 => omega); (case m0z7 => omega); (case m1z7 => omega); (case kdz7 => (first | omega | ((try simp only [depth_deeper, depth_caller]); (try dsimp only [ktrTop]); omega) | ((try simp only [depth_under_make, depth_under_kw, depth_in1, depth_deeper, depth_caller]); (try dsimp only [ktrTop]); (try simp only [depth_under_make, depth_under_kw, depth_in1, depth_deeper, depth_caller]); omega)))); intro _ _ _ _ _ _ _ _ _ _; (try dsimp only); (try k_sweep)) | (k_here; (with_reducible show wpAny _ _ (call (Value.ref 116) [Value.ref _, Value.int _ _]) _ _ _); k_dflt (refine' spun_at1 ?kBz8 ?kFz8 ?kXz8 ?kNz8 ?kTz8 ?kKz8 ?lbz8 ?axz8 ?apz8 ?ivz8 ?ilz8 ?k0z8 ?k1z8 ?m0z8 ?m1z8 ?kdz8 ?_; (case kFz8 => k_asm); (case kNz8 => k_asm); (case kBz8 => k_asm); (case kXz8 => k_asm); (case kTz8 => k_asm); (case kKz8 => exact rfl); (case axz8 => ((try dsimp only); (first | with_reducible assumption | exact Ne.symm (by with_reducible assumption) | exact Nat.ne_of_gt (by first | with_reducible assumption | exact allLt_in (by with_reducible assumption) (by k_mem) | exact all_in (by with_reducible assumption) (by k_mem) | exact lt_via (by with_reducible assumption) (by with_reducible assumption) (by k_mem)) | exact Nat.ne_of_lt (by first | with_reducible assumption | exact allLt_in (by with_reducible assumption) (by k_mem) | exact all_in (by with_reducible assumption) (by k_mem) | exact lt_via (by with_reducible assumption) (by with_reducible assumption) (by k_mem)) | exact ne_in (by with_reducible assumption) (by k_mem) | exact Ne.symm (ne_in (by with_reducible assumption) (by k_mem)) | exact off1_in (by with_reducible assumption) (by k_mem) | exact Ne.symm (off1_in (by with_reducible assumption) (by k_mem)) | ((show @Ne Nat _ _); (try dsimp only); omega)))); (case lbz8 => (first | (first | with_reducible assumption | exact allLt_in (by with_reducible assumption) (by k_mem) | exact all_in (by with_reducible assumption) (by k_mem) | exact lt_via (by with_reducible assumption) (by with_reducible assumption) (by k_mem) | ((show @LT.lt Nat _ _ _); omega)) | ((show @LT.lt Nat _ _ _); omega))); (case apz8 => ((repeat (refine List.forall_mem_cons.mpr ⟨by ((try dsimp only); (first | with_reducible assumption | exact Ne.symm (by with_reducible assumption) | exact Nat.ne_of_gt (by first | with_reducible assumption | exact allLt_in (by with_reducible assumption) (by k_mem) | exact all_in (by with_reducible assumption) (by k_mem) | exact lt_via (by with_reducible assumption) (by with_reducible assumption) (by k_mem)) | exact Nat.ne_of_lt (by first | with_reducible assumption | exact allLt_in (by with_reducible assumption) (by k_mem) | exact all_in (by with_reducible assumption) (by k_mem) | exact lt_via (by with_reducible assumption) (by with_reducible assumption) (by k_mem)) | exact ne_in (by with_reducible assumption) (by k_mem) | exact Ne.symm (ne_in (by with_reducible assumption) (by k_mem)) | exact off1_in (by with_reducible assumption) (by k_mem) | exact Ne.symm (off1_in (by with_reducible assumption) (by k_mem)) | ((show @Ne Nat _ _); (try dsimp only); omega))), ?_⟩)); exact List.forall_mem_nil _)); (case ivz8 => with_reducible assumption); (case ilz8 => (simp only [List.length_map, List.length_take]; omega)); (case k0z8 => omega); (case k1z8 => omega); (case m0z8 => omega); (case m1z8 => omega); (case kdz8 => (first | omega | ((try simp only [depth_deeper, depth_caller]); (try dsimp only [ktrTop]); omega) | ((try simp only [depth_under_make, depth_under_kw, depth_in1, depth_deeper, depth_caller]); (try dsimp only [ktrTop]); (try simp only [depth_under_make, depth_under_kw, depth_in1, depth_deeper, depth_caller]); omega)))); intro _ _ _ _ _ _ _ _ _ _; (try dsimp only); (try k_sweep))) | ((fail_if_success (with_reducible show Exists _)); (fail_if_success (with_reducible show LCg.FinA _ _ _ _ _ _ _ _)); (fail_if_success (with_reducible show KswEnd _ _ _ _ _ _ _ _ _ _ _ _)); (fail_if_success (with_reducible show wpAny _ _ (pyIter _) _ _ _)); (fail_if_success (with_reducible show wpAny _ _ (exec (Stmt.While _ _ _ _) _) _ _ _)); (fail_if_success (with_reducible show wpAny _ _ (exec (Stmt.Assign [Expr.Name _ _] (Expr.ListComp _ [⟨_, Expr.Tuple _ _ _, _, _⟩] _ _) _) _) _ _ _)); (first | (fail_if_success (with_reducible show wpAny _ _ (call (Value.ref _) _) _ _ _)) | (with_reducible show wpAny _ _ (call (Value.ref 98) _) _ _ _) | (with_reducible show wpAny _ _ (call (Value.ref 95) _) _ _ _) | (with_reducible show wpAny _ _ (call (Value.ref 88) _) _ _ _)); (first | walk1 | (dsimp only; walk1))) | (leave1; walk_say "STEP leave1"; try dsimp only) | fail "no step"))
  rename_i wv _ _ _ _ _ w0 w5 nv _ _ _ _ _ n0 n5 _ _ _ _ _ _ oW dW _ _ av _ _ _ _ _ a0 a5 cv _ _ _ _ _ c0 c5 bv _ _ _ _ _ b0 b5 _ _ _ _ _ _ _ _ F1 N1
  have N2 := News.drop1 (News.drop1 (News.drop1 (News.drop1 (News.drop1 N1))))
  clear N1
  generalize hwd : 4 + wv = wd at dW
  generalize hwi : 2 + nv = wi at F1
  repeat (rename AllLt _ _ => z; clear z)
  repeat (rename (@LT.lt Nat _ _ _ ∧ _) => z; clear z)
  repeat (rename (@Ne Nat _ _ ∧ _) => z; clear z)
  have hw1 : 4 ≤ wd := by omega
  have hw2 : wd ≤ 8 := by omega
  have hi1 : 2 ≤ wi := by omega
  have hi2 : wi ≤ 6 := by omega
  clear hwd hwi w0 w5 n0 n5
  refine Assign_ListComp_tup F1 (by rfl) (by with_unfolding_all rfl) (by with_unfolding_all rfl) (by decide) (by rfl) (by decide) (by rfl) (by rfl) (by rfl) ?_
  (repeat' (first | (k_unfold; (try dsimp only)) | (k_end; wrow_close) | (first | (k_here; (with_reducible show wpAny _ _ (call (Value.ref 109) [Value.ref _, Value.ref _, Value.int _ _]) _ _ _); k_dflt (refine' call_mul ?kBz1 ?kFz1 ?kXz1 ?kNz1 ?kTz1 ?kKz1 ?kmz1 ?knz1 ?ivz1 ?iwz1 ?iLz1 ?jLz1 ?ilz1 ?jlz1 ?w1z1 ?w2z1 ?kdz1 ?_; (case kFz1 => k_asm); (case kNz1 => k_asm); (case kBz1 => k_asm); (case kXz1 => k_asm); (case kTz1 => k_asm); (case kKz1 => exact rfl); (case kmz1 => k_mem); (case knz1 => k_mem); (case ivz1 => with_reducible assumption); (case iwz1 => with_reducible assumption); (case iLz1 => with_reducible assumption); (case jLz1 => with_reducible assumption); (case ilz1 => omega); (case jlz1 => omega); (case w1z1 => omega); (case w2z1 => omega); (case kdz1 => (first | omega | ((try simp only [depth_deeper, depth_caller]); (try dsimp only [ktrTop]); omega) | ((try simp only [depth_under_make, depth_under_kw, depth_in1, depth_deeper, depth_caller]); (try dsimp only [ktrTop]); (try simp only [depth_under_make, depth_under_kw, depth_in1, depth_deeper, depth_caller]); omega)))); intro _ _ _ _ _ _ _ _ _ _ _ _ _; (try dsimp only); (try k_sweep)) | (k_here; (with_reducible show wpAny _ _ (call (Value.ref 53) [Value.ref _, Value.ref _, Value.int _ _]) _ _ _); k_dflt (refine' call_add ?kBz2 ?kFz2 ?kXz2 ?kNz2 ?kTz2 ?kKz2 ?kmz2 ?knz2 ?ivz2 ?iwz2 ?iLz2 ?jLz2 ?ilz2 ?jlz2 ?w1z2 ?w2z2 ?kdz2 ?_; (case kFz2 => k_asm); (case kNz2 => k_asm); (case kBz2 => k_asm); (case kXz2 => k_asm); (case kTz2 => k_asm); (case kKz2 => exact rfl); (case kmz2 => k_mem); (case knz2 => k_mem); (case ivz2 => with_reducible assumption); (case iwz2 => with_reducible assumption); (case iLz2 => with_reducible assumption); (case jLz2 => with_reducible assumption); (case ilz2 => omega); (case jlz2 => omega); (case w1z2 => omega); (case w2z2 => omega); (case kdz2 => (first | omega | ((try simp only [depth_deeper, depth_caller]); (try dsimp only [ktrTop]); omega) | ((try simp only [depth_under_make, depth_under_kw, depth_in1, depth_deeper, depth_caller]); (try dsimp only [ktrTop]); (try simp only [depth_under_make, depth_under_kw, depth_in1, depth_deeper, depth_caller]); omega)))); intro _ _ _ _ _ _ _ _ _ _ _ _ _; (try dsimp only); (try k_sweep)) | (k_here; (with_reducible show wpAny _ _ (call (Value.ref 60) [Value.ref _, Value.int _ _, Value.int _ _]) _ _ _); k_dflt (refine' call_shr ?kBz3 ?kFz3 ?kXz3 ?kNz3 ?kTz3 ?kKz3 ?kmz3 ?ivz3 ?iLz3 ?ilz3 ?w1z3 ?w2z3 ?n1z3 ?n2z3 ?kdz3 ?_; (case kFz3 => k_asm); (case kNz3 => k_asm); (case kBz3 => k_asm); (case kXz3 => k_asm); (case kTz3 => k_asm); (case kKz3 => exact rfl); (case kmz3 => k_mem); (case ivz3 => with_reducible assumption); (case iLz3 => with_reducible assumption); (case ilz3 => omega); (case w1z3 => omega); (case w2z3 => omega); (case n1z3 => omega); (case n2z3 => omega); (case kdz3 => (first | omega | ((try simp only [depth_deeper, depth_caller]); (try dsimp only [ktrTop]); omega) | ((try simp only [depth_under_make, depth_under_kw, depth_in1, depth_deeper, depth_caller]); (try dsimp only [ktrTop]); (try simp only [depth_under_make, depth_under_kw, depth_in1, depth_deeper, depth_caller]); omega)))); intro _ _ _ _ _ _ _ _ _ _ _ _ _; (try dsimp only); (try k_sweep)) | (k_here; (with_reducible show wpAny _ _ (call (Value.ref 67) [Value.ref _, Value.int _ _, Value.int _ _]) _ _ _); k_dflt (refine' call_low ?kBz4 ?kFz4 ?kXz4 ?kNz4 ?kTz4 ?kKz4 ?kmz4 ?ivz4 ?iLz4 ?ilz4 ?w1z4 ?w2z4 ?n1z4 ?n2z4 ?kdz4 ?_; (case kFz4 => k_asm); (case kNz4 => k_asm); (case kBz4 => k_asm); (case kXz4 => k_asm); (case kTz4 => k_asm); (case kKz4 => exact rfl); (case kmz4 => k_mem); (case ivz4 => with_reducible assumption); (case iLz4 => with_reducible assumption); (case ilz4 => omega); (case w1z4 => omega); (case w2z4 => omega); (case n1z4 => omega); (case n2z4 => omega); (case kdz4 => (first | omega | ((try simp only [depth_deeper, depth_caller]); (try dsimp only [ktrTop]); omega) | ((try simp only [depth_under_make, depth_under_kw, depth_in1, depth_deeper, depth_caller]); (try dsimp only [ktrTop]); (try simp only [depth_under_make, depth_under_kw, depth_in1, depth_deeper, depth_caller]); omega)))); intro _ _ _ _ _ _ _ _ _ _ _ _ _; (try dsimp only); (try k_sweep)) | (k_here; (with_reducible show wpAny _ _ (call (Value.ref 128) [Value.ref _, Value.int _ _]) _ _ _); k_dflt (refine' call_number ?kBz5 ?kFz5 ?kXz5 ?kNz5 ?kTz5 ?kKz5 ?kmz5 ?ivz5 ?iLz5 ?ilz5 ?w1z5 ?w2z5 ?kdz5 ?_; (case kFz5 => k_asm); (case kNz5 => k_asm); (case kBz5 => k_asm); (case kXz5 => k_asm); (case kTz5 => k_asm); (case kKz5 => exact rfl); (case kmz5 => k_mem); (case ivz5 => with_reducible assumption); (case iLz5 => with_reducible assumption); (case ilz5 => omega); (case w1z5 => omega); (case w2z5 => omega); (case kdz5 => (first | omega | ((try simp only [depth_deeper, depth_caller]); (try dsimp only [ktrTop]); omega) | ((try simp only [depth_under_make, depth_under_kw, depth_in1, depth_deeper, depth_caller]); (try dsimp only [ktrTop]); (try simp only [depth_under_make, depth_under_kw, depth_in1, depth_deeper, depth_caller]); omega)))); intro _ _ _ _ _; (try dsimp only); (try k_sweep)) | (k_here; (with_reducible show wpAny _ _ (call (Value.ref 123) [Value.int _ _, Value.int _ _]) _ _ _); k_dflt (refine' call_limbs ?kBz6 ?kFz6 ?kXz6 ?kNz6 ?kTz6 ?kKz6 ?w1z6 ?w2z6 ?n1z6 ?n2z6 ?kdz6 ?_; (case kFz6 => k_asm); (case kNz6 => k_asm); (case kBz6 => k_asm); (case kXz6 => k_asm); (case kTz6 => k_asm); (case kKz6 => exact rfl); (case w1z6 => omega); (case w2z6 => omega); (case n1z6 => omega); (case n2z6 => omega); (case kdz6 => (first | omega | ((try simp only [depth_deeper, depth_caller]); (try dsimp only [ktrTop]); omega) | ((try simp only [depth_under_make, depth_under_kw, depth_in1, depth_deeper, depth_caller]); (try dsimp only [ktrTop]); (try simp only [depth_under_make, depth_under_kw, depth_in1, depth_deeper, depth_caller]); omega)))); intro _ _ _ _ _ _ _ _ _ _ _ _ _; (try dsimp only); (try k_sweep)) | (k_here; (with_reducible show wpAny _ _ (call (Value.ref 116) [Value.ref _, Value.int _ _]) _ _ _); k_dflt (refine' call_spun ?kBz7 ?kFz7 ?kXz7 ?kNz7 ?kTz7 ?kKz7 rfl ?lbz7 ?apz7 ?ivz7 ?ilz7 ?k0z7 ?k1z7 ?m0z7 ?m1z7 ?kdz7 ?_; (case kFz7 => k_asm); (case kNz7 => k_asm); (case kBz7 => k_asm); (case kXz7 => k_asm); (case kTz7 => k_asm); (case kKz7 => exact rfl); (case lbz7 => (first | (first | with_reducible assumption | exact allLt_in (by with_reducible assumption) (by k_mem) | exact all_in (by with_reducible assumption) (by k_mem) | exact lt_via (by with_reducible assumption) (by with_reducible assumption) (by k_mem) | ((show @LT.lt Nat _ _ _); omega)) | ((show @LT.lt Nat _ _ _); omega))); (case apz7 => ((repeat (refine List.forall_mem_cons.mpr ⟨by ((try dsimp only); (first | with_reducible assumption | exact Ne.symm (by with_reducible assumption) | exact Nat.ne_of_gt (by first | with_reducible assumption | exact allLt_in (by with_reducible assumption) (by k_mem) | exact all_in (by with_reducible assumption) (by k_mem) | exact lt_via (by with_reducible assumption) (by with_reducible assumption) (by k_mem)) | exact Nat.ne_of_lt (by first | with_reducible assumption | exact allLt_in (by with_reducible assumption) (by k_mem) | exact all_in (by with_reducible assumption) (by k_mem) | exact lt_via (by with_reducible assumption) (by with_reducible assumption) (by k_mem)) | exact ne_in (by with_reducible assumption) (by k_mem) | exact Ne.symm (ne_in (by with_reducible assumption) (by k_mem)) | exact off1_in (by with_reducible assumption) (by k_mem) | exact Ne.symm (off1_in (by with_reducible assumption) (by k_mem)) | ((show @Ne Nat _ _); (try dsimp only); omega))), ?_⟩)); exact List.forall_mem_nil _)); (case ivz7 => with_reducible assumption); (case ilz7 => (simp only [List.length_map, List.length_take]; omega)); (case k0z7 => omega); (case k1z7 => omega); (case m0z7 => omega); (case m1z7 => omega); (case kdz7 => (first | omega | ((try simp only [depth_deeper, depth_caller]); (try dsimp only [ktrTop]); omega) | ((try simp only [depth_under_make, depth_under_kw, depth_in1, depth_deeper, depth_caller]); (try dsimp only [ktrTop]); (try simp only [depth_under_make, depth_under_kw, depth_in1, depth_deeper, depth_caller]); omega)))); intro _ _ _ _ _ _ _ _ _ _; (try dsimp only); (try k_sweep)) | (k_here; (with_reducible show wpAny _ _ (call (Value.ref 116) [Value.ref _, Value.int _ _]) _ _ _); k_dflt (refine' spun_at1 ?kBz8 ?kFz8 ?kXz8 ?kNz8 ?kTz8 ?kKz8 ?lbz8 ?axz8 ?apz8 ?ivz8 ?ilz8 ?k0z8 ?k1z8 ?m0z8 ?m1z8 ?kdz8 ?_; (case kFz8 => k_asm); (case kNz8 => k_asm); (case kBz8 => k_asm); (case kXz8 => k_asm); (case kTz8 => k_asm); (case kKz8 => exact rfl); (case axz8 => ((try dsimp only); (first | with_reducible assumption | exact Ne.symm (by with_reducible assumption) | exact Nat.ne_of_gt (by first | with_reducible assumption | exact allLt_in (by with_reducible assumption) (by k_mem) | exact all_in (by with_reducible assumption) (by k_mem) | exact lt_via (by with_reducible assumption) (by with_reducible assumption) (by k_mem)) | exact Nat.ne_of_lt (by first | with_reducible assumption | exact allLt_in (by with_reducible assumption) (by k_mem) | exact all_in (by with_reducible assumption) (by k_mem) | exact lt_via (by with_reducible assumption) (by with_reducible assumption) (by k_mem)) | exact ne_in (by with_reducible assumption) (by k_mem) | exact Ne.symm (ne_in (by with_reducible assumption) (by k_mem)) | exact off1_in (by with_reducible assumption) (by k_mem) | exact Ne.symm (off1_in (by with_reducible assumption) (by k_mem)) | ((show @Ne Nat _ _); (try dsimp only); omega)))); (case lbz8 => (first | (first | with_reducible assumption | exact allLt_in (by with_reducible assumption) (by k_mem) | exact all_in (by with_reducible assumption) (by k_mem) | exact lt_via (by with_reducible assumption) (by with_reducible assumption) (by k_mem) | ((show @LT.lt Nat _ _ _); omega)) | ((show @LT.lt Nat _ _ _); omega))); (case apz8 => ((repeat (refine List.forall_mem_cons.mpr ⟨by ((try dsimp only); (first | with_reducible assumption | exact Ne.symm (by with_reducible assumption) | exact Nat.ne_of_gt (by first | with_reducible assumption | exact allLt_in (by with_reducible assumption) (by k_mem) | exact all_in (by with_reducible assumption) (by k_mem) | exact lt_via (by with_reducible assumption) (by with_reducible assumption) (by k_mem)) | exact Nat.ne_of_lt (by first | with_reducible assumption | exact allLt_in (by with_reducible assumption) (by k_mem) | exact all_in (by with_reducible assumption) (by k_mem) | exact lt_via (by with_reducible assumption) (by with_reducible assumption) (by k_mem)) | exact ne_in (by with_reducible assumption) (by k_mem) | exact Ne.symm (ne_in (by with_reducible assumption) (by k_mem)) | exact off1_in (by with_reducible assumption) (by k_mem) | exact Ne.symm (off1_in (by with_reducible assumption) (by k_mem)) | ((show @Ne Nat _ _); (try dsimp only); omega))), ?_⟩)); exact List.forall_mem_nil _)); (case ivz8 => with_reducible assumption); (case ilz8 => (simp only [List.length_map, List.length_take]; omega)); (case k0z8 => omega); (case k1z8 => omega); (case m0z8 => omega); (case m1z8 => omega); (case kdz8 => (first | omega | ((try simp only [depth_deeper, depth_caller]); (try dsimp only [ktrTop]); omega) | ((try simp only [depth_under_make, depth_under_kw, depth_in1, depth_deeper, depth_caller]); (try dsimp only [ktrTop]); (try simp only [depth_under_make, depth_under_kw, depth_in1, depth_deeper, depth_caller]); omega)))); intro _ _ _ _ _ _ _ _ _ _; (try dsimp only); (try k_sweep))) | ((fail_if_success (with_reducible show Exists _)); (fail_if_success (with_reducible show LCg.FinA _ _ _ _ _ _ _ _)); (fail_if_success (with_reducible show KswEnd _ _ _ _ _ _ _ _ _ _ _ _)); (fail_if_success (with_reducible show wpAny _ _ (pyIter _) _ _ _)); (fail_if_success (with_reducible show wpAny _ _ (exec (Stmt.While _ _ _ _) _) _ _ _)); (fail_if_success (with_reducible show wpAny _ _ (exec (Stmt.Assign [Expr.Name _ _] (Expr.ListComp _ [⟨_, Expr.Tuple _ _ _, _, _⟩] _ _) _) _) _ _ _)); (first | (fail_if_success (with_reducible show wpAny _ _ (call (Value.ref _) _) _ _ _)) | (with_reducible show wpAny _ _ (call (Value.ref 98) _) _ _ _) | (with_reducible show wpAny _ _ (call (Value.ref 95) _) _ _ _) | (with_reducible show wpAny _ _ (call (Value.ref 88) _) _ _ _)); (first | walk1 | (dsimp only; walk1))) | (leave1; walk_say "STEP leave1"; try dsimp only) | fail "no step"))
  refine rows_src (Ok := fun n => 0 ≤ n ∧ n < 256) (Res := fun n zs => Lims (2 ^ wd.toNat) zs ∧ val (2 ^ wd.toNat) zs = n ∧ zs.length ≤ 2) (fun X kX => kX _ _ _ _ _ _ _ _ _ rfl (by rfl) (by k_asm) (by k_asm) (by k_mem) ⟨by omega, by omega⟩ ⟨by omega, by omega⟩ ⟨by omega, by omega⟩ ?_ ?_)
  · intro n tn C oC mC nw h tk E' hOk hC hx F3 N3
    obtain ⟨hOk0, hOk1⟩ := hOk
    simp only [List.cons_append, List.nil_append] at N3 ⊢
    (repeat' (first | (k_unfold; (try dsimp only)) | (k_end; wrow_close) | (first | (k_here; (with_reducible show wpAny _ _ (call (Value.ref 109) [Value.ref _, Value.ref _, Value.int _ _]) _ _ _); k_dflt (refine' call_mul ?kBz1 ?kFz1 ?kXz1 ?kNz1 ?kTz1 ?kKz1 ?kmz1 ?knz1 ?ivz1 ?iwz1 ?iLz1 ?jLz1 ?ilz1 ?jlz1 ?w1z1 ?w2z1 ?kdz1 ?_; (case kFz1 => k_asm); (case kNz1 => k_asm); (case kBz1 => k_asm); (case kXz1 => k_asm); (case kTz1 => k_asm); (case kKz1 => exact rfl); (case kmz1 => k_mem); (case knz1 => k_mem); (case ivz1 => with_reducible assumption); (case iwz1 => with_reducible assumption); (case iLz1 => with_reducible assumption); (case jLz1 => with_reducible assumption); (case ilz1 => omega); (case jlz1 => omega); (case w1z1 => omega); (case w2z1 => omega); (case kdz1 => (first | omega | ((try simp only [depth_deeper, depth_caller]); (try dsimp only [ktrTop]); omega) | ((try simp only [depth_under_make, depth_under_kw, depth_in1, depth_deeper, depth_caller]); (try dsimp only [ktrTop]); (try simp only [depth_under_make, depth_under_kw, depth_in1, depth_deeper, depth_caller]); omega)))); intro _ _ _ _ _ _ _ _ _ _ _ _ _; (try dsimp only); (try k_sweep)) | (k_here; (with_reducible show wpAny _ _ (call (Value.ref 53) [Value.ref _, Value.ref _, Value.int _ _]) _ _ _); k_dflt (refine' call_add ?kBz2 ?kFz2 ?kXz2 ?kNz2 ?kTz2 ?kKz2 ?kmz2 ?knz2 ?ivz2 ?iwz2 ?iLz2 ?jLz2 ?ilz2 ?jlz2 ?w1z2 ?w2z2 ?kdz2 ?_; (case kFz2 => k_asm); (case kNz2 => k_asm); (case kBz2 => k_asm); (case kXz2 => k_asm); (case kTz2 => k_asm); (case kKz2 => exact rfl); (case kmz2 => k_mem); (case knz2 => k_mem); (case ivz2 => with_reducible assumption); (case iwz2 => with_reducible assumption); (case iLz2 => with_reducible assumption); (case jLz2 => with_reducible assumption); (case ilz2 => omega); (case jlz2 => omega); (case w1z2 => omega); (case w2z2 => omega); (case kdz2 => (first | omega | ((try simp only [depth_deeper, depth_caller]); (try dsimp only [ktrTop]); omega) | ((try simp only [depth_under_make, depth_under_kw, depth_in1, depth_deeper, depth_caller]); (try dsimp only [ktrTop]); (try simp only [depth_under_make, depth_under_kw, depth_in1, depth_deeper, depth_caller]); omega)))); intro _ _ _ _ _ _ _ _ _ _ _ _ _; (try dsimp only); (try k_sweep)) | (k_here; (with_reducible show wpAny _ _ (call (Value.ref 60) [Value.ref _, Value.int _ _, Value.int _ _]) _ _ _); k_dflt (refine' call_shr ?kBz3 ?kFz3 ?kXz3 ?kNz3 ?kTz3 ?kKz3 ?kmz3 ?ivz3 ?iLz3 ?ilz3 ?w1z3 ?w2z3 ?n1z3 ?n2z3 ?kdz3 ?_; (case kFz3 => k_asm); (case kNz3 => k_asm); (case kBz3 => k_asm); (case kXz3 => k_asm); (case kTz3 => k_asm); (case kKz3 => exact rfl); (case kmz3 => k_mem); (case ivz3 => with_reducible assumption); (case iLz3 => with_reducible assumption); (case ilz3 => omega); (case w1z3 => omega); (case w2z3 => omega); (case n1z3 => omega); (case n2z3 => omega); (case kdz3 => (first | omega | ((try simp only [depth_deeper, depth_caller]); (try dsimp only [ktrTop]); omega) | ((try simp only [depth_under_make, depth_under_kw, depth_in1, depth_deeper, depth_caller]); (try dsimp only [ktrTop]); (try simp only [depth_under_make, depth_under_kw, depth_in1, depth_deeper, depth_caller]); omega)))); intro _ _ _ _ _ _ _ _ _ _ _ _ _; (try dsimp only); (try k_sweep)) | (k_here; (with_reducible show wpAny _ _ (call (Value.ref 67) [Value.ref _, Value.int _ _, Value.int _ _]) _ _ _); k_dflt (refine' call_low ?kBz4 ?kFz4 ?kXz4 ?kNz4 ?kTz4 ?kKz4 ?kmz4 ?ivz4 ?iLz4 ?ilz4 ?w1z4 ?w2z4 ?n1z4 ?n2z4 ?kdz4 ?_; (case kFz4 => k_asm); (case kNz4 => k_asm); (case kBz4 => k_asm); (case kXz4 => k_asm); (case kTz4 => k_asm); (case kKz4 => exact rfl); (case kmz4 => k_mem); (case ivz4 => with_reducible assumption); (case iLz4 => with_reducible assumption); (case ilz4 => omega); (case w1z4 => omega); (case w2z4 => omega); (case n1z4 => omega); (case n2z4 => omega); (case kdz4 => (first | omega | ((try simp only [depth_deeper, depth_caller]); (try dsimp only [ktrTop]); omega) | ((try simp only [depth_under_make, depth_under_kw, depth_in1, depth_deeper, depth_caller]); (try dsimp only [ktrTop]); (try simp only [depth_under_make, depth_under_kw, depth_in1, depth_deeper, depth_caller]); omega)))); intro _ _ _ _ _ _ _ _ _ _ _ _ _; (try dsimp only); (try k_sweep)) | (k_here; (with_reducible show wpAny _ _ (call (Value.ref 128) [Value.ref _, Value.int _ _]) _ _ _); k_dflt (refine' call_number ?kBz5 ?kFz5 ?kXz5 ?kNz5 ?kTz5 ?kKz5 ?kmz5 ?ivz5 ?iLz5 ?ilz5 ?w1z5 ?w2z5 ?kdz5 ?_; (case kFz5 => k_asm); (case kNz5 => k_asm); (case kBz5 => k_asm); (case kXz5 => k_asm); (case kTz5 => k_asm); (case kKz5 => exact rfl); (case kmz5 => k_mem); (case ivz5 => with_reducible assumption); (case iLz5 => with_reducible assumption); (case ilz5 => omega); (case w1z5 => omega); (case w2z5 => omega); (case kdz5 => (first | omega | ((try simp only [depth_deeper, depth_caller]); (try dsimp only [ktrTop]); omega) | ((try simp only [depth_under_make, depth_under_kw, depth_in1, depth_deeper, depth_caller]); (try dsimp only [ktrTop]); (try simp only [depth_under_make, depth_under_kw, depth_in1, depth_deeper, depth_caller]); omega)))); intro _ _ _ _ _; (try dsimp only); (try k_sweep)) | (k_here; (with_reducible show wpAny _ _ (call (Value.ref 123) [Value.int _ _, Value.int _ _]) _ _ _); k_dflt (refine' call_limbs ?kBz6 ?kFz6 ?kXz6 ?kNz6 ?kTz6 ?kKz6 ?w1z6 ?w2z6 ?n1z6 ?n2z6 ?kdz6 ?_; (case kFz6 => k_asm); (case kNz6 => k_asm); (case kBz6 => k_asm); (case kXz6 => k_asm); (case kTz6 => k_asm); (case kKz6 => exact rfl); (case w1z6 => omega); (case w2z6 => omega); (case n1z6 => omega); (case n2z6 => omega); (case kdz6 => (first | omega | ((try simp only [depth_deeper, depth_caller]); (try dsimp only [ktrTop]); omega) | ((try simp only [depth_under_make, depth_under_kw, depth_in1, depth_deeper, depth_caller]); (try dsimp only [ktrTop]); (try simp only [depth_under_make, depth_under_kw, depth_in1, depth_deeper, depth_caller]); omega)))); intro _ _ _ _ _ _ _ _ _ _ _ _ _; (try dsimp only); (try k_sweep)) | (k_here; (with_reducible show wpAny _ _ (call (Value.ref 116) [Value.ref _, Value.int _ _]) _ _ _); k_dflt (refine' call_spun ?kBz7 ?kFz7 ?kXz7 ?kNz7 ?kTz7 ?kKz7 rfl ?lbz7 ?apz7 ?ivz7 ?ilz7 ?k0z7 ?k1z7 ?m0z7 ?m1z7 ?kdz7 ?_; (case kFz7 => k_asm); (case kNz7 => k_asm); (case kBz7 => k_asm); (case kXz7 => k_asm); (case kTz7 => k_asm); (case kKz7 => exact rfl); (case lbz7 => (first | (first | with_reducible assumption | exact allLt_in (by with_reducible assumption) (by k_mem) | exact all_in (by with_reducible assumption) (by k_mem) | exact lt_via (by with_reducible assumption) (by with_reducible assumption) (by k_mem) | ((show @LT.lt Nat _ _ _); omega)) | ((show @LT.lt Nat _ _ _); omega))); (case apz7 => ((repeat (refine List.forall_mem_cons.mpr ⟨by ((try dsimp only); (first | with_reducible assumption | exact Ne.symm (by with_reducible assumption) | exact Nat.ne_of_gt (by first | with_reducible assumption | exact allLt_in (by with_reducible assumption) (by k_mem) | exact all_in (by with_reducible assumption) (by k_mem) | exact lt_via (by with_reducible assumption) (by with_reducible assumption) (by k_mem)) | exact Nat.ne_of_lt (by first | with_reducible assumption | exact allLt_in (by with_reducible assumption) (by k_mem) | exact all_in (by with_reducible assumption) (by k_mem) | exact lt_via (by with_reducible assumption) (by with_reducible assumption) (by k_mem)) | exact ne_in (by with_reducible assumption) (by k_mem) | exact Ne.symm (ne_in (by with_reducible assumption) (by k_mem)) | exact off1_in (by with_reducible assumption) (by k_mem) | exact Ne.symm (off1_in (by with_reducible assumption) (by k_mem)) | ((show @Ne Nat _ _); (try dsimp only); omega))), ?_⟩)); exact List.forall_mem_nil _)); (case ivz7 => with_reducible assumption); (case ilz7 => (simp only [List.length_map, List.length_take]; omega)); (case k0z7 => omega); (case k1z7 => omega); (case m0z7 => omega); (case m1z7 => omega); (case kdz7 => (first | omega | ((try simp only [depth_deeper, depth_caller]); (try dsimp only [ktrTop]); omega) | ((try simp only [depth_under_make, depth_under_kw, depth_in1, depth_deeper, depth_caller]); (try dsimp only [ktrTop]); (try simp only [depth_under_make, depth_under_kw, depth_in1, depth_deeper, depth_caller]); omega)))); intro _ _ _ _ _ _ _ _ _ _; (try dsimp only); (try k_sweep)) | (k_here; (with_reducible show wpAny _ _ (call (Value.ref 116) [Value.ref _, Value.int _ _]) _ _ _); k_dflt (refine' spun_at1 ?kBz8 ?kFz8 ?kXz8 ?kNz8 ?kTz8 ?kKz8 ?lbz8 ?axz8 ?apz8 ?ivz8 ?ilz8 ?k0z8 ?k1z8 ?m0z8 ?m1z8 ?kdz8 ?_; (case kFz8 => k_asm); (case kNz8 => k_asm); (case kBz8 => k_asm); (case kXz8 => k_asm); (case kTz8 => k_asm); (case kKz8 => exact rfl); (case axz8 => ((try dsimp only); (first | with_reducible assumption | exact Ne.symm (by with_reducible assumption) | exact Nat.ne_of_gt (by first | with_reducible assumption | exact allLt_in (by with_reducible assumption) (by k_mem) | exact all_in (by with_reducible assumption) (by k_mem) | exact lt_via (by with_reducible assumption) (by with_reducible assumption) (by k_mem)) | exact Nat.ne_of_lt (by first | with_reducible assumption | exact allLt_in (by with_reducible assumption) (by k_mem) | exact all_in (by with_reducible assumption) (by k_mem) | exact lt_via (by with_reducible assumption) (by with_reducible assumption) (by k_mem)) | exact ne_in (by with_reducible assumption) (by k_mem) | exact Ne.symm (ne_in (by with_reducible assumption) (by k_mem)) | exact off1_in (by with_reducible assumption) (by k_mem) | exact Ne.symm (off1_in (by with_reducible assumption) (by k_mem)) | ((show @Ne Nat _ _); (try dsimp only); omega)))); (case lbz8 => (first | (first | with_reducible assumption | exact allLt_in (by with_reducible assumption) (by k_mem) | exact all_in (by with_reducible assumption) (by k_mem) | exact lt_via (by with_reducible assumption) (by with_reducible assumption) (by k_mem) | ((show @LT.lt Nat _ _ _); omega)) | ((show @LT.lt Nat _ _ _); omega))); (case apz8 => ((repeat (refine List.forall_mem_cons.mpr ⟨by ((try dsimp only); (first | with_reducible assumption | exact Ne.symm (by with_reducible assumption) | exact Nat.ne_of_gt (by first | with_reducible assumption | exact allLt_in (by with_reducible assumption) (by k_mem) | exact all_in (by with_reducible assumption) (by k_mem) | exact lt_via (by with_reducible assumption) (by with_reducible assumption) (by k_mem)) | exact Nat.ne_of_lt (by first | with_reducible assumption | exact allLt_in (by with_reducible assumption) (by k_mem) | exact all_in (by with_reducible assumption) (by k_mem) | exact lt_via (by with_reducible assumption) (by with_reducible assumption) (by k_mem)) | exact ne_in (by with_reducible assumption) (by k_mem) | exact Ne.symm (ne_in (by with_reducible assumption) (by k_mem)) | exact off1_in (by with_reducible assumption) (by k_mem) | exact Ne.symm (off1_in (by with_reducible assumption) (by k_mem)) | ((show @Ne Nat _ _); (try dsimp only); omega))), ?_⟩)); exact List.forall_mem_nil _)); (case ivz8 => with_reducible assumption); (case ilz8 => (simp only [List.length_map, List.length_take]; omega)); (case k0z8 => omega); (case k1z8 => omega); (case m0z8 => omega); (case m1z8 => omega); (case kdz8 => (first | omega | ((try simp only [depth_deeper, depth_caller]); (try dsimp only [ktrTop]); omega) | ((try simp only [depth_under_make, depth_under_kw, depth_in1, depth_deeper, depth_caller]); (try dsimp only [ktrTop]); (try simp only [depth_under_make, depth_under_kw, depth_in1, depth_deeper, depth_caller]); omega)))); intro _ _ _ _ _ _ _ _ _ _; (try dsimp only); (try k_sweep))) | ((fail_if_success (with_reducible show Exists _)); (fail_if_success (with_reducible show LCg.FinA _ _ _ _ _ _ _ _)); (fail_if_success (with_reducible show KswEnd _ _ _ _ _ _ _ _ _ _ _ _)); (fail_if_success (with_reducible show wpAny _ _ (pyIter _) _ _ _)); (fail_if_success (with_reducible show wpAny _ _ (exec (Stmt.While _ _ _ _) _) _ _ _)); (fail_if_success (with_reducible show wpAny _ _ (exec (Stmt.Assign [Expr.Name _ _] (Expr.ListComp _ [⟨_, Expr.Tuple _ _ _, _, _⟩] _ _) _) _) _ _ _)); (first | (fail_if_success (with_reducible show wpAny _ _ (call (Value.ref _) _) _ _ _)) | (with_reducible show wpAny _ _ (call (Value.ref 98) _) _ _ _) | (with_reducible show wpAny _ _ (call (Value.ref 95) _) _ _ _) | (with_reducible show wpAny _ _ (call (Value.ref 88) _) _ _ _)); (first | walk1 | (dsimp only; walk1))) | (leave1; walk_say "STEP leave1"; try dsimp only) | fail "no step"))
    exact ⟨_, _, _, _, _, _, rfl, rfl, by assumption, by assumption, by assumption, by assumption, by assumption, by assumption, by assumption⟩
  intro D r0 r1 r2 ws0 ws1 ws2 zs0 zs1 zs2 k0 k1 k2 h tk F9 N9 oD lt0 d0 d1 d2 lt01 lt12 i0 i1 i2 e0 e1 e2
  obtain ⟨L0, v0, g0⟩ := e0
  obtain ⟨L1, v1, g1⟩ := e1
  obtain ⟨L2, v2, g2⟩ := e2
  have N8 := News.of4 N9
  clear N9
  have oD9 := oD
  have lt9 := lt0
  simp only [LCg.Off1, AllLt, and_true] at oD lt0
  (try dsimp only at F9)
  (try dsimp only)
  (try k_sweep)
  (repeat' (first | (k_unfold; (try dsimp only)) | (k_end; wrow_close) | (first | (k_here; (with_reducible show wpAny _ _ (call (Value.ref 109) [Value.ref _, Value.ref _, Value.int _ _]) _ _ _); k_dflt (refine' call_mul ?kBz1 ?kFz1 ?kXz1 ?kNz1 ?kTz1 ?kKz1 ?kmz1 ?knz1 ?ivz1 ?iwz1 ?iLz1 ?jLz1 ?ilz1 ?jlz1 ?w1z1 ?w2z1 ?kdz1 ?_; (case kFz1 => k_asm); (case kNz1 => k_asm); (case kBz1 => k_asm); (case kXz1 => k_asm); (case kTz1 => k_asm); (case kKz1 => exact rfl); (case kmz1 => k_mem); (case knz1 => k_mem); (case ivz1 => with_reducible assumption); (case iwz1 => with_reducible assumption); (case iLz1 => with_reducible assumption); (case jLz1 => with_reducible assumption); (case ilz1 => omega); (case jlz1 => omega); (case w1z1 => omega); (case w2z1 => omega); (case kdz1 => (first | omega | ((try simp only [depth_deeper, depth_caller]); (try dsimp only [ktrTop]); omega) | ((try simp only [depth_under_make, depth_under_kw, depth_in1, depth_deeper, depth_caller]); (try dsimp only [ktrTop]); (try simp only [depth_under_make, depth_under_kw, depth_in1, depth_deeper, depth_caller]); omega)))); intro _ _ _ _ _ _ _ _ _ _ _ _ _; (try dsimp only); (try k_sweep)) | (k_here; (with_reducible show wpAny _ _ (call (Value.ref 53) [Value.ref _, Value.ref _, Value.int _ _]) _ _ _); k_dflt (refine' call_add ?kBz2 ?kFz2 ?kXz2 ?kNz2 ?kTz2 ?kKz2 ?kmz2 ?knz2 ?ivz2 ?iwz2 ?iLz2 ?jLz2 ?ilz2 ?jlz2 ?w1z2 ?w2z2 ?kdz2 ?_; (case kFz2 => k_asm); (case kNz2 => k_asm); (case kBz2 => k_asm); (case kXz2 => k_asm); (case kTz2 => k_asm); (case kKz2 => exact rfl); (case kmz2 => k_mem); (case knz2 => k_mem); (case ivz2 => with_reducible assumption); (case iwz2 => with_reducible assumption); (case iLz2 => with_reducible assumption); (case jLz2 => with_reducible assumption); (case ilz2 => omega); (case jlz2 => omega); (case w1z2 => omega); (case w2z2 => omega); (case kdz2 => (first | omega | ((try simp only [depth_deeper, depth_caller]); (try dsimp only [ktrTop]); omega) | ((try simp only [depth_under_make, depth_under_kw, depth_in1, depth_deeper, depth_caller]); (try dsimp only [ktrTop]); (try simp only [depth_under_make, depth_under_kw, depth_in1, depth_deeper, depth_caller]); omega)))); intro _ _ _ _ _ _ _ _ _ _ _ _ _; (try dsimp only); (try k_sweep)) | (k_here; (with_reducible show wpAny _ _ (call (Value.ref 60) [Value.ref _, Value.int _ _, Value.int _ _]) _ _ _); k_dflt (refine' call_shr ?kBz3 ?kFz3 ?kXz3 ?kNz3 ?kTz3 ?kKz3 ?kmz3 ?ivz3 ?iLz3 ?ilz3 ?w1z3 ?w2z3 ?n1z3 ?n2z3 ?kdz3 ?_; (case kFz3 => k_asm); (case kNz3 => k_asm); (case kBz3 => k_asm); (case kXz3 => k_asm); (case kTz3 => k_asm); (case kKz3 => exact rfl); (case kmz3 => k_mem); (case ivz3 => with_reducible assumption); (case iLz3 => with_reducible assumption); (case ilz3 => omega); (case w1z3 => omega); (case w2z3 => omega); (case n1z3 => omega); (case n2z3 => omega); (case kdz3 => (first | omega | ((try simp only [depth_deeper, depth_caller]); (try dsimp only [ktrTop]); omega) | ((try simp only [depth_under_make, depth_under_kw, depth_in1, depth_deeper, depth_caller]); (try dsimp only [ktrTop]); (try simp only [depth_under_make, depth_under_kw, depth_in1, depth_deeper, depth_caller]); omega)))); intro _ _ _ _ _ _ _ _ _ _ _ _ _; (try dsimp only); (try k_sweep)) | (k_here; (with_reducible show wpAny _ _ (call (Value.ref 67) [Value.ref _, Value.int _ _, Value.int _ _]) _ _ _); k_dflt (refine' call_low ?kBz4 ?kFz4 ?kXz4 ?kNz4 ?kTz4 ?kKz4 ?kmz4 ?ivz4 ?iLz4 ?ilz4 ?w1z4 ?w2z4 ?n1z4 ?n2z4 ?kdz4 ?_; (case kFz4 => k_asm); (case kNz4 => k_asm); (case kBz4 => k_asm); (case kXz4 => k_asm); (case kTz4 => k_asm); (case kKz4 => exact rfl); (case kmz4 => k_mem); (case ivz4 => with_reducible assumption); (case iLz4 => with_reducible assumption); (case ilz4 => omega); (case w1z4 => omega); (case w2z4 => omega); (case n1z4 => omega); (case n2z4 => omega); (case kdz4 => (first | omega | ((try simp only [depth_deeper, depth_caller]); (try dsimp only [ktrTop]); omega) | ((try simp only [depth_under_make, depth_under_kw, depth_in1, depth_deeper, depth_caller]); (try dsimp only [ktrTop]); (try simp only [depth_under_make, depth_under_kw, depth_in1, depth_deeper, depth_caller]); omega)))); intro _ _ _ _ _ _ _ _ _ _ _ _ _; (try dsimp only); (try k_sweep)) | (k_here; (with_reducible show wpAny _ _ (call (Value.ref 128) [Value.ref _, Value.int _ _]) _ _ _); k_dflt (refine' call_number ?kBz5 ?kFz5 ?kXz5 ?kNz5 ?kTz5 ?kKz5 ?kmz5 ?ivz5 ?iLz5 ?ilz5 ?w1z5 ?w2z5 ?kdz5 ?_; (case kFz5 => k_asm); (case kNz5 => k_asm); (case kBz5 => k_asm); (case kXz5 => k_asm); (case kTz5 => k_asm); (case kKz5 => exact rfl); (case kmz5 => k_mem); (case ivz5 => with_reducible assumption); (case iLz5 => with_reducible assumption); (case ilz5 => omega); (case w1z5 => omega); (case w2z5 => omega); (case kdz5 => (first | omega | ((try simp only [depth_deeper, depth_caller]); (try dsimp only [ktrTop]); omega) | ((try simp only [depth_under_make, depth_under_kw, depth_in1, depth_deeper, depth_caller]); (try dsimp only [ktrTop]); (try simp only [depth_under_make, depth_under_kw, depth_in1, depth_deeper, depth_caller]); omega)))); intro _ _ _ _ _; (try dsimp only); (try k_sweep)) | (k_here; (with_reducible show wpAny _ _ (call (Value.ref 123) [Value.int _ _, Value.int _ _]) _ _ _); k_dflt (refine' call_limbs ?kBz6 ?kFz6 ?kXz6 ?kNz6 ?kTz6 ?kKz6 ?w1z6 ?w2z6 ?n1z6 ?n2z6 ?kdz6 ?_; (case kFz6 => k_asm); (case kNz6 => k_asm); (case kBz6 => k_asm); (case kXz6 => k_asm); (case kTz6 => k_asm); (case kKz6 => exact rfl); (case w1z6 => omega); (case w2z6 => omega); (case n1z6 => omega); (case n2z6 => omega); (case kdz6 => (first | omega | ((try simp only [depth_deeper, depth_caller]); (try dsimp only [ktrTop]); omega) | ((try simp only [depth_under_make, depth_under_kw, depth_in1, depth_deeper, depth_caller]); (try dsimp only [ktrTop]); (try simp only [depth_under_make, depth_under_kw, depth_in1, depth_deeper, depth_caller]); omega)))); intro _ _ _ _ _ _ _ _ _ _ _ _ _; (try dsimp only); (try k_sweep)) | (k_here; (with_reducible show wpAny _ _ (call (Value.ref 116) [Value.ref _, Value.int _ _]) _ _ _); k_dflt (refine' call_spun ?kBz7 ?kFz7 ?kXz7 ?kNz7 ?kTz7 ?kKz7 rfl ?lbz7 ?apz7 ?ivz7 ?ilz7 ?k0z7 ?k1z7 ?m0z7 ?m1z7 ?kdz7 ?_; (case kFz7 => k_asm); (case kNz7 => k_asm); (case kBz7 => k_asm); (case kXz7 => k_asm); (case kTz7 => k_asm); (case kKz7 => exact rfl); (case lbz7 => (first | (first | with_reducible assumption | exact allLt_in (by with_reducible assumption) (by k_mem) | exact all_in (by with_reducible assumption) (by k_mem) | exact lt_via (by with_reducible assumption) (by with_reducible assumption) (by k_mem) | ((show @LT.lt Nat _ _ _); omega)) | ((show @LT.lt Nat _ _ _); omega))); (case apz7 => ((repeat (refine List.forall_mem_cons.mpr ⟨by ((try dsimp only); (first | with_reducible assumption | exact Ne.symm (by with_reducible assumption) | exact Nat.ne_of_gt (by first | with_reducible assumption | exact allLt_in (by with_reducible assumption) (by k_mem) | exact all_in (by with_reducible assumption) (by k_mem) | exact lt_via (by with_reducible assumption) (by with_reducible assumption) (by k_mem)) | exact Nat.ne_of_lt (by first | with_reducible assumption | exact allLt_in (by with_reducible assumption) (by k_mem) | exact all_in (by with_reducible assumption) (by k_mem) | exact lt_via (by with_reducible assumption) (by with_reducible assumption) (by k_mem)) | exact ne_in (by with_reducible assumption) (by k_mem) | exact Ne.symm (ne_in (by with_reducible assumption) (by k_mem)) | exact off1_in (by with_reducible assumption) (by k_mem) | exact Ne.symm (off1_in (by with_reducible assumption) (by k_mem)) | ((show @Ne Nat _ _); (try dsimp only); omega))), ?_⟩)); exact List.forall_mem_nil _)); (case ivz7 => with_reducible assumption); (case ilz7 => (simp only [List.length_map, List.length_take]; omega)); (case k0z7 => omega); (case k1z7 => omega); (case m0z7 => omega); (case m1z7 => omega); (case kdz7 => (first | omega | ((try simp only [depth_deeper, depth_caller]); (try dsimp only [ktrTop]); omega) | ((try simp only [depth_under_make, depth_under_kw, depth_in1, depth_deeper, depth_caller]); (try dsimp only [ktrTop]); (try simp only [depth_under_make, depth_under_kw, depth_in1, depth_deeper, depth_caller]); omega)))); intro _ _ _ _ _ _ _ _ _ _; (try dsimp only); (try k_sweep)) | (k_here; (with_reducible show wpAny _ _ (call (Value.ref 116) [Value.ref _, Value.int _ _]) _ _ _); k_dflt (refine' spun_at1 ?kBz8 ?kFz8 ?kXz8 ?kNz8 ?kTz8 ?kKz8 ?lbz8 ?axz8 ?apz8 ?ivz8 ?ilz8 ?k0z8 ?k1z8 ?m0z8 ?m1z8 ?kdz8 ?_; (case kFz8 => k_asm); (case kNz8 => k_asm); (case kBz8 => k_asm); (case kXz8 => k_asm); (case kTz8 => k_asm); (case kKz8 => exact rfl); (case axz8 => ((try dsimp only); (first | with_reducible assumption | exact Ne.symm (by with_reducible assumption) | exact Nat.ne_of_gt (by first | with_reducible assumption | exact allLt_in (by with_reducible assumption) (by k_mem) | exact all_in (by with_reducible assumption) (by k_mem) | exact lt_via (by with_reducible assumption) (by with_reducible assumption) (by k_mem)) | exact Nat.ne_of_lt (by first | with_reducible assumption | exact allLt_in (by with_reducible assumption) (by k_mem) | exact all_in (by with_reducible assumption) (by k_mem) | exact lt_via (by with_reducible assumption) (by with_reducible assumption) (by k_mem)) | exact ne_in (by with_reducible assumption) (by k_mem) | exact Ne.symm (ne_in (by with_reducible assumption) (by k_mem)) | exact off1_in (by with_reducible assumption) (by k_mem) | exact Ne.symm (off1_in (by with_reducible assumption) (by k_mem)) | ((show @Ne Nat _ _); (try dsimp only); omega)))); (case lbz8 => (first | (first | with_reducible assumption | exact allLt_in (by with_reducible assumption) (by k_mem) | exact all_in (by with_reducible assumption) (by k_mem) | exact lt_via (by with_reducible assumption) (by with_reducible assumption) (by k_mem) | ((show @LT.lt Nat _ _ _); omega)) | ((show @LT.lt Nat _ _ _); omega))); (case apz8 => ((repeat (refine List.forall_mem_cons.mpr ⟨by ((try dsimp only); (first | with_reducible assumption | exact Ne.symm (by with_reducible assumption) | exact Nat.ne_of_gt (by first | with_reducible assumption | exact allLt_in (by with_reducible assumption) (by k_mem) | exact all_in (by with_reducible assumption) (by k_mem) | exact lt_via (by with_reducible assumption) (by with_reducible assumption) (by k_mem)) | exact Nat.ne_of_lt (by first | with_reducible assumption | exact allLt_in (by with_reducible assumption) (by k_mem) | exact all_in (by with_reducible assumption) (by k_mem) | exact lt_via (by with_reducible assumption) (by with_reducible assumption) (by k_mem)) | exact ne_in (by with_reducible assumption) (by k_mem) | exact Ne.symm (ne_in (by with_reducible assumption) (by k_mem)) | exact off1_in (by with_reducible assumption) (by k_mem) | exact Ne.symm (off1_in (by with_reducible assumption) (by k_mem)) | ((show @Ne Nat _ _); (try dsimp only); omega))), ?_⟩)); exact List.forall_mem_nil _)); (case ivz8 => with_reducible assumption); (case ilz8 => (simp only [List.length_map, List.length_take]; omega)); (case k0z8 => omega); (case k1z8 => omega); (case m0z8 => omega); (case m1z8 => omega); (case kdz8 => (first | omega | ((try simp only [depth_deeper, depth_caller]); (try dsimp only [ktrTop]); omega) | ((try simp only [depth_under_make, depth_under_kw, depth_in1, depth_deeper, depth_caller]); (try dsimp only [ktrTop]); (try simp only [depth_under_make, depth_under_kw, depth_in1, depth_deeper, depth_caller]); omega)))); intro _ _ _ _ _ _ _ _ _ _; (try dsimp only); (try k_sweep))) | ((fail_if_success (with_reducible show Exists _)); (fail_if_success (with_reducible show LCg.FinA _ _ _ _ _ _ _ _)); (fail_if_success (with_reducible show KswEnd _ _ _ _ _ _ _ _ _ _ _ _)); (fail_if_success (with_reducible show wpAny _ _ (pyIter _) _ _ _)); (fail_if_success (with_reducible show wpAny _ _ (exec (Stmt.While _ _ _ _) _) _ _ _)); (fail_if_success (with_reducible show wpAny _ _ (exec (Stmt.Assign [Expr.Name _ _] (Expr.ListComp _ [⟨_, Expr.Tuple _ _ _, _, _⟩] _ _) _) _) _ _ _)); (first | (fail_if_success (with_reducible show wpAny _ _ (call (Value.ref _) _) _ _ _)) | (with_reducible show wpAny _ _ (call (Value.ref 98) _) _ _ _) | (with_reducible show wpAny _ _ (call (Value.ref 95) _) _ _ _) | (with_reducible show wpAny _ _ (call (Value.ref 88) _) _ _ _)); (first | walk1 | (dsimp only; walk1))) | (leave1; walk_say "STEP leave1"; try dsimp only) | fail "no step"))
  rename IsRange _ _ _ _ _ _ _ _ => hrg
  rename Fr _ _ _ _ => F20
  rename News _ _ _ _ => N20
  rename val _ _ = Int.fmod _ _ => hb0
  have N21 := led_cut N20
  have hM : (4 : Int) ≤ 2 ^ wi.toNat ∧ (2 : Int) ^ wi.toNat ≤ 64 := by
    have : wi.toNat = 2 ∨ wi.toNat = 3 ∨ wi.toNat = 4 ∨ wi.toNat = 5 ∨ wi.toNat = 6 := by omega
    rcases this with h | h | h | h | h <;> rw [h] <;> decide
  have hfd : 1 ≤ wi - wi.fdiv 2 ∧ wi - wi.fdiv 2 ≤ 3 := by
    rw [Int.fdiv_eq_ediv_of_nonneg _ (by decide)]; omega
  obtain ⟨hfd1, hfd2⟩ := hfd
  rename_i z204q z203q z202q z201q z200q z199q z198q z197q z196q z195q z194q z193q z192q z191q z190q z189q z188q z187q z186q z185q z184q z183q z182q z181q z180q z179q z178q z177q z176q z175q z174q z173q z172q z171q z170q z169q z168q z167q z166q z165q z164q z163q z162q z161q z160q z159q z158q z157q z156q z155q z154q z153q z152q z151q z150q z149q z148q z147q z146q z145q z144q z143q z142q z141q z140q z139q z138q z137q z136q z135q z134q z133q z132q z131q z130q z129q z128q z127q z126q z125q z124q z123q z122q z121q z120q z119q z118q z117q z116q z115q z114q z113q z112q z111q z110q z109q z108q z107q z106q z105q z104q z103q z102q z101q z100q z99q z98q z97q z96q z95q z94q z93q z92q z91q z90q z89q z88q z87q z86q z85q z84q z83q z82q z81q z80q z79q z78q z77q z76q z75q z74q z73q z72q z71q z70q z69q z68q z67q z66q z65q z64q z63q z62q z61q z60q z59q z58q z57q z56q z55q z54q z53q z52q z51q z50q z49q z48q z47q z46q z45q z44q z43q z42q z41q z40q z39q z38q z37q z36q z35q z34q z33q z32q z31q z30q z29q z28q z27q z26q z25q z24q z23q z22q z21q z20q z19q z18q z17q z16q z15q z14q z13q z12q z11q z10q z9q z8q z7q z6q z5q z4q z3q z2q z1q
  revert z204q z203q z202q z201q z200q z199q z198q z197q z196q z195q z194q z193q z192q z191q z190q z189q z188q z187q z186q z185q z184q z183q z182q z181q z180q z179q z178q z177q z176q z175q z174q z173q z172q z171q z170q z169q z168q z167q z166q z165q z164q z163q z162q z161q z160q z159q z158q z157q z156q z155q z154q z153q z152q z151q z150q z149q z148q z147q z146q z145q z144q z143q z142q z141q z140q z139q z138q z137q z136q z135q ys z134q z133q z132q z131q z130q z129q z128q z127q z126q wv z125q z124q z123q z122q z121q nv z120q z119q z118q z117q z116q z115q z114q z113q z112q oW z111q z110q av z109q z108q z107q z106q z105q a0 a5 cv z104q z103q z102q z101q z100q c0 c5 bv z99q z98q z97q z96q z95q b0 b5 z94q z93q z92q z91q z90q z89q z88q wd dW wi hw1 hw2 hi1 hi2 z87q z86q z85q z84q X kX D r0 r1 r2 ws0 ws1 ws2 zs0 zs1 zs2 k0 k1 k2 h z83q d0 d1 d2 lt01 lt12 i0 i1 i2 L0 v0 g0 L1 v1 g1 L2 v2 g2 oD9 lt9 oD lt0 z82q z81q z80q z79q z78q z77q z76q z75q z74q z73q z72q z71q z70q z69q z68q z67q z66q lifted qk ek z65q z64q z63q z62q z61q z60q z59q z58q z57q z56q z55q z54q z53q z52q z51q z50q z49q z48q z47q z46q z45q z44q z43q z42q z41q z40q z39q z38q z37q z36q z35q z34q z33q z32q z31q z30q z29q z28q z27q z26q z25q z24q z23q z22q z21q z20q z19q z18q z17q z16q z15q z14q z13q z12q tk z11q z10q z9q z8q z7q hb0 z6q z5q z4q z3q z2q hrg F20 N20 z1q N21 hM hfd1 hfd2
  exact hNL.down)⟩
set_option maxHeartbeats 0 in
noncomputable def sT : { PQ : Prop × Prop // PLift PQ.1 → PLift PQ.2 → sL.1 } := ⟨(_, _), fun hNT hND => by
  intro _ _ _ _ _ _ _ _ _ _ _ _ _ _ _ _ _ _ _ _ _ _ _ _ _ _ _ _ _ _ _ _ _ _ _ _ _ _ _ _ _ _ _ _ _ _ _ _ _ _ _ _ _ _ _ _ _ _ _ _ _ _ _ _ _ _ _ _ _ _ ys _ _ _ _ _ _ _ _ _ wv _ _ _ _ _ nv _ _ _ _ _ _ _ _ _ oW _ _ av _ _ _ _ _ a0 a5 cv _ _ _ _ _ c0 c5 bv _ _ _ _ _ b0 b5 _ _ _ _ _ _ _ wd dW wi hw1 hw2 hi1 hi2 _ _ _ _ X kX D r0 r1 r2 ws0 ws1 ws2 zs0 zs1 zs2 k0 k1 k2 h _ d0 d1 d2 lt01 lt12 i0 i1 i2 L0 v0 g0 L1 v1 g1 L2 v2 g2 oD9 lt9 oD lt0 _ _ _ _ _ _ _ _ _ _ _ _ _ _ _ _ _ lifted qk ek _ _ _ _ _ _ _ _ _ _ _ _ _ _ _ _ _ _ _ _ _ _ _ _ _ _ _ _ _ _ _ _ _ _ _ _ _ _ _ _ _ _ _ _ _ _ _ _ _ _ _ _ _ _ tk _ _ _ _ _ hb0 _ _ _ _ _ hrg F20 N20 _ N21 hM hfd1 hfd2
  refine law_loop (n := ((2 : Int) ^ wi.toNat).toNat) (fun i zs => Lims (2 ^ wd.toNat) zs ∧ zs.length ≤ 2 ∧ val (2 ^ wd.toNat) zs = orb (2 ^ wi.toNat) av cv bv i) (fun i => (List.range i).map fun j => orb (2 ^ wi.toNat) av cv bv (j + 1)) (fun i => (List.range i).map fun j => orb (2 ^ wi.toNat) av cv bv (j + 1) / 2 ^ (wi - wi.fdiv 2).toNat) [Str.ofString "half", Str.ofString "bits_given", Str.ofString "turn"] rfl hrg (small_one (by omega) (by omega) (by omega) (by omega)) (by rw [rangeSize_nat]; omega) F20 N21 (by with_reducible assumption) .nil .nil ⟨by with_reducible assumption, by with_reducible assumption, ?_⟩ (by (first | with_reducible assumption | exact Ne.symm (by with_reducible assumption) | exact Nat.ne_of_gt (by first | with_reducible assumption | exact allLt_in (by with_reducible assumption) (by k_mem) | exact all_in (by with_reducible assumption) (by k_mem) | exact lt_via (by with_reducible assumption) (by with_reducible assumption) (by k_mem)) | exact Nat.ne_of_lt (by first | with_reducible assumption | exact allLt_in (by with_reducible assumption) (by k_mem) | exact all_in (by with_reducible assumption) (by k_mem) | exact lt_via (by with_reducible assumption) (by with_reducible assumption) (by k_mem)) | exact ne_in (by with_reducible assumption) (by k_mem) | exact Ne.symm (ne_in (by with_reducible assumption) (by k_mem)) | exact off1_in (by with_reducible assumption) (by k_mem) | exact Ne.symm (off1_in (by with_reducible assumption) (by k_mem)) | ((show @Ne Nat _ _); (try dsimp only); omega))) (by (first | with_reducible assumption | exact Ne.symm (by with_reducible assumption) | exact Nat.ne_of_gt (by first | with_reducible assumption | exact allLt_in (by with_reducible assumption) (by k_mem) | exact all_in (by with_reducible assumption) (by k_mem) | exact lt_via (by with_reducible assumption) (by with_reducible assumption) (by k_mem)) | exact Nat.ne_of_lt (by first | with_reducible assumption | exact allLt_in (by with_reducible assumption) (by k_mem) | exact all_in (by with_reducible assumption) (by k_mem) | exact lt_via (by with_reducible assumption) (by with_reducible assumption) (by k_mem)) | exact ne_in (by with_reducible assumption) (by k_mem) | exact Ne.symm (ne_in (by with_reducible assumption) (by k_mem)) | exact off1_in (by with_reducible assumption) (by k_mem) | exact Ne.symm (off1_in (by with_reducible assumption) (by k_mem)) | ((show @Ne Nat _ _); (try dsimp only); omega))) (by (first | with_reducible assumption | exact Ne.symm (by with_reducible assumption) | exact Nat.ne_of_gt (by first | with_reducible assumption | exact allLt_in (by with_reducible assumption) (by k_mem) | exact all_in (by with_reducible assumption) (by k_mem) | exact lt_via (by with_reducible assumption) (by with_reducible assumption) (by k_mem)) | exact Nat.ne_of_lt (by first | with_reducible assumption | exact allLt_in (by with_reducible assumption) (by k_mem) | exact all_in (by with_reducible assumption) (by k_mem) | exact lt_via (by with_reducible assumption) (by with_reducible assumption) (by k_mem)) | exact ne_in (by with_reducible assumption) (by k_mem) | exact Ne.symm (ne_in (by with_reducible assumption) (by k_mem)) | exact off1_in (by with_reducible assumption) (by k_mem) | exact Ne.symm (off1_in (by with_reducible assumption) (by k_mem)) | ((show @Ne Nat _ _); (try dsimp only); omega))) ?_ ?_
  · rw [hb0, Int.fmod_eq_emod_of_nonneg _ (by omega)]; rfl
  · intro i t u h tk I oI r ws wsS wsH kk kS kH zs hi hP I1 IS1 IH1 q1 q2 q3 hne F30 N30
    obtain ⟨hL, hl2, hv⟩ := hP
    clear F20 N20 N21
    have hi64 : i < 64 := by omega
    have hlS : wsS.length = i := by rw [IS1.length, List.length_map, List.length_range]
    have hlH : wsH.length = i := by rw [IH1.length, List.length_map, List.length_range]
    (try k_fold)
    rename_i z206q z205q z204q z203q z202q z201q z200q z199q z198q z197q z196q z195q z194q z193q z192q z191q z190q z189q z188q z187q z186q z185q z184q z183q z182q z181q z180q z179q z178q z177q z176q z175q z174q z173q z172q z171q z170q z169q z168q z167q z166q z165q z164q z163q z162q z161q z160q z159q z158q z157q z156q z155q z154q z153q z152q z151q z150q z149q z148q z147q z146q z145q z144q z143q z142q z141q z140q z139q z138q z137q z136q z135q z134q z133q z132q z131q z130q z129q z128q z127q z126q z125q z124q z123q z122q z121q z120q z119q z118q z117q z116q z115q z114q z113q z112q z111q z110q z109q z108q z107q z106q z105q z104q z103q z102q z101q z100q z99q z98q z97q z96q z95q z94q z93q z92q z91q z90q z89q z88q z87q z86q z85q z84q z83q z82q z81q z80q z79q z78q z77q z76q z75q z74q z73q z72q z71q z70q z69q z68q z67q z66q z65q z64q z63q z62q z61q z60q z59q z58q z57q z56q z55q z54q z53q z52q z51q z50q z49q z48q z47q z46q z45q z44q z43q z42q z41q z40q z39q z38q z37q z36q z35q z34q z33q z32q z31q z30q z29q z28q z27q z26q z25q z24q z23q z22q z21q z20q z19q z18q z17q z16q z15q z14q z13q z12q z11q z10q z9q z8q z7q z6q z5q z4q z3q z2q z1q
    revert z206q z205q z204q z203q z202q z201q z200q z199q z198q z197q z196q z195q z194q z193q z192q z191q z190q z189q z188q z187q z186q z185q z184q z183q z182q z181q z180q z179q z178q z177q z176q z175q z174q z173q z172q z171q z170q z169q z168q z167q z166q z165q z164q z163q z162q z161q z160q z159q z158q z157q z156q z155q z154q z153q z152q z151q z150q z149q z148q z147q z146q z145q z144q z143q z142q z141q z140q z139q z138q z137q ys z136q z135q z134q z133q z132q z131q z130q z129q z128q wv z127q z126q z125q z124q z123q nv z122q z121q z120q z119q z118q z117q z116q z115q z114q oW z113q z112q av z111q z110q z109q z108q z107q a0 a5 cv z106q z105q z104q z103q z102q c0 c5 bv z101q z100q z99q z98q z97q b0 b5 z96q z95q z94q z93q z92q z91q z90q wd dW wi hw1 hw2 hi1 hi2 z89q z88q z87q z86q X kX D r0 r1 r2 ws0 ws1 ws2 zs0 zs1 zs2 k0 k1 k2 z85q z84q d0 d1 d2 lt01 lt12 i0 i1 i2 L0 v0 g0 L1 v1 g1 L2 v2 g2 oD9 lt9 oD lt0 z83q z82q z81q z80q z79q z78q z77q z76q z75q z74q z73q z72q z71q z70q z69q z68q z67q lifted qk ek z66q z65q z64q z63q z62q z61q z60q z59q z58q z57q z56q z55q z54q z53q z52q z51q z50q z49q z48q z47q z46q z45q z44q z43q z42q z41q z40q z39q z38q z37q z36q z35q z34q z33q z32q z31q z30q z29q z28q z27q z26q z25q z24q z23q z22q z21q z20q z19q z18q z17q z16q z15q z14q z13q z12q z11q z10q z9q z8q z7q hb0 z6q z5q z4q z3q z2q hrg z1q hM hfd1 hfd2 i t u h tk I oI r ws wsS wsH kk kS kH zs hi I1 IS1 IH1 q1 q2 q3 hne F30 N30 hL hl2 hv hi64 hlS hlH
    exact hNT.down
  · intro u h tk r ws wsS wsH kk kS kH zs hP I1 IS1 IH1 q1 q2 q3 F30 N30
    rename_i z206q z205q z204q z203q z202q z201q z200q z199q z198q z197q z196q z195q z194q z193q z192q z191q z190q z189q z188q z187q z186q z185q z184q z183q z182q z181q z180q z179q z178q z177q z176q z175q z174q z173q z172q z171q z170q z169q z168q z167q z166q z165q z164q z163q z162q z161q z160q z159q z158q z157q z156q z155q z154q z153q z152q z151q z150q z149q z148q z147q z146q z145q z144q z143q z142q z141q z140q z139q z138q z137q z136q z135q z134q z133q z132q z131q z130q z129q z128q z127q z126q z125q z124q z123q z122q z121q z120q z119q z118q z117q z116q z115q z114q z113q z112q z111q z110q z109q z108q z107q z106q z105q z104q z103q z102q z101q z100q z99q z98q z97q z96q z95q z94q z93q z92q z91q z90q z89q z88q z87q z86q z85q z84q z83q z82q z81q z80q z79q z78q z77q z76q z75q z74q z73q z72q z71q z70q z69q z68q z67q z66q z65q z64q z63q z62q z61q z60q z59q z58q z57q z56q z55q z54q z53q z52q z51q z50q z49q z48q z47q z46q z45q z44q z43q z42q z41q z40q z39q z38q z37q z36q z35q z34q z33q z32q z31q z30q z29q z28q z27q z26q z25q z24q z23q z22q z21q z20q z19q z18q z17q z16q z15q z14q z13q z12q z11q z10q z9q z8q z7q z6q z5q z4q z3q z2q z1q
    revert z206q z205q z204q z203q z202q z201q z200q z199q z198q z197q z196q z195q z194q z193q z192q z191q z190q z189q z188q z187q z186q z185q z184q z183q z182q z181q z180q z179q z178q z177q z176q z175q z174q z173q z172q z171q z170q z169q z168q z167q z166q z165q z164q z163q z162q z161q z160q z159q z158q z157q z156q z155q z154q z153q z152q z151q z150q z149q z148q z147q z146q z145q z144q z143q z142q z141q z140q z139q z138q z137q ys z136q z135q z134q z133q z132q z131q z130q z129q z128q wv z127q z126q z125q z124q z123q nv z122q z121q z120q z119q z118q z117q z116q z115q z114q oW z113q z112q av z111q z110q z109q z108q z107q a0 a5 cv z106q z105q z104q z103q z102q c0 c5 bv z101q z100q z99q z98q z97q b0 b5 z96q z95q z94q z93q z92q z91q z90q wd dW wi hw1 hw2 hi1 hi2 z89q z88q z87q z86q X kX D r0 r1 r2 ws0 ws1 ws2 zs0 zs1 zs2 k0 k1 k2 z85q z84q d0 d1 d2 lt01 lt12 i0 i1 i2 L0 v0 g0 L1 v1 g1 L2 v2 g2 oD9 lt9 oD lt0 z83q z82q z81q z80q z79q z78q z77q z76q z75q z74q z73q z72q z71q z70q z69q z68q z67q lifted qk ek z66q z65q z64q z63q z62q z61q z60q z59q z58q z57q z56q z55q z54q z53q z52q z51q z50q z49q z48q z47q z46q z45q z44q z43q z42q z41q z40q z39q z38q z37q z36q z35q z34q z33q z32q z31q z30q z29q z28q z27q z26q z25q z24q z23q z22q z21q z20q z19q z18q z17q z16q z15q z14q z13q z12q z11q z10q z9q z8q z7q hb0 z6q z5q z4q z3q z2q hrg F20 N20 z1q N21 hM hfd1 hfd2 u h tk r ws wsS wsH kk kS kH zs hP I1 IS1 IH1 q1 q2 q3 F30 N30
    exact hND.down⟩
set_option maxHeartbeats 0 in
theorem s_turn : sT.1.1 := by
  intro _ _ _ _ _ _ _ _ _ _ _ _ _ _ _ _ _ _ _ _ _ _ _ _ _ _ _ _ _ _ _ _ _ _ _ _ _ _ _ _ _ _ _ _ _ _ _ _ _ _ _ _ _ _ _ _ _ _ _ _ _ _ _ _ _ _ _ _ _ _ ys _ _ _ _ _ _ _ _ _ wv _ _ _ _ _ nv _ _ _ _ _ _ _ _ _ oW _ _ av _ _ _ _ _ a0 a5 cv _ _ _ _ _ c0 c5 bv _ _ _ _ _ b0 b5 _ _ _ _ _ _ _ wd dW wi hw1 hw2 hi1 hi2 _ _ _ _ X kX D r0 r1 r2 ws0 ws1 ws2 zs0 zs1 zs2 k0 k1 k2 _ _ d0 d1 d2 lt01 lt12 i0 i1 i2 L0 v0 g0 L1 v1 g1 L2 v2 g2 oD9 lt9 oD lt0 _ _ _ _ _ _ _ _ _ _ _ _ _ _ _ _ _ lifted qk ek _ _ _ _ _ _ _ _ _ _ _ _ _ _ _ _ _ _ _ _ _ _ _ _ _ _ _ _ _ _ _ _ _ _ _ _ _ _ _ _ _ _ _ _ _ _ _ _ _ _ _ _ _ _ _ _ _ _ _ _ hb0 _ _ _ _ _ hrg _ hM hfd1 hfd2 i t u h tk I oI r ws wsS wsH kk kS kH zs hi I1 IS1 IH1 q1 q2 q3 hne F30 N30 hL hl2 hv hi64 hlS hlH
  have N31 := news_xd N30
  clear N30
  (repeat' (first | (k_unfold; (try dsimp only)) | (k_end; wrow_close) | (first | (k_here; (with_reducible show wpAny _ _ (call (Value.ref 109) [Value.ref _, Value.ref _, Value.int _ _]) _ _ _); k_dflt (refine' call_mul ?kBz1 ?kFz1 ?kXz1 ?kNz1 ?kTz1 ?kKz1 ?kmz1 ?knz1 ?ivz1 ?iwz1 ?iLz1 ?jLz1 ?ilz1 ?jlz1 ?w1z1 ?w2z1 ?kdz1 ?_; (case kFz1 => k_asm); (case kNz1 => k_asm); (case kBz1 => k_asm); (case kXz1 => k_asm); (case kTz1 => k_asm); (case kKz1 => exact rfl); (case kmz1 => k_mem); (case knz1 => k_mem); (case ivz1 => with_reducible assumption); (case iwz1 => with_reducible assumption); (case iLz1 => with_reducible assumption); (case jLz1 => with_reducible assumption); (case ilz1 => omega); (case jlz1 => omega); (case w1z1 => omega); (case w2z1 => omega); (case kdz1 => (first | omega | ((try simp only [depth_deeper, depth_caller]); (try dsimp only [ktrTop]); omega) | ((try simp only [depth_under_make, depth_under_kw, depth_in1, depth_deeper, depth_caller]); (try dsimp only [ktrTop]); (try simp only [depth_under_make, depth_under_kw, depth_in1, depth_deeper, depth_caller]); omega)))); intro _ _ _ _ _ _ _ _ _ _ _ _ _; (try dsimp only); (try k_sweep)) | (k_here; (with_reducible show wpAny _ _ (call (Value.ref 53) [Value.ref _, Value.ref _, Value.int _ _]) _ _ _); k_dflt (refine' call_add ?kBz2 ?kFz2 ?kXz2 ?kNz2 ?kTz2 ?kKz2 ?kmz2 ?knz2 ?ivz2 ?iwz2 ?iLz2 ?jLz2 ?ilz2 ?jlz2 ?w1z2 ?w2z2 ?kdz2 ?_; (case kFz2 => k_asm); (case kNz2 => k_asm); (case kBz2 => k_asm); (case kXz2 => k_asm); (case kTz2 => k_asm); (case kKz2 => exact rfl); (case kmz2 => k_mem); (case knz2 => k_mem); (case ivz2 => with_reducible assumption); (case iwz2 => with_reducible assumption); (case iLz2 => with_reducible assumption); (case jLz2 => with_reducible assumption); (case ilz2 => omega); (case jlz2 => omega); (case w1z2 => omega); (case w2z2 => omega); (case kdz2 => (first | omega | ((try simp only [depth_deeper, depth_caller]); (try dsimp only [ktrTop]); omega) | ((try simp only [depth_under_make, depth_under_kw, depth_in1, depth_deeper, depth_caller]); (try dsimp only [ktrTop]); (try simp only [depth_under_make, depth_under_kw, depth_in1, depth_deeper, depth_caller]); omega)))); intro _ _ _ _ _ _ _ _ _ _ _ _ _; (try dsimp only); (try k_sweep)) | (k_here; (with_reducible show wpAny _ _ (call (Value.ref 60) [Value.ref _, Value.int _ _, Value.int _ _]) _ _ _); k_dflt (refine' call_shr ?kBz3 ?kFz3 ?kXz3 ?kNz3 ?kTz3 ?kKz3 ?kmz3 ?ivz3 ?iLz3 ?ilz3 ?w1z3 ?w2z3 ?n1z3 ?n2z3 ?kdz3 ?_; (case kFz3 => k_asm); (case kNz3 => k_asm); (case kBz3 => k_asm); (case kXz3 => k_asm); (case kTz3 => k_asm); (case kKz3 => exact rfl); (case kmz3 => k_mem); (case ivz3 => with_reducible assumption); (case iLz3 => with_reducible assumption); (case ilz3 => omega); (case w1z3 => omega); (case w2z3 => omega); (case n1z3 => omega); (case n2z3 => omega); (case kdz3 => (first | omega | ((try simp only [depth_deeper, depth_caller]); (try dsimp only [ktrTop]); omega) | ((try simp only [depth_under_make, depth_under_kw, depth_in1, depth_deeper, depth_caller]); (try dsimp only [ktrTop]); (try simp only [depth_under_make, depth_under_kw, depth_in1, depth_deeper, depth_caller]); omega)))); intro _ _ _ _ _ _ _ _ _ _ _ _ _; (try dsimp only); (try k_sweep)) | (k_here; (with_reducible show wpAny _ _ (call (Value.ref 67) [Value.ref _, Value.int _ _, Value.int _ _]) _ _ _); k_dflt (refine' call_low ?kBz4 ?kFz4 ?kXz4 ?kNz4 ?kTz4 ?kKz4 ?kmz4 ?ivz4 ?iLz4 ?ilz4 ?w1z4 ?w2z4 ?n1z4 ?n2z4 ?kdz4 ?_; (case kFz4 => k_asm); (case kNz4 => k_asm); (case kBz4 => k_asm); (case kXz4 => k_asm); (case kTz4 => k_asm); (case kKz4 => exact rfl); (case kmz4 => k_mem); (case ivz4 => with_reducible assumption); (case iLz4 => with_reducible assumption); (case ilz4 => omega); (case w1z4 => omega); (case w2z4 => omega); (case n1z4 => omega); (case n2z4 => omega); (case kdz4 => (first | omega | ((try simp only [depth_deeper, depth_caller]); (try dsimp only [ktrTop]); omega) | ((try simp only [depth_under_make, depth_under_kw, depth_in1, depth_deeper, depth_caller]); (try dsimp only [ktrTop]); (try simp only [depth_under_make, depth_under_kw, depth_in1, depth_deeper, depth_caller]); omega)))); intro _ _ _ _ _ _ _ _ _ _ _ _ _; (try dsimp only); (try k_sweep)) | (k_here; (with_reducible show wpAny _ _ (call (Value.ref 128) [Value.ref _, Value.int _ _]) _ _ _); k_dflt (refine' call_number ?kBz5 ?kFz5 ?kXz5 ?kNz5 ?kTz5 ?kKz5 ?kmz5 ?ivz5 ?iLz5 ?ilz5 ?w1z5 ?w2z5 ?kdz5 ?_; (case kFz5 => k_asm); (case kNz5 => k_asm); (case kBz5 => k_asm); (case kXz5 => k_asm); (case kTz5 => k_asm); (case kKz5 => exact rfl); (case kmz5 => k_mem); (case ivz5 => with_reducible assumption); (case iLz5 => with_reducible assumption); (case ilz5 => omega); (case w1z5 => omega); (case w2z5 => omega); (case kdz5 => (first | omega | ((try simp only [depth_deeper, depth_caller]); (try dsimp only [ktrTop]); omega) | ((try simp only [depth_under_make, depth_under_kw, depth_in1, depth_deeper, depth_caller]); (try dsimp only [ktrTop]); (try simp only [depth_under_make, depth_under_kw, depth_in1, depth_deeper, depth_caller]); omega)))); intro _ _ _ _ _; (try dsimp only); (try k_sweep)) | (k_here; (with_reducible show wpAny _ _ (call (Value.ref 123) [Value.int _ _, Value.int _ _]) _ _ _); k_dflt (refine' call_limbs ?kBz6 ?kFz6 ?kXz6 ?kNz6 ?kTz6 ?kKz6 ?w1z6 ?w2z6 ?n1z6 ?n2z6 ?kdz6 ?_; (case kFz6 => k_asm); (case kNz6 => k_asm); (case kBz6 => k_asm); (case kXz6 => k_asm); (case kTz6 => k_asm); (case kKz6 => exact rfl); (case w1z6 => omega); (case w2z6 => omega); (case n1z6 => omega); (case n2z6 => omega); (case kdz6 => (first | omega | ((try simp only [depth_deeper, depth_caller]); (try dsimp only [ktrTop]); omega) | ((try simp only [depth_under_make, depth_under_kw, depth_in1, depth_deeper, depth_caller]); (try dsimp only [ktrTop]); (try simp only [depth_under_make, depth_under_kw, depth_in1, depth_deeper, depth_caller]); omega)))); intro _ _ _ _ _ _ _ _ _ _ _ _ _; (try dsimp only); (try k_sweep)) | (k_here; (with_reducible show wpAny _ _ (call (Value.ref 116) [Value.ref _, Value.int _ _]) _ _ _); k_dflt (refine' call_spun ?kBz7 ?kFz7 ?kXz7 ?kNz7 ?kTz7 ?kKz7 rfl ?lbz7 ?apz7 ?ivz7 ?ilz7 ?k0z7 ?k1z7 ?m0z7 ?m1z7 ?kdz7 ?_; (case kFz7 => k_asm); (case kNz7 => k_asm); (case kBz7 => k_asm); (case kXz7 => k_asm); (case kTz7 => k_asm); (case kKz7 => exact rfl); (case lbz7 => (first | (first | with_reducible assumption | exact allLt_in (by with_reducible assumption) (by k_mem) | exact all_in (by with_reducible assumption) (by k_mem) | exact lt_via (by with_reducible assumption) (by with_reducible assumption) (by k_mem) | ((show @LT.lt Nat _ _ _); omega)) | ((show @LT.lt Nat _ _ _); omega))); (case apz7 => ((repeat (refine List.forall_mem_cons.mpr ⟨by ((try dsimp only); (first | with_reducible assumption | exact Ne.symm (by with_reducible assumption) | exact Nat.ne_of_gt (by first | with_reducible assumption | exact allLt_in (by with_reducible assumption) (by k_mem) | exact all_in (by with_reducible assumption) (by k_mem) | exact lt_via (by with_reducible assumption) (by with_reducible assumption) (by k_mem)) | exact Nat.ne_of_lt (by first | with_reducible assumption | exact allLt_in (by with_reducible assumption) (by k_mem) | exact all_in (by with_reducible assumption) (by k_mem) | exact lt_via (by with_reducible assumption) (by with_reducible assumption) (by k_mem)) | exact ne_in (by with_reducible assumption) (by k_mem) | exact Ne.symm (ne_in (by with_reducible assumption) (by k_mem)) | exact off1_in (by with_reducible assumption) (by k_mem) | exact Ne.symm (off1_in (by with_reducible assumption) (by k_mem)) | ((show @Ne Nat _ _); (try dsimp only); omega))), ?_⟩)); exact List.forall_mem_nil _)); (case ivz7 => with_reducible assumption); (case ilz7 => (simp only [List.length_map, List.length_take]; omega)); (case k0z7 => omega); (case k1z7 => omega); (case m0z7 => omega); (case m1z7 => omega); (case kdz7 => (first | omega | ((try simp only [depth_deeper, depth_caller]); (try dsimp only [ktrTop]); omega) | ((try simp only [depth_under_make, depth_under_kw, depth_in1, depth_deeper, depth_caller]); (try dsimp only [ktrTop]); (try simp only [depth_under_make, depth_under_kw, depth_in1, depth_deeper, depth_caller]); omega)))); intro _ _ _ _ _ _ _ _ _ _; (try dsimp only); (try k_sweep)) | (k_here; (with_reducible show wpAny _ _ (call (Value.ref 116) [Value.ref _, Value.int _ _]) _ _ _); k_dflt (refine' spun_at1 ?kBz8 ?kFz8 ?kXz8 ?kNz8 ?kTz8 ?kKz8 ?lbz8 ?axz8 ?apz8 ?ivz8 ?ilz8 ?k0z8 ?k1z8 ?m0z8 ?m1z8 ?kdz8 ?_; (case kFz8 => k_asm); (case kNz8 => k_asm); (case kBz8 => k_asm); (case kXz8 => k_asm); (case kTz8 => k_asm); (case kKz8 => exact rfl); (case axz8 => ((try dsimp only); (first | with_reducible assumption | exact Ne.symm (by with_reducible assumption) | exact Nat.ne_of_gt (by first | with_reducible assumption | exact allLt_in (by with_reducible assumption) (by k_mem) | exact all_in (by with_reducible assumption) (by k_mem) | exact lt_via (by with_reducible assumption) (by with_reducible assumption) (by k_mem)) | exact Nat.ne_of_lt (by first | with_reducible assumption | exact allLt_in (by with_reducible assumption) (by k_mem) | exact all_in (by with_reducible assumption) (by k_mem) | exact lt_via (by with_reducible assumption) (by with_reducible assumption) (by k_mem)) | exact ne_in (by with_reducible assumption) (by k_mem) | exact Ne.symm (ne_in (by with_reducible assumption) (by k_mem)) | exact off1_in (by with_reducible assumption) (by k_mem) | exact Ne.symm (off1_in (by with_reducible assumption) (by k_mem)) | ((show @Ne Nat _ _); (try dsimp only); omega)))); (case lbz8 => (first | (first | with_reducible assumption | exact allLt_in (by with_reducible assumption) (by k_mem) | exact all_in (by with_reducible assumption) (by k_mem) | exact lt_via (by with_reducible assumption) (by with_reducible assumption) (by k_mem) | ((show @LT.lt Nat _ _ _); omega)) | ((show @LT.lt Nat _ _ _); omega))); (case apz8 => ((repeat (refine List.forall_mem_cons.mpr ⟨by ((try dsimp only); (first | with_reducible assumption | exact Ne.symm (by with_reducible assumption) | exact Nat.ne_of_gt (by first | with_reducible assumption | exact allLt_in (by with_reducible assumption) (by k_mem) | exact all_in (by with_reducible assumption) (by k_mem) | exact lt_via (by with_reducible assumption) (by with_reducible assumption) (by k_mem)) | exact Nat.ne_of_lt (by first | with_reducible assumption | exact allLt_in (by with_reducible assumption) (by k_mem) | exact all_in (by with_reducible assumption) (by k_mem) | exact lt_via (by with_reducible assumption) (by with_reducible assumption) (by k_mem)) | exact ne_in (by with_reducible assumption) (by k_mem) | exact Ne.symm (ne_in (by with_reducible assumption) (by k_mem)) | exact off1_in (by with_reducible assumption) (by k_mem) | exact Ne.symm (off1_in (by with_reducible assumption) (by k_mem)) | ((show @Ne Nat _ _); (try dsimp only); omega))), ?_⟩)); exact List.forall_mem_nil _)); (case ivz8 => with_reducible assumption); (case ilz8 => (simp only [List.length_map, List.length_take]; omega)); (case k0z8 => omega); (case k1z8 => omega); (case m0z8 => omega); (case m1z8 => omega); (case kdz8 => (first | omega | ((try simp only [depth_deeper, depth_caller]); (try dsimp only [ktrTop]); omega) | ((try simp only [depth_under_make, depth_under_kw, depth_in1, depth_deeper, depth_caller]); (try dsimp only [ktrTop]); (try simp only [depth_under_make, depth_under_kw, depth_in1, depth_deeper, depth_caller]); omega)))); intro _ _ _ _ _ _ _ _ _ _; (try dsimp only); (try k_sweep))) | ((fail_if_success (with_reducible show Exists _)); (fail_if_success (with_reducible show LCg.FinA _ _ _ _ _ _ _ _)); (fail_if_success (with_reducible show KswEnd _ _ _ _ _ _ _ _ _ _ _ _)); (fail_if_success (with_reducible show wpAny _ _ (pyIter _) _ _ _)); (fail_if_success (with_reducible show wpAny _ _ (exec (Stmt.While _ _ _ _) _) _ _ _)); (fail_if_success (with_reducible show wpAny _ _ (exec (Stmt.Assign [Expr.Name _ _] (Expr.ListComp _ [⟨_, Expr.Tuple _ _ _, _, _⟩] _ _) _) _) _ _ _)); (first | (fail_if_success (with_reducible show wpAny _ _ (call (Value.ref _) _) _ _ _)) | (with_reducible show wpAny _ _ (call (Value.ref 98) _) _ _ _)); (first | walk1 | (dsimp only; walk1))) | (leave1; walk_say "STEP leave1"; try dsimp only) | fail "no step"))
  rename News _ _ _ _ => N32
  rename Fr _ _ _ _ => F32
  refine' call_take ?kBt ?kFt ?kXt ?kNt ?kTt ?kKt rfl ?xdt ?odt ?rm ?am ?cm I1 i0 i1 hL L0 L1 hl2 g0 g1 hw1 hw2 hi1 hi2 ?kdt ?_
  case kFt => exact F32
  case kNt => exact N32
  case kBt => k_asm
  case kXt => k_asm
  case kTt => k_asm
  case kKt => exact rfl
  case xdt => (first | with_reducible assumption | exact Ne.symm (by with_reducible assumption) | exact Nat.ne_of_gt (by first | with_reducible assumption | exact allLt_in (by with_reducible assumption) (by k_mem) | exact all_in (by with_reducible assumption) (by k_mem) | exact lt_via (by with_reducible assumption) (by with_reducible assumption) (by k_mem)) | exact Nat.ne_of_lt (by first | with_reducible assumption | exact allLt_in (by with_reducible assumption) (by k_mem) | exact all_in (by with_reducible assumption) (by k_mem) | exact lt_via (by with_reducible assumption) (by with_reducible assumption) (by k_mem)) | exact ne_in (by with_reducible assumption) (by k_mem) | exact Ne.symm (ne_in (by with_reducible assumption) (by k_mem)) | exact off1_in (by with_reducible assumption) (by k_mem) | exact Ne.symm (off1_in (by with_reducible assumption) (by k_mem)) | ((show @Ne Nat _ _); (try dsimp only); omega))
  case odt => ((repeat (refine List.forall_mem_cons.mpr ⟨by ((try dsimp only); (first | with_reducible assumption | exact Ne.symm (by with_reducible assumption) | exact Nat.ne_of_gt (by first | with_reducible assumption | exact allLt_in (by with_reducible assumption) (by k_mem) | exact all_in (by with_reducible assumption) (by k_mem) | exact lt_via (by with_reducible assumption) (by with_reducible assumption) (by k_mem)) | exact Nat.ne_of_lt (by first | with_reducible assumption | exact allLt_in (by with_reducible assumption) (by k_mem) | exact all_in (by with_reducible assumption) (by k_mem) | exact lt_via (by with_reducible assumption) (by with_reducible assumption) (by k_mem)) | exact ne_in (by with_reducible assumption) (by k_mem) | exact Ne.symm (ne_in (by with_reducible assumption) (by k_mem)) | exact off1_in (by with_reducible assumption) (by k_mem) | exact Ne.symm (off1_in (by with_reducible assumption) (by k_mem)) | ((show @Ne Nat _ _); (try dsimp only); omega))), ?_⟩)); exact List.forall_mem_nil _)
  case rm => k_mem
  case am => k_mem
  case cm => k_mem
  case kdt => (first | omega | ((try simp only [depth_deeper, depth_caller]); (try dsimp only [ktrTop]); omega) | ((try simp only [depth_under_make, depth_under_kw, depth_in1, depth_deeper, depth_caller]); (try dsimp only [ktrTop]); (try simp only [depth_under_make, depth_under_kw, depth_in1, depth_deeper, depth_caller]); omega))
  clear F32 N32
  (try clear N31)
  (try clear F30)
  intro _ _ _ _ _ _ _ _ _ _ _ _ _ _ _ _ _ _ _ hv1 _ _ _ hv2 _
  (try dsimp only)
  (try k_sweep)
  (repeat' (first | (k_unfold; (try dsimp only)) | (k_end; wrow_close) | (first | (k_here; (with_reducible show wpAny _ _ (call (Value.ref 109) [Value.ref _, Value.ref _, Value.int _ _]) _ _ _); k_dflt (refine' call_mul ?kBz1 ?kFz1 ?kXz1 ?kNz1 ?kTz1 ?kKz1 ?kmz1 ?knz1 ?ivz1 ?iwz1 ?iLz1 ?jLz1 ?ilz1 ?jlz1 ?w1z1 ?w2z1 ?kdz1 ?_; (case kFz1 => k_asm); (case kNz1 => k_asm); (case kBz1 => k_asm); (case kXz1 => k_asm); (case kTz1 => k_asm); (case kKz1 => exact rfl); (case kmz1 => k_mem); (case knz1 => k_mem); (case ivz1 => with_reducible assumption); (case iwz1 => with_reducible assumption); (case iLz1 => with_reducible assumption); (case jLz1 => with_reducible assumption); (case ilz1 => omega); (case jlz1 => omega); (case w1z1 => omega); (case w2z1 => omega); (case kdz1 => (first | omega | ((try simp only [depth_deeper, depth_caller]); (try dsimp only [ktrTop]); omega) | ((try simp only [depth_under_make, depth_under_kw, depth_in1, depth_deeper, depth_caller]); (try dsimp only [ktrTop]); (try simp only [depth_under_make, depth_under_kw, depth_in1, depth_deeper, depth_caller]); omega)))); intro _ _ _ _ _ _ _ _ _ _ _ _ _; (try dsimp only); (try k_sweep)) | (k_here; (with_reducible show wpAny _ _ (call (Value.ref 53) [Value.ref _, Value.ref _, Value.int _ _]) _ _ _); k_dflt (refine' call_add ?kBz2 ?kFz2 ?kXz2 ?kNz2 ?kTz2 ?kKz2 ?kmz2 ?knz2 ?ivz2 ?iwz2 ?iLz2 ?jLz2 ?ilz2 ?jlz2 ?w1z2 ?w2z2 ?kdz2 ?_; (case kFz2 => k_asm); (case kNz2 => k_asm); (case kBz2 => k_asm); (case kXz2 => k_asm); (case kTz2 => k_asm); (case kKz2 => exact rfl); (case kmz2 => k_mem); (case knz2 => k_mem); (case ivz2 => with_reducible assumption); (case iwz2 => with_reducible assumption); (case iLz2 => with_reducible assumption); (case jLz2 => with_reducible assumption); (case ilz2 => omega); (case jlz2 => omega); (case w1z2 => omega); (case w2z2 => omega); (case kdz2 => (first | omega | ((try simp only [depth_deeper, depth_caller]); (try dsimp only [ktrTop]); omega) | ((try simp only [depth_under_make, depth_under_kw, depth_in1, depth_deeper, depth_caller]); (try dsimp only [ktrTop]); (try simp only [depth_under_make, depth_under_kw, depth_in1, depth_deeper, depth_caller]); omega)))); intro _ _ _ _ _ _ _ _ _ _ _ _ _; (try dsimp only); (try k_sweep)) | (k_here; (with_reducible show wpAny _ _ (call (Value.ref 60) [Value.ref _, Value.int _ _, Value.int _ _]) _ _ _); k_dflt (refine' call_shr ?kBz3 ?kFz3 ?kXz3 ?kNz3 ?kTz3 ?kKz3 ?kmz3 ?ivz3 ?iLz3 ?ilz3 ?w1z3 ?w2z3 ?n1z3 ?n2z3 ?kdz3 ?_; (case kFz3 => k_asm); (case kNz3 => k_asm); (case kBz3 => k_asm); (case kXz3 => k_asm); (case kTz3 => k_asm); (case kKz3 => exact rfl); (case kmz3 => k_mem); (case ivz3 => with_reducible assumption); (case iLz3 => with_reducible assumption); (case ilz3 => omega); (case w1z3 => omega); (case w2z3 => omega); (case n1z3 => omega); (case n2z3 => omega); (case kdz3 => (first | omega | ((try simp only [depth_deeper, depth_caller]); (try dsimp only [ktrTop]); omega) | ((try simp only [depth_under_make, depth_under_kw, depth_in1, depth_deeper, depth_caller]); (try dsimp only [ktrTop]); (try simp only [depth_under_make, depth_under_kw, depth_in1, depth_deeper, depth_caller]); omega)))); intro _ _ _ _ _ _ _ _ _ _ _ _ _; (try dsimp only); (try k_sweep)) | (k_here; (with_reducible show wpAny _ _ (call (Value.ref 67) [Value.ref _, Value.int _ _, Value.int _ _]) _ _ _); k_dflt (refine' call_low ?kBz4 ?kFz4 ?kXz4 ?kNz4 ?kTz4 ?kKz4 ?kmz4 ?ivz4 ?iLz4 ?ilz4 ?w1z4 ?w2z4 ?n1z4 ?n2z4 ?kdz4 ?_; (case kFz4 => k_asm); (case kNz4 => k_asm); (case kBz4 => k_asm); (case kXz4 => k_asm); (case kTz4 => k_asm); (case kKz4 => exact rfl); (case kmz4 => k_mem); (case ivz4 => with_reducible assumption); (case iLz4 => with_reducible assumption); (case ilz4 => omega); (case w1z4 => omega); (case w2z4 => omega); (case n1z4 => omega); (case n2z4 => omega); (case kdz4 => (first | omega | ((try simp only [depth_deeper, depth_caller]); (try dsimp only [ktrTop]); omega) | ((try simp only [depth_under_make, depth_under_kw, depth_in1, depth_deeper, depth_caller]); (try dsimp only [ktrTop]); (try simp only [depth_under_make, depth_under_kw, depth_in1, depth_deeper, depth_caller]); omega)))); intro _ _ _ _ _ _ _ _ _ _ _ _ _; (try dsimp only); (try k_sweep)) | (k_here; (with_reducible show wpAny _ _ (call (Value.ref 128) [Value.ref _, Value.int _ _]) _ _ _); k_dflt (refine' call_number ?kBz5 ?kFz5 ?kXz5 ?kNz5 ?kTz5 ?kKz5 ?kmz5 ?ivz5 ?iLz5 ?ilz5 ?w1z5 ?w2z5 ?kdz5 ?_; (case kFz5 => k_asm); (case kNz5 => k_asm); (case kBz5 => k_asm); (case kXz5 => k_asm); (case kTz5 => k_asm); (case kKz5 => exact rfl); (case kmz5 => k_mem); (case ivz5 => with_reducible assumption); (case iLz5 => with_reducible assumption); (case ilz5 => omega); (case w1z5 => omega); (case w2z5 => omega); (case kdz5 => (first | omega | ((try simp only [depth_deeper, depth_caller]); (try dsimp only [ktrTop]); omega) | ((try simp only [depth_under_make, depth_under_kw, depth_in1, depth_deeper, depth_caller]); (try dsimp only [ktrTop]); (try simp only [depth_under_make, depth_under_kw, depth_in1, depth_deeper, depth_caller]); omega)))); intro _ _ _ _ _; (try dsimp only); (try k_sweep)) | (k_here; (with_reducible show wpAny _ _ (call (Value.ref 123) [Value.int _ _, Value.int _ _]) _ _ _); k_dflt (refine' call_limbs ?kBz6 ?kFz6 ?kXz6 ?kNz6 ?kTz6 ?kKz6 ?w1z6 ?w2z6 ?n1z6 ?n2z6 ?kdz6 ?_; (case kFz6 => k_asm); (case kNz6 => k_asm); (case kBz6 => k_asm); (case kXz6 => k_asm); (case kTz6 => k_asm); (case kKz6 => exact rfl); (case w1z6 => omega); (case w2z6 => omega); (case n1z6 => omega); (case n2z6 => omega); (case kdz6 => (first | omega | ((try simp only [depth_deeper, depth_caller]); (try dsimp only [ktrTop]); omega) | ((try simp only [depth_under_make, depth_under_kw, depth_in1, depth_deeper, depth_caller]); (try dsimp only [ktrTop]); (try simp only [depth_under_make, depth_under_kw, depth_in1, depth_deeper, depth_caller]); omega)))); intro _ _ _ _ _ _ _ _ _ _ _ _ _; (try dsimp only); (try k_sweep)) | (k_here; (with_reducible show wpAny _ _ (call (Value.ref 116) [Value.ref _, Value.int _ _]) _ _ _); k_dflt (refine' call_spun ?kBz7 ?kFz7 ?kXz7 ?kNz7 ?kTz7 ?kKz7 rfl ?lbz7 ?apz7 ?ivz7 ?ilz7 ?k0z7 ?k1z7 ?m0z7 ?m1z7 ?kdz7 ?_; (case kFz7 => k_asm); (case kNz7 => k_asm); (case kBz7 => k_asm); (case kXz7 => k_asm); (case kTz7 => k_asm); (case kKz7 => exact rfl); (case lbz7 => (first | (first | with_reducible assumption | exact allLt_in (by with_reducible assumption) (by k_mem) | exact all_in (by with_reducible assumption) (by k_mem) | exact lt_via (by with_reducible assumption) (by with_reducible assumption) (by k_mem) | ((show @LT.lt Nat _ _ _); omega)) | ((show @LT.lt Nat _ _ _); omega))); (case apz7 => ((repeat (refine List.forall_mem_cons.mpr ⟨by ((try dsimp only); (first | with_reducible assumption | exact Ne.symm (by with_reducible assumption) | exact Nat.ne_of_gt (by first | with_reducible assumption | exact allLt_in (by with_reducible assumption) (by k_mem) | exact all_in (by with_reducible assumption) (by k_mem) | exact lt_via (by with_reducible assumption) (by with_reducible assumption) (by k_mem)) | exact Nat.ne_of_lt (by first | with_reducible assumption | exact allLt_in (by with_reducible assumption) (by k_mem) | exact all_in (by with_reducible assumption) (by k_mem) | exact lt_via (by with_reducible assumption) (by with_reducible assumption) (by k_mem)) | exact ne_in (by with_reducible assumption) (by k_mem) | exact Ne.symm (ne_in (by with_reducible assumption) (by k_mem)) | exact off1_in (by with_reducible assumption) (by k_mem) | exact Ne.symm (off1_in (by with_reducible assumption) (by k_mem)) | ((show @Ne Nat _ _); (try dsimp only); omega))), ?_⟩)); exact List.forall_mem_nil _)); (case ivz7 => with_reducible assumption); (case ilz7 => (simp only [List.length_map, List.length_take]; omega)); (case k0z7 => omega); (case k1z7 => omega); (case m0z7 => omega); (case m1z7 => omega); (case kdz7 => (first | omega | ((try simp only [depth_deeper, depth_caller]); (try dsimp only [ktrTop]); omega) | ((try simp only [depth_under_make, depth_under_kw, depth_in1, depth_deeper, depth_caller]); (try dsimp only [ktrTop]); (try simp only [depth_under_make, depth_under_kw, depth_in1, depth_deeper, depth_caller]); omega)))); intro _ _ _ _ _ _ _ _ _ _; (try dsimp only); (try k_sweep)) | (k_here; (with_reducible show wpAny _ _ (call (Value.ref 116) [Value.ref _, Value.int _ _]) _ _ _); k_dflt (refine' spun_at1 ?kBz8 ?kFz8 ?kXz8 ?kNz8 ?kTz8 ?kKz8 ?lbz8 ?axz8 ?apz8 ?ivz8 ?ilz8 ?k0z8 ?k1z8 ?m0z8 ?m1z8 ?kdz8 ?_; (case kFz8 => k_asm); (case kNz8 => k_asm); (case kBz8 => k_asm); (case kXz8 => k_asm); (case kTz8 => k_asm); (case kKz8 => exact rfl); (case axz8 => ((try dsimp only); (first | with_reducible assumption | exact Ne.symm (by with_reducible assumption) | exact Nat.ne_of_gt (by first | with_reducible assumption | exact allLt_in (by with_reducible assumption) (by k_mem) | exact all_in (by with_reducible assumption) (by k_mem) | exact lt_via (by with_reducible assumption) (by with_reducible assumption) (by k_mem)) | exact Nat.ne_of_lt (by first | with_reducible assumption | exact allLt_in (by with_reducible assumption) (by k_mem) | exact all_in (by with_reducible assumption) (by k_mem) | exact lt_via (by with_reducible assumption) (by with_reducible assumption) (by k_mem)) | exact ne_in (by with_reducible assumption) (by k_mem) | exact Ne.symm (ne_in (by with_reducible assumption) (by k_mem)) | exact off1_in (by with_reducible assumption) (by k_mem) | exact Ne.symm (off1_in (by with_reducible assumption) (by k_mem)) | ((show @Ne Nat _ _); (try dsimp only); omega)))); (case lbz8 => (first | (first | with_reducible assumption | exact allLt_in (by with_reducible assumption) (by k_mem) | exact all_in (by with_reducible assumption) (by k_mem) | exact lt_via (by with_reducible assumption) (by with_reducible assumption) (by k_mem) | ((show @LT.lt Nat _ _ _); omega)) | ((show @LT.lt Nat _ _ _); omega))); (case apz8 => ((repeat (refine List.forall_mem_cons.mpr ⟨by ((try dsimp only); (first | with_reducible assumption | exact Ne.symm (by with_reducible assumption) | exact Nat.ne_of_gt (by first | with_reducible assumption | exact allLt_in (by with_reducible assumption) (by k_mem) | exact all_in (by with_reducible assumption) (by k_mem) | exact lt_via (by with_reducible assumption) (by with_reducible assumption) (by k_mem)) | exact Nat.ne_of_lt (by first | with_reducible assumption | exact allLt_in (by with_reducible assumption) (by k_mem) | exact all_in (by with_reducible assumption) (by k_mem) | exact lt_via (by with_reducible assumption) (by with_reducible assumption) (by k_mem)) | exact ne_in (by with_reducible assumption) (by k_mem) | exact Ne.symm (ne_in (by with_reducible assumption) (by k_mem)) | exact off1_in (by with_reducible assumption) (by k_mem) | exact Ne.symm (off1_in (by with_reducible assumption) (by k_mem)) | ((show @Ne Nat _ _); (try dsimp only); omega))), ?_⟩)); exact List.forall_mem_nil _)); (case ivz8 => with_reducible assumption); (case ilz8 => (simp only [List.length_map, List.length_take]; omega)); (case k0z8 => omega); (case k1z8 => omega); (case m0z8 => omega); (case m1z8 => omega); (case kdz8 => (first | omega | ((try simp only [depth_deeper, depth_caller]); (try dsimp only [ktrTop]); omega) | ((try simp only [depth_under_make, depth_under_kw, depth_in1, depth_deeper, depth_caller]); (try dsimp only [ktrTop]); (try simp only [depth_under_make, depth_under_kw, depth_in1, depth_deeper, depth_caller]); omega)))); intro _ _ _ _ _ _ _ _ _ _; (try dsimp only); (try k_sweep))) | ((fail_if_success (with_reducible show Exists _)); (fail_if_success (with_reducible show LCg.FinA _ _ _ _ _ _ _ _)); (fail_if_success (with_reducible show KswEnd _ _ _ _ _ _ _ _ _ _ _ _)); (fail_if_success (with_reducible show wpAny _ _ (pyIter _) _ _ _)); (fail_if_success (with_reducible show wpAny _ _ (exec (Stmt.While _ _ _ _) _) _ _ _)); (fail_if_success (with_reducible show wpAny _ _ (exec (Stmt.Assign [Expr.Name _ _] (Expr.ListComp _ [⟨_, Expr.Tuple _ _ _, _, _⟩] _ _) _) _) _ _ _)); (first | (fail_if_success (with_reducible show wpAny _ _ (call (Value.ref _) _) _ _ _)) | (with_reducible show wpAny _ _ (call (Value.ref 98) _) _ _ _) | (with_reducible show wpAny _ _ (call (Value.ref 95) _) _ _ _) | (with_reducible show wpAny _ _ (call (Value.ref 88) _) _ _ _)); (first | walk1 | (dsimp only; walk1))) | (leave1; walk_say "STEP leave1"; try dsimp only) | fail "no step"))
  · rename wi.fdiv 2 ≠ wi.fdiv 2 => hx
    exact absurd rfl hx
  · rename 2 ^ (wi.fdiv 2).toNat ≤ _ => hx
    exact absurd hx (Int.not_le.mpr (half_lt hi1 hi2 hv2 hv1))
  rename Fr _ _ _ _ => Fz
  rename News _ _ _ _ => Nz
  have hx := hv1.trans (show _ = orb (2 ^ wi.toNat) av cv bv (i + 1) by rw [hv, v0, v1]; rfl)
  rw [hx] at hv2
  refine end_turn rfl Fz Nz (by with_reducible assumption) ⟨by with_reducible assumption, by with_reducible assumption, hx⟩ ?a1 ?a2 (by (first | with_reducible assumption | exact Ne.symm (by with_reducible assumption) | exact Nat.ne_of_gt (by first | with_reducible assumption | exact allLt_in (by with_reducible assumption) (by k_mem) | exact all_in (by with_reducible assumption) (by k_mem) | exact lt_via (by with_reducible assumption) (by with_reducible assumption) (by k_mem)) | exact Nat.ne_of_lt (by first | with_reducible assumption | exact allLt_in (by with_reducible assumption) (by k_mem) | exact all_in (by with_reducible assumption) (by k_mem) | exact lt_via (by with_reducible assumption) (by with_reducible assumption) (by k_mem)) | exact ne_in (by with_reducible assumption) (by k_mem) | exact Ne.symm (ne_in (by with_reducible assumption) (by k_mem)) | exact off1_in (by with_reducible assumption) (by k_mem) | exact Ne.symm (off1_in (by with_reducible assumption) (by k_mem)) | ((show @Ne Nat _ _); (try dsimp only); omega))) (by (first | with_reducible assumption | exact Ne.symm (by with_reducible assumption) | exact Nat.ne_of_gt (by first | with_reducible assumption | exact allLt_in (by with_reducible assumption) (by k_mem) | exact all_in (by with_reducible assumption) (by k_mem) | exact lt_via (by with_reducible assumption) (by with_reducible assumption) (by k_mem)) | exact Nat.ne_of_lt (by first | with_reducible assumption | exact allLt_in (by with_reducible assumption) (by k_mem) | exact all_in (by with_reducible assumption) (by k_mem) | exact lt_via (by with_reducible assumption) (by with_reducible assumption) (by k_mem)) | exact ne_in (by with_reducible assumption) (by k_mem) | exact Ne.symm (ne_in (by with_reducible assumption) (by k_mem)) | exact off1_in (by with_reducible assumption) (by k_mem) | exact Ne.symm (off1_in (by with_reducible assumption) (by k_mem)) | ((show @Ne Nat _ _); (try dsimp only); omega))) (by (first | with_reducible assumption | exact Ne.symm (by with_reducible assumption) | exact Nat.ne_of_gt (by first | with_reducible assumption | exact allLt_in (by with_reducible assumption) (by k_mem) | exact all_in (by with_reducible assumption) (by k_mem) | exact lt_via (by with_reducible assumption) (by with_reducible assumption) (by k_mem)) | exact Nat.ne_of_lt (by first | with_reducible assumption | exact allLt_in (by with_reducible assumption) (by k_mem) | exact all_in (by with_reducible assumption) (by k_mem) | exact lt_via (by with_reducible assumption) (by with_reducible assumption) (by k_mem)) | exact ne_in (by with_reducible assumption) (by k_mem) | exact Ne.symm (ne_in (by with_reducible assumption) (by k_mem)) | exact off1_in (by with_reducible assumption) (by k_mem) | exact Ne.symm (off1_in (by with_reducible assumption) (by k_mem)) | ((show @Ne Nat _ _); (try dsimp only); omega))) (by (first | with_reducible assumption | exact Ne.symm (by with_reducible assumption) | exact Nat.ne_of_gt (by first | with_reducible assumption | exact allLt_in (by with_reducible assumption) (by k_mem) | exact all_in (by with_reducible assumption) (by k_mem) | exact lt_via (by with_reducible assumption) (by with_reducible assumption) (by k_mem)) | exact Nat.ne_of_lt (by first | with_reducible assumption | exact allLt_in (by with_reducible assumption) (by k_mem) | exact all_in (by with_reducible assumption) (by k_mem) | exact lt_via (by with_reducible assumption) (by with_reducible assumption) (by k_mem)) | exact ne_in (by with_reducible assumption) (by k_mem) | exact Ne.symm (ne_in (by with_reducible assumption) (by k_mem)) | exact off1_in (by with_reducible assumption) (by k_mem) | exact Ne.symm (off1_in (by with_reducible assumption) (by k_mem)) | ((show @Ne Nat _ _); (try dsimp only); omega))) (by (first | with_reducible assumption | exact Ne.symm (by with_reducible assumption) | exact Nat.ne_of_gt (by first | with_reducible assumption | exact allLt_in (by with_reducible assumption) (by k_mem) | exact all_in (by with_reducible assumption) (by k_mem) | exact lt_via (by with_reducible assumption) (by with_reducible assumption) (by k_mem)) | exact Nat.ne_of_lt (by first | with_reducible assumption | exact allLt_in (by with_reducible assumption) (by k_mem) | exact all_in (by with_reducible assumption) (by k_mem) | exact lt_via (by with_reducible assumption) (by with_reducible assumption) (by k_mem)) | exact ne_in (by with_reducible assumption) (by k_mem) | exact Ne.symm (ne_in (by with_reducible assumption) (by k_mem)) | exact off1_in (by with_reducible assumption) (by k_mem) | exact Ne.symm (off1_in (by with_reducible assumption) (by k_mem)) | ((show @Ne Nat _ _); (try dsimp only); omega))) (by (first | with_reducible assumption | exact Ne.symm (by with_reducible assumption) | exact Nat.ne_of_gt (by first | with_reducible assumption | exact allLt_in (by with_reducible assumption) (by k_mem) | exact all_in (by with_reducible assumption) (by k_mem) | exact lt_via (by with_reducible assumption) (by with_reducible assumption) (by k_mem)) | exact Nat.ne_of_lt (by first | with_reducible assumption | exact allLt_in (by with_reducible assumption) (by k_mem) | exact all_in (by with_reducible assumption) (by k_mem) | exact lt_via (by with_reducible assumption) (by with_reducible assumption) (by k_mem)) | exact ne_in (by with_reducible assumption) (by k_mem) | exact Ne.symm (ne_in (by with_reducible assumption) (by k_mem)) | exact off1_in (by with_reducible assumption) (by k_mem) | exact Ne.symm (off1_in (by with_reducible assumption) (by k_mem)) | ((show @Ne Nat _ _); (try dsimp only); omega))) (by (first | with_reducible assumption | exact Ne.symm (by with_reducible assumption) | exact Nat.ne_of_gt (by first | with_reducible assumption | exact allLt_in (by with_reducible assumption) (by k_mem) | exact all_in (by with_reducible assumption) (by k_mem) | exact lt_via (by with_reducible assumption) (by with_reducible assumption) (by k_mem)) | exact Nat.ne_of_lt (by first | with_reducible assumption | exact allLt_in (by with_reducible assumption) (by k_mem) | exact all_in (by with_reducible assumption) (by k_mem) | exact lt_via (by with_reducible assumption) (by with_reducible assumption) (by k_mem)) | exact ne_in (by with_reducible assumption) (by k_mem) | exact Ne.symm (ne_in (by with_reducible assumption) (by k_mem)) | exact off1_in (by with_reducible assumption) (by k_mem) | exact Ne.symm (off1_in (by with_reducible assumption) (by k_mem)) | ((show @Ne Nat _ _); (try dsimp only); omega))) (by (first | with_reducible assumption | exact Ne.symm (by with_reducible assumption) | exact Nat.ne_of_gt (by first | with_reducible assumption | exact allLt_in (by with_reducible assumption) (by k_mem) | exact all_in (by with_reducible assumption) (by k_mem) | exact lt_via (by with_reducible assumption) (by with_reducible assumption) (by k_mem)) | exact Nat.ne_of_lt (by first | with_reducible assumption | exact allLt_in (by with_reducible assumption) (by k_mem) | exact all_in (by with_reducible assumption) (by k_mem) | exact lt_via (by with_reducible assumption) (by with_reducible assumption) (by k_mem)) | exact ne_in (by with_reducible assumption) (by k_mem) | exact Ne.symm (ne_in (by with_reducible assumption) (by k_mem)) | exact off1_in (by with_reducible assumption) (by k_mem) | exact Ne.symm (off1_in (by with_reducible assumption) (by k_mem)) | ((show @Ne Nat _ _); (try dsimp only); omega))) ?a3 keep_map
  case a1 =>
    rw [List.range_succ, List.map_append]
    exact IntsAre.append IS1 (by rw [hx]; exact .cons _ _ .nil)
  case a2 =>
    rw [List.range_succ, List.map_append]
    exact IntsAre.append IH1 (by rw [hv2]; exact .cons _ _ .nil)
  case a3 => ((repeat (refine List.forall_mem_cons.mpr ⟨by ((try dsimp only); (first | with_reducible assumption | exact Ne.symm (by with_reducible assumption) | exact Nat.ne_of_gt (by first | with_reducible assumption | exact allLt_in (by with_reducible assumption) (by k_mem) | exact all_in (by with_reducible assumption) (by k_mem) | exact lt_via (by with_reducible assumption) (by with_reducible assumption) (by k_mem)) | exact Nat.ne_of_lt (by first | with_reducible assumption | exact allLt_in (by with_reducible assumption) (by k_mem) | exact all_in (by with_reducible assumption) (by k_mem) | exact lt_via (by with_reducible assumption) (by with_reducible assumption) (by k_mem)) | exact ne_in (by with_reducible assumption) (by k_mem) | exact Ne.symm (ne_in (by with_reducible assumption) (by k_mem)) | exact off1_in (by with_reducible assumption) (by k_mem) | exact Ne.symm (off1_in (by with_reducible assumption) (by k_mem)) | ((show @Ne Nat _ _); (try dsimp only); omega))), ?_⟩)); exact List.forall_mem_nil _)
set_option maxHeartbeats 0 in
theorem s_done : sT.1.2 := by
  intro _ _ _ _ _ _ _ _ _ _ _ _ _ _ _ _ _ _ _ _ _ _ _ _ _ _ _ _ _ _ _ _ _ _ _ _ _ _ _ _ _ _ _ _ _ _ _ _ _ _ _ _ _ _ _ _ _ _ _ _ _ _ _ _ _ _ _ _ _ _ ys _ _ _ _ _ _ _ _ _ wv _ _ _ _ _ nv _ _ _ _ _ _ _ _ _ oW _ _ av _ _ _ _ _ a0 a5 cv _ _ _ _ _ c0 c5 bv _ _ _ _ _ b0 b5 _ _ _ _ _ _ _ wd dW wi hw1 hw2 hi1 hi2 _ _ _ _ X kX D r0 r1 r2 ws0 ws1 ws2 zs0 zs1 zs2 k0 k1 k2 _ _ d0 d1 d2 lt01 lt12 i0 i1 i2 L0 v0 g0 L1 v1 g1 L2 v2 g2 oD9 lt9 oD lt0 _ _ _ _ _ _ _ _ _ _ _ _ _ _ _ _ _ lifted qk ek _ _ _ _ _ _ _ _ _ _ _ _ _ _ _ _ _ _ _ _ _ _ _ _ _ _ _ _ _ _ _ _ _ _ _ _ _ _ _ _ _ _ _ _ _ _ _ _ _ _ _ _ _ _ _ _ _ _ _ _ hb0 _ _ _ _ _ hrg F20 N20 _ N21 hM hfd1 hfd2 u h tk r ws wsS wsH kk kS kH zs hP I1 IS1 IH1 q1 q2 q3 F30 N30
  repeat (rename (@LT.lt Nat _ _ _ ∧ _) => z; clear z)
  repeat (rename (@Ne Nat _ _ ∧ _) => z; clear z)
  repeat (rename AllLt _ _ => z; clear z)
  clear F20 N20 N21
  have hlS : wsS.length = ((2 : Int) ^ wi.toNat).toNat := by rw [IS1.length, List.length_map, List.length_range]
  have hlH : wsH.length = ((2 : Int) ^ wi.toNat).toNat := by rw [IH1.length, List.length_map, List.length_range]
  (try dsimp only)
  obtain ⟨hL, hl2, hv⟩ := hP
  generalize hSd : List.map (fun j => orb (2 ^ wi.toNat) av cv bv (j + 1)) (List.range (2 ^ wi.toNat : Int).toNat) = S at IS1
  generalize hHd : List.map (fun j => orb (2 ^ wi.toNat) av cv bv (j + 1) / 2 ^ (wi - wi.fdiv 2).toNat) (List.range (2 ^ wi.toNat : Int).toNat) = H at IH1
  have hSl : S.length ≤ 64 := by rw [← hSd, List.length_map, List.length_range]; omega
  iterate 6 walk1
  rename Fr _ _ _ _ => F0
  refine ListCompO (some _) F0 (by with_unfolding_all rfl) (by decide) (by rfl) (by decide) ?_
  (repeat' (first | (k_unfold; (try dsimp only)) | (k_end; wrow_close) | (first | (k_here; (with_reducible show wpAny _ _ (call (Value.ref 109) [Value.ref _, Value.ref _, Value.int _ _]) _ _ _); k_dflt (refine' call_mul ?kBz9 ?kFz9 ?kXz9 ?kNz9 ?kTz9 ?kKz9 ?kmz9 ?knz9 ?ivz9 ?iwz9 ?iLz9 ?jLz9 ?ilz9 ?jlz9 ?w1z9 ?w2z9 ?kdz9 ?_; (case kFz9 => k_asm); (case kNz9 => k_asm); (case kBz9 => k_asm); (case kXz9 => k_asm); (case kTz9 => k_asm); (case kKz9 => exact rfl); (case kmz9 => k_mem); (case knz9 => k_mem); (case ivz9 => with_reducible assumption); (case iwz9 => with_reducible assumption); (case iLz9 => with_reducible assumption); (case jLz9 => with_reducible assumption); (case ilz9 => omega); (case jlz9 => omega); (case w1z9 => omega); (case w2z9 => omega); (case kdz9 => (first | omega | ((try simp only [depth_deeper, depth_caller]); (try dsimp only [ktrTop]); omega) | ((try simp only [depth_under_make, depth_under_kw, depth_in1, depth_deeper, depth_caller]); (try dsimp only [ktrTop]); (try simp only [depth_under_make, depth_under_kw, depth_in1, depth_deeper, depth_caller]); omega)))); intro _ _ _ _ _ _ _ _ _ _ _ _ _; (try dsimp only); (try k_sweep)) | (k_here; (with_reducible show wpAny _ _ (call (Value.ref 53) [Value.ref _, Value.ref _, Value.int _ _]) _ _ _); k_dflt (refine' call_add ?kBz10 ?kFz10 ?kXz10 ?kNz10 ?kTz10 ?kKz10 ?kmz10 ?knz10 ?ivz10 ?iwz10 ?iLz10 ?jLz10 ?ilz10 ?jlz10 ?w1z10 ?w2z10 ?kdz10 ?_; (case kFz10 => k_asm); (case kNz10 => k_asm); (case kBz10 => k_asm); (case kXz10 => k_asm); (case kTz10 => k_asm); (case kKz10 => exact rfl); (case kmz10 => k_mem); (case knz10 => k_mem); (case ivz10 => with_reducible assumption); (case iwz10 => with_reducible assumption); (case iLz10 => with_reducible assumption); (case jLz10 => with_reducible assumption); (case ilz10 => omega); (case jlz10 => omega); (case w1z10 => omega); (case w2z10 => omega); (case kdz10 => (first | omega | ((try simp only [depth_deeper, depth_caller]); (try dsimp only [ktrTop]); omega) | ((try simp only [depth_under_make, depth_under_kw, depth_in1, depth_deeper, depth_caller]); (try dsimp only [ktrTop]); (try simp only [depth_under_make, depth_under_kw, depth_in1, depth_deeper, depth_caller]); omega)))); intro _ _ _ _ _ _ _ _ _ _ _ _ _; (try dsimp only); (try k_sweep)) | (k_here; (with_reducible show wpAny _ _ (call (Value.ref 60) [Value.ref _, Value.int _ _, Value.int _ _]) _ _ _); k_dflt (refine' call_shr ?kBz11 ?kFz11 ?kXz11 ?kNz11 ?kTz11 ?kKz11 ?kmz11 ?ivz11 ?iLz11 ?ilz11 ?w1z11 ?w2z11 ?n1z11 ?n2z11 ?kdz11 ?_; (case kFz11 => k_asm); (case kNz11 => k_asm); (case kBz11 => k_asm); (case kXz11 => k_asm); (case kTz11 => k_asm); (case kKz11 => exact rfl); (case kmz11 => k_mem); (case ivz11 => with_reducible assumption); (case iLz11 => with_reducible assumption); (case ilz11 => omega); (case w1z11 => omega); (case w2z11 => omega); (case n1z11 => omega); (case n2z11 => omega); (case kdz11 => (first | omega | ((try simp only [depth_deeper, depth_caller]); (try dsimp only [ktrTop]); omega) | ((try simp only [depth_under_make, depth_under_kw, depth_in1, depth_deeper, depth_caller]); (try dsimp only [ktrTop]); (try simp only [depth_under_make, depth_under_kw, depth_in1, depth_deeper, depth_caller]); omega)))); intro _ _ _ _ _ _ _ _ _ _ _ _ _; (try dsimp only); (try k_sweep)) | (k_here; (with_reducible show wpAny _ _ (call (Value.ref 67) [Value.ref _, Value.int _ _, Value.int _ _]) _ _ _); k_dflt (refine' call_low ?kBz12 ?kFz12 ?kXz12 ?kNz12 ?kTz12 ?kKz12 ?kmz12 ?ivz12 ?iLz12 ?ilz12 ?w1z12 ?w2z12 ?n1z12 ?n2z12 ?kdz12 ?_; (case kFz12 => k_asm); (case kNz12 => k_asm); (case kBz12 => k_asm); (case kXz12 => k_asm); (case kTz12 => k_asm); (case kKz12 => exact rfl); (case kmz12 => k_mem); (case ivz12 => with_reducible assumption); (case iLz12 => with_reducible assumption); (case ilz12 => omega); (case w1z12 => omega); (case w2z12 => omega); (case n1z12 => omega); (case n2z12 => omega); (case kdz12 => (first | omega | ((try simp only [depth_deeper, depth_caller]); (try dsimp only [ktrTop]); omega) | ((try simp only [depth_under_make, depth_under_kw, depth_in1, depth_deeper, depth_caller]); (try dsimp only [ktrTop]); (try simp only [depth_under_make, depth_under_kw, depth_in1, depth_deeper, depth_caller]); omega)))); intro _ _ _ _ _ _ _ _ _ _ _ _ _; (try dsimp only); (try k_sweep)) | (k_here; (with_reducible show wpAny _ _ (call (Value.ref 128) [Value.ref _, Value.int _ _]) _ _ _); k_dflt (refine' call_number ?kBz13 ?kFz13 ?kXz13 ?kNz13 ?kTz13 ?kKz13 ?kmz13 ?ivz13 ?iLz13 ?ilz13 ?w1z13 ?w2z13 ?kdz13 ?_; (case kFz13 => k_asm); (case kNz13 => k_asm); (case kBz13 => k_asm); (case kXz13 => k_asm); (case kTz13 => k_asm); (case kKz13 => exact rfl); (case kmz13 => k_mem); (case ivz13 => with_reducible assumption); (case iLz13 => with_reducible assumption); (case ilz13 => omega); (case w1z13 => omega); (case w2z13 => omega); (case kdz13 => (first | omega | ((try simp only [depth_deeper, depth_caller]); (try dsimp only [ktrTop]); omega) | ((try simp only [depth_under_make, depth_under_kw, depth_in1, depth_deeper, depth_caller]); (try dsimp only [ktrTop]); (try simp only [depth_under_make, depth_under_kw, depth_in1, depth_deeper, depth_caller]); omega)))); intro _ _ _ _ _; (try dsimp only); (try k_sweep)) | (k_here; (with_reducible show wpAny _ _ (call (Value.ref 123) [Value.int _ _, Value.int _ _]) _ _ _); k_dflt (refine' call_limbs ?kBz14 ?kFz14 ?kXz14 ?kNz14 ?kTz14 ?kKz14 ?w1z14 ?w2z14 ?n1z14 ?n2z14 ?kdz14 ?_; (case kFz14 => k_asm); (case kNz14 => k_asm); (case kBz14 => k_asm); (case kXz14 => k_asm); (case kTz14 => k_asm); (case kKz14 => exact rfl); (case w1z14 => omega); (case w2z14 => omega); (case n1z14 => omega); (case n2z14 => omega); (case kdz14 => (first | omega | ((try simp only [depth_deeper, depth_caller]); (try dsimp only [ktrTop]); omega) | ((try simp only [depth_under_make, depth_under_kw, depth_in1, depth_deeper, depth_caller]); (try dsimp only [ktrTop]); (try simp only [depth_under_make, depth_under_kw, depth_in1, depth_deeper, depth_caller]); omega)))); intro _ _ _ _ _ _ _ _ _ _ _ _ _; (try dsimp only); (try k_sweep)) | (k_here; (with_reducible show wpAny _ _ (call (Value.ref 116) [Value.ref _, Value.int _ _]) _ _ _); k_dflt (refine' call_spun ?kBz15 ?kFz15 ?kXz15 ?kNz15 ?kTz15 ?kKz15 rfl ?lbz15 ?apz15 ?ivz15 ?ilz15 ?k0z15 ?k1z15 ?m0z15 ?m1z15 ?kdz15 ?_; (case kFz15 => k_asm); (case kNz15 => k_asm); (case kBz15 => k_asm); (case kXz15 => k_asm); (case kTz15 => k_asm); (case kKz15 => exact rfl); (case lbz15 => (first | (first | with_reducible assumption | exact allLt_in (by with_reducible assumption) (by k_mem) | exact all_in (by with_reducible assumption) (by k_mem) | exact lt_via (by with_reducible assumption) (by with_reducible assumption) (by k_mem) | ((show @LT.lt Nat _ _ _); omega)) | ((show @LT.lt Nat _ _ _); omega))); (case apz15 => ((repeat (refine List.forall_mem_cons.mpr ⟨by ((try dsimp only); (first | with_reducible assumption | exact Ne.symm (by with_reducible assumption) | exact Nat.ne_of_gt (by first | with_reducible assumption | exact allLt_in (by with_reducible assumption) (by k_mem) | exact all_in (by with_reducible assumption) (by k_mem) | exact lt_via (by with_reducible assumption) (by with_reducible assumption) (by k_mem)) | exact Nat.ne_of_lt (by first | with_reducible assumption | exact allLt_in (by with_reducible assumption) (by k_mem) | exact all_in (by with_reducible assumption) (by k_mem) | exact lt_via (by with_reducible assumption) (by with_reducible assumption) (by k_mem)) | exact ne_in (by with_reducible assumption) (by k_mem) | exact Ne.symm (ne_in (by with_reducible assumption) (by k_mem)) | exact off1_in (by with_reducible assumption) (by k_mem) | exact Ne.symm (off1_in (by with_reducible assumption) (by k_mem)) | ((show @Ne Nat _ _); (try dsimp only); omega))), ?_⟩)); exact List.forall_mem_nil _)); (case ivz15 => with_reducible assumption); (case ilz15 => (simp only [List.length_map, List.length_take]; omega)); (case k0z15 => omega); (case k1z15 => omega); (case m0z15 => omega); (case m1z15 => omega); (case kdz15 => (first | omega | ((try simp only [depth_deeper, depth_caller]); (try dsimp only [ktrTop]); omega) | ((try simp only [depth_under_make, depth_under_kw, depth_in1, depth_deeper, depth_caller]); (try dsimp only [ktrTop]); (try simp only [depth_under_make, depth_under_kw, depth_in1, depth_deeper, depth_caller]); omega)))); intro _ _ _ _ _ _ _ _ _ _; (try dsimp only); (try k_sweep)) | (k_here; (with_reducible show wpAny _ _ (call (Value.ref 116) [Value.ref _, Value.int _ _]) _ _ _); k_dflt (refine' spun_at1 ?kBz16 ?kFz16 ?kXz16 ?kNz16 ?kTz16 ?kKz16 ?lbz16 ?axz16 ?apz16 ?ivz16 ?ilz16 ?k0z16 ?k1z16 ?m0z16 ?m1z16 ?kdz16 ?_; (case kFz16 => k_asm); (case kNz16 => k_asm); (case kBz16 => k_asm); (case kXz16 => k_asm); (case kTz16 => k_asm); (case kKz16 => exact rfl); (case axz16 => ((try dsimp only); (first | with_reducible assumption | exact Ne.symm (by with_reducible assumption) | exact Nat.ne_of_gt (by first | with_reducible assumption | exact allLt_in (by with_reducible assumption) (by k_mem) | exact all_in (by with_reducible assumption) (by k_mem) | exact lt_via (by with_reducible assumption) (by with_reducible assumption) (by k_mem)) | exact Nat.ne_of_lt (by first | with_reducible assumption | exact allLt_in (by with_reducible assumption) (by k_mem) | exact all_in (by with_reducible assumption) (by k_mem) | exact lt_via (by with_reducible assumption) (by with_reducible assumption) (by k_mem)) | exact ne_in (by with_reducible assumption) (by k_mem) | exact Ne.symm (ne_in (by with_reducible assumption) (by k_mem)) | exact off1_in (by with_reducible assumption) (by k_mem) | exact Ne.symm (off1_in (by with_reducible assumption) (by k_mem)) | ((show @Ne Nat _ _); (try dsimp only); omega)))); (case lbz16 => (first | (first | with_reducible assumption | exact allLt_in (by with_reducible assumption) (by k_mem) | exact all_in (by with_reducible assumption) (by k_mem) | exact lt_via (by with_reducible assumption) (by with_reducible assumption) (by k_mem) | ((show @LT.lt Nat _ _ _); omega)) | ((show @LT.lt Nat _ _ _); omega))); (case apz16 => ((repeat (refine List.forall_mem_cons.mpr ⟨by ((try dsimp only); (first | with_reducible assumption | exact Ne.symm (by with_reducible assumption) | exact Nat.ne_of_gt (by first | with_reducible assumption | exact allLt_in (by with_reducible assumption) (by k_mem) | exact all_in (by with_reducible assumption) (by k_mem) | exact lt_via (by with_reducible assumption) (by with_reducible assumption) (by k_mem)) | exact Nat.ne_of_lt (by first | with_reducible assumption | exact allLt_in (by with_reducible assumption) (by k_mem) | exact all_in (by with_reducible assumption) (by k_mem) | exact lt_via (by with_reducible assumption) (by with_reducible assumption) (by k_mem)) | exact ne_in (by with_reducible assumption) (by k_mem) | exact Ne.symm (ne_in (by with_reducible assumption) (by k_mem)) | exact off1_in (by with_reducible assumption) (by k_mem) | exact Ne.symm (off1_in (by with_reducible assumption) (by k_mem)) | ((show @Ne Nat _ _); (try dsimp only); omega))), ?_⟩)); exact List.forall_mem_nil _)); (case ivz16 => with_reducible assumption); (case ilz16 => (simp only [List.length_map, List.length_take]; omega)); (case k0z16 => omega); (case k1z16 => omega); (case m0z16 => omega); (case m1z16 => omega); (case kdz16 => (first | omega | ((try simp only [depth_deeper, depth_caller]); (try dsimp only [ktrTop]); omega) | ((try simp only [depth_under_make, depth_under_kw, depth_in1, depth_deeper, depth_caller]); (try dsimp only [ktrTop]); (try simp only [depth_under_make, depth_under_kw, depth_in1, depth_deeper, depth_caller]); omega)))); intro _ _ _ _ _ _ _ _ _ _; (try dsimp only); (try k_sweep))) | ((fail_if_success (with_reducible show Exists _)); (fail_if_success (with_reducible show wpAny _ _ (eval (Expr.ListComp _ _ _ _) _) _ _ _)); (fail_if_success (with_reducible show wpAny _ _ (exec (Stmt.Assign [Expr.Name _ _] (Expr.ListComp _ _ _ _) _) _) _ _ _)); (fail_if_success (with_reducible show LCg.FinA _ _ _ _ _ _ _ _)); (fail_if_success (with_reducible show KswEnd _ _ _ _ _ _ _ _ _ _ _ _)); (fail_if_success (with_reducible show wpAny _ _ (pyIter _) _ _ _)); (fail_if_success (with_reducible show wpAny _ _ (exec (Stmt.While _ _ _ _) _) _ _ _)); (fail_if_success (with_reducible show wpAny _ _ (exec (Stmt.Assign [Expr.Name _ _] (Expr.ListComp _ [⟨_, Expr.Tuple _ _ _, _, _⟩] _ _) _) _) _ _ _)); (first | (fail_if_success (with_reducible show wpAny _ _ (call (Value.ref _) _) _ _ _)) | (with_reducible show wpAny _ _ (call (Value.ref 98) _) _ _ _) | (with_reducible show wpAny _ _ (call (Value.ref 95) _) _ _ _) | (with_reducible show wpAny _ _ (call (Value.ref 88) _) _ _ _)); (first | walk1 | (dsimp only; walk1))) | (leave1; walk_say "STEP leave1"; try dsimp only) | fail "no step"))
  rename News _ _ _ _ => N1
  rename Fr _ _ _ _ => F1
  have hsz : S.length ≤ sizeLine := by rw [sizeLine_eq]; omega
  refine ready_enum (some _) (fun i => !((S.take i).any (· == S.getD i 0))) (fun i => S.getD i 0) rfl rfl rfl rfl (by decide) F1 N1 (by k_mem) IS1 hsz ?_ (by intro h; cases h) ?_ ?_
  · intro c hc i C D oC ys mC h tk E' hi ha hb' hoC hys F2 N2 hDC hD
    cases hc
    obtain ⟨ta, ha⟩ := ha
    obtain ⟨tb, hb'⟩ := hb'
    (repeat' (first | (k_unfold; (try dsimp only)) | (k_end; wrow_close) | (first | (k_here; (with_reducible show wpAny _ _ (subscriptTail _ (PySem.Expr.Slice _ _ none _) (Value.ref _) (Value.ref _)) _ _ _); k_dflt (refine' slice_elt ?Fz17 ?Nz17 ?lz17 ?iz17 ?yz17 ?zz17 ?_ ?sz17 ?tz17; (case Fz17 => k_asm); (case Nz17 => k_asm); (case lz17 => kmk_list); (case iz17 => with_reducible assumption); (case yz17 => omega); (case zz17 => with_reducible assumption); (case sz17 => with_unfolding_all rfl); (case tz17 => kmk_pure)); intro _ _ _ _ _ _ l1 _; (try k_lt l1)) | (k_here; (with_reducible show wpAny _ _ (call (Value.ref 109) [Value.ref _, Value.ref _, Value.int _ _]) _ _ _); k_dflt (refine' call_mul ?kBz18 ?kFz18 ?kXz18 ?kNz18 ?kTz18 ?kKz18 ?kmz18 ?knz18 ?ivz18 ?iwz18 ?iLz18 ?jLz18 ?ilz18 ?jlz18 ?w1z18 ?w2z18 ?kdz18 ?_; (case kFz18 => k_asm); (case kNz18 => k_asm); (case kBz18 => k_asm); (case kXz18 => k_asm); (case kTz18 => k_asm); (case kKz18 => exact rfl); (case kmz18 => k_mem); (case knz18 => k_mem); (case ivz18 => with_reducible assumption); (case iwz18 => with_reducible assumption); (case iLz18 => with_reducible assumption); (case jLz18 => with_reducible assumption); (case ilz18 => omega); (case jlz18 => omega); (case w1z18 => omega); (case w2z18 => omega); (case kdz18 => (first | omega | ((try simp only [depth_deeper, depth_caller]); (try dsimp only [ktrTop]); omega) | ((try simp only [depth_under_make, depth_under_kw, depth_in1, depth_deeper, depth_caller]); (try dsimp only [ktrTop]); (try simp only [depth_under_make, depth_under_kw, depth_in1, depth_deeper, depth_caller]); omega)))); intro _ _ _ _ _ _ _ _ _ _ _ _ _; (try dsimp only); (try k_sweep)) | (k_here; (with_reducible show wpAny _ _ (call (Value.ref 53) [Value.ref _, Value.ref _, Value.int _ _]) _ _ _); k_dflt (refine' call_add ?kBz19 ?kFz19 ?kXz19 ?kNz19 ?kTz19 ?kKz19 ?kmz19 ?knz19 ?ivz19 ?iwz19 ?iLz19 ?jLz19 ?ilz19 ?jlz19 ?w1z19 ?w2z19 ?kdz19 ?_; (case kFz19 => k_asm); (case kNz19 => k_asm); (case kBz19 => k_asm); (case kXz19 => k_asm); (case kTz19 => k_asm); (case kKz19 => exact rfl); (case kmz19 => k_mem); (case knz19 => k_mem); (case ivz19 => with_reducible assumption); (case iwz19 => with_reducible assumption); (case iLz19 => with_reducible assumption); (case jLz19 => with_reducible assumption); (case ilz19 => omega); (case jlz19 => omega); (case w1z19 => omega); (case w2z19 => omega); (case kdz19 => (first | omega | ((try simp only [depth_deeper, depth_caller]); (try dsimp only [ktrTop]); omega) | ((try simp only [depth_under_make, depth_under_kw, depth_in1, depth_deeper, depth_caller]); (try dsimp only [ktrTop]); (try simp only [depth_under_make, depth_under_kw, depth_in1, depth_deeper, depth_caller]); omega)))); intro _ _ _ _ _ _ _ _ _ _ _ _ _; (try dsimp only); (try k_sweep)) | (k_here; (with_reducible show wpAny _ _ (call (Value.ref 60) [Value.ref _, Value.int _ _, Value.int _ _]) _ _ _); k_dflt (refine' call_shr ?kBz20 ?kFz20 ?kXz20 ?kNz20 ?kTz20 ?kKz20 ?kmz20 ?ivz20 ?iLz20 ?ilz20 ?w1z20 ?w2z20 ?n1z20 ?n2z20 ?kdz20 ?_; (case kFz20 => k_asm); (case kNz20 => k_asm); (case kBz20 => k_asm); (case kXz20 => k_asm); (case kTz20 => k_asm); (case kKz20 => exact rfl); (case kmz20 => k_mem); (case ivz20 => with_reducible assumption); (case iLz20 => with_reducible assumption); (case ilz20 => omega); (case w1z20 => omega); (case w2z20 => omega); (case n1z20 => omega); (case n2z20 => omega); (case kdz20 => (first | omega | ((try simp only [depth_deeper, depth_caller]); (try dsimp only [ktrTop]); omega) | ((try simp only [depth_under_make, depth_under_kw, depth_in1, depth_deeper, depth_caller]); (try dsimp only [ktrTop]); (try simp only [depth_under_make, depth_under_kw, depth_in1, depth_deeper, depth_caller]); omega)))); intro _ _ _ _ _ _ _ _ _ _ _ _ _; (try dsimp only); (try k_sweep)) | (k_here; (with_reducible show wpAny _ _ (call (Value.ref 67) [Value.ref _, Value.int _ _, Value.int _ _]) _ _ _); k_dflt (refine' call_low ?kBz21 ?kFz21 ?kXz21 ?kNz21 ?kTz21 ?kKz21 ?kmz21 ?ivz21 ?iLz21 ?ilz21 ?w1z21 ?w2z21 ?n1z21 ?n2z21 ?kdz21 ?_; (case kFz21 => k_asm); (case kNz21 => k_asm); (case kBz21 => k_asm); (case kXz21 => k_asm); (case kTz21 => k_asm); (case kKz21 => exact rfl); (case kmz21 => k_mem); (case ivz21 => with_reducible assumption); (case iLz21 => with_reducible assumption); (case ilz21 => omega); (case w1z21 => omega); (case w2z21 => omega); (case n1z21 => omega); (case n2z21 => omega); (case kdz21 => (first | omega | ((try simp only [depth_deeper, depth_caller]); (try dsimp only [ktrTop]); omega) | ((try simp only [depth_under_make, depth_under_kw, depth_in1, depth_deeper, depth_caller]); (try dsimp only [ktrTop]); (try simp only [depth_under_make, depth_under_kw, depth_in1, depth_deeper, depth_caller]); omega)))); intro _ _ _ _ _ _ _ _ _ _ _ _ _; (try dsimp only); (try k_sweep)) | (k_here; (with_reducible show wpAny _ _ (call (Value.ref 128) [Value.ref _, Value.int _ _]) _ _ _); k_dflt (refine' call_number ?kBz22 ?kFz22 ?kXz22 ?kNz22 ?kTz22 ?kKz22 ?kmz22 ?ivz22 ?iLz22 ?ilz22 ?w1z22 ?w2z22 ?kdz22 ?_; (case kFz22 => k_asm); (case kNz22 => k_asm); (case kBz22 => k_asm); (case kXz22 => k_asm); (case kTz22 => k_asm); (case kKz22 => exact rfl); (case kmz22 => k_mem); (case ivz22 => with_reducible assumption); (case iLz22 => with_reducible assumption); (case ilz22 => omega); (case w1z22 => omega); (case w2z22 => omega); (case kdz22 => (first | omega | ((try simp only [depth_deeper, depth_caller]); (try dsimp only [ktrTop]); omega) | ((try simp only [depth_under_make, depth_under_kw, depth_in1, depth_deeper, depth_caller]); (try dsimp only [ktrTop]); (try simp only [depth_under_make, depth_under_kw, depth_in1, depth_deeper, depth_caller]); omega)))); intro _ _ _ _ _; (try dsimp only); (try k_sweep)) | (k_here; (with_reducible show wpAny _ _ (call (Value.ref 123) [Value.int _ _, Value.int _ _]) _ _ _); k_dflt (refine' call_limbs ?kBz23 ?kFz23 ?kXz23 ?kNz23 ?kTz23 ?kKz23 ?w1z23 ?w2z23 ?n1z23 ?n2z23 ?kdz23 ?_; (case kFz23 => k_asm); (case kNz23 => k_asm); (case kBz23 => k_asm); (case kXz23 => k_asm); (case kTz23 => k_asm); (case kKz23 => exact rfl); (case w1z23 => omega); (case w2z23 => omega); (case n1z23 => omega); (case n2z23 => omega); (case kdz23 => (first | omega | ((try simp only [depth_deeper, depth_caller]); (try dsimp only [ktrTop]); omega) | ((try simp only [depth_under_make, depth_under_kw, depth_in1, depth_deeper, depth_caller]); (try dsimp only [ktrTop]); (try simp only [depth_under_make, depth_under_kw, depth_in1, depth_deeper, depth_caller]); omega)))); intro _ _ _ _ _ _ _ _ _ _ _ _ _; (try dsimp only); (try k_sweep)) | (k_here; (with_reducible show wpAny _ _ (call (Value.ref 116) [Value.ref _, Value.int _ _]) _ _ _); k_dflt (refine' call_spun ?kBz24 ?kFz24 ?kXz24 ?kNz24 ?kTz24 ?kKz24 rfl ?lbz24 ?apz24 ?ivz24 ?ilz24 ?k0z24 ?k1z24 ?m0z24 ?m1z24 ?kdz24 ?_; (case kFz24 => k_asm); (case kNz24 => k_asm); (case kBz24 => k_asm); (case kXz24 => k_asm); (case kTz24 => k_asm); (case kKz24 => exact rfl); (case lbz24 => (first | (first | with_reducible assumption | exact allLt_in (by with_reducible assumption) (by k_mem) | exact all_in (by with_reducible assumption) (by k_mem) | exact lt_via (by with_reducible assumption) (by with_reducible assumption) (by k_mem) | ((show @LT.lt Nat _ _ _); omega)) | ((show @LT.lt Nat _ _ _); omega))); (case apz24 => ((repeat (refine List.forall_mem_cons.mpr ⟨by ((try dsimp only); (first | with_reducible assumption | exact Ne.symm (by with_reducible assumption) | exact Nat.ne_of_gt (by first | with_reducible assumption | exact allLt_in (by with_reducible assumption) (by k_mem) | exact all_in (by with_reducible assumption) (by k_mem) | exact lt_via (by with_reducible assumption) (by with_reducible assumption) (by k_mem)) | exact Nat.ne_of_lt (by first | with_reducible assumption | exact allLt_in (by with_reducible assumption) (by k_mem) | exact all_in (by with_reducible assumption) (by k_mem) | exact lt_via (by with_reducible assumption) (by with_reducible assumption) (by k_mem)) | exact ne_in (by with_reducible assumption) (by k_mem) | exact Ne.symm (ne_in (by with_reducible assumption) (by k_mem)) | exact off1_in (by with_reducible assumption) (by k_mem) | exact Ne.symm (off1_in (by with_reducible assumption) (by k_mem)) | ((show @Ne Nat _ _); (try dsimp only); omega))), ?_⟩)); exact List.forall_mem_nil _)); (case ivz24 => with_reducible assumption); (case ilz24 => (simp only [List.length_map, List.length_take]; omega)); (case k0z24 => omega); (case k1z24 => omega); (case m0z24 => omega); (case m1z24 => omega); (case kdz24 => (first | omega | ((try simp only [depth_deeper, depth_caller]); (try dsimp only [ktrTop]); omega) | ((try simp only [depth_under_make, depth_under_kw, depth_in1, depth_deeper, depth_caller]); (try dsimp only [ktrTop]); (try simp only [depth_under_make, depth_under_kw, depth_in1, depth_deeper, depth_caller]); omega)))); intro _ _ _ _ _ _ _ _ _ _; (try dsimp only); (try k_sweep)) | (k_here; (with_reducible show wpAny _ _ (call (Value.ref 116) [Value.ref _, Value.int _ _]) _ _ _); k_dflt (refine' spun_at1 ?kBz25 ?kFz25 ?kXz25 ?kNz25 ?kTz25 ?kKz25 ?lbz25 ?axz25 ?apz25 ?ivz25 ?ilz25 ?k0z25 ?k1z25 ?m0z25 ?m1z25 ?kdz25 ?_; (case kFz25 => k_asm); (case kNz25 => k_asm); (case kBz25 => k_asm); (case kXz25 => k_asm); (case kTz25 => k_asm); (case kKz25 => exact rfl); (case axz25 => ((try dsimp only); (first | with_reducible assumption | exact Ne.symm (by with_reducible assumption) | exact Nat.ne_of_gt (by first | with_reducible assumption | exact allLt_in (by with_reducible assumption) (by k_mem) | exact all_in (by with_reducible assumption) (by k_mem) | exact lt_via (by with_reducible assumption) (by with_reducible assumption) (by k_mem)) | exact Nat.ne_of_lt (by first | with_reducible assumption | exact allLt_in (by with_reducible assumption) (by k_mem) | exact all_in (by with_reducible assumption) (by k_mem) | exact lt_via (by with_reducible assumption) (by with_reducible assumption) (by k_mem)) | exact ne_in (by with_reducible assumption) (by k_mem) | exact Ne.symm (ne_in (by with_reducible assumption) (by k_mem)) | exact off1_in (by with_reducible assumption) (by k_mem) | exact Ne.symm (off1_in (by with_reducible assumption) (by k_mem)) | ((show @Ne Nat _ _); (try dsimp only); omega)))); (case lbz25 => (first | (first | with_reducible assumption | exact allLt_in (by with_reducible assumption) (by k_mem) | exact all_in (by with_reducible assumption) (by k_mem) | exact lt_via (by with_reducible assumption) (by with_reducible assumption) (by k_mem) | ((show @LT.lt Nat _ _ _); omega)) | ((show @LT.lt Nat _ _ _); omega))); (case apz25 => ((repeat (refine List.forall_mem_cons.mpr ⟨by ((try dsimp only); (first | with_reducible assumption | exact Ne.symm (by with_reducible assumption) | exact Nat.ne_of_gt (by first | with_reducible assumption | exact allLt_in (by with_reducible assumption) (by k_mem) | exact all_in (by with_reducible assumption) (by k_mem) | exact lt_via (by with_reducible assumption) (by with_reducible assumption) (by k_mem)) | exact Nat.ne_of_lt (by first | with_reducible assumption | exact allLt_in (by with_reducible assumption) (by k_mem) | exact all_in (by with_reducible assumption) (by k_mem) | exact lt_via (by with_reducible assumption) (by with_reducible assumption) (by k_mem)) | exact ne_in (by with_reducible assumption) (by k_mem) | exact Ne.symm (ne_in (by with_reducible assumption) (by k_mem)) | exact off1_in (by with_reducible assumption) (by k_mem) | exact Ne.symm (off1_in (by with_reducible assumption) (by k_mem)) | ((show @Ne Nat _ _); (try dsimp only); omega))), ?_⟩)); exact List.forall_mem_nil _)); (case ivz25 => with_reducible assumption); (case ilz25 => (simp only [List.length_map, List.length_take]; omega)); (case k0z25 => omega); (case k1z25 => omega); (case m0z25 => omega); (case m1z25 => omega); (case kdz25 => (first | omega | ((try simp only [depth_deeper, depth_caller]); (try dsimp only [ktrTop]); omega) | ((try simp only [depth_under_make, depth_under_kw, depth_in1, depth_deeper, depth_caller]); (try dsimp only [ktrTop]); (try simp only [depth_under_make, depth_under_kw, depth_in1, depth_deeper, depth_caller]); omega)))); intro _ _ _ _ _ _ _ _ _ _; (try dsimp only); (try k_sweep))) | ((fail_if_success (with_reducible show Exists _)); (fail_if_success (with_reducible show LCg.FinA _ _ _ _ _ _ _ _)); (fail_if_success (with_reducible show KswEnd _ _ _ _ _ _ _ _ _ _ _ _)); (fail_if_success (with_reducible show wpAny _ _ (pyIter _) _ _ _)); (fail_if_success (with_reducible show wpAny _ _ (exec (Stmt.While _ _ _ _) _) _ _ _)); (fail_if_success (with_reducible show wpAny _ _ (exec (Stmt.Assign [Expr.Name _ _] (Expr.ListComp _ [⟨_, Expr.Tuple _ _ _, _, _⟩] _ _) _) _) _ _ _)); (first | (fail_if_success (with_reducible show wpAny _ _ (call (Value.ref _) _) _ _ _)) | (with_reducible show wpAny _ _ (call (Value.ref 98) _) _ _ _) | (with_reducible show wpAny _ _ (call (Value.ref 95) _) _ _ _) | (with_reducible show wpAny _ _ (call (Value.ref 88) _) _ _ _)); (first | walk1 | (dsimp only; walk1))) | (leave1; walk_say "STEP leave1"; try dsimp only) | fail "no step"))
    exact ⟨_, _, rfl, by assumption⟩
  · intro i C D oC ys mC h tk E' hi hp ha hb' hoC hys F2 N2 hDC hD
    obtain ⟨ta, ha⟩ := ha
    obtain ⟨tb, hb'⟩ := hb'
    (repeat' (first | (k_unfold; (try dsimp only)) | (k_end; wrow_close) | (first | (k_here; (with_reducible show wpAny _ _ (call (Value.ref 109) [Value.ref _, Value.ref _, Value.int _ _]) _ _ _); k_dflt (refine' call_mul ?kBz1 ?kFz1 ?kXz1 ?kNz1 ?kTz1 ?kKz1 ?kmz1 ?knz1 ?ivz1 ?iwz1 ?iLz1 ?jLz1 ?ilz1 ?jlz1 ?w1z1 ?w2z1 ?kdz1 ?_; (case kFz1 => k_asm); (case kNz1 => k_asm); (case kBz1 => k_asm); (case kXz1 => k_asm); (case kTz1 => k_asm); (case kKz1 => exact rfl); (case kmz1 => k_mem); (case knz1 => k_mem); (case ivz1 => with_reducible assumption); (case iwz1 => with_reducible assumption); (case iLz1 => with_reducible assumption); (case jLz1 => with_reducible assumption); (case ilz1 => omega); (case jlz1 => omega); (case w1z1 => omega); (case w2z1 => omega); (case kdz1 => (first | omega | ((try simp only [depth_deeper, depth_caller]); (try dsimp only [ktrTop]); omega) | ((try simp only [depth_under_make, depth_under_kw, depth_in1, depth_deeper, depth_caller]); (try dsimp only [ktrTop]); (try simp only [depth_under_make, depth_under_kw, depth_in1, depth_deeper, depth_caller]); omega)))); intro _ _ _ _ _ _ _ _ _ _ _ _ _; (try dsimp only); (try k_sweep)) | (k_here; (with_reducible show wpAny _ _ (call (Value.ref 53) [Value.ref _, Value.ref _, Value.int _ _]) _ _ _); k_dflt (refine' call_add ?kBz2 ?kFz2 ?kXz2 ?kNz2 ?kTz2 ?kKz2 ?kmz2 ?knz2 ?ivz2 ?iwz2 ?iLz2 ?jLz2 ?ilz2 ?jlz2 ?w1z2 ?w2z2 ?kdz2 ?_; (case kFz2 => k_asm); (case kNz2 => k_asm); (case kBz2 => k_asm); (case kXz2 => k_asm); (case kTz2 => k_asm); (case kKz2 => exact rfl); (case kmz2 => k_mem); (case knz2 => k_mem); (case ivz2 => with_reducible assumption); (case iwz2 => with_reducible assumption); (case iLz2 => with_reducible assumption); (case jLz2 => with_reducible assumption); (case ilz2 => omega); (case jlz2 => omega); (case w1z2 => omega); (case w2z2 => omega); (case kdz2 => (first | omega | ((try simp only [depth_deeper, depth_caller]); (try dsimp only [ktrTop]); omega) | ((try simp only [depth_under_make, depth_under_kw, depth_in1, depth_deeper, depth_caller]); (try dsimp only [ktrTop]); (try simp only [depth_under_make, depth_under_kw, depth_in1, depth_deeper, depth_caller]); omega)))); intro _ _ _ _ _ _ _ _ _ _ _ _ _; (try dsimp only); (try k_sweep)) | (k_here; (with_reducible show wpAny _ _ (call (Value.ref 60) [Value.ref _, Value.int _ _, Value.int _ _]) _ _ _); k_dflt (refine' call_shr ?kBz3 ?kFz3 ?kXz3 ?kNz3 ?kTz3 ?kKz3 ?kmz3 ?ivz3 ?iLz3 ?ilz3 ?w1z3 ?w2z3 ?n1z3 ?n2z3 ?kdz3 ?_; (case kFz3 => k_asm); (case kNz3 => k_asm); (case kBz3 => k_asm); (case kXz3 => k_asm); (case kTz3 => k_asm); (case kKz3 => exact rfl); (case kmz3 => k_mem); (case ivz3 => with_reducible assumption); (case iLz3 => with_reducible assumption); (case ilz3 => omega); (case w1z3 => omega); (case w2z3 => omega); (case n1z3 => omega); (case n2z3 => omega); (case kdz3 => (first | omega | ((try simp only [depth_deeper, depth_caller]); (try dsimp only [ktrTop]); omega) | ((try simp only [depth_under_make, depth_under_kw, depth_in1, depth_deeper, depth_caller]); (try dsimp only [ktrTop]); (try simp only [depth_under_make, depth_under_kw, depth_in1, depth_deeper, depth_caller]); omega)))); intro _ _ _ _ _ _ _ _ _ _ _ _ _; (try dsimp only); (try k_sweep)) | (k_here; (with_reducible show wpAny _ _ (call (Value.ref 67) [Value.ref _, Value.int _ _, Value.int _ _]) _ _ _); k_dflt (refine' call_low ?kBz4 ?kFz4 ?kXz4 ?kNz4 ?kTz4 ?kKz4 ?kmz4 ?ivz4 ?iLz4 ?ilz4 ?w1z4 ?w2z4 ?n1z4 ?n2z4 ?kdz4 ?_; (case kFz4 => k_asm); (case kNz4 => k_asm); (case kBz4 => k_asm); (case kXz4 => k_asm); (case kTz4 => k_asm); (case kKz4 => exact rfl); (case kmz4 => k_mem); (case ivz4 => with_reducible assumption); (case iLz4 => with_reducible assumption); (case ilz4 => omega); (case w1z4 => omega); (case w2z4 => omega); (case n1z4 => omega); (case n2z4 => omega); (case kdz4 => (first | omega | ((try simp only [depth_deeper, depth_caller]); (try dsimp only [ktrTop]); omega) | ((try simp only [depth_under_make, depth_under_kw, depth_in1, depth_deeper, depth_caller]); (try dsimp only [ktrTop]); (try simp only [depth_under_make, depth_under_kw, depth_in1, depth_deeper, depth_caller]); omega)))); intro _ _ _ _ _ _ _ _ _ _ _ _ _; (try dsimp only); (try k_sweep)) | (k_here; (with_reducible show wpAny _ _ (call (Value.ref 128) [Value.ref _, Value.int _ _]) _ _ _); k_dflt (refine' call_number ?kBz5 ?kFz5 ?kXz5 ?kNz5 ?kTz5 ?kKz5 ?kmz5 ?ivz5 ?iLz5 ?ilz5 ?w1z5 ?w2z5 ?kdz5 ?_; (case kFz5 => k_asm); (case kNz5 => k_asm); (case kBz5 => k_asm); (case kXz5 => k_asm); (case kTz5 => k_asm); (case kKz5 => exact rfl); (case kmz5 => k_mem); (case ivz5 => with_reducible assumption); (case iLz5 => with_reducible assumption); (case ilz5 => omega); (case w1z5 => omega); (case w2z5 => omega); (case kdz5 => (first | omega | ((try simp only [depth_deeper, depth_caller]); (try dsimp only [ktrTop]); omega) | ((try simp only [depth_under_make, depth_under_kw, depth_in1, depth_deeper, depth_caller]); (try dsimp only [ktrTop]); (try simp only [depth_under_make, depth_under_kw, depth_in1, depth_deeper, depth_caller]); omega)))); intro _ _ _ _ _; (try dsimp only); (try k_sweep)) | (k_here; (with_reducible show wpAny _ _ (call (Value.ref 123) [Value.int _ _, Value.int _ _]) _ _ _); k_dflt (refine' call_limbs ?kBz6 ?kFz6 ?kXz6 ?kNz6 ?kTz6 ?kKz6 ?w1z6 ?w2z6 ?n1z6 ?n2z6 ?kdz6 ?_; (case kFz6 => k_asm); (case kNz6 => k_asm); (case kBz6 => k_asm); (case kXz6 => k_asm); (case kTz6 => k_asm); (case kKz6 => exact rfl); (case w1z6 => omega); (case w2z6 => omega); (case n1z6 => omega); (case n2z6 => omega); (case kdz6 => (first | omega | ((try simp only [depth_deeper, depth_caller]); (try dsimp only [ktrTop]); omega) | ((try simp only [depth_under_make, depth_under_kw, depth_in1, depth_deeper, depth_caller]); (try dsimp only [ktrTop]); (try simp only [depth_under_make, depth_under_kw, depth_in1, depth_deeper, depth_caller]); omega)))); intro _ _ _ _ _ _ _ _ _ _ _ _ _; (try dsimp only); (try k_sweep)) | (k_here; (with_reducible show wpAny _ _ (call (Value.ref 116) [Value.ref _, Value.int _ _]) _ _ _); k_dflt (refine' call_spun ?kBz7 ?kFz7 ?kXz7 ?kNz7 ?kTz7 ?kKz7 rfl ?lbz7 ?apz7 ?ivz7 ?ilz7 ?k0z7 ?k1z7 ?m0z7 ?m1z7 ?kdz7 ?_; (case kFz7 => k_asm); (case kNz7 => k_asm); (case kBz7 => k_asm); (case kXz7 => k_asm); (case kTz7 => k_asm); (case kKz7 => exact rfl); (case lbz7 => (first | (first | with_reducible assumption | exact allLt_in (by with_reducible assumption) (by k_mem) | exact all_in (by with_reducible assumption) (by k_mem) | exact lt_via (by with_reducible assumption) (by with_reducible assumption) (by k_mem) | ((show @LT.lt Nat _ _ _); omega)) | ((show @LT.lt Nat _ _ _); omega))); (case apz7 => ((repeat (refine List.forall_mem_cons.mpr ⟨by ((try dsimp only); (first | with_reducible assumption | exact Ne.symm (by with_reducible assumption) | exact Nat.ne_of_gt (by first | with_reducible assumption | exact allLt_in (by with_reducible assumption) (by k_mem) | exact all_in (by with_reducible assumption) (by k_mem) | exact lt_via (by with_reducible assumption) (by with_reducible assumption) (by k_mem)) | exact Nat.ne_of_lt (by first | with_reducible assumption | exact allLt_in (by with_reducible assumption) (by k_mem) | exact all_in (by with_reducible assumption) (by k_mem) | exact lt_via (by with_reducible assumption) (by with_reducible assumption) (by k_mem)) | exact ne_in (by with_reducible assumption) (by k_mem) | exact Ne.symm (ne_in (by with_reducible assumption) (by k_mem)) | exact off1_in (by with_reducible assumption) (by k_mem) | exact Ne.symm (off1_in (by with_reducible assumption) (by k_mem)) | ((show @Ne Nat _ _); (try dsimp only); omega))), ?_⟩)); exact List.forall_mem_nil _)); (case ivz7 => with_reducible assumption); (case ilz7 => (simp only [List.length_map, List.length_take]; omega)); (case k0z7 => omega); (case k1z7 => omega); (case m0z7 => omega); (case m1z7 => omega); (case kdz7 => (first | omega | ((try simp only [depth_deeper, depth_caller]); (try dsimp only [ktrTop]); omega) | ((try simp only [depth_under_make, depth_under_kw, depth_in1, depth_deeper, depth_caller]); (try dsimp only [ktrTop]); (try simp only [depth_under_make, depth_under_kw, depth_in1, depth_deeper, depth_caller]); omega)))); intro _ _ _ _ _ _ _ _ _ _; (try dsimp only); (try k_sweep)) | (k_here; (with_reducible show wpAny _ _ (call (Value.ref 116) [Value.ref _, Value.int _ _]) _ _ _); k_dflt (refine' spun_at1 ?kBz8 ?kFz8 ?kXz8 ?kNz8 ?kTz8 ?kKz8 ?lbz8 ?axz8 ?apz8 ?ivz8 ?ilz8 ?k0z8 ?k1z8 ?m0z8 ?m1z8 ?kdz8 ?_; (case kFz8 => k_asm); (case kNz8 => k_asm); (case kBz8 => k_asm); (case kXz8 => k_asm); (case kTz8 => k_asm); (case kKz8 => exact rfl); (case axz8 => ((try dsimp only); (first | with_reducible assumption | exact Ne.symm (by with_reducible assumption) | exact Nat.ne_of_gt (by first | with_reducible assumption | exact allLt_in (by with_reducible assumption) (by k_mem) | exact all_in (by with_reducible assumption) (by k_mem) | exact lt_via (by with_reducible assumption) (by with_reducible assumption) (by k_mem)) | exact Nat.ne_of_lt (by first | with_reducible assumption | exact allLt_in (by with_reducible assumption) (by k_mem) | exact all_in (by with_reducible assumption) (by k_mem) | exact lt_via (by with_reducible assumption) (by with_reducible assumption) (by k_mem)) | exact ne_in (by with_reducible assumption) (by k_mem) | exact Ne.symm (ne_in (by with_reducible assumption) (by k_mem)) | exact off1_in (by with_reducible assumption) (by k_mem) | exact Ne.symm (off1_in (by with_reducible assumption) (by k_mem)) | ((show @Ne Nat _ _); (try dsimp only); omega)))); (case lbz8 => (first | (first | with_reducible assumption | exact allLt_in (by with_reducible assumption) (by k_mem) | exact all_in (by with_reducible assumption) (by k_mem) | exact lt_via (by with_reducible assumption) (by with_reducible assumption) (by k_mem) | ((show @LT.lt Nat _ _ _); omega)) | ((show @LT.lt Nat _ _ _); omega))); (case apz8 => ((repeat (refine List.forall_mem_cons.mpr ⟨by ((try dsimp only); (first | with_reducible assumption | exact Ne.symm (by with_reducible assumption) | exact Nat.ne_of_gt (by first | with_reducible assumption | exact allLt_in (by with_reducible assumption) (by k_mem) | exact all_in (by with_reducible assumption) (by k_mem) | exact lt_via (by with_reducible assumption) (by with_reducible assumption) (by k_mem)) | exact Nat.ne_of_lt (by first | with_reducible assumption | exact allLt_in (by with_reducible assumption) (by k_mem) | exact all_in (by with_reducible assumption) (by k_mem) | exact lt_via (by with_reducible assumption) (by with_reducible assumption) (by k_mem)) | exact ne_in (by with_reducible assumption) (by k_mem) | exact Ne.symm (ne_in (by with_reducible assumption) (by k_mem)) | exact off1_in (by with_reducible assumption) (by k_mem) | exact Ne.symm (off1_in (by with_reducible assumption) (by k_mem)) | ((show @Ne Nat _ _); (try dsimp only); omega))), ?_⟩)); exact List.forall_mem_nil _)); (case ivz8 => with_reducible assumption); (case ilz8 => (simp only [List.length_map, List.length_take]; omega)); (case k0z8 => omega); (case k1z8 => omega); (case m0z8 => omega); (case m1z8 => omega); (case kdz8 => (first | omega | ((try simp only [depth_deeper, depth_caller]); (try dsimp only [ktrTop]); omega) | ((try simp only [depth_under_make, depth_under_kw, depth_in1, depth_deeper, depth_caller]); (try dsimp only [ktrTop]); (try simp only [depth_under_make, depth_under_kw, depth_in1, depth_deeper, depth_caller]); omega)))); intro _ _ _ _ _ _ _ _ _ _; (try dsimp only); (try k_sweep))) | ((fail_if_success (with_reducible show Exists _)); (fail_if_success (with_reducible show LCg.FinA _ _ _ _ _ _ _ _)); (fail_if_success (with_reducible show KswEnd _ _ _ _ _ _ _ _ _ _ _ _)); (fail_if_success (with_reducible show wpAny _ _ (pyIter _) _ _ _)); (fail_if_success (with_reducible show wpAny _ _ (exec (Stmt.While _ _ _ _) _) _ _ _)); (fail_if_success (with_reducible show wpAny _ _ (exec (Stmt.Assign [Expr.Name _ _] (Expr.ListComp _ [⟨_, Expr.Tuple _ _ _, _, _⟩] _ _) _) _) _ _ _)); (first | (fail_if_success (with_reducible show wpAny _ _ (call (Value.ref _) _) _ _ _)) | (with_reducible show wpAny _ _ (call (Value.ref 98) _) _ _ _) | (with_reducible show wpAny _ _ (call (Value.ref 95) _) _ _ _) | (with_reducible show wpAny _ _ (call (Value.ref 88) _) _ _ _)); (first | walk1 | (dsimp only; walk1))) | (leave1; walk_say "STEP leave1"; try dsimp only) | fail "no step"))
    · exact ⟨_, rfl⟩
    · exact ⟨_, _, rfl, InElt.start _⟩
  · intro D h tk ys F2 N2 hD hys
    repeat (rename (@LT.lt Nat _ _ _ ∧ _) => z; clear z)
    repeat (rename (@Ne Nat _ _ ∧ _) => z; clear z)
    repeat (rename AllLt _ _ => z; clear z)
    have hyl := hys.length
    have hyg := gath_len (fun i => !((S.take i).any (· == S.getD i 0))) (fun i => S.getD i 0) S.length
    generalize hGd : gath (fun i => !((S.take i).any (· == S.getD i 0))) (fun i => S.getD i 0) S.length = G at hys hyl hyg
    have hGl : G.length ≤ 64 := by omega
    iterate 6 (first | (k_unfold; (try dsimp only)) | walk1)
    have hwS := lt_two (wi := wi) (by omega)
    obtain ⟨hSn, hHn, hSb, hand, hms⟩ := master hi1 hi2 hSd hHd hGd
    have hxx : (((G.length : Int) == 2 ^ wi.toNat) != ((G.length : Int) == 2 ^ wi.toNat)) = false := bne_self_eq_false _
    (repeat' (first | (k_unfold; (try dsimp only)) | (k_end; wrow_close) | (first | (k_here; (with_reducible show wpAny _ _ (eval (PySem.Expr.BoolOp PySem.BoolOp.And [_, _] _) _) _ _ _); (refine' and_join ?hbz59 ?_ ?h1z59 ?h2z59); (case hbz59 => with_reducible assumption); (case h1z59 => ((repeat' (first | (k_unfold; (try dsimp only)) | (k_end; wrow_close) | (first | (k_here; (with_reducible show wpAny _ _ (call (Value.ref 109) [Value.ref _, Value.ref _, Value.int _ _]) _ _ _); k_dflt (refine' call_mul ?kBz1 ?kFz1 ?kXz1 ?kNz1 ?kTz1 ?kKz1 ?kmz1 ?knz1 ?ivz1 ?iwz1 ?iLz1 ?jLz1 ?ilz1 ?jlz1 ?w1z1 ?w2z1 ?kdz1 ?_; (case kFz1 => k_asm); (case kNz1 => k_asm); (case kBz1 => k_asm); (case kXz1 => k_asm); (case kTz1 => k_asm); (case kKz1 => exact rfl); (case kmz1 => k_mem); (case knz1 => k_mem); (case ivz1 => with_reducible assumption); (case iwz1 => with_reducible assumption); (case iLz1 => with_reducible assumption); (case jLz1 => with_reducible assumption); (case ilz1 => omega); (case jlz1 => omega); (case w1z1 => omega); (case w2z1 => omega); (case kdz1 => (first | omega | ((try simp only [depth_deeper, depth_caller]); (try dsimp only [ktrTop]); omega) | ((try simp only [depth_under_make, depth_under_kw, depth_in1, depth_deeper, depth_caller]); (try dsimp only [ktrTop]); (try simp only [depth_under_make, depth_under_kw, depth_in1, depth_deeper, depth_caller]); omega)))); intro _ _ _ _ _ _ _ _ _ _ _ _ _; (try dsimp only); (try k_sweep)) | (k_here; (with_reducible show wpAny _ _ (call (Value.ref 53) [Value.ref _, Value.ref _, Value.int _ _]) _ _ _); k_dflt (refine' call_add ?kBz2 ?kFz2 ?kXz2 ?kNz2 ?kTz2 ?kKz2 ?kmz2 ?knz2 ?ivz2 ?iwz2 ?iLz2 ?jLz2 ?ilz2 ?jlz2 ?w1z2 ?w2z2 ?kdz2 ?_; (case kFz2 => k_asm); (case kNz2 => k_asm); (case kBz2 => k_asm); (case kXz2 => k_asm); (case kTz2 => k_asm); (case kKz2 => exact rfl); (case kmz2 => k_mem); (case knz2 => k_mem); (case ivz2 => with_reducible assumption); (case iwz2 => with_reducible assumption); (case iLz2 => with_reducible assumption); (case jLz2 => with_reducible assumption); (case ilz2 => omega); (case jlz2 => omega); (case w1z2 => omega); (case w2z2 => omega); (case kdz2 => (first | omega | ((try simp only [depth_deeper, depth_caller]); (try dsimp only [ktrTop]); omega) | ((try simp only [depth_under_make, depth_under_kw, depth_in1, depth_deeper, depth_caller]); (try dsimp only [ktrTop]); (try simp only [depth_under_make, depth_under_kw, depth_in1, depth_deeper, depth_caller]); omega)))); intro _ _ _ _ _ _ _ _ _ _ _ _ _; (try dsimp only); (try k_sweep)) | (k_here; (with_reducible show wpAny _ _ (call (Value.ref 60) [Value.ref _, Value.int _ _, Value.int _ _]) _ _ _); k_dflt (refine' call_shr ?kBz3 ?kFz3 ?kXz3 ?kNz3 ?kTz3 ?kKz3 ?kmz3 ?ivz3 ?iLz3 ?ilz3 ?w1z3 ?w2z3 ?n1z3 ?n2z3 ?kdz3 ?_; (case kFz3 => k_asm); (case kNz3 => k_asm); (case kBz3 => k_asm); (case kXz3 => k_asm); (case kTz3 => k_asm); (case kKz3 => exact rfl); (case kmz3 => k_mem); (case ivz3 => with_reducible assumption); (case iLz3 => with_reducible assumption); (case ilz3 => omega); (case w1z3 => omega); (case w2z3 => omega); (case n1z3 => omega); (case n2z3 => omega); (case kdz3 => (first | omega | ((try simp only [depth_deeper, depth_caller]); (try dsimp only [ktrTop]); omega) | ((try simp only [depth_under_make, depth_under_kw, depth_in1, depth_deeper, depth_caller]); (try dsimp only [ktrTop]); (try simp only [depth_under_make, depth_under_kw, depth_in1, depth_deeper, depth_caller]); omega)))); intro _ _ _ _ _ _ _ _ _ _ _ _ _; (try dsimp only); (try k_sweep)) | (k_here; (with_reducible show wpAny _ _ (call (Value.ref 67) [Value.ref _, Value.int _ _, Value.int _ _]) _ _ _); k_dflt (refine' call_low ?kBz4 ?kFz4 ?kXz4 ?kNz4 ?kTz4 ?kKz4 ?kmz4 ?ivz4 ?iLz4 ?ilz4 ?w1z4 ?w2z4 ?n1z4 ?n2z4 ?kdz4 ?_; (case kFz4 => k_asm); (case kNz4 => k_asm); (case kBz4 => k_asm); (case kXz4 => k_asm); (case kTz4 => k_asm); (case kKz4 => exact rfl); (case kmz4 => k_mem); (case ivz4 => with_reducible assumption); (case iLz4 => with_reducible assumption); (case ilz4 => omega); (case w1z4 => omega); (case w2z4 => omega); (case n1z4 => omega); (case n2z4 => omega); (case kdz4 => (first | omega | ((try simp only [depth_deeper, depth_caller]); (try dsimp only [ktrTop]); omega) | ((try simp only [depth_under_make, depth_under_kw, depth_in1, depth_deeper, depth_caller]); (try dsimp only [ktrTop]); (try simp only [depth_under_make, depth_under_kw, depth_in1, depth_deeper, depth_caller]); omega)))); intro _ _ _ _ _ _ _ _ _ _ _ _ _; (try dsimp only); (try k_sweep)) | (k_here; (with_reducible show wpAny _ _ (call (Value.ref 128) [Value.ref _, Value.int _ _]) _ _ _); k_dflt (refine' call_number ?kBz5 ?kFz5 ?kXz5 ?kNz5 ?kTz5 ?kKz5 ?kmz5 ?ivz5 ?iLz5 ?ilz5 ?w1z5 ?w2z5 ?kdz5 ?_; (case kFz5 => k_asm); (case kNz5 => k_asm); (case kBz5 => k_asm); (case kXz5 => k_asm); (case kTz5 => k_asm); (case kKz5 => exact rfl); (case kmz5 => k_mem); (case ivz5 => with_reducible assumption); (case iLz5 => with_reducible assumption); (case ilz5 => omega); (case w1z5 => omega); (case w2z5 => omega); (case kdz5 => (first | omega | ((try simp only [depth_deeper, depth_caller]); (try dsimp only [ktrTop]); omega) | ((try simp only [depth_under_make, depth_under_kw, depth_in1, depth_deeper, depth_caller]); (try dsimp only [ktrTop]); (try simp only [depth_under_make, depth_under_kw, depth_in1, depth_deeper, depth_caller]); omega)))); intro _ _ _ _ _; (try dsimp only); (try k_sweep)) | (k_here; (with_reducible show wpAny _ _ (call (Value.ref 123) [Value.int _ _, Value.int _ _]) _ _ _); k_dflt (refine' call_limbs ?kBz6 ?kFz6 ?kXz6 ?kNz6 ?kTz6 ?kKz6 ?w1z6 ?w2z6 ?n1z6 ?n2z6 ?kdz6 ?_; (case kFz6 => k_asm); (case kNz6 => k_asm); (case kBz6 => k_asm); (case kXz6 => k_asm); (case kTz6 => k_asm); (case kKz6 => exact rfl); (case w1z6 => omega); (case w2z6 => omega); (case n1z6 => omega); (case n2z6 => omega); (case kdz6 => (first | omega | ((try simp only [depth_deeper, depth_caller]); (try dsimp only [ktrTop]); omega) | ((try simp only [depth_under_make, depth_under_kw, depth_in1, depth_deeper, depth_caller]); (try dsimp only [ktrTop]); (try simp only [depth_under_make, depth_under_kw, depth_in1, depth_deeper, depth_caller]); omega)))); intro _ _ _ _ _ _ _ _ _ _ _ _ _; (try dsimp only); (try k_sweep)) | (k_here; (with_reducible show wpAny _ _ (call (Value.ref 116) [Value.ref _, Value.int _ _]) _ _ _); k_dflt (refine' call_spun ?kBz7 ?kFz7 ?kXz7 ?kNz7 ?kTz7 ?kKz7 rfl ?lbz7 ?apz7 ?ivz7 ?ilz7 ?k0z7 ?k1z7 ?m0z7 ?m1z7 ?kdz7 ?_; (case kFz7 => k_asm); (case kNz7 => k_asm); (case kBz7 => k_asm); (case kXz7 => k_asm); (case kTz7 => k_asm); (case kKz7 => exact rfl); (case lbz7 => (first | (first | with_reducible assumption | exact allLt_in (by with_reducible assumption) (by k_mem) | exact all_in (by with_reducible assumption) (by k_mem) | exact lt_via (by with_reducible assumption) (by with_reducible assumption) (by k_mem) | ((show @LT.lt Nat _ _ _); omega)) | ((show @LT.lt Nat _ _ _); omega))); (case apz7 => ((repeat (refine List.forall_mem_cons.mpr ⟨by ((try dsimp only); (first | with_reducible assumption | exact Ne.symm (by with_reducible assumption) | exact Nat.ne_of_gt (by first | with_reducible assumption | exact allLt_in (by with_reducible assumption) (by k_mem) | exact all_in (by with_reducible assumption) (by k_mem) | exact lt_via (by with_reducible assumption) (by with_reducible assumption) (by k_mem)) | exact Nat.ne_of_lt (by first | with_reducible assumption | exact allLt_in (by with_reducible assumption) (by k_mem) | exact all_in (by with_reducible assumption) (by k_mem) | exact lt_via (by with_reducible assumption) (by with_reducible assumption) (by k_mem)) | exact ne_in (by with_reducible assumption) (by k_mem) | exact Ne.symm (ne_in (by with_reducible assumption) (by k_mem)) | exact off1_in (by with_reducible assumption) (by k_mem) | exact Ne.symm (off1_in (by with_reducible assumption) (by k_mem)) | ((show @Ne Nat _ _); (try dsimp only); omega))), ?_⟩)); exact List.forall_mem_nil _)); (case ivz7 => with_reducible assumption); (case ilz7 => (simp only [List.length_map, List.length_take]; omega)); (case k0z7 => omega); (case k1z7 => omega); (case m0z7 => omega); (case m1z7 => omega); (case kdz7 => (first | omega | ((try simp only [depth_deeper, depth_caller]); (try dsimp only [ktrTop]); omega) | ((try simp only [depth_under_make, depth_under_kw, depth_in1, depth_deeper, depth_caller]); (try dsimp only [ktrTop]); (try simp only [depth_under_make, depth_under_kw, depth_in1, depth_deeper, depth_caller]); omega)))); intro _ _ _ _ _ _ _ _ _ _; (try dsimp only); (try k_sweep)) | (k_here; (with_reducible show wpAny _ _ (call (Value.ref 116) [Value.ref _, Value.int _ _]) _ _ _); k_dflt (refine' spun_at1 ?kBz8 ?kFz8 ?kXz8 ?kNz8 ?kTz8 ?kKz8 ?lbz8 ?axz8 ?apz8 ?ivz8 ?ilz8 ?k0z8 ?k1z8 ?m0z8 ?m1z8 ?kdz8 ?_; (case kFz8 => k_asm); (case kNz8 => k_asm); (case kBz8 => k_asm); (case kXz8 => k_asm); (case kTz8 => k_asm); (case kKz8 => exact rfl); (case axz8 => ((try dsimp only); (first | with_reducible assumption | exact Ne.symm (by with_reducible assumption) | exact Nat.ne_of_gt (by first | with_reducible assumption | exact allLt_in (by with_reducible assumption) (by k_mem) | exact all_in (by with_reducible assumption) (by k_mem) | exact lt_via (by with_reducible assumption) (by with_reducible assumption) (by k_mem)) | exact Nat.ne_of_lt (by first | with_reducible assumption | exact allLt_in (by with_reducible assumption) (by k_mem) | exact all_in (by with_reducible assumption) (by k_mem) | exact lt_via (by with_reducible assumption) (by with_reducible assumption) (by k_mem)) | exact ne_in (by with_reducible assumption) (by k_mem) | exact Ne.symm (ne_in (by with_reducible assumption) (by k_mem)) | exact off1_in (by with_reducible assumption) (by k_mem) | exact Ne.symm (off1_in (by with_reducible assumption) (by k_mem)) | ((show @Ne Nat _ _); (try dsimp only); omega)))); (case lbz8 => (first | (first | with_reducible assumption | exact allLt_in (by with_reducible assumption) (by k_mem) | exact all_in (by with_reducible assumption) (by k_mem) | exact lt_via (by with_reducible assumption) (by with_reducible assumption) (by k_mem) | ((show @LT.lt Nat _ _ _); omega)) | ((show @LT.lt Nat _ _ _); omega))); (case apz8 => ((repeat (refine List.forall_mem_cons.mpr ⟨by ((try dsimp only); (first | with_reducible assumption | exact Ne.symm (by with_reducible assumption) | exact Nat.ne_of_gt (by first | with_reducible assumption | exact allLt_in (by with_reducible assumption) (by k_mem) | exact all_in (by with_reducible assumption) (by k_mem) | exact lt_via (by with_reducible assumption) (by with_reducible assumption) (by k_mem)) | exact Nat.ne_of_lt (by first | with_reducible assumption | exact allLt_in (by with_reducible assumption) (by k_mem) | exact all_in (by with_reducible assumption) (by k_mem) | exact lt_via (by with_reducible assumption) (by with_reducible assumption) (by k_mem)) | exact ne_in (by with_reducible assumption) (by k_mem) | exact Ne.symm (ne_in (by with_reducible assumption) (by k_mem)) | exact off1_in (by with_reducible assumption) (by k_mem) | exact Ne.symm (off1_in (by with_reducible assumption) (by k_mem)) | ((show @Ne Nat _ _); (try dsimp only); omega))), ?_⟩)); exact List.forall_mem_nil _)); (case ivz8 => with_reducible assumption); (case ilz8 => (simp only [List.length_map, List.length_take]; omega)); (case k0z8 => omega); (case k1z8 => omega); (case m0z8 => omega); (case m1z8 => omega); (case kdz8 => (first | omega | ((try simp only [depth_deeper, depth_caller]); (try dsimp only [ktrTop]); omega) | ((try simp only [depth_under_make, depth_under_kw, depth_in1, depth_deeper, depth_caller]); (try dsimp only [ktrTop]); (try simp only [depth_under_make, depth_under_kw, depth_in1, depth_deeper, depth_caller]); omega)))); intro _ _ _ _ _ _ _ _ _ _; (try dsimp only); (try k_sweep))) | ((fail_if_success (with_reducible show Exists _)); (fail_if_success (with_reducible show LCg.FinA _ _ _ _ _ _ _ _)); (fail_if_success (with_reducible show KswEnd _ _ _ _ _ _ _ _ _ _ _ _)); (fail_if_success (with_reducible show wpAny _ _ (pyIter _) _ _ _)); (fail_if_success (with_reducible show wpAny _ _ (exec (Stmt.While _ _ _ _) _) _ _ _)); (fail_if_success (with_reducible show wpAny _ _ (exec (Stmt.Assign [Expr.Name _ _] (Expr.ListComp _ [⟨_, Expr.Tuple _ _ _, _, _⟩] _ _) _) _) _ _ _)); (first | (fail_if_success (with_reducible show wpAny _ _ (call (Value.ref _) _) _ _ _)) | (with_reducible show wpAny _ _ (call (Value.ref 98) _) _ _ _) | (with_reducible show wpAny _ _ (call (Value.ref 95) _) _ _ _) | (with_reducible show wpAny _ _ (call (Value.ref 88) _) _ _ _)); (first | walk1 | (dsimp only; walk1))) | (leave1; walk_say "STEP leave1"; try dsimp only) | fail "no step")); exact ⟨_, rfl, rfl⟩)); (case h2z59 => (intro _; (repeat' (first | (k_unfold; (try dsimp only)) | (k_end; wrow_close) | (first | (k_here; (with_reducible show wpAny _ _ (call (Value.ref 109) [Value.ref _, Value.ref _, Value.int _ _]) _ _ _); k_dflt (refine' call_mul ?kBz1 ?kFz1 ?kXz1 ?kNz1 ?kTz1 ?kKz1 ?kmz1 ?knz1 ?ivz1 ?iwz1 ?iLz1 ?jLz1 ?ilz1 ?jlz1 ?w1z1 ?w2z1 ?kdz1 ?_; (case kFz1 => k_asm); (case kNz1 => k_asm); (case kBz1 => k_asm); (case kXz1 => k_asm); (case kTz1 => k_asm); (case kKz1 => exact rfl); (case kmz1 => k_mem); (case knz1 => k_mem); (case ivz1 => with_reducible assumption); (case iwz1 => with_reducible assumption); (case iLz1 => with_reducible assumption); (case jLz1 => with_reducible assumption); (case ilz1 => omega); (case jlz1 => omega); (case w1z1 => omega); (case w2z1 => omega); (case kdz1 => (first | omega | ((try simp only [depth_deeper, depth_caller]); (try dsimp only [ktrTop]); omega) | ((try simp only [depth_under_make, depth_under_kw, depth_in1, depth_deeper, depth_caller]); (try dsimp only [ktrTop]); (try simp only [depth_under_make, depth_under_kw, depth_in1, depth_deeper, depth_caller]); omega)))); intro _ _ _ _ _ _ _ _ _ _ _ _ _; (try dsimp only); (try k_sweep)) | (k_here; (with_reducible show wpAny _ _ (call (Value.ref 53) [Value.ref _, Value.ref _, Value.int _ _]) _ _ _); k_dflt (refine' call_add ?kBz2 ?kFz2 ?kXz2 ?kNz2 ?kTz2 ?kKz2 ?kmz2 ?knz2 ?ivz2 ?iwz2 ?iLz2 ?jLz2 ?ilz2 ?jlz2 ?w1z2 ?w2z2 ?kdz2 ?_; (case kFz2 => k_asm); (case kNz2 => k_asm); (case kBz2 => k_asm); (case kXz2 => k_asm); (case kTz2 => k_asm); (case kKz2 => exact rfl); (case kmz2 => k_mem); (case knz2 => k_mem); (case ivz2 => with_reducible assumption); (case iwz2 => with_reducible assumption); (case iLz2 => with_reducible assumption); (case jLz2 => with_reducible assumption); (case ilz2 => omega); (case jlz2 => omega); (case w1z2 => omega); (case w2z2 => omega); (case kdz2 => (first | omega | ((try simp only [depth_deeper, depth_caller]); (try dsimp only [ktrTop]); omega) | ((try simp only [depth_under_make, depth_under_kw, depth_in1, depth_deeper, depth_caller]); (try dsimp only [ktrTop]); (try simp only [depth_under_make, depth_under_kw, depth_in1, depth_deeper, depth_caller]); omega)))); intro _ _ _ _ _ _ _ _ _ _ _ _ _; (try dsimp only); (try k_sweep)) | (k_here; (with_reducible show wpAny _ _ (call (Value.ref 60) [Value.ref _, Value.int _ _, Value.int _ _]) _ _ _); k_dflt (refine' call_shr ?kBz3 ?kFz3 ?kXz3 ?kNz3 ?kTz3 ?kKz3 ?kmz3 ?ivz3 ?iLz3 ?ilz3 ?w1z3 ?w2z3 ?n1z3 ?n2z3 ?kdz3 ?_; (case kFz3 => k_asm); (case kNz3 => k_asm); (case kBz3 => k_asm); (case kXz3 => k_asm); (case kTz3 => k_asm); (case kKz3 => exact rfl); (case kmz3 => k_mem); (case ivz3 => with_reducible assumption); (case iLz3 => with_reducible assumption); (case ilz3 => omega); (case w1z3 => omega); (case w2z3 => omega); (case n1z3 => omega); (case n2z3 => omega); (case kdz3 => (first | omega | ((try simp only [depth_deeper, depth_caller]); (try dsimp only [ktrTop]); omega) | ((try simp only [depth_under_make, depth_under_kw, depth_in1, depth_deeper, depth_caller]); (try dsimp only [ktrTop]); (try simp only [depth_under_make, depth_under_kw, depth_in1, depth_deeper, depth_caller]); omega)))); intro _ _ _ _ _ _ _ _ _ _ _ _ _; (try dsimp only); (try k_sweep)) | (k_here; (with_reducible show wpAny _ _ (call (Value.ref 67) [Value.ref _, Value.int _ _, Value.int _ _]) _ _ _); k_dflt (refine' call_low ?kBz4 ?kFz4 ?kXz4 ?kNz4 ?kTz4 ?kKz4 ?kmz4 ?ivz4 ?iLz4 ?ilz4 ?w1z4 ?w2z4 ?n1z4 ?n2z4 ?kdz4 ?_; (case kFz4 => k_asm); (case kNz4 => k_asm); (case kBz4 => k_asm); (case kXz4 => k_asm); (case kTz4 => k_asm); (case kKz4 => exact rfl); (case kmz4 => k_mem); (case ivz4 => with_reducible assumption); (case iLz4 => with_reducible assumption); (case ilz4 => omega); (case w1z4 => omega); (case w2z4 => omega); (case n1z4 => omega); (case n2z4 => omega); (case kdz4 => (first | omega | ((try simp only [depth_deeper, depth_caller]); (try dsimp only [ktrTop]); omega) | ((try simp only [depth_under_make, depth_under_kw, depth_in1, depth_deeper, depth_caller]); (try dsimp only [ktrTop]); (try simp only [depth_under_make, depth_under_kw, depth_in1, depth_deeper, depth_caller]); omega)))); intro _ _ _ _ _ _ _ _ _ _ _ _ _; (try dsimp only); (try k_sweep)) | (k_here; (with_reducible show wpAny _ _ (call (Value.ref 128) [Value.ref _, Value.int _ _]) _ _ _); k_dflt (refine' call_number ?kBz5 ?kFz5 ?kXz5 ?kNz5 ?kTz5 ?kKz5 ?kmz5 ?ivz5 ?iLz5 ?ilz5 ?w1z5 ?w2z5 ?kdz5 ?_; (case kFz5 => k_asm); (case kNz5 => k_asm); (case kBz5 => k_asm); (case kXz5 => k_asm); (case kTz5 => k_asm); (case kKz5 => exact rfl); (case kmz5 => k_mem); (case ivz5 => with_reducible assumption); (case iLz5 => with_reducible assumption); (case ilz5 => omega); (case w1z5 => omega); (case w2z5 => omega); (case kdz5 => (first | omega | ((try simp only [depth_deeper, depth_caller]); (try dsimp only [ktrTop]); omega) | ((try simp only [depth_under_make, depth_under_kw, depth_in1, depth_deeper, depth_caller]); (try dsimp only [ktrTop]); (try simp only [depth_under_make, depth_under_kw, depth_in1, depth_deeper, depth_caller]); omega)))); intro _ _ _ _ _; (try dsimp only); (try k_sweep)) | (k_here; (with_reducible show wpAny _ _ (call (Value.ref 123) [Value.int _ _, Value.int _ _]) _ _ _); k_dflt (refine' call_limbs ?kBz6 ?kFz6 ?kXz6 ?kNz6 ?kTz6 ?kKz6 ?w1z6 ?w2z6 ?n1z6 ?n2z6 ?kdz6 ?_; (case kFz6 => k_asm); (case kNz6 => k_asm); (case kBz6 => k_asm); (case kXz6 => k_asm); (case kTz6 => k_asm); (case kKz6 => exact rfl); (case w1z6 => omega); (case w2z6 => omega); (case n1z6 => omega); (case n2z6 => omega); (case kdz6 => (first | omega | ((try simp only [depth_deeper, depth_caller]); (try dsimp only [ktrTop]); omega) | ((try simp only [depth_under_make, depth_under_kw, depth_in1, depth_deeper, depth_caller]); (try dsimp only [ktrTop]); (try simp only [depth_under_make, depth_under_kw, depth_in1, depth_deeper, depth_caller]); omega)))); intro _ _ _ _ _ _ _ _ _ _ _ _ _; (try dsimp only); (try k_sweep)) | (k_here; (with_reducible show wpAny _ _ (call (Value.ref 116) [Value.ref _, Value.int _ _]) _ _ _); k_dflt (refine' call_spun ?kBz7 ?kFz7 ?kXz7 ?kNz7 ?kTz7 ?kKz7 rfl ?lbz7 ?apz7 ?ivz7 ?ilz7 ?k0z7 ?k1z7 ?m0z7 ?m1z7 ?kdz7 ?_; (case kFz7 => k_asm); (case kNz7 => k_asm); (case kBz7 => k_asm); (case kXz7 => k_asm); (case kTz7 => k_asm); (case kKz7 => exact rfl); (case lbz7 => (first | (first | with_reducible assumption | exact allLt_in (by with_reducible assumption) (by k_mem) | exact all_in (by with_reducible assumption) (by k_mem) | exact lt_via (by with_reducible assumption) (by with_reducible assumption) (by k_mem) | ((show @LT.lt Nat _ _ _); omega)) | ((show @LT.lt Nat _ _ _); omega))); (case apz7 => ((repeat (refine List.forall_mem_cons.mpr ⟨by ((try dsimp only); (first | with_reducible assumption | exact Ne.symm (by with_reducible assumption) | exact Nat.ne_of_gt (by first | with_reducible assumption | exact allLt_in (by with_reducible assumption) (by k_mem) | exact all_in (by with_reducible assumption) (by k_mem) | exact lt_via (by with_reducible assumption) (by with_reducible assumption) (by k_mem)) | exact Nat.ne_of_lt (by first | with_reducible assumption | exact allLt_in (by with_reducible assumption) (by k_mem) | exact all_in (by with_reducible assumption) (by k_mem) | exact lt_via (by with_reducible assumption) (by with_reducible assumption) (by k_mem)) | exact ne_in (by with_reducible assumption) (by k_mem) | exact Ne.symm (ne_in (by with_reducible assumption) (by k_mem)) | exact off1_in (by with_reducible assumption) (by k_mem) | exact Ne.symm (off1_in (by with_reducible assumption) (by k_mem)) | ((show @Ne Nat _ _); (try dsimp only); omega))), ?_⟩)); exact List.forall_mem_nil _)); (case ivz7 => with_reducible assumption); (case ilz7 => (simp only [List.length_map, List.length_take]; omega)); (case k0z7 => omega); (case k1z7 => omega); (case m0z7 => omega); (case m1z7 => omega); (case kdz7 => (first | omega | ((try simp only [depth_deeper, depth_caller]); (try dsimp only [ktrTop]); omega) | ((try simp only [depth_under_make, depth_under_kw, depth_in1, depth_deeper, depth_caller]); (try dsimp only [ktrTop]); (try simp only [depth_under_make, depth_under_kw, depth_in1, depth_deeper, depth_caller]); omega)))); intro _ _ _ _ _ _ _ _ _ _; (try dsimp only); (try k_sweep)) | (k_here; (with_reducible show wpAny _ _ (call (Value.ref 116) [Value.ref _, Value.int _ _]) _ _ _); k_dflt (refine' spun_at1 ?kBz8 ?kFz8 ?kXz8 ?kNz8 ?kTz8 ?kKz8 ?lbz8 ?axz8 ?apz8 ?ivz8 ?ilz8 ?k0z8 ?k1z8 ?m0z8 ?m1z8 ?kdz8 ?_; (case kFz8 => k_asm); (case kNz8 => k_asm); (case kBz8 => k_asm); (case kXz8 => k_asm); (case kTz8 => k_asm); (case kKz8 => exact rfl); (case axz8 => ((try dsimp only); (first | with_reducible assumption | exact Ne.symm (by with_reducible assumption) | exact Nat.ne_of_gt (by first | with_reducible assumption | exact allLt_in (by with_reducible assumption) (by k_mem) | exact all_in (by with_reducible assumption) (by k_mem) | exact lt_via (by with_reducible assumption) (by with_reducible assumption) (by k_mem)) | exact Nat.ne_of_lt (by first | with_reducible assumption | exact allLt_in (by with_reducible assumption) (by k_mem) | exact all_in (by with_reducible assumption) (by k_mem) | exact lt_via (by with_reducible assumption) (by with_reducible assumption) (by k_mem)) | exact ne_in (by with_reducible assumption) (by k_mem) | exact Ne.symm (ne_in (by with_reducible assumption) (by k_mem)) | exact off1_in (by with_reducible assumption) (by k_mem) | exact Ne.symm (off1_in (by with_reducible assumption) (by k_mem)) | ((show @Ne Nat _ _); (try dsimp only); omega)))); (case lbz8 => (first | (first | with_reducible assumption | exact allLt_in (by with_reducible assumption) (by k_mem) | exact all_in (by with_reducible assumption) (by k_mem) | exact lt_via (by with_reducible assumption) (by with_reducible assumption) (by k_mem) | ((show @LT.lt Nat _ _ _); omega)) | ((show @LT.lt Nat _ _ _); omega))); (case apz8 => ((repeat (refine List.forall_mem_cons.mpr ⟨by ((try dsimp only); (first | with_reducible assumption | exact Ne.symm (by with_reducible assumption) | exact Nat.ne_of_gt (by first | with_reducible assumption | exact allLt_in (by with_reducible assumption) (by k_mem) | exact all_in (by with_reducible assumption) (by k_mem) | exact lt_via (by with_reducible assumption) (by with_reducible assumption) (by k_mem)) | exact Nat.ne_of_lt (by first | with_reducible assumption | exact allLt_in (by with_reducible assumption) (by k_mem) | exact all_in (by with_reducible assumption) (by k_mem) | exact lt_via (by with_reducible assumption) (by with_reducible assumption) (by k_mem)) | exact ne_in (by with_reducible assumption) (by k_mem) | exact Ne.symm (ne_in (by with_reducible assumption) (by k_mem)) | exact off1_in (by with_reducible assumption) (by k_mem) | exact Ne.symm (off1_in (by with_reducible assumption) (by k_mem)) | ((show @Ne Nat _ _); (try dsimp only); omega))), ?_⟩)); exact List.forall_mem_nil _)); (case ivz8 => with_reducible assumption); (case ilz8 => (simp only [List.length_map, List.length_take]; omega)); (case k0z8 => omega); (case k1z8 => omega); (case m0z8 => omega); (case m1z8 => omega); (case kdz8 => (first | omega | ((try simp only [depth_deeper, depth_caller]); (try dsimp only [ktrTop]); omega) | ((try simp only [depth_under_make, depth_under_kw, depth_in1, depth_deeper, depth_caller]); (try dsimp only [ktrTop]); (try simp only [depth_under_make, depth_under_kw, depth_in1, depth_deeper, depth_caller]); omega)))); intro _ _ _ _ _ _ _ _ _ _; (try dsimp only); (try k_sweep))) | ((fail_if_success (with_reducible show Exists _)); (fail_if_success (with_reducible show LCg.FinA _ _ _ _ _ _ _ _)); (fail_if_success (with_reducible show KswEnd _ _ _ _ _ _ _ _ _ _ _ _)); (fail_if_success (with_reducible show wpAny _ _ (pyIter _) _ _ _)); (fail_if_success (with_reducible show wpAny _ _ (exec (Stmt.While _ _ _ _) _) _ _ _)); (fail_if_success (with_reducible show wpAny _ _ (exec (Stmt.Assign [Expr.Name _ _] (Expr.ListComp _ [⟨_, Expr.Tuple _ _ _, _, _⟩] _ _) _) _) _ _ _)); (first | (fail_if_success (with_reducible show wpAny _ _ (call (Value.ref _) _) _ _ _)) | (with_reducible show wpAny _ _ (call (Value.ref 98) _) _ _ _) | (with_reducible show wpAny _ _ (call (Value.ref 95) _) _ _ _) | (with_reducible show wpAny _ _ (call (Value.ref 88) _) _ _ _)); (first | walk1 | (dsimp only; walk1))) | (leave1; walk_say "STEP leave1"; try dsimp only) | fail "no step")); exact ⟨_, rfl, rfl⟩)); intro _; (try dsimp only)) | (k_here; (with_reducible show wpAny _ _ (call (Value.ref 109) [Value.ref _, Value.ref _, Value.int _ _]) _ _ _); k_dflt (refine' call_mul ?kBz60 ?kFz60 ?kXz60 ?kNz60 ?kTz60 ?kKz60 ?kmz60 ?knz60 ?ivz60 ?iwz60 ?iLz60 ?jLz60 ?ilz60 ?jlz60 ?w1z60 ?w2z60 ?kdz60 ?_; (case kFz60 => k_asm); (case kNz60 => k_asm); (case kBz60 => k_asm); (case kXz60 => k_asm); (case kTz60 => k_asm); (case kKz60 => exact rfl); (case kmz60 => k_mem); (case knz60 => k_mem); (case ivz60 => with_reducible assumption); (case iwz60 => with_reducible assumption); (case iLz60 => with_reducible assumption); (case jLz60 => with_reducible assumption); (case ilz60 => omega); (case jlz60 => omega); (case w1z60 => omega); (case w2z60 => omega); (case kdz60 => (first | omega | ((try simp only [depth_deeper, depth_caller]); (try dsimp only [ktrTop]); omega) | ((try simp only [depth_under_make, depth_under_kw, depth_in1, depth_deeper, depth_caller]); (try dsimp only [ktrTop]); (try simp only [depth_under_make, depth_under_kw, depth_in1, depth_deeper, depth_caller]); omega)))); intro _ _ _ _ _ _ _ _ _ _ _ _ _; (try dsimp only); (try k_sweep)) | (k_here; (with_reducible show wpAny _ _ (call (Value.ref 53) [Value.ref _, Value.ref _, Value.int _ _]) _ _ _); k_dflt (refine' call_add ?kBz61 ?kFz61 ?kXz61 ?kNz61 ?kTz61 ?kKz61 ?kmz61 ?knz61 ?ivz61 ?iwz61 ?iLz61 ?jLz61 ?ilz61 ?jlz61 ?w1z61 ?w2z61 ?kdz61 ?_; (case kFz61 => k_asm); (case kNz61 => k_asm); (case kBz61 => k_asm); (case kXz61 => k_asm); (case kTz61 => k_asm); (case kKz61 => exact rfl); (case kmz61 => k_mem); (case knz61 => k_mem); (case ivz61 => with_reducible assumption); (case iwz61 => with_reducible assumption); (case iLz61 => with_reducible assumption); (case jLz61 => with_reducible assumption); (case ilz61 => omega); (case jlz61 => omega); (case w1z61 => omega); (case w2z61 => omega); (case kdz61 => (first | omega | ((try simp only [depth_deeper, depth_caller]); (try dsimp only [ktrTop]); omega) | ((try simp only [depth_under_make, depth_under_kw, depth_in1, depth_deeper, depth_caller]); (try dsimp only [ktrTop]); (try simp only [depth_under_make, depth_under_kw, depth_in1, depth_deeper, depth_caller]); omega)))); intro _ _ _ _ _ _ _ _ _ _ _ _ _; (try dsimp only); (try k_sweep)) | (k_here; (with_reducible show wpAny _ _ (call (Value.ref 60) [Value.ref _, Value.int _ _, Value.int _ _]) _ _ _); k_dflt (refine' call_shr ?kBz62 ?kFz62 ?kXz62 ?kNz62 ?kTz62 ?kKz62 ?kmz62 ?ivz62 ?iLz62 ?ilz62 ?w1z62 ?w2z62 ?n1z62 ?n2z62 ?kdz62 ?_; (case kFz62 => k_asm); (case kNz62 => k_asm); (case kBz62 => k_asm); (case kXz62 => k_asm); (case kTz62 => k_asm); (case kKz62 => exact rfl); (case kmz62 => k_mem); (case ivz62 => with_reducible assumption); (case iLz62 => with_reducible assumption); (case ilz62 => omega); (case w1z62 => omega); (case w2z62 => omega); (case n1z62 => omega); (case n2z62 => omega); (case kdz62 => (first | omega | ((try simp only [depth_deeper, depth_caller]); (try dsimp only [ktrTop]); omega) | ((try simp only [depth_under_make, depth_under_kw, depth_in1, depth_deeper, depth_caller]); (try dsimp only [ktrTop]); (try simp only [depth_under_make, depth_under_kw, depth_in1, depth_deeper, depth_caller]); omega)))); intro _ _ _ _ _ _ _ _ _ _ _ _ _; (try dsimp only); (try k_sweep)) | (k_here; (with_reducible show wpAny _ _ (call (Value.ref 67) [Value.ref _, Value.int _ _, Value.int _ _]) _ _ _); k_dflt (refine' call_low ?kBz63 ?kFz63 ?kXz63 ?kNz63 ?kTz63 ?kKz63 ?kmz63 ?ivz63 ?iLz63 ?ilz63 ?w1z63 ?w2z63 ?n1z63 ?n2z63 ?kdz63 ?_; (case kFz63 => k_asm); (case kNz63 => k_asm); (case kBz63 => k_asm); (case kXz63 => k_asm); (case kTz63 => k_asm); (case kKz63 => exact rfl); (case kmz63 => k_mem); (case ivz63 => with_reducible assumption); (case iLz63 => with_reducible assumption); (case ilz63 => omega); (case w1z63 => omega); (case w2z63 => omega); (case n1z63 => omega); (case n2z63 => omega); (case kdz63 => (first | omega | ((try simp only [depth_deeper, depth_caller]); (try dsimp only [ktrTop]); omega) | ((try simp only [depth_under_make, depth_under_kw, depth_in1, depth_deeper, depth_caller]); (try dsimp only [ktrTop]); (try simp only [depth_under_make, depth_under_kw, depth_in1, depth_deeper, depth_caller]); omega)))); intro _ _ _ _ _ _ _ _ _ _ _ _ _; (try dsimp only); (try k_sweep)) | (k_here; (with_reducible show wpAny _ _ (call (Value.ref 128) [Value.ref _, Value.int _ _]) _ _ _); k_dflt (refine' call_number ?kBz64 ?kFz64 ?kXz64 ?kNz64 ?kTz64 ?kKz64 ?kmz64 ?ivz64 ?iLz64 ?ilz64 ?w1z64 ?w2z64 ?kdz64 ?_; (case kFz64 => k_asm); (case kNz64 => k_asm); (case kBz64 => k_asm); (case kXz64 => k_asm); (case kTz64 => k_asm); (case kKz64 => exact rfl); (case kmz64 => k_mem); (case ivz64 => with_reducible assumption); (case iLz64 => with_reducible assumption); (case ilz64 => omega); (case w1z64 => omega); (case w2z64 => omega); (case kdz64 => (first | omega | ((try simp only [depth_deeper, depth_caller]); (try dsimp only [ktrTop]); omega) | ((try simp only [depth_under_make, depth_under_kw, depth_in1, depth_deeper, depth_caller]); (try dsimp only [ktrTop]); (try simp only [depth_under_make, depth_under_kw, depth_in1, depth_deeper, depth_caller]); omega)))); intro _ _ _ _ _; (try dsimp only); (try k_sweep)) | (k_here; (with_reducible show wpAny _ _ (call (Value.ref 123) [Value.int _ _, Value.int _ _]) _ _ _); k_dflt (refine' call_limbs ?kBz65 ?kFz65 ?kXz65 ?kNz65 ?kTz65 ?kKz65 ?w1z65 ?w2z65 ?n1z65 ?n2z65 ?kdz65 ?_; (case kFz65 => k_asm); (case kNz65 => k_asm); (case kBz65 => k_asm); (case kXz65 => k_asm); (case kTz65 => k_asm); (case kKz65 => exact rfl); (case w1z65 => omega); (case w2z65 => omega); (case n1z65 => omega); (case n2z65 => omega); (case kdz65 => (first | omega | ((try simp only [depth_deeper, depth_caller]); (try dsimp only [ktrTop]); omega) | ((try simp only [depth_under_make, depth_under_kw, depth_in1, depth_deeper, depth_caller]); (try dsimp only [ktrTop]); (try simp only [depth_under_make, depth_under_kw, depth_in1, depth_deeper, depth_caller]); omega)))); intro _ _ _ _ _ _ _ _ _ _ _ _ _; (try dsimp only); (try k_sweep)) | (k_here; (with_reducible show wpAny _ _ (call (Value.ref 116) [Value.ref _, Value.int _ _]) _ _ _); k_dflt (refine' call_spun ?kBz66 ?kFz66 ?kXz66 ?kNz66 ?kTz66 ?kKz66 rfl ?lbz66 ?apz66 ?ivz66 ?ilz66 ?k0z66 ?k1z66 ?m0z66 ?m1z66 ?kdz66 ?_; (case kFz66 => k_asm); (case kNz66 => k_asm); (case kBz66 => k_asm); (case kXz66 => k_asm); (case kTz66 => k_asm); (case kKz66 => exact rfl); (case lbz66 => (first | (first | with_reducible assumption | exact allLt_in (by with_reducible assumption) (by k_mem) | exact all_in (by with_reducible assumption) (by k_mem) | exact lt_via (by with_reducible assumption) (by with_reducible assumption) (by k_mem) | ((show @LT.lt Nat _ _ _); omega)) | ((show @LT.lt Nat _ _ _); omega))); (case apz66 => ((repeat (refine List.forall_mem_cons.mpr ⟨by ((try dsimp only); (first | with_reducible assumption | exact Ne.symm (by with_reducible assumption) | exact Nat.ne_of_gt (by first | with_reducible assumption | exact allLt_in (by with_reducible assumption) (by k_mem) | exact all_in (by with_reducible assumption) (by k_mem) | exact lt_via (by with_reducible assumption) (by with_reducible assumption) (by k_mem)) | exact Nat.ne_of_lt (by first | with_reducible assumption | exact allLt_in (by with_reducible assumption) (by k_mem) | exact all_in (by with_reducible assumption) (by k_mem) | exact lt_via (by with_reducible assumption) (by with_reducible assumption) (by k_mem)) | exact ne_in (by with_reducible assumption) (by k_mem) | exact Ne.symm (ne_in (by with_reducible assumption) (by k_mem)) | exact off1_in (by with_reducible assumption) (by k_mem) | exact Ne.symm (off1_in (by with_reducible assumption) (by k_mem)) | ((show @Ne Nat _ _); (try dsimp only); omega))), ?_⟩)); exact List.forall_mem_nil _)); (case ivz66 => with_reducible assumption); (case ilz66 => (simp only [List.length_map, List.length_take]; omega)); (case k0z66 => omega); (case k1z66 => omega); (case m0z66 => omega); (case m1z66 => omega); (case kdz66 => (first | omega | ((try simp only [depth_deeper, depth_caller]); (try dsimp only [ktrTop]); omega) | ((try simp only [depth_under_make, depth_under_kw, depth_in1, depth_deeper, depth_caller]); (try dsimp only [ktrTop]); (try simp only [depth_under_make, depth_under_kw, depth_in1, depth_deeper, depth_caller]); omega)))); intro _ _ _ _ _ _ _ _ _ _; (try dsimp only); (try k_sweep)) | (k_here; (with_reducible show wpAny _ _ (call (Value.ref 116) [Value.ref _, Value.int _ _]) _ _ _); k_dflt (refine' spun_at1 ?kBz67 ?kFz67 ?kXz67 ?kNz67 ?kTz67 ?kKz67 ?lbz67 ?axz67 ?apz67 ?ivz67 ?ilz67 ?k0z67 ?k1z67 ?m0z67 ?m1z67 ?kdz67 ?_; (case kFz67 => k_asm); (case kNz67 => k_asm); (case kBz67 => k_asm); (case kXz67 => k_asm); (case kTz67 => k_asm); (case kKz67 => exact rfl); (case axz67 => ((try dsimp only); (first | with_reducible assumption | exact Ne.symm (by with_reducible assumption) | exact Nat.ne_of_gt (by first | with_reducible assumption | exact allLt_in (by with_reducible assumption) (by k_mem) | exact all_in (by with_reducible assumption) (by k_mem) | exact lt_via (by with_reducible assumption) (by with_reducible assumption) (by k_mem)) | exact Nat.ne_of_lt (by first | with_reducible assumption | exact allLt_in (by with_reducible assumption) (by k_mem) | exact all_in (by with_reducible assumption) (by k_mem) | exact lt_via (by with_reducible assumption) (by with_reducible assumption) (by k_mem)) | exact ne_in (by with_reducible assumption) (by k_mem) | exact Ne.symm (ne_in (by with_reducible assumption) (by k_mem)) | exact off1_in (by with_reducible assumption) (by k_mem) | exact Ne.symm (off1_in (by with_reducible assumption) (by k_mem)) | ((show @Ne Nat _ _); (try dsimp only); omega)))); (case lbz67 => (first | (first | with_reducible assumption | exact allLt_in (by with_reducible assumption) (by k_mem) | exact all_in (by with_reducible assumption) (by k_mem) | exact lt_via (by with_reducible assumption) (by with_reducible assumption) (by k_mem) | ((show @LT.lt Nat _ _ _); omega)) | ((show @LT.lt Nat _ _ _); omega))); (case apz67 => ((repeat (refine List.forall_mem_cons.mpr ⟨by ((try dsimp only); (first | with_reducible assumption | exact Ne.symm (by with_reducible assumption) | exact Nat.ne_of_gt (by first | with_reducible assumption | exact allLt_in (by with_reducible assumption) (by k_mem) | exact all_in (by with_reducible assumption) (by k_mem) | exact lt_via (by with_reducible assumption) (by with_reducible assumption) (by k_mem)) | exact Nat.ne_of_lt (by first | with_reducible assumption | exact allLt_in (by with_reducible assumption) (by k_mem) | exact all_in (by with_reducible assumption) (by k_mem) | exact lt_via (by with_reducible assumption) (by with_reducible assumption) (by k_mem)) | exact ne_in (by with_reducible assumption) (by k_mem) | exact Ne.symm (ne_in (by with_reducible assumption) (by k_mem)) | exact off1_in (by with_reducible assumption) (by k_mem) | exact Ne.symm (off1_in (by with_reducible assumption) (by k_mem)) | ((show @Ne Nat _ _); (try dsimp only); omega))), ?_⟩)); exact List.forall_mem_nil _)); (case ivz67 => with_reducible assumption); (case ilz67 => (simp only [List.length_map, List.length_take]; omega)); (case k0z67 => omega); (case k1z67 => omega); (case m0z67 => omega); (case m1z67 => omega); (case kdz67 => (first | omega | ((try simp only [depth_deeper, depth_caller]); (try dsimp only [ktrTop]); omega) | ((try simp only [depth_under_make, depth_under_kw, depth_in1, depth_deeper, depth_caller]); (try dsimp only [ktrTop]); (try simp only [depth_under_make, depth_under_kw, depth_in1, depth_deeper, depth_caller]); omega)))); intro _ _ _ _ _ _ _ _ _ _; (try dsimp only); (try k_sweep))) | ((fail_if_success (with_reducible show Exists _)); (fail_if_success (with_reducible show wpAny _ _ (eval (Expr.ListComp _ _ _ _) _) _ _ _)); (fail_if_success (with_reducible show wpAny _ _ (exec (Stmt.Assign [Expr.Name _ _] (Expr.ListComp _ _ _ _) _) _) _ _ _)); (fail_if_success (with_reducible show LCg.FinA _ _ _ _ _ _ _ _)); (fail_if_success (with_reducible show KswEnd _ _ _ _ _ _ _ _ _ _ _ _)); (fail_if_success (with_reducible show wpAny _ _ (pyIter _) _ _ _)); (fail_if_success (with_reducible show wpAny _ _ (exec (Stmt.While _ _ _ _) _) _ _ _)); (fail_if_success (with_reducible show wpAny _ _ (exec (Stmt.Assign [Expr.Name _ _] (Expr.ListComp _ [⟨_, Expr.Tuple _ _ _, _, _⟩] _ _) _) _) _ _ _)); (first | (fail_if_success (with_reducible show wpAny _ _ (call (Value.ref _) _) _ _ _)) | (with_reducible show wpAny _ _ (call (Value.ref 98) _) _ _ _) | (with_reducible show wpAny _ _ (call (Value.ref 95) _) _ _ _) | (with_reducible show wpAny _ _ (call (Value.ref 88) _) _ _ _)); (first | walk1 | (dsimp only; walk1))) | (leave1; walk_say "STEP leave1"; try dsimp only) | fail "no step"))
    rename Fr _ _ _ _ => F0
    refine ListCompO (some _) F0 (by with_unfolding_all rfl) (by decide) (by rfl) (by decide) ?_
    (repeat' (first | (k_unfold; (try dsimp only)) | (k_end; wrow_close) | (first | (k_here; (with_reducible show wpAny _ _ (call (Value.ref 109) [Value.ref _, Value.ref _, Value.int _ _]) _ _ _); k_dflt (refine' call_mul ?kBz9 ?kFz9 ?kXz9 ?kNz9 ?kTz9 ?kKz9 ?kmz9 ?knz9 ?ivz9 ?iwz9 ?iLz9 ?jLz9 ?ilz9 ?jlz9 ?w1z9 ?w2z9 ?kdz9 ?_; (case kFz9 => k_asm); (case kNz9 => k_asm); (case kBz9 => k_asm); (case kXz9 => k_asm); (case kTz9 => k_asm); (case kKz9 => exact rfl); (case kmz9 => k_mem); (case knz9 => k_mem); (case ivz9 => with_reducible assumption); (case iwz9 => with_reducible assumption); (case iLz9 => with_reducible assumption); (case jLz9 => with_reducible assumption); (case ilz9 => omega); (case jlz9 => omega); (case w1z9 => omega); (case w2z9 => omega); (case kdz9 => (first | omega | ((try simp only [depth_deeper, depth_caller]); (try dsimp only [ktrTop]); omega) | ((try simp only [depth_under_make, depth_under_kw, depth_in1, depth_deeper, depth_caller]); (try dsimp only [ktrTop]); (try simp only [depth_under_make, depth_under_kw, depth_in1, depth_deeper, depth_caller]); omega)))); intro _ _ _ _ _ _ _ _ _ _ _ _ _; (try dsimp only); (try k_sweep)) | (k_here; (with_reducible show wpAny _ _ (call (Value.ref 53) [Value.ref _, Value.ref _, Value.int _ _]) _ _ _); k_dflt (refine' call_add ?kBz10 ?kFz10 ?kXz10 ?kNz10 ?kTz10 ?kKz10 ?kmz10 ?knz10 ?ivz10 ?iwz10 ?iLz10 ?jLz10 ?ilz10 ?jlz10 ?w1z10 ?w2z10 ?kdz10 ?_; (case kFz10 => k_asm); (case kNz10 => k_asm); (case kBz10 => k_asm); (case kXz10 => k_asm); (case kTz10 => k_asm); (case kKz10 => exact rfl); (case kmz10 => k_mem); (case knz10 => k_mem); (case ivz10 => with_reducible assumption); (case iwz10 => with_reducible assumption); (case iLz10 => with_reducible assumption); (case jLz10 => with_reducible assumption); (case ilz10 => omega); (case jlz10 => omega); (case w1z10 => omega); (case w2z10 => omega); (case kdz10 => (first | omega | ((try simp only [depth_deeper, depth_caller]); (try dsimp only [ktrTop]); omega) | ((try simp only [depth_under_make, depth_under_kw, depth_in1, depth_deeper, depth_caller]); (try dsimp only [ktrTop]); (try simp only [depth_under_make, depth_under_kw, depth_in1, depth_deeper, depth_caller]); omega)))); intro _ _ _ _ _ _ _ _ _ _ _ _ _; (try dsimp only); (try k_sweep)) | (k_here; (with_reducible show wpAny _ _ (call (Value.ref 60) [Value.ref _, Value.int _ _, Value.int _ _]) _ _ _); k_dflt (refine' call_shr ?kBz11 ?kFz11 ?kXz11 ?kNz11 ?kTz11 ?kKz11 ?kmz11 ?ivz11 ?iLz11 ?ilz11 ?w1z11 ?w2z11 ?n1z11 ?n2z11 ?kdz11 ?_; (case kFz11 => k_asm); (case kNz11 => k_asm); (case kBz11 => k_asm); (case kXz11 => k_asm); (case kTz11 => k_asm); (case kKz11 => exact rfl); (case kmz11 => k_mem); (case ivz11 => with_reducible assumption); (case iLz11 => with_reducible assumption); (case ilz11 => omega); (case w1z11 => omega); (case w2z11 => omega); (case n1z11 => omega); (case n2z11 => omega); (case kdz11 => (first | omega | ((try simp only [depth_deeper, depth_caller]); (try dsimp only [ktrTop]); omega) | ((try simp only [depth_under_make, depth_under_kw, depth_in1, depth_deeper, depth_caller]); (try dsimp only [ktrTop]); (try simp only [depth_under_make, depth_under_kw, depth_in1, depth_deeper, depth_caller]); omega)))); intro _ _ _ _ _ _ _ _ _ _ _ _ _; (try dsimp only); (try k_sweep)) | (k_here; (with_reducible show wpAny _ _ (call (Value.ref 67) [Value.ref _, Value.int _ _, Value.int _ _]) _ _ _); k_dflt (refine' call_low ?kBz12 ?kFz12 ?kXz12 ?kNz12 ?kTz12 ?kKz12 ?kmz12 ?ivz12 ?iLz12 ?ilz12 ?w1z12 ?w2z12 ?n1z12 ?n2z12 ?kdz12 ?_; (case kFz12 => k_asm); (case kNz12 => k_asm); (case kBz12 => k_asm); (case kXz12 => k_asm); (case kTz12 => k_asm); (case kKz12 => exact rfl); (case kmz12 => k_mem); (case ivz12 => with_reducible assumption); (case iLz12 => with_reducible assumption); (case ilz12 => omega); (case w1z12 => omega); (case w2z12 => omega); (case n1z12 => omega); (case n2z12 => omega); (case kdz12 => (first | omega | ((try simp only [depth_deeper, depth_caller]); (try dsimp only [ktrTop]); omega) | ((try simp only [depth_under_make, depth_under_kw, depth_in1, depth_deeper, depth_caller]); (try dsimp only [ktrTop]); (try simp only [depth_under_make, depth_under_kw, depth_in1, depth_deeper, depth_caller]); omega)))); intro _ _ _ _ _ _ _ _ _ _ _ _ _; (try dsimp only); (try k_sweep)) | (k_here; (with_reducible show wpAny _ _ (call (Value.ref 128) [Value.ref _, Value.int _ _]) _ _ _); k_dflt (refine' call_number ?kBz13 ?kFz13 ?kXz13 ?kNz13 ?kTz13 ?kKz13 ?kmz13 ?ivz13 ?iLz13 ?ilz13 ?w1z13 ?w2z13 ?kdz13 ?_; (case kFz13 => k_asm); (case kNz13 => k_asm); (case kBz13 => k_asm); (case kXz13 => k_asm); (case kTz13 => k_asm); (case kKz13 => exact rfl); (case kmz13 => k_mem); (case ivz13 => with_reducible assumption); (case iLz13 => with_reducible assumption); (case ilz13 => omega); (case w1z13 => omega); (case w2z13 => omega); (case kdz13 => (first | omega | ((try simp only [depth_deeper, depth_caller]); (try dsimp only [ktrTop]); omega) | ((try simp only [depth_under_make, depth_under_kw, depth_in1, depth_deeper, depth_caller]); (try dsimp only [ktrTop]); (try simp only [depth_under_make, depth_under_kw, depth_in1, depth_deeper, depth_caller]); omega)))); intro _ _ _ _ _; (try dsimp only); (try k_sweep)) | (k_here; (with_reducible show wpAny _ _ (call (Value.ref 123) [Value.int _ _, Value.int _ _]) _ _ _); k_dflt (refine' call_limbs ?kBz14 ?kFz14 ?kXz14 ?kNz14 ?kTz14 ?kKz14 ?w1z14 ?w2z14 ?n1z14 ?n2z14 ?kdz14 ?_; (case kFz14 => k_asm); (case kNz14 => k_asm); (case kBz14 => k_asm); (case kXz14 => k_asm); (case kTz14 => k_asm); (case kKz14 => exact rfl); (case w1z14 => omega); (case w2z14 => omega); (case n1z14 => omega); (case n2z14 => omega); (case kdz14 => (first | omega | ((try simp only [depth_deeper, depth_caller]); (try dsimp only [ktrTop]); omega) | ((try simp only [depth_under_make, depth_under_kw, depth_in1, depth_deeper, depth_caller]); (try dsimp only [ktrTop]); (try simp only [depth_under_make, depth_under_kw, depth_in1, depth_deeper, depth_caller]); omega)))); intro _ _ _ _ _ _ _ _ _ _ _ _ _; (try dsimp only); (try k_sweep)) | (k_here; (with_reducible show wpAny _ _ (call (Value.ref 116) [Value.ref _, Value.int _ _]) _ _ _); k_dflt (refine' call_spun ?kBz15 ?kFz15 ?kXz15 ?kNz15 ?kTz15 ?kKz15 rfl ?lbz15 ?apz15 ?ivz15 ?ilz15 ?k0z15 ?k1z15 ?m0z15 ?m1z15 ?kdz15 ?_; (case kFz15 => k_asm); (case kNz15 => k_asm); (case kBz15 => k_asm); (case kXz15 => k_asm); (case kTz15 => k_asm); (case kKz15 => exact rfl); (case lbz15 => (first | (first | with_reducible assumption | exact allLt_in (by with_reducible assumption) (by k_mem) | exact all_in (by with_reducible assumption) (by k_mem) | exact lt_via (by with_reducible assumption) (by with_reducible assumption) (by k_mem) | ((show @LT.lt Nat _ _ _); omega)) | ((show @LT.lt Nat _ _ _); omega))); (case apz15 => ((repeat (refine List.forall_mem_cons.mpr ⟨by ((try dsimp only); (first | with_reducible assumption | exact Ne.symm (by with_reducible assumption) | exact Nat.ne_of_gt (by first | with_reducible assumption | exact allLt_in (by with_reducible assumption) (by k_mem) | exact all_in (by with_reducible assumption) (by k_mem) | exact lt_via (by with_reducible assumption) (by with_reducible assumption) (by k_mem)) | exact Nat.ne_of_lt (by first | with_reducible assumption | exact allLt_in (by with_reducible assumption) (by k_mem) | exact all_in (by with_reducible assumption) (by k_mem) | exact lt_via (by with_reducible assumption) (by with_reducible assumption) (by k_mem)) | exact ne_in (by with_reducible assumption) (by k_mem) | exact Ne.symm (ne_in (by with_reducible assumption) (by k_mem)) | exact off1_in (by with_reducible assumption) (by k_mem) | exact Ne.symm (off1_in (by with_reducible assumption) (by k_mem)) | ((show @Ne Nat _ _); (try dsimp only); omega))), ?_⟩)); exact List.forall_mem_nil _)); (case ivz15 => with_reducible assumption); (case ilz15 => (simp only [List.length_map, List.length_take]; omega)); (case k0z15 => omega); (case k1z15 => omega); (case m0z15 => omega); (case m1z15 => omega); (case kdz15 => (first | omega | ((try simp only [depth_deeper, depth_caller]); (try dsimp only [ktrTop]); omega) | ((try simp only [depth_under_make, depth_under_kw, depth_in1, depth_deeper, depth_caller]); (try dsimp only [ktrTop]); (try simp only [depth_under_make, depth_under_kw, depth_in1, depth_deeper, depth_caller]); omega)))); intro _ _ _ _ _ _ _ _ _ _; (try dsimp only); (try k_sweep)) | (k_here; (with_reducible show wpAny _ _ (call (Value.ref 116) [Value.ref _, Value.int _ _]) _ _ _); k_dflt (refine' spun_at1 ?kBz16 ?kFz16 ?kXz16 ?kNz16 ?kTz16 ?kKz16 ?lbz16 ?axz16 ?apz16 ?ivz16 ?ilz16 ?k0z16 ?k1z16 ?m0z16 ?m1z16 ?kdz16 ?_; (case kFz16 => k_asm); (case kNz16 => k_asm); (case kBz16 => k_asm); (case kXz16 => k_asm); (case kTz16 => k_asm); (case kKz16 => exact rfl); (case axz16 => ((try dsimp only); (first | with_reducible assumption | exact Ne.symm (by with_reducible assumption) | exact Nat.ne_of_gt (by first | with_reducible assumption | exact allLt_in (by with_reducible assumption) (by k_mem) | exact all_in (by with_reducible assumption) (by k_mem) | exact lt_via (by with_reducible assumption) (by with_reducible assumption) (by k_mem)) | exact Nat.ne_of_lt (by first | with_reducible assumption | exact allLt_in (by with_reducible assumption) (by k_mem) | exact all_in (by with_reducible assumption) (by k_mem) | exact lt_via (by with_reducible assumption) (by with_reducible assumption) (by k_mem)) | exact ne_in (by with_reducible assumption) (by k_mem) | exact Ne.symm (ne_in (by with_reducible assumption) (by k_mem)) | exact off1_in (by with_reducible assumption) (by k_mem) | exact Ne.symm (off1_in (by with_reducible assumption) (by k_mem)) | ((show @Ne Nat _ _); (try dsimp only); omega)))); (case lbz16 => (first | (first | with_reducible assumption | exact allLt_in (by with_reducible assumption) (by k_mem) | exact all_in (by with_reducible assumption) (by k_mem) | exact lt_via (by with_reducible assumption) (by with_reducible assumption) (by k_mem) | ((show @LT.lt Nat _ _ _); omega)) | ((show @LT.lt Nat _ _ _); omega))); (case apz16 => ((repeat (refine List.forall_mem_cons.mpr ⟨by ((try dsimp only); (first | with_reducible assumption | exact Ne.symm (by with_reducible assumption) | exact Nat.ne_of_gt (by first | with_reducible assumption | exact allLt_in (by with_reducible assumption) (by k_mem) | exact all_in (by with_reducible assumption) (by k_mem) | exact lt_via (by with_reducible assumption) (by with_reducible assumption) (by k_mem)) | exact Nat.ne_of_lt (by first | with_reducible assumption | exact allLt_in (by with_reducible assumption) (by k_mem) | exact all_in (by with_reducible assumption) (by k_mem) | exact lt_via (by with_reducible assumption) (by with_reducible assumption) (by k_mem)) | exact ne_in (by with_reducible assumption) (by k_mem) | exact Ne.symm (ne_in (by with_reducible assumption) (by k_mem)) | exact off1_in (by with_reducible assumption) (by k_mem) | exact Ne.symm (off1_in (by with_reducible assumption) (by k_mem)) | ((show @Ne Nat _ _); (try dsimp only); omega))), ?_⟩)); exact List.forall_mem_nil _)); (case ivz16 => with_reducible assumption); (case ilz16 => (simp only [List.length_map, List.length_take]; omega)); (case k0z16 => omega); (case k1z16 => omega); (case m0z16 => omega); (case m1z16 => omega); (case kdz16 => (first | omega | ((try simp only [depth_deeper, depth_caller]); (try dsimp only [ktrTop]); omega) | ((try simp only [depth_under_make, depth_under_kw, depth_in1, depth_deeper, depth_caller]); (try dsimp only [ktrTop]); (try simp only [depth_under_make, depth_under_kw, depth_in1, depth_deeper, depth_caller]); omega)))); intro _ _ _ _ _ _ _ _ _ _; (try dsimp only); (try k_sweep))) | ((fail_if_success (with_reducible show Exists _)); (fail_if_success (with_reducible show wpAny _ _ (eval (Expr.ListComp _ _ _ _) _) _ _ _)); (fail_if_success (with_reducible show wpAny _ _ (exec (Stmt.Assign [Expr.Name _ _] (Expr.ListComp _ _ _ _) _) _) _ _ _)); (fail_if_success (with_reducible show LCg.FinA _ _ _ _ _ _ _ _)); (fail_if_success (with_reducible show KswEnd _ _ _ _ _ _ _ _ _ _ _ _)); (fail_if_success (with_reducible show wpAny _ _ (pyIter _) _ _ _)); (fail_if_success (with_reducible show wpAny _ _ (exec (Stmt.While _ _ _ _) _) _ _ _)); (fail_if_success (with_reducible show wpAny _ _ (exec (Stmt.Assign [Expr.Name _ _] (Expr.ListComp _ [⟨_, Expr.Tuple _ _ _, _, _⟩] _ _) _) _) _ _ _)); (first | (fail_if_success (with_reducible show wpAny _ _ (call (Value.ref _) _) _ _ _)) | (with_reducible show wpAny _ _ (call (Value.ref 98) _) _ _ _) | (with_reducible show wpAny _ _ (call (Value.ref 95) _) _ _ _) | (with_reducible show wpAny _ _ (call (Value.ref 88) _) _ _ _)); (first | walk1 | (dsimp only; walk1))) | (leave1; walk_say "STEP leave1"; try dsimp only) | fail "no step"))
    rename News _ _ _ _ => N1
    rename Fr _ _ _ _ => F1
    have hsz : S.length ≤ sizeLine := by rw [sizeLine_eq]; omega
    refine ready_list (some _) (fun _ => false) (fun i => S.getD i 0) rfl rfl rfl F1 N1 (by k_mem) IS1 hsz ?_ (by intro h; cases h) (by intro i C D oC ys mC h tk E' hi hp; cases hp) ?_
    · intro c hc i C D oC ys mC h tk E' hi hb' hoC hys F2 N2 hDC hD
      cases hc
      obtain ⟨tb, hb'⟩ := hb'
      have hbd := hSb i hi
      (repeat' (first | (k_unfold; (try dsimp only)) | (k_end; wrow_close) | (first | (k_here; (with_reducible show wpAny _ _ (call (Value.ref 109) [Value.ref _, Value.ref _, Value.int _ _]) _ _ _); k_dflt (refine' call_mul ?kBz9 ?kFz9 ?kXz9 ?kNz9 ?kTz9 ?kKz9 ?kmz9 ?knz9 ?ivz9 ?iwz9 ?iLz9 ?jLz9 ?ilz9 ?jlz9 ?w1z9 ?w2z9 ?kdz9 ?_; (case kFz9 => k_asm); (case kNz9 => k_asm); (case kBz9 => k_asm); (case kXz9 => k_asm); (case kTz9 => k_asm); (case kKz9 => exact rfl); (case kmz9 => k_mem); (case knz9 => k_mem); (case ivz9 => with_reducible assumption); (case iwz9 => with_reducible assumption); (case iLz9 => with_reducible assumption); (case jLz9 => with_reducible assumption); (case ilz9 => omega); (case jlz9 => omega); (case w1z9 => omega); (case w2z9 => omega); (case kdz9 => (first | omega | ((try simp only [depth_deeper, depth_caller]); (try dsimp only [ktrTop]); omega) | ((try simp only [depth_under_make, depth_under_kw, depth_in1, depth_deeper, depth_caller]); (try dsimp only [ktrTop]); (try simp only [depth_under_make, depth_under_kw, depth_in1, depth_deeper, depth_caller]); omega)))); intro _ _ _ _ _ _ _ _ _ _ _ _ _; (try dsimp only); (try k_sweep)) | (k_here; (with_reducible show wpAny _ _ (call (Value.ref 53) [Value.ref _, Value.ref _, Value.int _ _]) _ _ _); k_dflt (refine' call_add ?kBz10 ?kFz10 ?kXz10 ?kNz10 ?kTz10 ?kKz10 ?kmz10 ?knz10 ?ivz10 ?iwz10 ?iLz10 ?jLz10 ?ilz10 ?jlz10 ?w1z10 ?w2z10 ?kdz10 ?_; (case kFz10 => k_asm); (case kNz10 => k_asm); (case kBz10 => k_asm); (case kXz10 => k_asm); (case kTz10 => k_asm); (case kKz10 => exact rfl); (case kmz10 => k_mem); (case knz10 => k_mem); (case ivz10 => with_reducible assumption); (case iwz10 => with_reducible assumption); (case iLz10 => with_reducible assumption); (case jLz10 => with_reducible assumption); (case ilz10 => omega); (case jlz10 => omega); (case w1z10 => omega); (case w2z10 => omega); (case kdz10 => (first | omega | ((try simp only [depth_deeper, depth_caller]); (try dsimp only [ktrTop]); omega) | ((try simp only [depth_under_make, depth_under_kw, depth_in1, depth_deeper, depth_caller]); (try dsimp only [ktrTop]); (try simp only [depth_under_make, depth_under_kw, depth_in1, depth_deeper, depth_caller]); omega)))); intro _ _ _ _ _ _ _ _ _ _ _ _ _; (try dsimp only); (try k_sweep)) | (k_here; (with_reducible show wpAny _ _ (call (Value.ref 60) [Value.ref _, Value.int _ _, Value.int _ _]) _ _ _); k_dflt (refine' call_shr ?kBz11 ?kFz11 ?kXz11 ?kNz11 ?kTz11 ?kKz11 ?kmz11 ?ivz11 ?iLz11 ?ilz11 ?w1z11 ?w2z11 ?n1z11 ?n2z11 ?kdz11 ?_; (case kFz11 => k_asm); (case kNz11 => k_asm); (case kBz11 => k_asm); (case kXz11 => k_asm); (case kTz11 => k_asm); (case kKz11 => exact rfl); (case kmz11 => k_mem); (case ivz11 => with_reducible assumption); (case iLz11 => with_reducible assumption); (case ilz11 => omega); (case w1z11 => omega); (case w2z11 => omega); (case n1z11 => omega); (case n2z11 => omega); (case kdz11 => (first | omega | ((try simp only [depth_deeper, depth_caller]); (try dsimp only [ktrTop]); omega) | ((try simp only [depth_under_make, depth_under_kw, depth_in1, depth_deeper, depth_caller]); (try dsimp only [ktrTop]); (try simp only [depth_under_make, depth_under_kw, depth_in1, depth_deeper, depth_caller]); omega)))); intro _ _ _ _ _ _ _ _ _ _ _ _ _; (try dsimp only); (try k_sweep)) | (k_here; (with_reducible show wpAny _ _ (call (Value.ref 67) [Value.ref _, Value.int _ _, Value.int _ _]) _ _ _); k_dflt (refine' call_low ?kBz12 ?kFz12 ?kXz12 ?kNz12 ?kTz12 ?kKz12 ?kmz12 ?ivz12 ?iLz12 ?ilz12 ?w1z12 ?w2z12 ?n1z12 ?n2z12 ?kdz12 ?_; (case kFz12 => k_asm); (case kNz12 => k_asm); (case kBz12 => k_asm); (case kXz12 => k_asm); (case kTz12 => k_asm); (case kKz12 => exact rfl); (case kmz12 => k_mem); (case ivz12 => with_reducible assumption); (case iLz12 => with_reducible assumption); (case ilz12 => omega); (case w1z12 => omega); (case w2z12 => omega); (case n1z12 => omega); (case n2z12 => omega); (case kdz12 => (first | omega | ((try simp only [depth_deeper, depth_caller]); (try dsimp only [ktrTop]); omega) | ((try simp only [depth_under_make, depth_under_kw, depth_in1, depth_deeper, depth_caller]); (try dsimp only [ktrTop]); (try simp only [depth_under_make, depth_under_kw, depth_in1, depth_deeper, depth_caller]); omega)))); intro _ _ _ _ _ _ _ _ _ _ _ _ _; (try dsimp only); (try k_sweep)) | (k_here; (with_reducible show wpAny _ _ (call (Value.ref 128) [Value.ref _, Value.int _ _]) _ _ _); k_dflt (refine' call_number ?kBz13 ?kFz13 ?kXz13 ?kNz13 ?kTz13 ?kKz13 ?kmz13 ?ivz13 ?iLz13 ?ilz13 ?w1z13 ?w2z13 ?kdz13 ?_; (case kFz13 => k_asm); (case kNz13 => k_asm); (case kBz13 => k_asm); (case kXz13 => k_asm); (case kTz13 => k_asm); (case kKz13 => exact rfl); (case kmz13 => k_mem); (case ivz13 => with_reducible assumption); (case iLz13 => with_reducible assumption); (case ilz13 => omega); (case w1z13 => omega); (case w2z13 => omega); (case kdz13 => (first | omega | ((try simp only [depth_deeper, depth_caller]); (try dsimp only [ktrTop]); omega) | ((try simp only [depth_under_make, depth_under_kw, depth_in1, depth_deeper, depth_caller]); (try dsimp only [ktrTop]); (try simp only [depth_under_make, depth_under_kw, depth_in1, depth_deeper, depth_caller]); omega)))); intro _ _ _ _ _; (try dsimp only); (try k_sweep)) | (k_here; (with_reducible show wpAny _ _ (call (Value.ref 123) [Value.int _ _, Value.int _ _]) _ _ _); k_dflt (refine' call_limbs ?kBz14 ?kFz14 ?kXz14 ?kNz14 ?kTz14 ?kKz14 ?w1z14 ?w2z14 ?n1z14 ?n2z14 ?kdz14 ?_; (case kFz14 => k_asm); (case kNz14 => k_asm); (case kBz14 => k_asm); (case kXz14 => k_asm); (case kTz14 => k_asm); (case kKz14 => exact rfl); (case w1z14 => omega); (case w2z14 => omega); (case n1z14 => omega); (case n2z14 => omega); (case kdz14 => (first | omega | ((try simp only [depth_deeper, depth_caller]); (try dsimp only [ktrTop]); omega) | ((try simp only [depth_under_make, depth_under_kw, depth_in1, depth_deeper, depth_caller]); (try dsimp only [ktrTop]); (try simp only [depth_under_make, depth_under_kw, depth_in1, depth_deeper, depth_caller]); omega)))); intro _ _ _ _ _ _ _ _ _ _ _ _ _; (try dsimp only); (try k_sweep)) | (k_here; (with_reducible show wpAny _ _ (call (Value.ref 116) [Value.ref _, Value.int _ _]) _ _ _); k_dflt (refine' call_spun ?kBz15 ?kFz15 ?kXz15 ?kNz15 ?kTz15 ?kKz15 rfl ?lbz15 ?apz15 ?ivz15 ?ilz15 ?k0z15 ?k1z15 ?m0z15 ?m1z15 ?kdz15 ?_; (case kFz15 => k_asm); (case kNz15 => k_asm); (case kBz15 => k_asm); (case kXz15 => k_asm); (case kTz15 => k_asm); (case kKz15 => exact rfl); (case lbz15 => (first | (first | with_reducible assumption | exact allLt_in (by with_reducible assumption) (by k_mem) | exact all_in (by with_reducible assumption) (by k_mem) | exact lt_via (by with_reducible assumption) (by with_reducible assumption) (by k_mem) | ((show @LT.lt Nat _ _ _); omega)) | ((show @LT.lt Nat _ _ _); omega))); (case apz15 => ((repeat (refine List.forall_mem_cons.mpr ⟨by ((try dsimp only); (first | with_reducible assumption | exact Ne.symm (by with_reducible assumption) | exact Nat.ne_of_gt (by first | with_reducible assumption | exact allLt_in (by with_reducible assumption) (by k_mem) | exact all_in (by with_reducible assumption) (by k_mem) | exact lt_via (by with_reducible assumption) (by with_reducible assumption) (by k_mem)) | exact Nat.ne_of_lt (by first | with_reducible assumption | exact allLt_in (by with_reducible assumption) (by k_mem) | exact all_in (by with_reducible assumption) (by k_mem) | exact lt_via (by with_reducible assumption) (by with_reducible assumption) (by k_mem)) | exact ne_in (by with_reducible assumption) (by k_mem) | exact Ne.symm (ne_in (by with_reducible assumption) (by k_mem)) | exact off1_in (by with_reducible assumption) (by k_mem) | exact Ne.symm (off1_in (by with_reducible assumption) (by k_mem)) | ((show @Ne Nat _ _); (try dsimp only); omega))), ?_⟩)); exact List.forall_mem_nil _)); (case ivz15 => with_reducible assumption); (case ilz15 => (simp only [List.length_map, List.length_take]; omega)); (case k0z15 => omega); (case k1z15 => omega); (case m0z15 => omega); (case m1z15 => omega); (case kdz15 => (first | omega | ((try simp only [depth_deeper, depth_caller]); (try dsimp only [ktrTop]); omega) | ((try simp only [depth_under_make, depth_under_kw, depth_in1, depth_deeper, depth_caller]); (try dsimp only [ktrTop]); (try simp only [depth_under_make, depth_under_kw, depth_in1, depth_deeper, depth_caller]); omega)))); intro _ _ _ _ _ _ _ _ _ _; (try dsimp only); (try k_sweep)) | (k_here; (with_reducible show wpAny _ _ (call (Value.ref 116) [Value.ref _, Value.int _ _]) _ _ _); k_dflt (refine' spun_at1 ?kBz16 ?kFz16 ?kXz16 ?kNz16 ?kTz16 ?kKz16 ?lbz16 ?axz16 ?apz16 ?ivz16 ?ilz16 ?k0z16 ?k1z16 ?m0z16 ?m1z16 ?kdz16 ?_; (case kFz16 => k_asm); (case kNz16 => k_asm); (case kBz16 => k_asm); (case kXz16 => k_asm); (case kTz16 => k_asm); (case kKz16 => exact rfl); (case axz16 => ((try dsimp only); (first | with_reducible assumption | exact Ne.symm (by with_reducible assumption) | exact Nat.ne_of_gt (by first | with_reducible assumption | exact allLt_in (by with_reducible assumption) (by k_mem) | exact all_in (by with_reducible assumption) (by k_mem) | exact lt_via (by with_reducible assumption) (by with_reducible assumption) (by k_mem)) | exact Nat.ne_of_lt (by first | with_reducible assumption | exact allLt_in (by with_reducible assumption) (by k_mem) | exact all_in (by with_reducible assumption) (by k_mem) | exact lt_via (by with_reducible assumption) (by with_reducible assumption) (by k_mem)) | exact ne_in (by with_reducible assumption) (by k_mem) | exact Ne.symm (ne_in (by with_reducible assumption) (by k_mem)) | exact off1_in (by with_reducible assumption) (by k_mem) | exact Ne.symm (off1_in (by with_reducible assumption) (by k_mem)) | ((show @Ne Nat _ _); (try dsimp only); omega)))); (case lbz16 => (first | (first | with_reducible assumption | exact allLt_in (by with_reducible assumption) (by k_mem) | exact all_in (by with_reducible assumption) (by k_mem) | exact lt_via (by with_reducible assumption) (by with_reducible assumption) (by k_mem) | ((show @LT.lt Nat _ _ _); omega)) | ((show @LT.lt Nat _ _ _); omega))); (case apz16 => ((repeat (refine List.forall_mem_cons.mpr ⟨by ((try dsimp only); (first | with_reducible assumption | exact Ne.symm (by with_reducible assumption) | exact Nat.ne_of_gt (by first | with_reducible assumption | exact allLt_in (by with_reducible assumption) (by k_mem) | exact all_in (by with_reducible assumption) (by k_mem) | exact lt_via (by with_reducible assumption) (by with_reducible assumption) (by k_mem)) | exact Nat.ne_of_lt (by first | with_reducible assumption | exact allLt_in (by with_reducible assumption) (by k_mem) | exact all_in (by with_reducible assumption) (by k_mem) | exact lt_via (by with_reducible assumption) (by with_reducible assumption) (by k_mem)) | exact ne_in (by with_reducible assumption) (by k_mem) | exact Ne.symm (ne_in (by with_reducible assumption) (by k_mem)) | exact off1_in (by with_reducible assumption) (by k_mem) | exact Ne.symm (off1_in (by with_reducible assumption) (by k_mem)) | ((show @Ne Nat _ _); (try dsimp only); omega))), ?_⟩)); exact List.forall_mem_nil _)); (case ivz16 => with_reducible assumption); (case ilz16 => (simp only [List.length_map, List.length_take]; omega)); (case k0z16 => omega); (case k1z16 => omega); (case m0z16 => omega); (case m1z16 => omega); (case kdz16 => (first | omega | ((try simp only [depth_deeper, depth_caller]); (try dsimp only [ktrTop]); omega) | ((try simp only [depth_under_make, depth_under_kw, depth_in1, depth_deeper, depth_caller]); (try dsimp only [ktrTop]); (try simp only [depth_under_make, depth_under_kw, depth_in1, depth_deeper, depth_caller]); omega)))); intro _ _ _ _ _ _ _ _ _ _; (try dsimp only); (try k_sweep))) | ((fail_if_success (with_reducible show Exists _)); (fail_if_success (with_reducible show wpAny _ _ (eval (Expr.ListComp _ _ _ _) _) _ _ _)); (fail_if_success (with_reducible show wpAny _ _ (exec (Stmt.Assign [Expr.Name _ _] (Expr.ListComp _ _ _ _) _) _) _ _ _)); (fail_if_success (with_reducible show LCg.FinA _ _ _ _ _ _ _ _)); (fail_if_success (with_reducible show KswEnd _ _ _ _ _ _ _ _ _ _ _ _)); (fail_if_success (with_reducible show wpAny _ _ (pyIter _) _ _ _)); (fail_if_success (with_reducible show wpAny _ _ (exec (Stmt.While _ _ _ _) _) _ _ _)); (fail_if_success (with_reducible show wpAny _ _ (exec (Stmt.Assign [Expr.Name _ _] (Expr.ListComp _ [⟨_, Expr.Tuple _ _ _, _, _⟩] _ _) _) _) _ _ _)); (first | (fail_if_success (with_reducible show wpAny _ _ (call (Value.ref _) _) _ _ _)) | (with_reducible show wpAny _ _ (call (Value.ref 98) _) _ _ _) | (with_reducible show wpAny _ _ (call (Value.ref 95) _) _ _ _) | (with_reducible show wpAny _ _ (call (Value.ref 88) _) _ _ _)); (first | walk1 | (dsimp only; walk1))) | (leave1; walk_say "STEP leave1"; try dsimp only) | fail "no step"))
      · rw [decide_eq_true hbd.2]; rfl
      · exact ⟨_, _, rfl, InElt.start _⟩
    · intro D h tk ys F2 N2 hD hys
      rw [gath_false] at hys
      cases hys
      clear F1 N1 hand hxx hSb
      rcases hms with ⟨hU, hlast, hcnt⟩ | ⟨hU, ha2, hg1, hg2, hbk, hnb, hdt⟩ | ⟨hU, ha2, hdr⟩
      · have hk8 := two_half hi1 hi2
        repeat (rename (@LT.lt Nat _ _ _ ∧ _) => z; clear z)
        repeat (rename (@Ne Nat _ _ ∧ _) => z; clear z)
        repeat (rename AllLt _ _ => z; clear z)
        (repeat' (first | (k_unfold; (try dsimp only)) | (k_end; wrow_close) | (first | (k_here; (with_reducible show wpAny _ _ (binaryOp Operator.Mult (Value.ref _) (Value.int _ _)) _ _ _); k_dflt (refine' KM.mul ?Fz26 ?Nz26 ?lz26 ?iz26 ?xz26 ?yz26 ?zz26 ?_; (case Fz26 => k_asm); (case Nz26 => k_asm); (case lz26 => exact News.isList (by k_asm) (by k_mem)); (case iz26 => exact .cons _ _ .nil); (case xz26 => ((try simp only [List.length_replicate]); omega)); (case yz26 => ((try simp only [List.length_replicate]); omega)); (case zz26 => ((try simp only [List.length_replicate, List.length_singleton]); omega))); (intro _ _ _ _ l1 _ _ _ _ _ _); (try k_lt l1)) | (k_here; (with_reducible show wpAny _ _ (subscriptTail _ (PySem.Expr.UnaryOp _ _ _) (Value.ref _) (Value.int _ _)) _ _ _); (with_unfolding_all refine' item_last ?k1z27 ?k2z27 ?k3z27 ?k4z27 ?k5z27 ?_ ?k6z27 ?k7z27; (case k1z27 => k_asm); (case k2z27 => k_mem); (case k3z27 => with_reducible assumption); (case k4z27 => with_reducible assumption); (case k5z27 => with_reducible assumption); (case k6z27 => with_unfolding_all rfl); (case k7z27 => kmk_pure); k_whole); intro _) | (k_here; (with_reducible show wpAny _ _ (call (Value.builtin "list.count") [Value.ref _, Value.int _ _]) _ _ _); k_dflt (refine' count_list_ints ?lz28 ?iz28 ?_; (case lz28 => exact News.isList (by k_asm) (by k_mem)); (case iz28 => with_reducible assumption))) | (k_here; (with_reducible show wpAny _ _ (getMethod (Value.ref _) (PySem.Str.ofString "count") _) _ _ _); k_dflt (refine' kf_method ?Nz29 ?mz29 PySem.F.slot_list_count PySem.F.type_list_count ?_; (case Nz29 => k_asm); (case mz29 => k_mem))) | (k_here; (with_reducible show wpAny _ _ (call (Value.ref 109) [Value.ref _, Value.ref _, Value.int _ _]) _ _ _); k_dflt (refine' call_mul ?kBz30 ?kFz30 ?kXz30 ?kNz30 ?kTz30 ?kKz30 ?kmz30 ?knz30 ?ivz30 ?iwz30 ?iLz30 ?jLz30 ?ilz30 ?jlz30 ?w1z30 ?w2z30 ?kdz30 ?_; (case kFz30 => k_asm); (case kNz30 => k_asm); (case kBz30 => k_asm); (case kXz30 => k_asm); (case kTz30 => k_asm); (case kKz30 => exact rfl); (case kmz30 => k_mem); (case knz30 => k_mem); (case ivz30 => with_reducible assumption); (case iwz30 => with_reducible assumption); (case iLz30 => with_reducible assumption); (case jLz30 => with_reducible assumption); (case ilz30 => omega); (case jlz30 => omega); (case w1z30 => omega); (case w2z30 => omega); (case kdz30 => (first | omega | ((try simp only [depth_deeper, depth_caller]); (try dsimp only [ktrTop]); omega) | ((try simp only [depth_under_make, depth_under_kw, depth_in1, depth_deeper, depth_caller]); (try dsimp only [ktrTop]); (try simp only [depth_under_make, depth_under_kw, depth_in1, depth_deeper, depth_caller]); omega)))); intro _ _ _ _ _ _ _ _ _ _ _ _ _; (try dsimp only); (try k_sweep)) | (k_here; (with_reducible show wpAny _ _ (call (Value.ref 53) [Value.ref _, Value.ref _, Value.int _ _]) _ _ _); k_dflt (refine' call_add ?kBz31 ?kFz31 ?kXz31 ?kNz31 ?kTz31 ?kKz31 ?kmz31 ?knz31 ?ivz31 ?iwz31 ?iLz31 ?jLz31 ?ilz31 ?jlz31 ?w1z31 ?w2z31 ?kdz31 ?_; (case kFz31 => k_asm); (case kNz31 => k_asm); (case kBz31 => k_asm); (case kXz31 => k_asm); (case kTz31 => k_asm); (case kKz31 => exact rfl); (case kmz31 => k_mem); (case knz31 => k_mem); (case ivz31 => with_reducible assumption); (case iwz31 => with_reducible assumption); (case iLz31 => with_reducible assumption); (case jLz31 => with_reducible assumption); (case ilz31 => omega); (case jlz31 => omega); (case w1z31 => omega); (case w2z31 => omega); (case kdz31 => (first | omega | ((try simp only [depth_deeper, depth_caller]); (try dsimp only [ktrTop]); omega) | ((try simp only [depth_under_make, depth_under_kw, depth_in1, depth_deeper, depth_caller]); (try dsimp only [ktrTop]); (try simp only [depth_under_make, depth_under_kw, depth_in1, depth_deeper, depth_caller]); omega)))); intro _ _ _ _ _ _ _ _ _ _ _ _ _; (try dsimp only); (try k_sweep)) | (k_here; (with_reducible show wpAny _ _ (call (Value.ref 60) [Value.ref _, Value.int _ _, Value.int _ _]) _ _ _); k_dflt (refine' call_shr ?kBz32 ?kFz32 ?kXz32 ?kNz32 ?kTz32 ?kKz32 ?kmz32 ?ivz32 ?iLz32 ?ilz32 ?w1z32 ?w2z32 ?n1z32 ?n2z32 ?kdz32 ?_; (case kFz32 => k_asm); (case kNz32 => k_asm); (case kBz32 => k_asm); (case kXz32 => k_asm); (case kTz32 => k_asm); (case kKz32 => exact rfl); (case kmz32 => k_mem); (case ivz32 => with_reducible assumption); (case iLz32 => with_reducible assumption); (case ilz32 => omega); (case w1z32 => omega); (case w2z32 => omega); (case n1z32 => omega); (case n2z32 => omega); (case kdz32 => (first | omega | ((try simp only [depth_deeper, depth_caller]); (try dsimp only [ktrTop]); omega) | ((try simp only [depth_under_make, depth_under_kw, depth_in1, depth_deeper, depth_caller]); (try dsimp only [ktrTop]); (try simp only [depth_under_make, depth_under_kw, depth_in1, depth_deeper, depth_caller]); omega)))); intro _ _ _ _ _ _ _ _ _ _ _ _ _; (try dsimp only); (try k_sweep)) | (k_here; (with_reducible show wpAny _ _ (call (Value.ref 67) [Value.ref _, Value.int _ _, Value.int _ _]) _ _ _); k_dflt (refine' call_low ?kBz33 ?kFz33 ?kXz33 ?kNz33 ?kTz33 ?kKz33 ?kmz33 ?ivz33 ?iLz33 ?ilz33 ?w1z33 ?w2z33 ?n1z33 ?n2z33 ?kdz33 ?_; (case kFz33 => k_asm); (case kNz33 => k_asm); (case kBz33 => k_asm); (case kXz33 => k_asm); (case kTz33 => k_asm); (case kKz33 => exact rfl); (case kmz33 => k_mem); (case ivz33 => with_reducible assumption); (case iLz33 => with_reducible assumption); (case ilz33 => omega); (case w1z33 => omega); (case w2z33 => omega); (case n1z33 => omega); (case n2z33 => omega); (case kdz33 => (first | omega | ((try simp only [depth_deeper, depth_caller]); (try dsimp only [ktrTop]); omega) | ((try simp only [depth_under_make, depth_under_kw, depth_in1, depth_deeper, depth_caller]); (try dsimp only [ktrTop]); (try simp only [depth_under_make, depth_under_kw, depth_in1, depth_deeper, depth_caller]); omega)))); intro _ _ _ _ _ _ _ _ _ _ _ _ _; (try dsimp only); (try k_sweep)) | (k_here; (with_reducible show wpAny _ _ (call (Value.ref 128) [Value.ref _, Value.int _ _]) _ _ _); k_dflt (refine' call_number ?kBz34 ?kFz34 ?kXz34 ?kNz34 ?kTz34 ?kKz34 ?kmz34 ?ivz34 ?iLz34 ?ilz34 ?w1z34 ?w2z34 ?kdz34 ?_; (case kFz34 => k_asm); (case kNz34 => k_asm); (case kBz34 => k_asm); (case kXz34 => k_asm); (case kTz34 => k_asm); (case kKz34 => exact rfl); (case kmz34 => k_mem); (case ivz34 => with_reducible assumption); (case iLz34 => with_reducible assumption); (case ilz34 => omega); (case w1z34 => omega); (case w2z34 => omega); (case kdz34 => (first | omega | ((try simp only [depth_deeper, depth_caller]); (try dsimp only [ktrTop]); omega) | ((try simp only [depth_under_make, depth_under_kw, depth_in1, depth_deeper, depth_caller]); (try dsimp only [ktrTop]); (try simp only [depth_under_make, depth_under_kw, depth_in1, depth_deeper, depth_caller]); omega)))); intro _ _ _ _ _; (try dsimp only); (try k_sweep)) | (k_here; (with_reducible show wpAny _ _ (call (Value.ref 123) [Value.int _ _, Value.int _ _]) _ _ _); k_dflt (refine' call_limbs ?kBz35 ?kFz35 ?kXz35 ?kNz35 ?kTz35 ?kKz35 ?w1z35 ?w2z35 ?n1z35 ?n2z35 ?kdz35 ?_; (case kFz35 => k_asm); (case kNz35 => k_asm); (case kBz35 => k_asm); (case kXz35 => k_asm); (case kTz35 => k_asm); (case kKz35 => exact rfl); (case w1z35 => omega); (case w2z35 => omega); (case n1z35 => omega); (case n2z35 => omega); (case kdz35 => (first | omega | ((try simp only [depth_deeper, depth_caller]); (try dsimp only [ktrTop]); omega) | ((try simp only [depth_under_make, depth_under_kw, depth_in1, depth_deeper, depth_caller]); (try dsimp only [ktrTop]); (try simp only [depth_under_make, depth_under_kw, depth_in1, depth_deeper, depth_caller]); omega)))); intro _ _ _ _ _ _ _ _ _ _ _ _ _; (try dsimp only); (try k_sweep)) | (k_here; (with_reducible show wpAny _ _ (call (Value.ref 116) [Value.ref _, Value.int _ _]) _ _ _); k_dflt (refine' call_spun ?kBz36 ?kFz36 ?kXz36 ?kNz36 ?kTz36 ?kKz36 rfl ?lbz36 ?apz36 ?ivz36 ?ilz36 ?k0z36 ?k1z36 ?m0z36 ?m1z36 ?kdz36 ?_; (case kFz36 => k_asm); (case kNz36 => k_asm); (case kBz36 => k_asm); (case kXz36 => k_asm); (case kTz36 => k_asm); (case kKz36 => exact rfl); (case lbz36 => (first | (first | with_reducible assumption | exact allLt_in (by with_reducible assumption) (by k_mem) | exact all_in (by with_reducible assumption) (by k_mem) | exact lt_via (by with_reducible assumption) (by with_reducible assumption) (by k_mem) | ((show @LT.lt Nat _ _ _); omega)) | ((show @LT.lt Nat _ _ _); omega))); (case apz36 => ((repeat (refine List.forall_mem_cons.mpr ⟨by ((try dsimp only); (first | with_reducible assumption | exact Ne.symm (by with_reducible assumption) | exact Nat.ne_of_gt (by first | with_reducible assumption | exact allLt_in (by with_reducible assumption) (by k_mem) | exact all_in (by with_reducible assumption) (by k_mem) | exact lt_via (by with_reducible assumption) (by with_reducible assumption) (by k_mem)) | exact Nat.ne_of_lt (by first | with_reducible assumption | exact allLt_in (by with_reducible assumption) (by k_mem) | exact all_in (by with_reducible assumption) (by k_mem) | exact lt_via (by with_reducible assumption) (by with_reducible assumption) (by k_mem)) | exact ne_in (by with_reducible assumption) (by k_mem) | exact Ne.symm (ne_in (by with_reducible assumption) (by k_mem)) | exact off1_in (by with_reducible assumption) (by k_mem) | exact Ne.symm (off1_in (by with_reducible assumption) (by k_mem)) | ((show @Ne Nat _ _); (try dsimp only); omega))), ?_⟩)); exact List.forall_mem_nil _)); (case ivz36 => with_reducible assumption); (case ilz36 => (simp only [List.length_map, List.length_take]; omega)); (case k0z36 => omega); (case k1z36 => omega); (case m0z36 => omega); (case m1z36 => omega); (case kdz36 => (first | omega | ((try simp only [depth_deeper, depth_caller]); (try dsimp only [ktrTop]); omega) | ((try simp only [depth_under_make, depth_under_kw, depth_in1, depth_deeper, depth_caller]); (try dsimp only [ktrTop]); (try simp only [depth_under_make, depth_under_kw, depth_in1, depth_deeper, depth_caller]); omega)))); intro _ _ _ _ _ _ _ _ _ _; (try dsimp only); (try k_sweep)) | (k_here; (with_reducible show wpAny _ _ (call (Value.ref 116) [Value.ref _, Value.int _ _]) _ _ _); k_dflt (refine' spun_at1 ?kBz37 ?kFz37 ?kXz37 ?kNz37 ?kTz37 ?kKz37 ?lbz37 ?axz37 ?apz37 ?ivz37 ?ilz37 ?k0z37 ?k1z37 ?m0z37 ?m1z37 ?kdz37 ?_; (case kFz37 => k_asm); (case kNz37 => k_asm); (case kBz37 => k_asm); (case kXz37 => k_asm); (case kTz37 => k_asm); (case kKz37 => exact rfl); (case axz37 => ((try dsimp only); (first | with_reducible assumption | exact Ne.symm (by with_reducible assumption) | exact Nat.ne_of_gt (by first | with_reducible assumption | exact allLt_in (by with_reducible assumption) (by k_mem) | exact all_in (by with_reducible assumption) (by k_mem) | exact lt_via (by with_reducible assumption) (by with_reducible assumption) (by k_mem)) | exact Nat.ne_of_lt (by first | with_reducible assumption | exact allLt_in (by with_reducible assumption) (by k_mem) | exact all_in (by with_reducible assumption) (by k_mem) | exact lt_via (by with_reducible assumption) (by with_reducible assumption) (by k_mem)) | exact ne_in (by with_reducible assumption) (by k_mem) | exact Ne.symm (ne_in (by with_reducible assumption) (by k_mem)) | exact off1_in (by with_reducible assumption) (by k_mem) | exact Ne.symm (off1_in (by with_reducible assumption) (by k_mem)) | ((show @Ne Nat _ _); (try dsimp only); omega)))); (case lbz37 => (first | (first | with_reducible assumption | exact allLt_in (by with_reducible assumption) (by k_mem) | exact all_in (by with_reducible assumption) (by k_mem) | exact lt_via (by with_reducible assumption) (by with_reducible assumption) (by k_mem) | ((show @LT.lt Nat _ _ _); omega)) | ((show @LT.lt Nat _ _ _); omega))); (case apz37 => ((repeat (refine List.forall_mem_cons.mpr ⟨by ((try dsimp only); (first | with_reducible assumption | exact Ne.symm (by with_reducible assumption) | exact Nat.ne_of_gt (by first | with_reducible assumption | exact allLt_in (by with_reducible assumption) (by k_mem) | exact all_in (by with_reducible assumption) (by k_mem) | exact lt_via (by with_reducible assumption) (by with_reducible assumption) (by k_mem)) | exact Nat.ne_of_lt (by first | with_reducible assumption | exact allLt_in (by with_reducible assumption) (by k_mem) | exact all_in (by with_reducible assumption) (by k_mem) | exact lt_via (by with_reducible assumption) (by with_reducible assumption) (by k_mem)) | exact ne_in (by with_reducible assumption) (by k_mem) | exact Ne.symm (ne_in (by with_reducible assumption) (by k_mem)) | exact off1_in (by with_reducible assumption) (by k_mem) | exact Ne.symm (off1_in (by with_reducible assumption) (by k_mem)) | ((show @Ne Nat _ _); (try dsimp only); omega))), ?_⟩)); exact List.forall_mem_nil _)); (case ivz37 => with_reducible assumption); (case ilz37 => (simp only [List.length_map, List.length_take]; omega)); (case k0z37 => omega); (case k1z37 => omega); (case m0z37 => omega); (case m1z37 => omega); (case kdz37 => (first | omega | ((try simp only [depth_deeper, depth_caller]); (try dsimp only [ktrTop]); omega) | ((try simp only [depth_under_make, depth_under_kw, depth_in1, depth_deeper, depth_caller]); (try dsimp only [ktrTop]); (try simp only [depth_under_make, depth_under_kw, depth_in1, depth_deeper, depth_caller]); omega)))); intro _ _ _ _ _ _ _ _ _ _; (try dsimp only); (try k_sweep))) | ((fail_if_success (with_reducible show Exists _)); (fail_if_success (with_reducible show wpAny _ _ (eval (Expr.ListComp _ _ _ _) _) _ _ _)); (fail_if_success (with_reducible show wpAny _ _ (exec (Stmt.Assign [Expr.Name _ _] (Expr.ListComp _ _ _ _) _) _) _ _ _)); (fail_if_success (with_reducible show LCg.FinA _ _ _ _ _ _ _ _)); (fail_if_success (with_reducible show KswEnd _ _ _ _ _ _ _ _ _ _ _ _)); (fail_if_success (with_reducible show wpAny _ _ (pyIter _) _ _ _)); (fail_if_success (with_reducible show wpAny _ _ (exec (Stmt.While _ _ _ _) _) _ _ _)); (fail_if_success (with_reducible show wpAny _ _ (exec (Stmt.Assign [Expr.Name _ _] (Expr.ListComp _ [⟨_, Expr.Tuple _ _ _, _, _⟩] _ _) _) _) _ _ _)); (first | (fail_if_success (with_reducible show wpAny _ _ (call (Value.ref _) _) _ _ _)) | (with_reducible show wpAny _ _ (call (Value.ref 98) _) _ _ _) | (with_reducible show wpAny _ _ (call (Value.ref 95) _) _ _ _) | (with_reducible show wpAny _ _ (call (Value.ref 88) _) _ _ _)); (first | walk1 | (dsimp only; walk1))) | (leave1; walk_say "STEP leave1"; try dsimp only) | fail "no step"))
        rename Fr _ _ _ _ => F0
        refine Assign_ListCompO none F0 (by rfl) (by with_unfolding_all rfl) (by with_unfolding_all rfl) (by decide) (by rfl) (by decide) (by rfl) (by rfl) ?_
        (repeat' (first | (k_unfold; (try dsimp only)) | (k_end; wrow_close) | (first | (k_here; (with_reducible show wpAny _ _ (binaryOp Operator.Mult (Value.ref _) (Value.int _ _)) _ _ _); k_dflt (refine' KM.mul ?Fz26 ?Nz26 ?lz26 ?iz26 ?xz26 ?yz26 ?zz26 ?_; (case Fz26 => k_asm); (case Nz26 => k_asm); (case lz26 => exact News.isList (by k_asm) (by k_mem)); (case iz26 => exact .cons _ _ .nil); (case xz26 => ((try simp only [List.length_replicate]); omega)); (case yz26 => ((try simp only [List.length_replicate]); omega)); (case zz26 => ((try simp only [List.length_replicate, List.length_singleton]); omega))); (intro _ _ _ _ l1 _ _ _ _ _ _); (try k_lt l1)) | (k_here; (with_reducible show wpAny _ _ (subscriptTail _ (PySem.Expr.UnaryOp _ _ _) (Value.ref _) (Value.int _ _)) _ _ _); (with_unfolding_all refine' item_last ?k1z27 ?k2z27 ?k3z27 ?k4z27 ?k5z27 ?_ ?k6z27 ?k7z27; (case k1z27 => k_asm); (case k2z27 => k_mem); (case k3z27 => with_reducible assumption); (case k4z27 => with_reducible assumption); (case k5z27 => with_reducible assumption); (case k6z27 => with_unfolding_all rfl); (case k7z27 => kmk_pure); k_whole); intro _) | (k_here; (with_reducible show wpAny _ _ (call (Value.builtin "list.count") [Value.ref _, Value.int _ _]) _ _ _); k_dflt (refine' count_list_ints ?lz28 ?iz28 ?_; (case lz28 => exact News.isList (by k_asm) (by k_mem)); (case iz28 => with_reducible assumption))) | (k_here; (with_reducible show wpAny _ _ (getMethod (Value.ref _) (PySem.Str.ofString "count") _) _ _ _); k_dflt (refine' kf_method ?Nz29 ?mz29 PySem.F.slot_list_count PySem.F.type_list_count ?_; (case Nz29 => k_asm); (case mz29 => k_mem))) | (k_here; (with_reducible show wpAny _ _ (call (Value.ref 109) [Value.ref _, Value.ref _, Value.int _ _]) _ _ _); k_dflt (refine' call_mul ?kBz30 ?kFz30 ?kXz30 ?kNz30 ?kTz30 ?kKz30 ?kmz30 ?knz30 ?ivz30 ?iwz30 ?iLz30 ?jLz30 ?ilz30 ?jlz30 ?w1z30 ?w2z30 ?kdz30 ?_; (case kFz30 => k_asm); (case kNz30 => k_asm); (case kBz30 => k_asm); (case kXz30 => k_asm); (case kTz30 => k_asm); (case kKz30 => exact rfl); (case kmz30 => k_mem); (case knz30 => k_mem); (case ivz30 => with_reducible assumption); (case iwz30 => with_reducible assumption); (case iLz30 => with_reducible assumption); (case jLz30 => with_reducible assumption); (case ilz30 => omega); (case jlz30 => omega); (case w1z30 => omega); (case w2z30 => omega); (case kdz30 => (first | omega | ((try simp only [depth_deeper, depth_caller]); (try dsimp only [ktrTop]); omega) | ((try simp only [depth_under_make, depth_under_kw, depth_in1, depth_deeper, depth_caller]); (try dsimp only [ktrTop]); (try simp only [depth_under_make, depth_under_kw, depth_in1, depth_deeper, depth_caller]); omega)))); intro _ _ _ _ _ _ _ _ _ _ _ _ _; (try dsimp only); (try k_sweep)) | (k_here; (with_reducible show wpAny _ _ (call (Value.ref 53) [Value.ref _, Value.ref _, Value.int _ _]) _ _ _); k_dflt (refine' call_add ?kBz31 ?kFz31 ?kXz31 ?kNz31 ?kTz31 ?kKz31 ?kmz31 ?knz31 ?ivz31 ?iwz31 ?iLz31 ?jLz31 ?ilz31 ?jlz31 ?w1z31 ?w2z31 ?kdz31 ?_; (case kFz31 => k_asm); (case kNz31 => k_asm); (case kBz31 => k_asm); (case kXz31 => k_asm); (case kTz31 => k_asm); (case kKz31 => exact rfl); (case kmz31 => k_mem); (case knz31 => k_mem); (case ivz31 => with_reducible assumption); (case iwz31 => with_reducible assumption); (case iLz31 => with_reducible assumption); (case jLz31 => with_reducible assumption); (case ilz31 => omega); (case jlz31 => omega); (case w1z31 => omega); (case w2z31 => omega); (case kdz31 => (first | omega | ((try simp only [depth_deeper, depth_caller]); (try dsimp only [ktrTop]); omega) | ((try simp only [depth_under_make, depth_under_kw, depth_in1, depth_deeper, depth_caller]); (try dsimp only [ktrTop]); (try simp only [depth_under_make, depth_under_kw, depth_in1, depth_deeper, depth_caller]); omega)))); intro _ _ _ _ _ _ _ _ _ _ _ _ _; (try dsimp only); (try k_sweep)) | (k_here; (with_reducible show wpAny _ _ (call (Value.ref 60) [Value.ref _, Value.int _ _, Value.int _ _]) _ _ _); k_dflt (refine' call_shr ?kBz32 ?kFz32 ?kXz32 ?kNz32 ?kTz32 ?kKz32 ?kmz32 ?ivz32 ?iLz32 ?ilz32 ?w1z32 ?w2z32 ?n1z32 ?n2z32 ?kdz32 ?_; (case kFz32 => k_asm); (case kNz32 => k_asm); (case kBz32 => k_asm); (case kXz32 => k_asm); (case kTz32 => k_asm); (case kKz32 => exact rfl); (case kmz32 => k_mem); (case ivz32 => with_reducible assumption); (case iLz32 => with_reducible assumption); (case ilz32 => omega); (case w1z32 => omega); (case w2z32 => omega); (case n1z32 => omega); (case n2z32 => omega); (case kdz32 => (first | omega | ((try simp only [depth_deeper, depth_caller]); (try dsimp only [ktrTop]); omega) | ((try simp only [depth_under_make, depth_under_kw, depth_in1, depth_deeper, depth_caller]); (try dsimp only [ktrTop]); (try simp only [depth_under_make, depth_under_kw, depth_in1, depth_deeper, depth_caller]); omega)))); intro _ _ _ _ _ _ _ _ _ _ _ _ _; (try dsimp only); (try k_sweep)) | (k_here; (with_reducible show wpAny _ _ (call (Value.ref 67) [Value.ref _, Value.int _ _, Value.int _ _]) _ _ _); k_dflt (refine' call_low ?kBz33 ?kFz33 ?kXz33 ?kNz33 ?kTz33 ?kKz33 ?kmz33 ?ivz33 ?iLz33 ?ilz33 ?w1z33 ?w2z33 ?n1z33 ?n2z33 ?kdz33 ?_; (case kFz33 => k_asm); (case kNz33 => k_asm); (case kBz33 => k_asm); (case kXz33 => k_asm); (case kTz33 => k_asm); (case kKz33 => exact rfl); (case kmz33 => k_mem); (case ivz33 => with_reducible assumption); (case iLz33 => with_reducible assumption); (case ilz33 => omega); (case w1z33 => omega); (case w2z33 => omega); (case n1z33 => omega); (case n2z33 => omega); (case kdz33 => (first | omega | ((try simp only [depth_deeper, depth_caller]); (try dsimp only [ktrTop]); omega) | ((try simp only [depth_under_make, depth_under_kw, depth_in1, depth_deeper, depth_caller]); (try dsimp only [ktrTop]); (try simp only [depth_under_make, depth_under_kw, depth_in1, depth_deeper, depth_caller]); omega)))); intro _ _ _ _ _ _ _ _ _ _ _ _ _; (try dsimp only); (try k_sweep)) | (k_here; (with_reducible show wpAny _ _ (call (Value.ref 128) [Value.ref _, Value.int _ _]) _ _ _); k_dflt (refine' call_number ?kBz34 ?kFz34 ?kXz34 ?kNz34 ?kTz34 ?kKz34 ?kmz34 ?ivz34 ?iLz34 ?ilz34 ?w1z34 ?w2z34 ?kdz34 ?_; (case kFz34 => k_asm); (case kNz34 => k_asm); (case kBz34 => k_asm); (case kXz34 => k_asm); (case kTz34 => k_asm); (case kKz34 => exact rfl); (case kmz34 => k_mem); (case ivz34 => with_reducible assumption); (case iLz34 => with_reducible assumption); (case ilz34 => omega); (case w1z34 => omega); (case w2z34 => omega); (case kdz34 => (first | omega | ((try simp only [depth_deeper, depth_caller]); (try dsimp only [ktrTop]); omega) | ((try simp only [depth_under_make, depth_under_kw, depth_in1, depth_deeper, depth_caller]); (try dsimp only [ktrTop]); (try simp only [depth_under_make, depth_under_kw, depth_in1, depth_deeper, depth_caller]); omega)))); intro _ _ _ _ _; (try dsimp only); (try k_sweep)) | (k_here; (with_reducible show wpAny _ _ (call (Value.ref 123) [Value.int _ _, Value.int _ _]) _ _ _); k_dflt (refine' call_limbs ?kBz35 ?kFz35 ?kXz35 ?kNz35 ?kTz35 ?kKz35 ?w1z35 ?w2z35 ?n1z35 ?n2z35 ?kdz35 ?_; (case kFz35 => k_asm); (case kNz35 => k_asm); (case kBz35 => k_asm); (case kXz35 => k_asm); (case kTz35 => k_asm); (case kKz35 => exact rfl); (case w1z35 => omega); (case w2z35 => omega); (case n1z35 => omega); (case n2z35 => omega); (case kdz35 => (first | omega | ((try simp only [depth_deeper, depth_caller]); (try dsimp only [ktrTop]); omega) | ((try simp only [depth_under_make, depth_under_kw, depth_in1, depth_deeper, depth_caller]); (try dsimp only [ktrTop]); (try simp only [depth_under_make, depth_under_kw, depth_in1, depth_deeper, depth_caller]); omega)))); intro _ _ _ _ _ _ _ _ _ _ _ _ _; (try dsimp only); (try k_sweep)) | (k_here; (with_reducible show wpAny _ _ (call (Value.ref 116) [Value.ref _, Value.int _ _]) _ _ _); k_dflt (refine' call_spun ?kBz36 ?kFz36 ?kXz36 ?kNz36 ?kTz36 ?kKz36 rfl ?lbz36 ?apz36 ?ivz36 ?ilz36 ?k0z36 ?k1z36 ?m0z36 ?m1z36 ?kdz36 ?_; (case kFz36 => k_asm); (case kNz36 => k_asm); (case kBz36 => k_asm); (case kXz36 => k_asm); (case kTz36 => k_asm); (case kKz36 => exact rfl); (case lbz36 => (first | (first | with_reducible assumption | exact allLt_in (by with_reducible assumption) (by k_mem) | exact all_in (by with_reducible assumption) (by k_mem) | exact lt_via (by with_reducible assumption) (by with_reducible assumption) (by k_mem) | ((show @LT.lt Nat _ _ _); omega)) | ((show @LT.lt Nat _ _ _); omega))); (case apz36 => ((repeat (refine List.forall_mem_cons.mpr ⟨by ((try dsimp only); (first | with_reducible assumption | exact Ne.symm (by with_reducible assumption) | exact Nat.ne_of_gt (by first | with_reducible assumption | exact allLt_in (by with_reducible assumption) (by k_mem) | exact all_in (by with_reducible assumption) (by k_mem) | exact lt_via (by with_reducible assumption) (by with_reducible assumption) (by k_mem)) | exact Nat.ne_of_lt (by first | with_reducible assumption | exact allLt_in (by with_reducible assumption) (by k_mem) | exact all_in (by with_reducible assumption) (by k_mem) | exact lt_via (by with_reducible assumption) (by with_reducible assumption) (by k_mem)) | exact ne_in (by with_reducible assumption) (by k_mem) | exact Ne.symm (ne_in (by with_reducible assumption) (by k_mem)) | exact off1_in (by with_reducible assumption) (by k_mem) | exact Ne.symm (off1_in (by with_reducible assumption) (by k_mem)) | ((show @Ne Nat _ _); (try dsimp only); omega))), ?_⟩)); exact List.forall_mem_nil _)); (case ivz36 => with_reducible assumption); (case ilz36 => (simp only [List.length_map, List.length_take]; omega)); (case k0z36 => omega); (case k1z36 => omega); (case m0z36 => omega); (case m1z36 => omega); (case kdz36 => (first | omega | ((try simp only [depth_deeper, depth_caller]); (try dsimp only [ktrTop]); omega) | ((try simp only [depth_under_make, depth_under_kw, depth_in1, depth_deeper, depth_caller]); (try dsimp only [ktrTop]); (try simp only [depth_under_make, depth_under_kw, depth_in1, depth_deeper, depth_caller]); omega)))); intro _ _ _ _ _ _ _ _ _ _; (try dsimp only); (try k_sweep)) | (k_here; (with_reducible show wpAny _ _ (call (Value.ref 116) [Value.ref _, Value.int _ _]) _ _ _); k_dflt (refine' spun_at1 ?kBz37 ?kFz37 ?kXz37 ?kNz37 ?kTz37 ?kKz37 ?lbz37 ?axz37 ?apz37 ?ivz37 ?ilz37 ?k0z37 ?k1z37 ?m0z37 ?m1z37 ?kdz37 ?_; (case kFz37 => k_asm); (case kNz37 => k_asm); (case kBz37 => k_asm); (case kXz37 => k_asm); (case kTz37 => k_asm); (case kKz37 => exact rfl); (case axz37 => ((try dsimp only); (first | with_reducible assumption | exact Ne.symm (by with_reducible assumption) | exact Nat.ne_of_gt (by first | with_reducible assumption | exact allLt_in (by with_reducible assumption) (by k_mem) | exact all_in (by with_reducible assumption) (by k_mem) | exact lt_via (by with_reducible assumption) (by with_reducible assumption) (by k_mem)) | exact Nat.ne_of_lt (by first | with_reducible assumption | exact allLt_in (by with_reducible assumption) (by k_mem) | exact all_in (by with_reducible assumption) (by k_mem) | exact lt_via (by with_reducible assumption) (by with_reducible assumption) (by k_mem)) | exact ne_in (by with_reducible assumption) (by k_mem) | exact Ne.symm (ne_in (by with_reducible assumption) (by k_mem)) | exact off1_in (by with_reducible assumption) (by k_mem) | exact Ne.symm (off1_in (by with_reducible assumption) (by k_mem)) | ((show @Ne Nat _ _); (try dsimp only); omega)))); (case lbz37 => (first | (first | with_reducible assumption | exact allLt_in (by with_reducible assumption) (by k_mem) | exact all_in (by with_reducible assumption) (by k_mem) | exact lt_via (by with_reducible assumption) (by with_reducible assumption) (by k_mem) | ((show @LT.lt Nat _ _ _); omega)) | ((show @LT.lt Nat _ _ _); omega))); (case apz37 => ((repeat (refine List.forall_mem_cons.mpr ⟨by ((try dsimp only); (first | with_reducible assumption | exact Ne.symm (by with_reducible assumption) | exact Nat.ne_of_gt (by first | with_reducible assumption | exact allLt_in (by with_reducible assumption) (by k_mem) | exact all_in (by with_reducible assumption) (by k_mem) | exact lt_via (by with_reducible assumption) (by with_reducible assumption) (by k_mem)) | exact Nat.ne_of_lt (by first | with_reducible assumption | exact allLt_in (by with_reducible assumption) (by k_mem) | exact all_in (by with_reducible assumption) (by k_mem) | exact lt_via (by with_reducible assumption) (by with_reducible assumption) (by k_mem)) | exact ne_in (by with_reducible assumption) (by k_mem) | exact Ne.symm (ne_in (by with_reducible assumption) (by k_mem)) | exact off1_in (by with_reducible assumption) (by k_mem) | exact Ne.symm (off1_in (by with_reducible assumption) (by k_mem)) | ((show @Ne Nat _ _); (try dsimp only); omega))), ?_⟩)); exact List.forall_mem_nil _)); (case ivz37 => with_reducible assumption); (case ilz37 => (simp only [List.length_map, List.length_take]; omega)); (case k0z37 => omega); (case k1z37 => omega); (case m0z37 => omega); (case m1z37 => omega); (case kdz37 => (first | omega | ((try simp only [depth_deeper, depth_caller]); (try dsimp only [ktrTop]); omega) | ((try simp only [depth_under_make, depth_under_kw, depth_in1, depth_deeper, depth_caller]); (try dsimp only [ktrTop]); (try simp only [depth_under_make, depth_under_kw, depth_in1, depth_deeper, depth_caller]); omega)))); intro _ _ _ _ _ _ _ _ _ _; (try dsimp only); (try k_sweep))) | ((fail_if_success (with_reducible show Exists _)); (fail_if_success (with_reducible show wpAny _ _ (eval (Expr.ListComp _ _ _ _) _) _ _ _)); (fail_if_success (with_reducible show wpAny _ _ (exec (Stmt.Assign [Expr.Name _ _] (Expr.ListComp _ _ _ _) _) _) _ _ _)); (fail_if_success (with_reducible show LCg.FinA _ _ _ _ _ _ _ _)); (fail_if_success (with_reducible show KswEnd _ _ _ _ _ _ _ _ _ _ _ _)); (fail_if_success (with_reducible show wpAny _ _ (pyIter _) _ _ _)); (fail_if_success (with_reducible show wpAny _ _ (exec (Stmt.While _ _ _ _) _) _ _ _)); (fail_if_success (with_reducible show wpAny _ _ (exec (Stmt.Assign [Expr.Name _ _] (Expr.ListComp _ [⟨_, Expr.Tuple _ _ _, _, _⟩] _ _) _) _) _ _ _)); (first | (fail_if_success (with_reducible show wpAny _ _ (call (Value.ref _) _) _ _ _)) | (with_reducible show wpAny _ _ (call (Value.ref 98) _) _ _ _) | (with_reducible show wpAny _ _ (call (Value.ref 95) _) _ _ _) | (with_reducible show wpAny _ _ (call (Value.ref 88) _) _ _ _)); (first | walk1 | (dsimp only; walk1))) | (leave1; walk_say "STEP leave1"; try dsimp only) | fail "no step"))
        rename IsRange _ _ _ _ _ _ _ _ => hr9
        rename News _ _ _ _ => N1
        rename Fr _ _ _ _ => F1
        refine ready_rangeA none (n := ((2 : Int) ^ (wi.fdiv 2).toNat).toNat) (fun _ => true) (fun i => ((H.count (i : Int) : Nat) : Int)) rfl rfl rfl F1 N1 hr9 (small_one (by omega) (by omega) (by omega) (by omega)) (by rw [rangeSize_nat]; omega) (by rw [sizeLine_eq]; omega) (by intro c h; cases h) (fun _ _ => rfl) ?_ ?_
        · intro i C D oC ys mC h tk E' hi hp hb' hoC hys F2 N2 hDC hD
          obtain ⟨tb, hb'⟩ := hb'
          (repeat' (first | (k_unfold; (try dsimp only)) | (k_end; wrow_close) | (first | (k_here; (with_reducible show wpAny _ _ (binaryOp Operator.Mult (Value.ref _) (Value.int _ _)) _ _ _); k_dflt (refine' KM.mul ?Fz26 ?Nz26 ?lz26 ?iz26 ?xz26 ?yz26 ?zz26 ?_; (case Fz26 => k_asm); (case Nz26 => k_asm); (case lz26 => exact News.isList (by k_asm) (by k_mem)); (case iz26 => exact .cons _ _ .nil); (case xz26 => ((try simp only [List.length_replicate]); omega)); (case yz26 => ((try simp only [List.length_replicate]); omega)); (case zz26 => ((try simp only [List.length_replicate, List.length_singleton]); omega))); (intro _ _ _ _ l1 _ _ _ _ _ _); (try k_lt l1)) | (k_here; (with_reducible show wpAny _ _ (subscriptTail _ (PySem.Expr.UnaryOp _ _ _) (Value.ref _) (Value.int _ _)) _ _ _); (with_unfolding_all refine' item_last ?k1z27 ?k2z27 ?k3z27 ?k4z27 ?k5z27 ?_ ?k6z27 ?k7z27; (case k1z27 => k_asm); (case k2z27 => k_mem); (case k3z27 => with_reducible assumption); (case k4z27 => with_reducible assumption); (case k5z27 => with_reducible assumption); (case k6z27 => with_unfolding_all rfl); (case k7z27 => kmk_pure); k_whole); intro _) | (k_here; (with_reducible show wpAny _ _ (call (Value.builtin "list.count") [Value.ref _, Value.int _ _]) _ _ _); k_dflt (refine' count_list_ints ?lz28 ?iz28 ?_; (case lz28 => exact News.isList (by k_asm) (by k_mem)); (case iz28 => with_reducible assumption))) | (k_here; (with_reducible show wpAny _ _ (getMethod (Value.ref _) (PySem.Str.ofString "count") _) _ _ _); k_dflt (refine' kf_method ?Nz29 ?mz29 PySem.F.slot_list_count PySem.F.type_list_count ?_; (case Nz29 => k_asm); (case mz29 => k_mem))) | (k_here; (with_reducible show wpAny _ _ (call (Value.ref 109) [Value.ref _, Value.ref _, Value.int _ _]) _ _ _); k_dflt (refine' call_mul ?kBz30 ?kFz30 ?kXz30 ?kNz30 ?kTz30 ?kKz30 ?kmz30 ?knz30 ?ivz30 ?iwz30 ?iLz30 ?jLz30 ?ilz30 ?jlz30 ?w1z30 ?w2z30 ?kdz30 ?_; (case kFz30 => k_asm); (case kNz30 => k_asm); (case kBz30 => k_asm); (case kXz30 => k_asm); (case kTz30 => k_asm); (case kKz30 => exact rfl); (case kmz30 => k_mem); (case knz30 => k_mem); (case ivz30 => with_reducible assumption); (case iwz30 => with_reducible assumption); (case iLz30 => with_reducible assumption); (case jLz30 => with_reducible assumption); (case ilz30 => omega); (case jlz30 => omega); (case w1z30 => omega); (case w2z30 => omega); (case kdz30 => (first | omega | ((try simp only [depth_deeper, depth_caller]); (try dsimp only [ktrTop]); omega) | ((try simp only [depth_under_make, depth_under_kw, depth_in1, depth_deeper, depth_caller]); (try dsimp only [ktrTop]); (try simp only [depth_under_make, depth_under_kw, depth_in1, depth_deeper, depth_caller]); omega)))); intro _ _ _ _ _ _ _ _ _ _ _ _ _; (try dsimp only); (try k_sweep)) | (k_here; (with_reducible show wpAny _ _ (call (Value.ref 53) [Value.ref _, Value.ref _, Value.int _ _]) _ _ _); k_dflt (refine' call_add ?kBz31 ?kFz31 ?kXz31 ?kNz31 ?kTz31 ?kKz31 ?kmz31 ?knz31 ?ivz31 ?iwz31 ?iLz31 ?jLz31 ?ilz31 ?jlz31 ?w1z31 ?w2z31 ?kdz31 ?_; (case kFz31 => k_asm); (case kNz31 => k_asm); (case kBz31 => k_asm); (case kXz31 => k_asm); (case kTz31 => k_asm); (case kKz31 => exact rfl); (case kmz31 => k_mem); (case knz31 => k_mem); (case ivz31 => with_reducible assumption); (case iwz31 => with_reducible assumption); (case iLz31 => with_reducible assumption); (case jLz31 => with_reducible assumption); (case ilz31 => omega); (case jlz31 => omega); (case w1z31 => omega); (case w2z31 => omega); (case kdz31 => (first | omega | ((try simp only [depth_deeper, depth_caller]); (try dsimp only [ktrTop]); omega) | ((try simp only [depth_under_make, depth_under_kw, depth_in1, depth_deeper, depth_caller]); (try dsimp only [ktrTop]); (try simp only [depth_under_make, depth_under_kw, depth_in1, depth_deeper, depth_caller]); omega)))); intro _ _ _ _ _ _ _ _ _ _ _ _ _; (try dsimp only); (try k_sweep)) | (k_here; (with_reducible show wpAny _ _ (call (Value.ref 60) [Value.ref _, Value.int _ _, Value.int _ _]) _ _ _); k_dflt (refine' call_shr ?kBz32 ?kFz32 ?kXz32 ?kNz32 ?kTz32 ?kKz32 ?kmz32 ?ivz32 ?iLz32 ?ilz32 ?w1z32 ?w2z32 ?n1z32 ?n2z32 ?kdz32 ?_; (case kFz32 => k_asm); (case kNz32 => k_asm); (case kBz32 => k_asm); (case kXz32 => k_asm); (case kTz32 => k_asm); (case kKz32 => exact rfl); (case kmz32 => k_mem); (case ivz32 => with_reducible assumption); (case iLz32 => with_reducible assumption); (case ilz32 => omega); (case w1z32 => omega); (case w2z32 => omega); (case n1z32 => omega); (case n2z32 => omega); (case kdz32 => (first | omega | ((try simp only [depth_deeper, depth_caller]); (try dsimp only [ktrTop]); omega) | ((try simp only [depth_under_make, depth_under_kw, depth_in1, depth_deeper, depth_caller]); (try dsimp only [ktrTop]); (try simp only [depth_under_make, depth_under_kw, depth_in1, depth_deeper, depth_caller]); omega)))); intro _ _ _ _ _ _ _ _ _ _ _ _ _; (try dsimp only); (try k_sweep)) | (k_here; (with_reducible show wpAny _ _ (call (Value.ref 67) [Value.ref _, Value.int _ _, Value.int _ _]) _ _ _); k_dflt (refine' call_low ?kBz33 ?kFz33 ?kXz33 ?kNz33 ?kTz33 ?kKz33 ?kmz33 ?ivz33 ?iLz33 ?ilz33 ?w1z33 ?w2z33 ?n1z33 ?n2z33 ?kdz33 ?_; (case kFz33 => k_asm); (case kNz33 => k_asm); (case kBz33 => k_asm); (case kXz33 => k_asm); (case kTz33 => k_asm); (case kKz33 => exact rfl); (case kmz33 => k_mem); (case ivz33 => with_reducible assumption); (case iLz33 => with_reducible assumption); (case ilz33 => omega); (case w1z33 => omega); (case w2z33 => omega); (case n1z33 => omega); (case n2z33 => omega); (case kdz33 => (first | omega | ((try simp only [depth_deeper, depth_caller]); (try dsimp only [ktrTop]); omega) | ((try simp only [depth_under_make, depth_under_kw, depth_in1, depth_deeper, depth_caller]); (try dsimp only [ktrTop]); (try simp only [depth_under_make, depth_under_kw, depth_in1, depth_deeper, depth_caller]); omega)))); intro _ _ _ _ _ _ _ _ _ _ _ _ _; (try dsimp only); (try k_sweep)) | (k_here; (with_reducible show wpAny _ _ (call (Value.ref 128) [Value.ref _, Value.int _ _]) _ _ _); k_dflt (refine' call_number ?kBz34 ?kFz34 ?kXz34 ?kNz34 ?kTz34 ?kKz34 ?kmz34 ?ivz34 ?iLz34 ?ilz34 ?w1z34 ?w2z34 ?kdz34 ?_; (case kFz34 => k_asm); (case kNz34 => k_asm); (case kBz34 => k_asm); (case kXz34 => k_asm); (case kTz34 => k_asm); (case kKz34 => exact rfl); (case kmz34 => k_mem); (case ivz34 => with_reducible assumption); (case iLz34 => with_reducible assumption); (case ilz34 => omega); (case w1z34 => omega); (case w2z34 => omega); (case kdz34 => (first | omega | ((try simp only [depth_deeper, depth_caller]); (try dsimp only [ktrTop]); omega) | ((try simp only [depth_under_make, depth_under_kw, depth_in1, depth_deeper, depth_caller]); (try dsimp only [ktrTop]); (try simp only [depth_under_make, depth_under_kw, depth_in1, depth_deeper, depth_caller]); omega)))); intro _ _ _ _ _; (try dsimp only); (try k_sweep)) | (k_here; (with_reducible show wpAny _ _ (call (Value.ref 123) [Value.int _ _, Value.int _ _]) _ _ _); k_dflt (refine' call_limbs ?kBz35 ?kFz35 ?kXz35 ?kNz35 ?kTz35 ?kKz35 ?w1z35 ?w2z35 ?n1z35 ?n2z35 ?kdz35 ?_; (case kFz35 => k_asm); (case kNz35 => k_asm); (case kBz35 => k_asm); (case kXz35 => k_asm); (case kTz35 => k_asm); (case kKz35 => exact rfl); (case w1z35 => omega); (case w2z35 => omega); (case n1z35 => omega); (case n2z35 => omega); (case kdz35 => (first | omega | ((try simp only [depth_deeper, depth_caller]); (try dsimp only [ktrTop]); omega) | ((try simp only [depth_under_make, depth_under_kw, depth_in1, depth_deeper, depth_caller]); (try dsimp only [ktrTop]); (try simp only [depth_under_make, depth_under_kw, depth_in1, depth_deeper, depth_caller]); omega)))); intro _ _ _ _ _ _ _ _ _ _ _ _ _; (try dsimp only); (try k_sweep)) | (k_here; (with_reducible show wpAny _ _ (call (Value.ref 116) [Value.ref _, Value.int _ _]) _ _ _); k_dflt (refine' call_spun ?kBz36 ?kFz36 ?kXz36 ?kNz36 ?kTz36 ?kKz36 rfl ?lbz36 ?apz36 ?ivz36 ?ilz36 ?k0z36 ?k1z36 ?m0z36 ?m1z36 ?kdz36 ?_; (case kFz36 => k_asm); (case kNz36 => k_asm); (case kBz36 => k_asm); (case kXz36 => k_asm); (case kTz36 => k_asm); (case kKz36 => exact rfl); (case lbz36 => (first | (first | with_reducible assumption | exact allLt_in (by with_reducible assumption) (by k_mem) | exact all_in (by with_reducible assumption) (by k_mem) | exact lt_via (by with_reducible assumption) (by with_reducible assumption) (by k_mem) | ((show @LT.lt Nat _ _ _); omega)) | ((show @LT.lt Nat _ _ _); omega))); (case apz36 => ((repeat (refine List.forall_mem_cons.mpr ⟨by ((try dsimp only); (first | with_reducible assumption | exact Ne.symm (by with_reducible assumption) | exact Nat.ne_of_gt (by first | with_reducible assumption | exact allLt_in (by with_reducible assumption) (by k_mem) | exact all_in (by with_reducible assumption) (by k_mem) | exact lt_via (by with_reducible assumption) (by with_reducible assumption) (by k_mem)) | exact Nat.ne_of_lt (by first | with_reducible assumption | exact allLt_in (by with_reducible assumption) (by k_mem) | exact all_in (by with_reducible assumption) (by k_mem) | exact lt_via (by with_reducible assumption) (by with_reducible assumption) (by k_mem)) | exact ne_in (by with_reducible assumption) (by k_mem) | exact Ne.symm (ne_in (by with_reducible assumption) (by k_mem)) | exact off1_in (by with_reducible assumption) (by k_mem) | exact Ne.symm (off1_in (by with_reducible assumption) (by k_mem)) | ((show @Ne Nat _ _); (try dsimp only); omega))), ?_⟩)); exact List.forall_mem_nil _)); (case ivz36 => with_reducible assumption); (case ilz36 => (simp only [List.length_map, List.length_take]; omega)); (case k0z36 => omega); (case k1z36 => omega); (case m0z36 => omega); (case m1z36 => omega); (case kdz36 => (first | omega | ((try simp only [depth_deeper, depth_caller]); (try dsimp only [ktrTop]); omega) | ((try simp only [depth_under_make, depth_under_kw, depth_in1, depth_deeper, depth_caller]); (try dsimp only [ktrTop]); (try simp only [depth_under_make, depth_under_kw, depth_in1, depth_deeper, depth_caller]); omega)))); intro _ _ _ _ _ _ _ _ _ _; (try dsimp only); (try k_sweep)) | (k_here; (with_reducible show wpAny _ _ (call (Value.ref 116) [Value.ref _, Value.int _ _]) _ _ _); k_dflt (refine' spun_at1 ?kBz37 ?kFz37 ?kXz37 ?kNz37 ?kTz37 ?kKz37 ?lbz37 ?axz37 ?apz37 ?ivz37 ?ilz37 ?k0z37 ?k1z37 ?m0z37 ?m1z37 ?kdz37 ?_; (case kFz37 => k_asm); (case kNz37 => k_asm); (case kBz37 => k_asm); (case kXz37 => k_asm); (case kTz37 => k_asm); (case kKz37 => exact rfl); (case axz37 => ((try dsimp only); (first | with_reducible assumption | exact Ne.symm (by with_reducible assumption) | exact Nat.ne_of_gt (by first | with_reducible assumption | exact allLt_in (by with_reducible assumption) (by k_mem) | exact all_in (by with_reducible assumption) (by k_mem) | exact lt_via (by with_reducible assumption) (by with_reducible assumption) (by k_mem)) | exact Nat.ne_of_lt (by first | with_reducible assumption | exact allLt_in (by with_reducible assumption) (by k_mem) | exact all_in (by with_reducible assumption) (by k_mem) | exact lt_via (by with_reducible assumption) (by with_reducible assumption) (by k_mem)) | exact ne_in (by with_reducible assumption) (by k_mem) | exact Ne.symm (ne_in (by with_reducible assumption) (by k_mem)) | exact off1_in (by with_reducible assumption) (by k_mem) | exact Ne.symm (off1_in (by with_reducible assumption) (by k_mem)) | ((show @Ne Nat _ _); (try dsimp only); omega)))); (case lbz37 => (first | (first | with_reducible assumption | exact allLt_in (by with_reducible assumption) (by k_mem) | exact all_in (by with_reducible assumption) (by k_mem) | exact lt_via (by with_reducible assumption) (by with_reducible assumption) (by k_mem) | ((show @LT.lt Nat _ _ _); omega)) | ((show @LT.lt Nat _ _ _); omega))); (case apz37 => ((repeat (refine List.forall_mem_cons.mpr ⟨by ((try dsimp only); (first | with_reducible assumption | exact Ne.symm (by with_reducible assumption) | exact Nat.ne_of_gt (by first | with_reducible assumption | exact allLt_in (by with_reducible assumption) (by k_mem) | exact all_in (by with_reducible assumption) (by k_mem) | exact lt_via (by with_reducible assumption) (by with_reducible assumption) (by k_mem)) | exact Nat.ne_of_lt (by first | with_reducible assumption | exact allLt_in (by with_reducible assumption) (by k_mem) | exact all_in (by with_reducible assumption) (by k_mem) | exact lt_via (by with_reducible assumption) (by with_reducible assumption) (by k_mem)) | exact ne_in (by with_reducible assumption) (by k_mem) | exact Ne.symm (ne_in (by with_reducible assumption) (by k_mem)) | exact off1_in (by with_reducible assumption) (by k_mem) | exact Ne.symm (off1_in (by with_reducible assumption) (by k_mem)) | ((show @Ne Nat _ _); (try dsimp only); omega))), ?_⟩)); exact List.forall_mem_nil _)); (case ivz37 => with_reducible assumption); (case ilz37 => (simp only [List.length_map, List.length_take]; omega)); (case k0z37 => omega); (case k1z37 => omega); (case m0z37 => omega); (case m1z37 => omega); (case kdz37 => (first | omega | ((try simp only [depth_deeper, depth_caller]); (try dsimp only [ktrTop]); omega) | ((try simp only [depth_under_make, depth_under_kw, depth_in1, depth_deeper, depth_caller]); (try dsimp only [ktrTop]); (try simp only [depth_under_make, depth_under_kw, depth_in1, depth_deeper, depth_caller]); omega)))); intro _ _ _ _ _ _ _ _ _ _; (try dsimp only); (try k_sweep))) | ((fail_if_success (with_reducible show Exists _)); (fail_if_success (with_reducible show wpAny _ _ (eval (Expr.ListComp _ _ _ _) _) _ _ _)); (fail_if_success (with_reducible show wpAny _ _ (exec (Stmt.Assign [Expr.Name _ _] (Expr.ListComp _ _ _ _) _) _) _ _ _)); (fail_if_success (with_reducible show LCg.FinA _ _ _ _ _ _ _ _)); (fail_if_success (with_reducible show KswEnd _ _ _ _ _ _ _ _ _ _ _ _)); (fail_if_success (with_reducible show wpAny _ _ (pyIter _) _ _ _)); (fail_if_success (with_reducible show wpAny _ _ (exec (Stmt.While _ _ _ _) _) _ _ _)); (fail_if_success (with_reducible show wpAny _ _ (exec (Stmt.Assign [Expr.Name _ _] (Expr.ListComp _ [⟨_, Expr.Tuple _ _ _, _, _⟩] _ _) _) _) _ _ _)); (first | (fail_if_success (with_reducible show wpAny _ _ (call (Value.ref _) _) _ _ _)) | (with_reducible show wpAny _ _ (call (Value.ref 98) _) _ _ _) | (with_reducible show wpAny _ _ (call (Value.ref 95) _) _ _ _) | (with_reducible show wpAny _ _ (call (Value.ref 88) _) _ _ _)); (first | walk1 | (dsimp only; walk1))) | (leave1; walk_say "STEP leave1"; try dsimp only) | fail "no step"))
          · exact ⟨_, rfl⟩
          · exact ⟨_, _, rfl, InElt.start _⟩
        · intro D h tk ys F2 N2 hD hys
          rw [gath_const hcnt] at hys
          have hyl := hys.length
          rw [List.length_replicate] at hyl
          generalize hn9 : ((2 : Int) ^ (wi.fdiv 2).toNat).toNat = n9 at hys hyl
          have hn8 : n9 ≤ 8 := by omega
          have hS1 : 1 ≤ S.length := by omega
          clear hn9 hk8
          generalize hRd : List.replicate n9 ((2 : Int) ^ (wi - wi.fdiv 2).toNat) = R at hys
          have hRl : R.length = n9 := by rw [← hRd, List.length_replicate]
          have hRq : R = (List.replicate ((R.length : Nat) : Int).toNat [(2 : Int) ^ (wi - wi.fdiv 2).toNat]).flatten := by rw [List.flatten_replicate_singleton, Int.toNat_natCast, hRl, hRd]
          clear hRd
          (repeat' (first | (k_unfold; (try dsimp only)) | (k_end; wrow_close) | (first | (k_here; (with_reducible show wpAny _ _ (binaryOp Operator.Mult (Value.ref _) (Value.int _ _)) _ _ _); k_dflt (refine' KM.mul ?Fz26 ?Nz26 ?lz26 ?iz26 ?xz26 ?yz26 ?zz26 ?_; (case Fz26 => k_asm); (case Nz26 => k_asm); (case lz26 => exact News.isList (by k_asm) (by k_mem)); (case iz26 => exact .cons _ _ .nil); (case xz26 => ((try simp only [List.length_replicate]); omega)); (case yz26 => ((try simp only [List.length_replicate]); omega)); (case zz26 => ((try simp only [List.length_replicate, List.length_singleton]); omega))); (intro _ _ _ _ l1 _ _ _ _ _ _); (try k_lt l1)) | (k_here; (with_reducible show wpAny _ _ (subscriptTail _ (PySem.Expr.UnaryOp _ _ _) (Value.ref _) (Value.int _ _)) _ _ _); (with_unfolding_all refine' item_last ?k1z27 ?k2z27 ?k3z27 ?k4z27 ?k5z27 ?_ ?k6z27 ?k7z27; (case k1z27 => k_asm); (case k2z27 => k_mem); (case k3z27 => with_reducible assumption); (case k4z27 => with_reducible assumption); (case k5z27 => with_reducible assumption); (case k6z27 => with_unfolding_all rfl); (case k7z27 => kmk_pure); k_whole); intro _) | (k_here; (with_reducible show wpAny _ _ (call (Value.builtin "list.count") [Value.ref _, Value.int _ _]) _ _ _); k_dflt (refine' count_list_ints ?lz28 ?iz28 ?_; (case lz28 => exact News.isList (by k_asm) (by k_mem)); (case iz28 => with_reducible assumption))) | (k_here; (with_reducible show wpAny _ _ (getMethod (Value.ref _) (PySem.Str.ofString "count") _) _ _ _); k_dflt (refine' kf_method ?Nz29 ?mz29 PySem.F.slot_list_count PySem.F.type_list_count ?_; (case Nz29 => k_asm); (case mz29 => k_mem))) | (k_here; (with_reducible show wpAny _ _ (call (Value.ref 109) [Value.ref _, Value.ref _, Value.int _ _]) _ _ _); k_dflt (refine' call_mul ?kBz30 ?kFz30 ?kXz30 ?kNz30 ?kTz30 ?kKz30 ?kmz30 ?knz30 ?ivz30 ?iwz30 ?iLz30 ?jLz30 ?ilz30 ?jlz30 ?w1z30 ?w2z30 ?kdz30 ?_; (case kFz30 => k_asm); (case kNz30 => k_asm); (case kBz30 => k_asm); (case kXz30 => k_asm); (case kTz30 => k_asm); (case kKz30 => exact rfl); (case kmz30 => k_mem); (case knz30 => k_mem); (case ivz30 => with_reducible assumption); (case iwz30 => with_reducible assumption); (case iLz30 => with_reducible assumption); (case jLz30 => with_reducible assumption); (case ilz30 => omega); (case jlz30 => omega); (case w1z30 => omega); (case w2z30 => omega); (case kdz30 => (first | omega | ((try simp only [depth_deeper, depth_caller]); (try dsimp only [ktrTop]); omega) | ((try simp only [depth_under_make, depth_under_kw, depth_in1, depth_deeper, depth_caller]); (try dsimp only [ktrTop]); (try simp only [depth_under_make, depth_under_kw, depth_in1, depth_deeper, depth_caller]); omega)))); intro _ _ _ _ _ _ _ _ _ _ _ _ _; (try dsimp only); (try k_sweep)) | (k_here; (with_reducible show wpAny _ _ (call (Value.ref 53) [Value.ref _, Value.ref _, Value.int _ _]) _ _ _); k_dflt (refine' call_add ?kBz31 ?kFz31 ?kXz31 ?kNz31 ?kTz31 ?kKz31 ?kmz31 ?knz31 ?ivz31 ?iwz31 ?iLz31 ?jLz31 ?ilz31 ?jlz31 ?w1z31 ?w2z31 ?kdz31 ?_; (case kFz31 => k_asm); (case kNz31 => k_asm); (case kBz31 => k_asm); (case kXz31 => k_asm); (case kTz31 => k_asm); (case kKz31 => exact rfl); (case kmz31 => k_mem); (case knz31 => k_mem); (case ivz31 => with_reducible assumption); (case iwz31 => with_reducible assumption); (case iLz31 => with_reducible assumption); (case jLz31 => with_reducible assumption); (case ilz31 => omega); (case jlz31 => omega); (case w1z31 => omega); (case w2z31 => omega); (case kdz31 => (first | omega | ((try simp only [depth_deeper, depth_caller]); (try dsimp only [ktrTop]); omega) | ((try simp only [depth_under_make, depth_under_kw, depth_in1, depth_deeper, depth_caller]); (try dsimp only [ktrTop]); (try simp only [depth_under_make, depth_under_kw, depth_in1, depth_deeper, depth_caller]); omega)))); intro _ _ _ _ _ _ _ _ _ _ _ _ _; (try dsimp only); (try k_sweep)) | (k_here; (with_reducible show wpAny _ _ (call (Value.ref 60) [Value.ref _, Value.int _ _, Value.int _ _]) _ _ _); k_dflt (refine' call_shr ?kBz32 ?kFz32 ?kXz32 ?kNz32 ?kTz32 ?kKz32 ?kmz32 ?ivz32 ?iLz32 ?ilz32 ?w1z32 ?w2z32 ?n1z32 ?n2z32 ?kdz32 ?_; (case kFz32 => k_asm); (case kNz32 => k_asm); (case kBz32 => k_asm); (case kXz32 => k_asm); (case kTz32 => k_asm); (case kKz32 => exact rfl); (case kmz32 => k_mem); (case ivz32 => with_reducible assumption); (case iLz32 => with_reducible assumption); (case ilz32 => omega); (case w1z32 => omega); (case w2z32 => omega); (case n1z32 => omega); (case n2z32 => omega); (case kdz32 => (first | omega | ((try simp only [depth_deeper, depth_caller]); (try dsimp only [ktrTop]); omega) | ((try simp only [depth_under_make, depth_under_kw, depth_in1, depth_deeper, depth_caller]); (try dsimp only [ktrTop]); (try simp only [depth_under_make, depth_under_kw, depth_in1, depth_deeper, depth_caller]); omega)))); intro _ _ _ _ _ _ _ _ _ _ _ _ _; (try dsimp only); (try k_sweep)) | (k_here; (with_reducible show wpAny _ _ (call (Value.ref 67) [Value.ref _, Value.int _ _, Value.int _ _]) _ _ _); k_dflt (refine' call_low ?kBz33 ?kFz33 ?kXz33 ?kNz33 ?kTz33 ?kKz33 ?kmz33 ?ivz33 ?iLz33 ?ilz33 ?w1z33 ?w2z33 ?n1z33 ?n2z33 ?kdz33 ?_; (case kFz33 => k_asm); (case kNz33 => k_asm); (case kBz33 => k_asm); (case kXz33 => k_asm); (case kTz33 => k_asm); (case kKz33 => exact rfl); (case kmz33 => k_mem); (case ivz33 => with_reducible assumption); (case iLz33 => with_reducible assumption); (case ilz33 => omega); (case w1z33 => omega); (case w2z33 => omega); (case n1z33 => omega); (case n2z33 => omega); (case kdz33 => (first | omega | ((try simp only [depth_deeper, depth_caller]); (try dsimp only [ktrTop]); omega) | ((try simp only [depth_under_make, depth_under_kw, depth_in1, depth_deeper, depth_caller]); (try dsimp only [ktrTop]); (try simp only [depth_under_make, depth_under_kw, depth_in1, depth_deeper, depth_caller]); omega)))); intro _ _ _ _ _ _ _ _ _ _ _ _ _; (try dsimp only); (try k_sweep)) | (k_here; (with_reducible show wpAny _ _ (call (Value.ref 128) [Value.ref _, Value.int _ _]) _ _ _); k_dflt (refine' call_number ?kBz34 ?kFz34 ?kXz34 ?kNz34 ?kTz34 ?kKz34 ?kmz34 ?ivz34 ?iLz34 ?ilz34 ?w1z34 ?w2z34 ?kdz34 ?_; (case kFz34 => k_asm); (case kNz34 => k_asm); (case kBz34 => k_asm); (case kXz34 => k_asm); (case kTz34 => k_asm); (case kKz34 => exact rfl); (case kmz34 => k_mem); (case ivz34 => with_reducible assumption); (case iLz34 => with_reducible assumption); (case ilz34 => omega); (case w1z34 => omega); (case w2z34 => omega); (case kdz34 => (first | omega | ((try simp only [depth_deeper, depth_caller]); (try dsimp only [ktrTop]); omega) | ((try simp only [depth_under_make, depth_under_kw, depth_in1, depth_deeper, depth_caller]); (try dsimp only [ktrTop]); (try simp only [depth_under_make, depth_under_kw, depth_in1, depth_deeper, depth_caller]); omega)))); intro _ _ _ _ _; (try dsimp only); (try k_sweep)) | (k_here; (with_reducible show wpAny _ _ (call (Value.ref 123) [Value.int _ _, Value.int _ _]) _ _ _); k_dflt (refine' call_limbs ?kBz35 ?kFz35 ?kXz35 ?kNz35 ?kTz35 ?kKz35 ?w1z35 ?w2z35 ?n1z35 ?n2z35 ?kdz35 ?_; (case kFz35 => k_asm); (case kNz35 => k_asm); (case kBz35 => k_asm); (case kXz35 => k_asm); (case kTz35 => k_asm); (case kKz35 => exact rfl); (case w1z35 => omega); (case w2z35 => omega); (case n1z35 => omega); (case n2z35 => omega); (case kdz35 => (first | omega | ((try simp only [depth_deeper, depth_caller]); (try dsimp only [ktrTop]); omega) | ((try simp only [depth_under_make, depth_under_kw, depth_in1, depth_deeper, depth_caller]); (try dsimp only [ktrTop]); (try simp only [depth_under_make, depth_under_kw, depth_in1, depth_deeper, depth_caller]); omega)))); intro _ _ _ _ _ _ _ _ _ _ _ _ _; (try dsimp only); (try k_sweep)) | (k_here; (with_reducible show wpAny _ _ (call (Value.ref 116) [Value.ref _, Value.int _ _]) _ _ _); k_dflt (refine' call_spun ?kBz36 ?kFz36 ?kXz36 ?kNz36 ?kTz36 ?kKz36 rfl ?lbz36 ?apz36 ?ivz36 ?ilz36 ?k0z36 ?k1z36 ?m0z36 ?m1z36 ?kdz36 ?_; (case kFz36 => k_asm); (case kNz36 => k_asm); (case kBz36 => k_asm); (case kXz36 => k_asm); (case kTz36 => k_asm); (case kKz36 => exact rfl); (case lbz36 => (first | (first | with_reducible assumption | exact allLt_in (by with_reducible assumption) (by k_mem) | exact all_in (by with_reducible assumption) (by k_mem) | exact lt_via (by with_reducible assumption) (by with_reducible assumption) (by k_mem) | ((show @LT.lt Nat _ _ _); omega)) | ((show @LT.lt Nat _ _ _); omega))); (case apz36 => ((repeat (refine List.forall_mem_cons.mpr ⟨by ((try dsimp only); (first | with_reducible assumption | exact Ne.symm (by with_reducible assumption) | exact Nat.ne_of_gt (by first | with_reducible assumption | exact allLt_in (by with_reducible assumption) (by k_mem) | exact all_in (by with_reducible assumption) (by k_mem) | exact lt_via (by with_reducible assumption) (by with_reducible assumption) (by k_mem)) | exact Nat.ne_of_lt (by first | with_reducible assumption | exact allLt_in (by with_reducible assumption) (by k_mem) | exact all_in (by with_reducible assumption) (by k_mem) | exact lt_via (by with_reducible assumption) (by with_reducible assumption) (by k_mem)) | exact ne_in (by with_reducible assumption) (by k_mem) | exact Ne.symm (ne_in (by with_reducible assumption) (by k_mem)) | exact off1_in (by with_reducible assumption) (by k_mem) | exact Ne.symm (off1_in (by with_reducible assumption) (by k_mem)) | ((show @Ne Nat _ _); (try dsimp only); omega))), ?_⟩)); exact List.forall_mem_nil _)); (case ivz36 => with_reducible assumption); (case ilz36 => (simp only [List.length_map, List.length_take]; omega)); (case k0z36 => omega); (case k1z36 => omega); (case m0z36 => omega); (case m1z36 => omega); (case kdz36 => (first | omega | ((try simp only [depth_deeper, depth_caller]); (try dsimp only [ktrTop]); omega) | ((try simp only [depth_under_make, depth_under_kw, depth_in1, depth_deeper, depth_caller]); (try dsimp only [ktrTop]); (try simp only [depth_under_make, depth_under_kw, depth_in1, depth_deeper, depth_caller]); omega)))); intro _ _ _ _ _ _ _ _ _ _; (try dsimp only); (try k_sweep)) | (k_here; (with_reducible show wpAny _ _ (call (Value.ref 116) [Value.ref _, Value.int _ _]) _ _ _); k_dflt (refine' spun_at1 ?kBz37 ?kFz37 ?kXz37 ?kNz37 ?kTz37 ?kKz37 ?lbz37 ?axz37 ?apz37 ?ivz37 ?ilz37 ?k0z37 ?k1z37 ?m0z37 ?m1z37 ?kdz37 ?_; (case kFz37 => k_asm); (case kNz37 => k_asm); (case kBz37 => k_asm); (case kXz37 => k_asm); (case kTz37 => k_asm); (case kKz37 => exact rfl); (case axz37 => ((try dsimp only); (first | with_reducible assumption | exact Ne.symm (by with_reducible assumption) | exact Nat.ne_of_gt (by first | with_reducible assumption | exact allLt_in (by with_reducible assumption) (by k_mem) | exact all_in (by with_reducible assumption) (by k_mem) | exact lt_via (by with_reducible assumption) (by with_reducible assumption) (by k_mem)) | exact Nat.ne_of_lt (by first | with_reducible assumption | exact allLt_in (by with_reducible assumption) (by k_mem) | exact all_in (by with_reducible assumption) (by k_mem) | exact lt_via (by with_reducible assumption) (by with_reducible assumption) (by k_mem)) | exact ne_in (by with_reducible assumption) (by k_mem) | exact Ne.symm (ne_in (by with_reducible assumption) (by k_mem)) | exact off1_in (by with_reducible assumption) (by k_mem) | exact Ne.symm (off1_in (by with_reducible assumption) (by k_mem)) | ((show @Ne Nat _ _); (try dsimp only); omega)))); (case lbz37 => (first | (first | with_reducible assumption | exact allLt_in (by with_reducible assumption) (by k_mem) | exact all_in (by with_reducible assumption) (by k_mem) | exact lt_via (by with_reducible assumption) (by with_reducible assumption) (by k_mem) | ((show @LT.lt Nat _ _ _); omega)) | ((show @LT.lt Nat _ _ _); omega))); (case apz37 => ((repeat (refine List.forall_mem_cons.mpr ⟨by ((try dsimp only); (first | with_reducible assumption | exact Ne.symm (by with_reducible assumption) | exact Nat.ne_of_gt (by first | with_reducible assumption | exact allLt_in (by with_reducible assumption) (by k_mem) | exact all_in (by with_reducible assumption) (by k_mem) | exact lt_via (by with_reducible assumption) (by with_reducible assumption) (by k_mem)) | exact Nat.ne_of_lt (by first | with_reducible assumption | exact allLt_in (by with_reducible assumption) (by k_mem) | exact all_in (by with_reducible assumption) (by k_mem) | exact lt_via (by with_reducible assumption) (by with_reducible assumption) (by k_mem)) | exact ne_in (by with_reducible assumption) (by k_mem) | exact Ne.symm (ne_in (by with_reducible assumption) (by k_mem)) | exact off1_in (by with_reducible assumption) (by k_mem) | exact Ne.symm (off1_in (by with_reducible assumption) (by k_mem)) | ((show @Ne Nat _ _); (try dsimp only); omega))), ?_⟩)); exact List.forall_mem_nil _)); (case ivz37 => with_reducible assumption); (case ilz37 => (simp only [List.length_map, List.length_take]; omega)); (case k0z37 => omega); (case k1z37 => omega); (case m0z37 => omega); (case m1z37 => omega); (case kdz37 => (first | omega | ((try simp only [depth_deeper, depth_caller]); (try dsimp only [ktrTop]); omega) | ((try simp only [depth_under_make, depth_under_kw, depth_in1, depth_deeper, depth_caller]); (try dsimp only [ktrTop]); (try simp only [depth_under_make, depth_under_kw, depth_in1, depth_deeper, depth_caller]); omega)))); intro _ _ _ _ _ _ _ _ _ _; (try dsimp only); (try k_sweep))) | ((fail_if_success (with_reducible show Exists _)); (fail_if_success (with_reducible show wpAny _ _ (eval (Expr.ListComp _ _ _ _) _) _ _ _)); (fail_if_success (with_reducible show wpAny _ _ (exec (Stmt.Assign [Expr.Name _ _] (Expr.ListComp _ _ _ _) _) _) _ _ _)); (fail_if_success (with_reducible show LCg.FinA _ _ _ _ _ _ _ _)); (fail_if_success (with_reducible show KswEnd _ _ _ _ _ _ _ _ _ _ _ _)); (fail_if_success (with_reducible show wpAny _ _ (pyIter _) _ _ _)); (fail_if_success (with_reducible show wpAny _ _ (exec (Stmt.While _ _ _ _) _) _ _ _)); (fail_if_success (with_reducible show wpAny _ _ (exec (Stmt.Assign [Expr.Name _ _] (Expr.ListComp _ [⟨_, Expr.Tuple _ _ _, _, _⟩] _ _) _) _) _ _ _)); (first | (fail_if_success (with_reducible show wpAny _ _ (call (Value.ref _) _) _ _ _)) | (with_reducible show wpAny _ _ (call (Value.ref 98) _) _ _ _) | (with_reducible show wpAny _ _ (call (Value.ref 95) _) _ _ _) | (with_reducible show wpAny _ _ (call (Value.ref 88) _) _ _ _)); (first | walk1 | (dsimp only; walk1))) | (leave1; walk_say "STEP leave1"; try dsimp only) | fail "no step"))
      · have hin := any_of (by omega) hbk
        have hidx : IdxIs S (bv.fmod (2 ^ wi.toNat)) ((G.length : Int) - 1) := ⟨G.length - 1, by omega, by omega, hbk, hnb⟩
        have hb1 : decide ((G.length : Int) - 1 < 2 ^ wi.toNat) = true := decide_eq_true (by omega)
        have hb2 : ((G.length : Int) == (G.length : Int) - 1 + 1) = true := beq_iff_eq.mpr (by omega)
        have hb3 : 0 ≤ (G.length : Int) - 1 + 1 := by omega
        have hb4 : 0 ≤ (2 : Int) ^ wi.toNat - ((G.length : Int) - 1) - 1 := by omega
        repeat (rename (@LT.lt Nat _ _ _ ∧ _) => z; clear z)
        repeat (rename (@Ne Nat _ _ ∧ _) => z; clear z)
        repeat (rename AllLt _ _ => z; clear z)
        (repeat' (first | (k_unfold; (try dsimp only)) | (k_end; wrow_close) | (first | (k_here; (with_reducible show wpAny _ _ (subscriptTail _ (PySem.Expr.Slice _ _ none _) (Value.ref _) (Value.ref _)) _ _ _); k_dflt (refine' kmk_slice_ints ?Fz38 ?Nz38 ?lz38 ?pz38 ?qz38 ?iz38 ?mz38 ?cz38 ?_ ?sz38 ?tz38 ?zz38; (case Fz38 => k_asm); (case Nz38 => k_asm); (case lz38 => exact News.isList (by k_asm) (by k_mem)); (case pz38 => kmk_part); (case qz38 => kmk_part); (case iz38 => with_reducible assumption); (case mz38 => first | exact kmk_from (by with_reducible assumption) (by with_reducible assumption) | exact kmk_upto (by with_reducible assumption) (by with_reducible assumption)); (case cz38 => kmk_len); (case sz38 => with_unfolding_all rfl); (case tz38 => kmk_pure); (case zz38 => exact kmk_sz (by with_reducible assumption) (by with_reducible assumption))); intro _ _ _ _ _ l1 _ _ _; (try k_lt l1)) | (k_here; (with_reducible show wpAny _ _ (call (Value.builtin "list.index") [Value.ref _, Value.int _ _]) _ _ _); k_dflt (refine' index_is ?Nz39 ?mz39 ?iz39 ?ez39 ?zz39 ?_; (case Nz39 => k_asm); (case mz39 => k_mem); (case iz39 => with_reducible assumption); (case ez39 => with_reducible assumption); (case zz39 => with_reducible assumption))) | (k_here; (with_reducible show wpAny _ _ (compareOp CmpOp.In (Value.int _ _) (Value.ref _)) _ _ _); k_dflt (refine' in_true ?Nz40 ?mz40 ?iz40 ?ez40 ?_; (case Nz40 => k_asm); (case mz40 => k_mem); (case iz40 => with_reducible assumption); (case ez40 => with_reducible assumption))) | (k_here; (with_reducible show wpAny _ _ (call (Value.ref 109) [Value.ref _, Value.ref _, Value.int _ _]) _ _ _); k_dflt (refine' call_mul ?kBz41 ?kFz41 ?kXz41 ?kNz41 ?kTz41 ?kKz41 ?kmz41 ?knz41 ?ivz41 ?iwz41 ?iLz41 ?jLz41 ?ilz41 ?jlz41 ?w1z41 ?w2z41 ?kdz41 ?_; (case kFz41 => k_asm); (case kNz41 => k_asm); (case kBz41 => k_asm); (case kXz41 => k_asm); (case kTz41 => k_asm); (case kKz41 => exact rfl); (case kmz41 => k_mem); (case knz41 => k_mem); (case ivz41 => with_reducible assumption); (case iwz41 => with_reducible assumption); (case iLz41 => with_reducible assumption); (case jLz41 => with_reducible assumption); (case ilz41 => omega); (case jlz41 => omega); (case w1z41 => omega); (case w2z41 => omega); (case kdz41 => (first | omega | ((try simp only [depth_deeper, depth_caller]); (try dsimp only [ktrTop]); omega) | ((try simp only [depth_under_make, depth_under_kw, depth_in1, depth_deeper, depth_caller]); (try dsimp only [ktrTop]); (try simp only [depth_under_make, depth_under_kw, depth_in1, depth_deeper, depth_caller]); omega)))); intro _ _ _ _ _ _ _ _ _ _ _ _ _; (try dsimp only); (try k_sweep)) | (k_here; (with_reducible show wpAny _ _ (call (Value.ref 53) [Value.ref _, Value.ref _, Value.int _ _]) _ _ _); k_dflt (refine' call_add ?kBz42 ?kFz42 ?kXz42 ?kNz42 ?kTz42 ?kKz42 ?kmz42 ?knz42 ?ivz42 ?iwz42 ?iLz42 ?jLz42 ?ilz42 ?jlz42 ?w1z42 ?w2z42 ?kdz42 ?_; (case kFz42 => k_asm); (case kNz42 => k_asm); (case kBz42 => k_asm); (case kXz42 => k_asm); (case kTz42 => k_asm); (case kKz42 => exact rfl); (case kmz42 => k_mem); (case knz42 => k_mem); (case ivz42 => with_reducible assumption); (case iwz42 => with_reducible assumption); (case iLz42 => with_reducible assumption); (case jLz42 => with_reducible assumption); (case ilz42 => omega); (case jlz42 => omega); (case w1z42 => omega); (case w2z42 => omega); (case kdz42 => (first | omega | ((try simp only [depth_deeper, depth_caller]); (try dsimp only [ktrTop]); omega) | ((try simp only [depth_under_make, depth_under_kw, depth_in1, depth_deeper, depth_caller]); (try dsimp only [ktrTop]); (try simp only [depth_under_make, depth_under_kw, depth_in1, depth_deeper, depth_caller]); omega)))); intro _ _ _ _ _ _ _ _ _ _ _ _ _; (try dsimp only); (try k_sweep)) | (k_here; (with_reducible show wpAny _ _ (call (Value.ref 60) [Value.ref _, Value.int _ _, Value.int _ _]) _ _ _); k_dflt (refine' call_shr ?kBz43 ?kFz43 ?kXz43 ?kNz43 ?kTz43 ?kKz43 ?kmz43 ?ivz43 ?iLz43 ?ilz43 ?w1z43 ?w2z43 ?n1z43 ?n2z43 ?kdz43 ?_; (case kFz43 => k_asm); (case kNz43 => k_asm); (case kBz43 => k_asm); (case kXz43 => k_asm); (case kTz43 => k_asm); (case kKz43 => exact rfl); (case kmz43 => k_mem); (case ivz43 => with_reducible assumption); (case iLz43 => with_reducible assumption); (case ilz43 => omega); (case w1z43 => omega); (case w2z43 => omega); (case n1z43 => omega); (case n2z43 => omega); (case kdz43 => (first | omega | ((try simp only [depth_deeper, depth_caller]); (try dsimp only [ktrTop]); omega) | ((try simp only [depth_under_make, depth_under_kw, depth_in1, depth_deeper, depth_caller]); (try dsimp only [ktrTop]); (try simp only [depth_under_make, depth_under_kw, depth_in1, depth_deeper, depth_caller]); omega)))); intro _ _ _ _ _ _ _ _ _ _ _ _ _; (try dsimp only); (try k_sweep)) | (k_here; (with_reducible show wpAny _ _ (call (Value.ref 67) [Value.ref _, Value.int _ _, Value.int _ _]) _ _ _); k_dflt (refine' call_low ?kBz44 ?kFz44 ?kXz44 ?kNz44 ?kTz44 ?kKz44 ?kmz44 ?ivz44 ?iLz44 ?ilz44 ?w1z44 ?w2z44 ?n1z44 ?n2z44 ?kdz44 ?_; (case kFz44 => k_asm); (case kNz44 => k_asm); (case kBz44 => k_asm); (case kXz44 => k_asm); (case kTz44 => k_asm); (case kKz44 => exact rfl); (case kmz44 => k_mem); (case ivz44 => with_reducible assumption); (case iLz44 => with_reducible assumption); (case ilz44 => omega); (case w1z44 => omega); (case w2z44 => omega); (case n1z44 => omega); (case n2z44 => omega); (case kdz44 => (first | omega | ((try simp only [depth_deeper, depth_caller]); (try dsimp only [ktrTop]); omega) | ((try simp only [depth_under_make, depth_under_kw, depth_in1, depth_deeper, depth_caller]); (try dsimp only [ktrTop]); (try simp only [depth_under_make, depth_under_kw, depth_in1, depth_deeper, depth_caller]); omega)))); intro _ _ _ _ _ _ _ _ _ _ _ _ _; (try dsimp only); (try k_sweep)) | (k_here; (with_reducible show wpAny _ _ (call (Value.ref 128) [Value.ref _, Value.int _ _]) _ _ _); k_dflt (refine' call_number ?kBz45 ?kFz45 ?kXz45 ?kNz45 ?kTz45 ?kKz45 ?kmz45 ?ivz45 ?iLz45 ?ilz45 ?w1z45 ?w2z45 ?kdz45 ?_; (case kFz45 => k_asm); (case kNz45 => k_asm); (case kBz45 => k_asm); (case kXz45 => k_asm); (case kTz45 => k_asm); (case kKz45 => exact rfl); (case kmz45 => k_mem); (case ivz45 => with_reducible assumption); (case iLz45 => with_reducible assumption); (case ilz45 => omega); (case w1z45 => omega); (case w2z45 => omega); (case kdz45 => (first | omega | ((try simp only [depth_deeper, depth_caller]); (try dsimp only [ktrTop]); omega) | ((try simp only [depth_under_make, depth_under_kw, depth_in1, depth_deeper, depth_caller]); (try dsimp only [ktrTop]); (try simp only [depth_under_make, depth_under_kw, depth_in1, depth_deeper, depth_caller]); omega)))); intro _ _ _ _ _; (try dsimp only); (try k_sweep)) | (k_here; (with_reducible show wpAny _ _ (call (Value.ref 123) [Value.int _ _, Value.int _ _]) _ _ _); k_dflt (refine' call_limbs ?kBz46 ?kFz46 ?kXz46 ?kNz46 ?kTz46 ?kKz46 ?w1z46 ?w2z46 ?n1z46 ?n2z46 ?kdz46 ?_; (case kFz46 => k_asm); (case kNz46 => k_asm); (case kBz46 => k_asm); (case kXz46 => k_asm); (case kTz46 => k_asm); (case kKz46 => exact rfl); (case w1z46 => omega); (case w2z46 => omega); (case n1z46 => omega); (case n2z46 => omega); (case kdz46 => (first | omega | ((try simp only [depth_deeper, depth_caller]); (try dsimp only [ktrTop]); omega) | ((try simp only [depth_under_make, depth_under_kw, depth_in1, depth_deeper, depth_caller]); (try dsimp only [ktrTop]); (try simp only [depth_under_make, depth_under_kw, depth_in1, depth_deeper, depth_caller]); omega)))); intro _ _ _ _ _ _ _ _ _ _ _ _ _; (try dsimp only); (try k_sweep)) | (k_here; (with_reducible show wpAny _ _ (call (Value.ref 116) [Value.ref _, Value.int _ _]) _ _ _); k_dflt (refine' call_spun ?kBz47 ?kFz47 ?kXz47 ?kNz47 ?kTz47 ?kKz47 rfl ?lbz47 ?apz47 ?ivz47 ?ilz47 ?k0z47 ?k1z47 ?m0z47 ?m1z47 ?kdz47 ?_; (case kFz47 => k_asm); (case kNz47 => k_asm); (case kBz47 => k_asm); (case kXz47 => k_asm); (case kTz47 => k_asm); (case kKz47 => exact rfl); (case lbz47 => (first | (first | with_reducible assumption | exact allLt_in (by with_reducible assumption) (by k_mem) | exact all_in (by with_reducible assumption) (by k_mem) | exact lt_via (by with_reducible assumption) (by with_reducible assumption) (by k_mem) | ((show @LT.lt Nat _ _ _); omega)) | ((show @LT.lt Nat _ _ _); omega))); (case apz47 => ((repeat (refine List.forall_mem_cons.mpr ⟨by ((try dsimp only); (first | with_reducible assumption | exact Ne.symm (by with_reducible assumption) | exact Nat.ne_of_gt (by first | with_reducible assumption | exact allLt_in (by with_reducible assumption) (by k_mem) | exact all_in (by with_reducible assumption) (by k_mem) | exact lt_via (by with_reducible assumption) (by with_reducible assumption) (by k_mem)) | exact Nat.ne_of_lt (by first | with_reducible assumption | exact allLt_in (by with_reducible assumption) (by k_mem) | exact all_in (by with_reducible assumption) (by k_mem) | exact lt_via (by with_reducible assumption) (by with_reducible assumption) (by k_mem)) | exact ne_in (by with_reducible assumption) (by k_mem) | exact Ne.symm (ne_in (by with_reducible assumption) (by k_mem)) | exact off1_in (by with_reducible assumption) (by k_mem) | exact Ne.symm (off1_in (by with_reducible assumption) (by k_mem)) | ((show @Ne Nat _ _); (try dsimp only); omega))), ?_⟩)); exact List.forall_mem_nil _)); (case ivz47 => with_reducible assumption); (case ilz47 => (simp only [List.length_map, List.length_take]; omega)); (case k0z47 => omega); (case k1z47 => omega); (case m0z47 => omega); (case m1z47 => omega); (case kdz47 => (first | omega | ((try simp only [depth_deeper, depth_caller]); (try dsimp only [ktrTop]); omega) | ((try simp only [depth_under_make, depth_under_kw, depth_in1, depth_deeper, depth_caller]); (try dsimp only [ktrTop]); (try simp only [depth_under_make, depth_under_kw, depth_in1, depth_deeper, depth_caller]); omega)))); intro _ _ _ _ _ _ _ _ _ _; (try dsimp only); (try k_sweep)) | (k_here; (with_reducible show wpAny _ _ (call (Value.ref 116) [Value.ref _, Value.int _ _]) _ _ _); k_dflt (refine' spun_at1 ?kBz48 ?kFz48 ?kXz48 ?kNz48 ?kTz48 ?kKz48 ?lbz48 ?axz48 ?apz48 ?ivz48 ?ilz48 ?k0z48 ?k1z48 ?m0z48 ?m1z48 ?kdz48 ?_; (case kFz48 => k_asm); (case kNz48 => k_asm); (case kBz48 => k_asm); (case kXz48 => k_asm); (case kTz48 => k_asm); (case kKz48 => exact rfl); (case axz48 => ((try dsimp only); (first | with_reducible assumption | exact Ne.symm (by with_reducible assumption) | exact Nat.ne_of_gt (by first | with_reducible assumption | exact allLt_in (by with_reducible assumption) (by k_mem) | exact all_in (by with_reducible assumption) (by k_mem) | exact lt_via (by with_reducible assumption) (by with_reducible assumption) (by k_mem)) | exact Nat.ne_of_lt (by first | with_reducible assumption | exact allLt_in (by with_reducible assumption) (by k_mem) | exact all_in (by with_reducible assumption) (by k_mem) | exact lt_via (by with_reducible assumption) (by with_reducible assumption) (by k_mem)) | exact ne_in (by with_reducible assumption) (by k_mem) | exact Ne.symm (ne_in (by with_reducible assumption) (by k_mem)) | exact off1_in (by with_reducible assumption) (by k_mem) | exact Ne.symm (off1_in (by with_reducible assumption) (by k_mem)) | ((show @Ne Nat _ _); (try dsimp only); omega)))); (case lbz48 => (first | (first | with_reducible assumption | exact allLt_in (by with_reducible assumption) (by k_mem) | exact all_in (by with_reducible assumption) (by k_mem) | exact lt_via (by with_reducible assumption) (by with_reducible assumption) (by k_mem) | ((show @LT.lt Nat _ _ _); omega)) | ((show @LT.lt Nat _ _ _); omega))); (case apz48 => ((repeat (refine List.forall_mem_cons.mpr ⟨by ((try dsimp only); (first | with_reducible assumption | exact Ne.symm (by with_reducible assumption) | exact Nat.ne_of_gt (by first | with_reducible assumption | exact allLt_in (by with_reducible assumption) (by k_mem) | exact all_in (by with_reducible assumption) (by k_mem) | exact lt_via (by with_reducible assumption) (by with_reducible assumption) (by k_mem)) | exact Nat.ne_of_lt (by first | with_reducible assumption | exact allLt_in (by with_reducible assumption) (by k_mem) | exact all_in (by with_reducible assumption) (by k_mem) | exact lt_via (by with_reducible assumption) (by with_reducible assumption) (by k_mem)) | exact ne_in (by with_reducible assumption) (by k_mem) | exact Ne.symm (ne_in (by with_reducible assumption) (by k_mem)) | exact off1_in (by with_reducible assumption) (by k_mem) | exact Ne.symm (off1_in (by with_reducible assumption) (by k_mem)) | ((show @Ne Nat _ _); (try dsimp only); omega))), ?_⟩)); exact List.forall_mem_nil _)); (case ivz48 => with_reducible assumption); (case ilz48 => (simp only [List.length_map, List.length_take]; omega)); (case k0z48 => omega); (case k1z48 => omega); (case m0z48 => omega); (case m1z48 => omega); (case kdz48 => (first | omega | ((try simp only [depth_deeper, depth_caller]); (try dsimp only [ktrTop]); omega) | ((try simp only [depth_under_make, depth_under_kw, depth_in1, depth_deeper, depth_caller]); (try dsimp only [ktrTop]); (try simp only [depth_under_make, depth_under_kw, depth_in1, depth_deeper, depth_caller]); omega)))); intro _ _ _ _ _ _ _ _ _ _; (try dsimp only); (try k_sweep))) | ((fail_if_success (with_reducible show Exists _)); (fail_if_success (with_reducible show wpAny _ _ (eval (Expr.ListComp _ _ _ _) _) _ _ _)); (fail_if_success (with_reducible show wpAny _ _ (exec (Stmt.Assign [Expr.Name _ _] (Expr.ListComp _ _ _ _) _) _) _ _ _)); (fail_if_success (with_reducible show LCg.FinA _ _ _ _ _ _ _ _)); (fail_if_success (with_reducible show KswEnd _ _ _ _ _ _ _ _ _ _ _ _)); (fail_if_success (with_reducible show wpAny _ _ (pyIter _) _ _ _)); (fail_if_success (with_reducible show wpAny _ _ (exec (Stmt.While _ _ _ _) _) _ _ _)); (fail_if_success (with_reducible show wpAny _ _ (exec (Stmt.Assign [Expr.Name _ _] (Expr.ListComp _ [⟨_, Expr.Tuple _ _ _, _, _⟩] _ _) _) _) _ _ _)); (first | (fail_if_success (with_reducible show wpAny _ _ (call (Value.ref _) _) _ _ _)) | (with_reducible show wpAny _ _ (call (Value.ref 98) _) _ _ _) | (with_reducible show wpAny _ _ (call (Value.ref 95) _) _ _ _) | (with_reducible show wpAny _ _ (call (Value.ref 88) _) _ _ _)); (first | walk1 | (dsimp only; walk1))) | (leave1; walk_say "STEP leave1"; try dsimp only) | fail "no step"))
      · have hx0 : 0 ≤ wi - 1 := by omega
        have hx1 : wi - 1 < (S.length : Int) := by omega
        have hx2 : wi - 1 < 2 ^ 63 := by omega
        have hx3 : -(2 ^ 63 : Int) ≤ 2 ^ wi.toNat - wi + 1 := by omega
        have hx4 : (2 : Int) ^ wi.toNat - wi + 1 < 2 ^ 63 := by omega
        have hx5 : ∀ v : Value, [v].length * ((2 : Int) ^ wi.toNat - wi + 1).toNat ≤ 2 ^ 24 := fun v => by rw [List.length_singleton]; omega
        have hdq : S.drop (wi - 1).toNat = (List.replicate (2 ^ wi.toNat - wi + 1).toNat [S.getD (wi - 1).toNat 0]).flatten := by rw [hdr, List.flatten_replicate_singleton]
        repeat (rename (@LT.lt Nat _ _ _ ∧ _) => z; clear z)
        repeat (rename (@Ne Nat _ _ ∧ _) => z; clear z)
        repeat (rename AllLt _ _ => z; clear z)
        (repeat' (first | (k_unfold; (try dsimp only)) | (k_end; wrow_close) | (first | (k_here; (with_reducible show wpAny _ _ (binaryOp Operator.Mult (Value.ref _) (Value.int _ _)) _ _ _); k_dflt (refine' KM.mul ?Fz49 ?Nz49 ?lz49 ?iz49 ?xz49 ?yz49 ?zz49 ?_; (case Fz49 => k_asm); (case Nz49 => k_asm); (case lz49 => exact News.isList (by k_asm) (by k_mem)); (case iz49 => exact .cons _ _ .nil); (case xz49 => with_reducible assumption); (case yz49 => with_reducible assumption); (case zz49 => exact (by assumption : ∀ v : Value, [v].length * _ ≤ 2 ^ 24) _)); (intro _ _ _ _ l1 _ _ _ _ _ _); (try k_lt l1)) | (k_here; (with_reducible show wpAny _ _ (subscriptTail _ (PySem.Expr.BinOp _ _ _ _) (Value.ref _) (Value.int _ _)) _ _ _); (with_unfolding_all refine' item_list_ints ?k1z50 ?k2z50 ?k3z50 ?k4z50 ?k5z50 ?_; (case k1z50 => exact News.isList (by k_asm) (by k_mem)); (case k2z50 => with_reducible assumption); (case k3z50 => with_reducible assumption); (case k4z50 => with_reducible assumption); (case k5z50 => with_reducible assumption); k_whole); intro _) | (k_here; (with_reducible show wpAny _ _ (call (Value.ref 109) [Value.ref _, Value.ref _, Value.int _ _]) _ _ _); k_dflt (refine' call_mul ?kBz51 ?kFz51 ?kXz51 ?kNz51 ?kTz51 ?kKz51 ?kmz51 ?knz51 ?ivz51 ?iwz51 ?iLz51 ?jLz51 ?ilz51 ?jlz51 ?w1z51 ?w2z51 ?kdz51 ?_; (case kFz51 => k_asm); (case kNz51 => k_asm); (case kBz51 => k_asm); (case kXz51 => k_asm); (case kTz51 => k_asm); (case kKz51 => exact rfl); (case kmz51 => k_mem); (case knz51 => k_mem); (case ivz51 => with_reducible assumption); (case iwz51 => with_reducible assumption); (case iLz51 => with_reducible assumption); (case jLz51 => with_reducible assumption); (case ilz51 => omega); (case jlz51 => omega); (case w1z51 => omega); (case w2z51 => omega); (case kdz51 => (first | omega | ((try simp only [depth_deeper, depth_caller]); (try dsimp only [ktrTop]); omega) | ((try simp only [depth_under_make, depth_under_kw, depth_in1, depth_deeper, depth_caller]); (try dsimp only [ktrTop]); (try simp only [depth_under_make, depth_under_kw, depth_in1, depth_deeper, depth_caller]); omega)))); intro _ _ _ _ _ _ _ _ _ _ _ _ _; (try dsimp only); (try k_sweep)) | (k_here; (with_reducible show wpAny _ _ (call (Value.ref 53) [Value.ref _, Value.ref _, Value.int _ _]) _ _ _); k_dflt (refine' call_add ?kBz52 ?kFz52 ?kXz52 ?kNz52 ?kTz52 ?kKz52 ?kmz52 ?knz52 ?ivz52 ?iwz52 ?iLz52 ?jLz52 ?ilz52 ?jlz52 ?w1z52 ?w2z52 ?kdz52 ?_; (case kFz52 => k_asm); (case kNz52 => k_asm); (case kBz52 => k_asm); (case kXz52 => k_asm); (case kTz52 => k_asm); (case kKz52 => exact rfl); (case kmz52 => k_mem); (case knz52 => k_mem); (case ivz52 => with_reducible assumption); (case iwz52 => with_reducible assumption); (case iLz52 => with_reducible assumption); (case jLz52 => with_reducible assumption); (case ilz52 => omega); (case jlz52 => omega); (case w1z52 => omega); (case w2z52 => omega); (case kdz52 => (first | omega | ((try simp only [depth_deeper, depth_caller]); (try dsimp only [ktrTop]); omega) | ((try simp only [depth_under_make, depth_under_kw, depth_in1, depth_deeper, depth_caller]); (try dsimp only [ktrTop]); (try simp only [depth_under_make, depth_under_kw, depth_in1, depth_deeper, depth_caller]); omega)))); intro _ _ _ _ _ _ _ _ _ _ _ _ _; (try dsimp only); (try k_sweep)) | (k_here; (with_reducible show wpAny _ _ (call (Value.ref 60) [Value.ref _, Value.int _ _, Value.int _ _]) _ _ _); k_dflt (refine' call_shr ?kBz53 ?kFz53 ?kXz53 ?kNz53 ?kTz53 ?kKz53 ?kmz53 ?ivz53 ?iLz53 ?ilz53 ?w1z53 ?w2z53 ?n1z53 ?n2z53 ?kdz53 ?_; (case kFz53 => k_asm); (case kNz53 => k_asm); (case kBz53 => k_asm); (case kXz53 => k_asm); (case kTz53 => k_asm); (case kKz53 => exact rfl); (case kmz53 => k_mem); (case ivz53 => with_reducible assumption); (case iLz53 => with_reducible assumption); (case ilz53 => omega); (case w1z53 => omega); (case w2z53 => omega); (case n1z53 => omega); (case n2z53 => omega); (case kdz53 => (first | omega | ((try simp only [depth_deeper, depth_caller]); (try dsimp only [ktrTop]); omega) | ((try simp only [depth_under_make, depth_under_kw, depth_in1, depth_deeper, depth_caller]); (try dsimp only [ktrTop]); (try simp only [depth_under_make, depth_under_kw, depth_in1, depth_deeper, depth_caller]); omega)))); intro _ _ _ _ _ _ _ _ _ _ _ _ _; (try dsimp only); (try k_sweep)) | (k_here; (with_reducible show wpAny _ _ (call (Value.ref 67) [Value.ref _, Value.int _ _, Value.int _ _]) _ _ _); k_dflt (refine' call_low ?kBz54 ?kFz54 ?kXz54 ?kNz54 ?kTz54 ?kKz54 ?kmz54 ?ivz54 ?iLz54 ?ilz54 ?w1z54 ?w2z54 ?n1z54 ?n2z54 ?kdz54 ?_; (case kFz54 => k_asm); (case kNz54 => k_asm); (case kBz54 => k_asm); (case kXz54 => k_asm); (case kTz54 => k_asm); (case kKz54 => exact rfl); (case kmz54 => k_mem); (case ivz54 => with_reducible assumption); (case iLz54 => with_reducible assumption); (case ilz54 => omega); (case w1z54 => omega); (case w2z54 => omega); (case n1z54 => omega); (case n2z54 => omega); (case kdz54 => (first | omega | ((try simp only [depth_deeper, depth_caller]); (try dsimp only [ktrTop]); omega) | ((try simp only [depth_under_make, depth_under_kw, depth_in1, depth_deeper, depth_caller]); (try dsimp only [ktrTop]); (try simp only [depth_under_make, depth_under_kw, depth_in1, depth_deeper, depth_caller]); omega)))); intro _ _ _ _ _ _ _ _ _ _ _ _ _; (try dsimp only); (try k_sweep)) | (k_here; (with_reducible show wpAny _ _ (call (Value.ref 128) [Value.ref _, Value.int _ _]) _ _ _); k_dflt (refine' call_number ?kBz55 ?kFz55 ?kXz55 ?kNz55 ?kTz55 ?kKz55 ?kmz55 ?ivz55 ?iLz55 ?ilz55 ?w1z55 ?w2z55 ?kdz55 ?_; (case kFz55 => k_asm); (case kNz55 => k_asm); (case kBz55 => k_asm); (case kXz55 => k_asm); (case kTz55 => k_asm); (case kKz55 => exact rfl); (case kmz55 => k_mem); (case ivz55 => with_reducible assumption); (case iLz55 => with_reducible assumption); (case ilz55 => omega); (case w1z55 => omega); (case w2z55 => omega); (case kdz55 => (first | omega | ((try simp only [depth_deeper, depth_caller]); (try dsimp only [ktrTop]); omega) | ((try simp only [depth_under_make, depth_under_kw, depth_in1, depth_deeper, depth_caller]); (try dsimp only [ktrTop]); (try simp only [depth_under_make, depth_under_kw, depth_in1, depth_deeper, depth_caller]); omega)))); intro _ _ _ _ _; (try dsimp only); (try k_sweep)) | (k_here; (with_reducible show wpAny _ _ (call (Value.ref 123) [Value.int _ _, Value.int _ _]) _ _ _); k_dflt (refine' call_limbs ?kBz56 ?kFz56 ?kXz56 ?kNz56 ?kTz56 ?kKz56 ?w1z56 ?w2z56 ?n1z56 ?n2z56 ?kdz56 ?_; (case kFz56 => k_asm); (case kNz56 => k_asm); (case kBz56 => k_asm); (case kXz56 => k_asm); (case kTz56 => k_asm); (case kKz56 => exact rfl); (case w1z56 => omega); (case w2z56 => omega); (case n1z56 => omega); (case n2z56 => omega); (case kdz56 => (first | omega | ((try simp only [depth_deeper, depth_caller]); (try dsimp only [ktrTop]); omega) | ((try simp only [depth_under_make, depth_under_kw, depth_in1, depth_deeper, depth_caller]); (try dsimp only [ktrTop]); (try simp only [depth_under_make, depth_under_kw, depth_in1, depth_deeper, depth_caller]); omega)))); intro _ _ _ _ _ _ _ _ _ _ _ _ _; (try dsimp only); (try k_sweep)) | (k_here; (with_reducible show wpAny _ _ (call (Value.ref 116) [Value.ref _, Value.int _ _]) _ _ _); k_dflt (refine' call_spun ?kBz57 ?kFz57 ?kXz57 ?kNz57 ?kTz57 ?kKz57 rfl ?lbz57 ?apz57 ?ivz57 ?ilz57 ?k0z57 ?k1z57 ?m0z57 ?m1z57 ?kdz57 ?_; (case kFz57 => k_asm); (case kNz57 => k_asm); (case kBz57 => k_asm); (case kXz57 => k_asm); (case kTz57 => k_asm); (case kKz57 => exact rfl); (case lbz57 => (first | (first | with_reducible assumption | exact allLt_in (by with_reducible assumption) (by k_mem) | exact all_in (by with_reducible assumption) (by k_mem) | exact lt_via (by with_reducible assumption) (by with_reducible assumption) (by k_mem) | ((show @LT.lt Nat _ _ _); omega)) | ((show @LT.lt Nat _ _ _); omega))); (case apz57 => ((repeat (refine List.forall_mem_cons.mpr ⟨by ((try dsimp only); (first | with_reducible assumption | exact Ne.symm (by with_reducible assumption) | exact Nat.ne_of_gt (by first | with_reducible assumption | exact allLt_in (by with_reducible assumption) (by k_mem) | exact all_in (by with_reducible assumption) (by k_mem) | exact lt_via (by with_reducible assumption) (by with_reducible assumption) (by k_mem)) | exact Nat.ne_of_lt (by first | with_reducible assumption | exact allLt_in (by with_reducible assumption) (by k_mem) | exact all_in (by with_reducible assumption) (by k_mem) | exact lt_via (by with_reducible assumption) (by with_reducible assumption) (by k_mem)) | exact ne_in (by with_reducible assumption) (by k_mem) | exact Ne.symm (ne_in (by with_reducible assumption) (by k_mem)) | exact off1_in (by with_reducible assumption) (by k_mem) | exact Ne.symm (off1_in (by with_reducible assumption) (by k_mem)) | ((show @Ne Nat _ _); (try dsimp only); omega))), ?_⟩)); exact List.forall_mem_nil _)); (case ivz57 => with_reducible assumption); (case ilz57 => (simp only [List.length_map, List.length_take]; omega)); (case k0z57 => omega); (case k1z57 => omega); (case m0z57 => omega); (case m1z57 => omega); (case kdz57 => (first | omega | ((try simp only [depth_deeper, depth_caller]); (try dsimp only [ktrTop]); omega) | ((try simp only [depth_under_make, depth_under_kw, depth_in1, depth_deeper, depth_caller]); (try dsimp only [ktrTop]); (try simp only [depth_under_make, depth_under_kw, depth_in1, depth_deeper, depth_caller]); omega)))); intro _ _ _ _ _ _ _ _ _ _; (try dsimp only); (try k_sweep)) | (k_here; (with_reducible show wpAny _ _ (call (Value.ref 116) [Value.ref _, Value.int _ _]) _ _ _); k_dflt (refine' spun_at1 ?kBz58 ?kFz58 ?kXz58 ?kNz58 ?kTz58 ?kKz58 ?lbz58 ?axz58 ?apz58 ?ivz58 ?ilz58 ?k0z58 ?k1z58 ?m0z58 ?m1z58 ?kdz58 ?_; (case kFz58 => k_asm); (case kNz58 => k_asm); (case kBz58 => k_asm); (case kXz58 => k_asm); (case kTz58 => k_asm); (case kKz58 => exact rfl); (case axz58 => ((try dsimp only); (first | with_reducible assumption | exact Ne.symm (by with_reducible assumption) | exact Nat.ne_of_gt (by first | with_reducible assumption | exact allLt_in (by with_reducible assumption) (by k_mem) | exact all_in (by with_reducible assumption) (by k_mem) | exact lt_via (by with_reducible assumption) (by with_reducible assumption) (by k_mem)) | exact Nat.ne_of_lt (by first | with_reducible assumption | exact allLt_in (by with_reducible assumption) (by k_mem) | exact all_in (by with_reducible assumption) (by k_mem) | exact lt_via (by with_reducible assumption) (by with_reducible assumption) (by k_mem)) | exact ne_in (by with_reducible assumption) (by k_mem) | exact Ne.symm (ne_in (by with_reducible assumption) (by k_mem)) | exact off1_in (by with_reducible assumption) (by k_mem) | exact Ne.symm (off1_in (by with_reducible assumption) (by k_mem)) | ((show @Ne Nat _ _); (try dsimp only); omega)))); (case lbz58 => (first | (first | with_reducible assumption | exact allLt_in (by with_reducible assumption) (by k_mem) | exact all_in (by with_reducible assumption) (by k_mem) | exact lt_via (by with_reducible assumption) (by with_reducible assumption) (by k_mem) | ((show @LT.lt Nat _ _ _); omega)) | ((show @LT.lt Nat _ _ _); omega))); (case apz58 => ((repeat (refine List.forall_mem_cons.mpr ⟨by ((try dsimp only); (first | with_reducible assumption | exact Ne.symm (by with_reducible assumption) | exact Nat.ne_of_gt (by first | with_reducible assumption | exact allLt_in (by with_reducible assumption) (by k_mem) | exact all_in (by with_reducible assumption) (by k_mem) | exact lt_via (by with_reducible assumption) (by with_reducible assumption) (by k_mem)) | exact Nat.ne_of_lt (by first | with_reducible assumption | exact allLt_in (by with_reducible assumption) (by k_mem) | exact all_in (by with_reducible assumption) (by k_mem) | exact lt_via (by with_reducible assumption) (by with_reducible assumption) (by k_mem)) | exact ne_in (by with_reducible assumption) (by k_mem) | exact Ne.symm (ne_in (by with_reducible assumption) (by k_mem)) | exact off1_in (by with_reducible assumption) (by k_mem) | exact Ne.symm (off1_in (by with_reducible assumption) (by k_mem)) | ((show @Ne Nat _ _); (try dsimp only); omega))), ?_⟩)); exact List.forall_mem_nil _)); (case ivz58 => with_reducible assumption); (case ilz58 => (simp only [List.length_map, List.length_take]; omega)); (case k0z58 => omega); (case k1z58 => omega); (case m0z58 => omega); (case m1z58 => omega); (case kdz58 => (first | omega | ((try simp only [depth_deeper, depth_caller]); (try dsimp only [ktrTop]); omega) | ((try simp only [depth_under_make, depth_under_kw, depth_in1, depth_deeper, depth_caller]); (try dsimp only [ktrTop]); (try simp only [depth_under_make, depth_under_kw, depth_in1, depth_deeper, depth_caller]); omega)))); intro _ _ _ _ _ _ _ _ _ _; (try dsimp only); (try k_sweep))) | ((fail_if_success (with_reducible show Exists _)); (fail_if_success (with_reducible show wpAny _ _ (eval (Expr.ListComp _ _ _ _) _) _ _ _)); (fail_if_success (with_reducible show wpAny _ _ (exec (Stmt.Assign [Expr.Name _ _] (Expr.ListComp _ _ _ _) _) _) _ _ _)); (fail_if_success (with_reducible show LCg.FinA _ _ _ _ _ _ _ _)); (fail_if_success (with_reducible show KswEnd _ _ _ _ _ _ _ _ _ _ _ _)); (fail_if_success (with_reducible show wpAny _ _ (pyIter _) _ _ _)); (fail_if_success (with_reducible show wpAny _ _ (exec (Stmt.While _ _ _ _) _) _ _ _)); (fail_if_success (with_reducible show wpAny _ _ (exec (Stmt.Assign [Expr.Name _ _] (Expr.ListComp _ [⟨_, Expr.Tuple _ _ _, _, _⟩] _ _) _) _) _ _ _)); (first | (fail_if_success (with_reducible show wpAny _ _ (call (Value.ref _) _) _ _ _)) | (with_reducible show wpAny _ _ (call (Value.ref 98) _) _ _ _) | (with_reducible show wpAny _ _ (call (Value.ref 95) _) _ _ _) | (with_reducible show wpAny _ _ (call (Value.ref 88) _) _ _ _)); (first | walk1 | (dsimp only; walk1))) | (leave1; walk_say "STEP leave1"; try dsimp only) | fail "no step"))
theorem go : PySem.Challenge.rw_sa0334_01.Holds :=
  sL.2 ⟨sT.2 ⟨s_turn⟩ ⟨s_done⟩⟩
end Mine
theorem PySem.Challenge.cw_sa0334_01_holds : PySem.Challenge.rw_sa0334_01.Holds :=
  Mine.go
