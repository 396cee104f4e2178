import PyProof.Rows.All
import Wide.All
import OpenK.AllK
import Wide.FinOn
import PySem.Challenge.RW_xm0748_01
open PySem PySem.W PyProof.Rows
set_option Elab.async false
set_option linter.unusedVariables false
set_option linter.unusedSimpArgs false
set_option maxRecDepth 100000 in
set_option maxHeartbeats 8000000 in
open_top hd for PySem.Challenge.rw_xm0748_01
-- open_top leaves the walker set for the head (a switch of the process); the parts were walked without it
theorem Mine.walk_off : True := by
  w_top off
  trivial
section TB0
set_option maxHeartbeats 2000000
namespace Mine
open LCg (NsObj lst ns_obj lst_snoc)

section
variable {prog : Program} {w : World} {A : Around} {R : Result → Shared → Prop} {s : Shared}

theorem codeAny_compLoop_gen {elt target iter : PySem.Expr} {ifs : List PySem.Expr} {scope : Scope} {pos : Pos} {it acc : Value} {env : Env} (I : Nat → Shared → Prop)
    (turn : ∀ n s, I n s → wpAny (model prog w) A (pyNext it) (fun r s₁ => match r with
      | none => R (.ok .next) s₁
      | some v => wpAny (model prog w) A (letOwnedTupleGo target it v) (fun _ s₁' => wpAny (model prog w) A (assign target env v) (fun _ s₂ =>
          wpAny (model prog w) A (forIn ifs true fun c r => if r = true then do let ok ← isTrue c env (eval c env); pure (ForInStep.yield ok) else pure (ForInStep.yield r)) (fun ok s₃ =>
            if ok = true then wpAny (model prog w) A (eval elt env) (fun x s₄ =>
              wpAny (model prog w) A (call (.builtin "list.append") [acc, x]) (fun _ s₅ => ∃ m, m < n ∧ I m s₅) (notedBy (model prog w) A env fun e s' => R (.error e) s') s₄) (notedBy (model prog w) A env fun e s' => R (.error e) s') s₃
            else ∃ m, m < n ∧ I m s₃) (notedBy (model prog w) A env fun e s' => R (.error e) s') s₂) (notedBy (model prog w) A env fun e s' => R (.error e) s') s₁')
          (notedBy (model prog w) A env fun e s' => R (.error e) s') s₁) (notedBy (model prog w) A env fun e s' => R (.error e) s') s)
    (n : Nat) (h : I n s) : codeAny (model prog w) A (.compLoop (.ListComp elt [⟨target, iter, ifs, 0⟩] scope pos) 0 it acc env) R s := by
  refine codeAny_loop rfl I (fun n s hI => ?_) n h
  show wpAny _ A ((compTurn (.ListComp elt [⟨target, iter, ifs, 0⟩] scope pos) 0 it acc env).onRaise (fun x => do noteFrame x env; theTreesLotGoes x)) _ _ s
  refine wpAny_noted ?_
  rw [compTurn_list]
  refine wpAny_bind (wpAny_standAt (wpAny_bind (wpAny_mono (turn n s hI) (fun r s₁ h₁ => ?_) fun _ _ h' => h')))
  cases r with
  | none => exact wpAny_pure h₁
  | some v =>
    refine wpAny_bind (wpAny_mono h₁ (fun _ s₁' h₁' => ?_) fun _ _ h' => h')
    refine wpAny_bind (wpAny_mono h₁' (fun _ s₂ h₂ => wpAny_bind (wpAny_mono h₂ (fun ok s₃ h₃ => ?_) fun _ _ h' => h')) fun _ _ h' => h')
    cases ok with
    | false => exact wpAny_pure ⟨rfl, h₃⟩
    | true =>
      exact wpAny_bind (wpAny_bind (wpAny_mono h₃ (fun x s₄ h₄ => wpAny_bind (wpAny_mono h₄ (fun _ s₅ h₅ => wpAny_pure (wpAny_pure ⟨rfl, h₅⟩)) fun _ _ h' => h')) fun _ _ h' => h'))
end

/-- the turn's end: the iterator, the block's names and the list that is made stand, the rest is told by J -/
inductive CNext (h₀ : Heap) (L : Addr) (m : Str → Option Value) (gs : Array GenState) (dr : Drawn) (os : OsState) (I : Addr) (oI : Obj) (C D : Addr) (ys₀ : List Value) (J : Nat → List Value → List (Addr × Obj) → Prop) (i : Nat) (ys : List Value) (s₄ : Shared) : Prop
  | mk (h' : Heap) (tk' : Nat) (nx' : List (Addr × Obj)) (oC' : Obj) (m₂' : Str → Option Value) : s₄ = ⟨h', gs, dr, tk', os⟩ → Fr h₀ L h' m → NsObj oC' m₂' → News h₀ L h' ((I, oI) :: (C, oC') :: (D, lst ys₀) :: nx') → (∀ p ∈ nx', p.1 ≠ I ∧ p.1 ≠ C ∧ p.1 ≠ D) → J i ys nx' → CNext h₀ L m gs dr os I oI C D ys₀ J i ys s₄
def CEnd (h₀ : Heap) (L : Addr) (m : Str → Option Value) (s : Shared) (I : Addr) (oI : Obj) (C D : Addr) (ys₀ : List Value) (J : Nat → List Value → List (Addr × Obj) → Prop) (i : Nat) (ys : List Value) (s₄ : Shared) : Prop := CNext h₀ L m s.gens s.drawn s.os I oI C D ys₀ J i ys s₄

def Turn (prog : Program) (w : World) (A : Around) (h₀ : Heap) (L : Addr) (m : Str → Option Value) (s : Shared) (elt target : PySem.Expr) (ifs : List PySem.Expr) (cenv : Addr → Env) (J : Nat → List Value → List (Addr × Obj) → Prop) (P : Nat → Value → Prop) (n : Nat) : Prop :=
  ∀ i v ys nx I oI oC C D m₂ h tk (E' : Value → Shared → Prop), i < n → P i v → J i ys nx → NsObj oC m₂ → Fr h₀ L h m → News h₀ L h ((I, oI) :: (C, oC) :: (D, lst ys) :: nx) → (∀ p ∈ nx, p.1 ≠ I ∧ p.1 ≠ C ∧ p.1 ≠ D) → I ≠ C → I ≠ D → C ≠ D →
    wpAny (model prog w) A (assign target (cenv C) v) (fun _ s₂ =>
      wpAny (model prog w) A (forIn ifs true fun c r => if r = true then do let ok ← isTrue c (cenv C) (eval c (cenv C)); pure (ForInStep.yield ok) else pure (ForInStep.yield r)) (fun ok s₃ =>
        if ok = true then wpAny (model prog w) A (eval elt (cenv C)) (fun y s₄ => CEnd h₀ L m s I oI C D ys J (i + 1) (ys ++ [y]) s₄) E' s₃
        else CEnd h₀ L m s I oI C D ys J (i + 1) ys s₃) E' s₂) E' { s with heap := h, toks := tk }

section
variable {prog : Program} {w : World} {A : Around} {E : Value → Shared → Prop} {s : Shared} {h₀ : Heap} {L : Addr} {m : Str → Option Value} {env : Env}
theorem but_fr {h h' : Heap} {I : Addr} (F : Fr h₀ L h m) (hk : ∀ b o, b ∉ [I] → h.get? b = some o → h'.get? b = some o) (hL : L ≠ I) (hI : h₀.get? I = none) : Fr h₀ L h' m := LCg.fr_but F hk hL hI

theorem block_gen {elt target iter : PySem.Expr} {ifs : List PySem.Expr} {scope : Scope} {cl : List (Str × Addr)} {pos : Pos} {s₂ : Shared} {I : Addr} {fp : List Addr} {n : Nat} {P : Nat → Value → Prop} {St : Nat → Heap → Prop} {news : List (Addr × Obj)}
    {RR : Value → Addr → Result → Shared → Prop} (J : Nat → List Value → List (Addr × Obj) → Prop)
    (W : Walks prog w A I fp [I] n P St) (hsz : n ≤ sizeLine) (hIo : ∀ i h, St i h → ∃ o, h.get? I = some o)
    (hSt : ∀ i ys h h' o nw, St i h → h.get? I = some o → h'.get? I = some o → (∀ b o, h₀.get? b = some o → h'.get? b = some o) → News h₀ L h' nw → J i ys nw → St i h')
    (hlet : ∀ i v (s : Shared) (Q : Unit → Shared → Prop) (E : Value → Shared → Prop), P i v → St (i + 1) s.heap → Q () s → wpAny (model prog w) A (letOwnedTupleGo target (.ref I) v) Q E s)
    (hcell : ∀ y ∈ scope.names, y.2 ≠ .cell) (hkind : scope.kind = .function) (hst : St 0 s₂.heap) (hfp : ∀ b ∈ fp, b < s₂.heap.objs.size)
    (F : Fr h₀ L s₂.heap m) (N : News h₀ L s₂.heap news) (hIL : L ≠ I) (hI₀ : h₀.get? I = none) (off : ∀ p ∈ news, p.1 ≠ I) (hJ : J 0 [] news) (hJl : ∀ i ys nx, J i ys nx → ys.length ≤ i)
    (turn : Turn prog w A h₀ L m s₂ elt target ifs (fun C => compEnvC scope cl C env) J P n)
    (hRR : ∀ D C h tk m' ys nx, Fr h₀ L h m → News h₀ L h ((D, lst ys) :: nx) → (∀ p ∈ nx, p.1 ≠ D) → h.Ns C m' → h₀.get? C = none → h₀.get? D = none → C ≠ L → D ≠ L → C ≠ D → (∀ p ∈ nx, p.1 ≠ C) → J n ys nx → RR (.ref D) C (.ok .next) { s₂ with heap := h, toks := tk }) :
    wpAny (model prog w) A (newList []) (fun acc s₃ => wpAny (model prog w) A (newFunctionEnv scope env.globals cl [] env.qual none .none (some env)) (fun cenv s₄ =>
      codeAny (model prog w) A (.compStart (.ListComp elt [⟨target, iter, ifs, 0⟩] scope pos) 0 (.ref I) acc { cenv with scope := relabel scope env }) (RR acc cenv.locals) s₄) E s₃) E s₂ := by
  refine wpAny_newObj_type (wpAny_newFunctionEnv hcell (by intro y hy; simp at hy) (fun h₁ hns₁ hsb₁ => ?_) hkind)
  dsimp only at hns₁ hsb₁ ⊢
  generalize hH2 : s₂.heap.push { cls := .type "list", dict := none, data := .seq ([] : List Value).toArray } = H2 at hns₁ hsb₁ ⊢
  have hC : H2.objs.size = s₂.heap.objs.size + 1 := by rw [← hH2, Heap.size_push]
  generalize hc : H2.objs.size = C at hns₁ hsb₁ hC ⊢
  generalize hd : s₂.heap.objs.size = D at hC ⊢
  have below : ∀ b o, s₂.heap.get? b = some o → b ≠ C ∧ b ≠ D := fun b o e => by
    have : b < s₂.heap.objs.size := Heap.lt_size e
    rw [hd] at this
    exact ⟨Nat.ne_of_lt (Nat.lt_trans this (hC ▸ Nat.lt_succ_self _)), Nat.ne_of_lt this⟩
  have hDltC : D < C := hC ▸ Nat.lt_succ_self _
  have hDC : D ≠ C := Nat.ne_of_lt hDltC
  have old : ∀ b o, s₂.heap.get? b = some o → h₁.get? b = some o := fun b o e => hsb₁.extBut b o (below b o e).1 (Heap.get?_push_of_some _ (hH2 ▸ Heap.get?_push_of_some _ e))
  have hacc : h₁.get? D = some (lst []) := hsb₁.extBut _ _ hDC (Heap.get?_push_of_some _ (hH2 ▸ hd ▸ Heap.get?_push_size _ rfl))
  have hst₁ : St 0 h₁ := W.frame _ _ _ hst fun b _ o e => old b o e
  have fresh₀ : ∀ a, D ≤ a → h₀.get? a = none := fun a ha => by
    cases e : h₀.get? a with
    | none => rfl
    | some o' => exact absurd (Heap.lt_size (F.keep a o' e)) (by rw [hd]; exact Nat.not_lt.mpr ha)
  have hD₀ : h₀.get? D = none := fresh₀ _ (Nat.le_refl _)
  have hC₀ : h₀.get? C = none := fresh₀ _ (Nat.le_of_lt hDltC)
  have hLlt : L < D := hd ▸ F.ns.lt
  have hDL : D ≠ L := Nat.ne_of_gt hLlt
  have hCL : C ≠ L := Nat.ne_of_gt (Nat.lt_trans hLlt hDltC)
  obtain ⟨oI₀, heI₀⟩ := hIo _ _ hst
  have hIC : I ≠ C := (below _ _ heI₀).1
  have hID : I ≠ D := (below _ _ heI₀).2
  have hDf : D ∉ fp := fun hm => absurd (hd ▸ hfp _ hm) (Nat.lt_irrefl _)
  have hCf : C ∉ fp := fun hm => absurd (hd ▸ hfp _ hm) (Nat.lt_asymm hDltC)
  have off₀ : ∀ p ∈ news, p.1 ≠ I ∧ p.1 ≠ C ∧ p.1 ≠ D := fun p hp => ⟨off p hp, below _ _ (N p hp).1⟩
  have loop : ∀ s₃ : Shared, s₃ = { s₂ with heap := h₁, toks := s₂.toks + ([] : List (Str × Value)).length } →
      codeAny (model prog w) A (.compLoop (.ListComp elt [⟨target, iter, ifs, 0⟩] scope pos) 0 (.ref I) (.ref D) (compEnvC scope cl C env)) (RR (.ref D) C) s₃ := by
    rintro s₃ rfl
    refine codeAny_compLoop_gen
      (fun k s' => ∃ h' tk i ys m' nx, s' = { s₂ with heap := h', toks := tk } ∧ i ≤ n ∧ k = n + 1 - i ∧ St i h' ∧ Fr h₀ L h' m ∧ h'.Ns C m' ∧ News h₀ L h' ((D, lst ys) :: nx) ∧
        (∀ p ∈ nx, p.1 ≠ I ∧ p.1 ≠ C ∧ p.1 ≠ D) ∧ J i ys nx) ?_ (n + 1)
      ⟨h₁, _, 0, [], _, news, rfl, Nat.zero_le _, rfl, hst₁, F.keeps old, hns₁, fun p hp => ?_, off₀, hJ⟩
    · rintro k s' ⟨h', tk, i, ys, m', nx, rfl, hi, rfl, hst', F', hn', N', off', hJ'⟩
      have N'' : ∀ h₂ : Heap, (∀ b o, b ∉ [I] → h'.get? b = some o → h₂.get? b = some o) → News h₀ L h₂ ((D, lst ys) :: nx) := fun h₂ hk₂ => LCg.news_but N' hk₂ fun p hp => by
        rcases List.mem_cons.mp hp with rfl | hp
        · exact Ne.symm hID
        · exact (off' p hp).1
      by_cases hlt : i < n
      · refine W.item i _ _ _ hlt hst' fun v h₂ tk₂ hPv hst₂ hk₂ => ?_
        refine hlet i v _ _ _ hPv hst₂ ?_
        obtain ⟨oI, heI⟩ := hIo _ _ hst₂
        obtain ⟨oC, heC, hoC⟩ := ns_obj (hn'.at' fun o e => hk₂ _ o (by simpa using Ne.symm hIC) e)
        have F₂ : Fr h₀ L h₂ m := LCg.fr_but F' hk₂ hIL hI₀
        have N₂ := N'' h₂ hk₂
        have N₃ : News h₀ L h₂ ((I, oI) :: (C, oC) :: (D, lst ys) :: nx) := fun p hp => by
          rcases List.mem_cons.mp hp with rfl | hp
          · exact ⟨heI, Ne.symm hIL, hI₀⟩
          · rcases List.mem_cons.mp hp with rfl | hp
            · exact ⟨heC, hCL, hC₀⟩
            · exact N₂ p hp
        have fin : ∀ ys' s₄, CEnd h₀ L m s₂ I oI C D ys J (i + 1) ys' s₄ → ∃ h₄ tk₄ nx₄ m₄, s₄ = { s₂ with heap := h₄, toks := tk₄ } ∧ Fr h₀ L h₄ m ∧ St (i + 1) h₄ ∧ h₄.Ns C m₄ ∧ h₄.get? D = some (lst ys) ∧ News h₀ L h₄ nx₄ ∧ (∀ p ∈ nx₄, p.1 ≠ I ∧ p.1 ≠ C ∧ p.1 ≠ D) ∧ J (i + 1) ys' nx₄ := by
          rintro ys' s₄ ⟨h₄, tk₄, nx₄, oC₄, m₄, rfl, F₄, hoC₄, N₄, off₄, hJ₄⟩
          have zI := (N₄ (I, oI) List.mem_cons_self).1
          have zC := (N₄ (C, oC₄) (List.mem_cons_of_mem _ List.mem_cons_self)).1
          have zD := (N₄ (D, lst ys) (List.mem_cons_of_mem _ (List.mem_cons_of_mem _ List.mem_cons_self))).1
          have N₄' : News h₀ L h₄ nx₄ := fun p hp => N₄ p (List.mem_cons_of_mem _ (List.mem_cons_of_mem _ (List.mem_cons_of_mem _ hp)))
          exact ⟨h₄, tk₄, nx₄, m₄, rfl, F₄, hSt _ _ _ _ _ _ hst₂ heI zI F₄.keep N₄' hJ₄, hoC₄.ns zC, zD, N₄', off₄, hJ₄⟩
        refine wpAny_mono (turn i v ys nx I oI oC C D _ h₂ tk₂ _ hlt hPv hJ' hoC F₂ N₃ off' hIC hID (Ne.symm hDC)) (fun _ s₃ h₃ => ?_) fun _ _ e => e
        refine wpAny_mono h₃ (fun ok s₅ h₅ => ?_) fun _ _ e => e
        cases ok with
        | false =>
          simp only [Bool.false_eq_true, if_false] at h₅ ⊢
          obtain ⟨h₄, tk₄, nx₄, m₄, rfl, F₄, st₄, ns₄, zD, N₄, off₄, hJ₄⟩ := fin _ _ h₅
          refine ⟨n + 1 - (i + 1), Nat.sub_lt_sub_left (Nat.lt_succ_of_lt hlt) (Nat.lt_succ_self _), h₄, tk₄, i + 1, ys, m₄, nx₄, rfl, hlt, rfl, st₄, F₄, ns₄, fun p hp => ?_, off₄, hJ₄⟩
          rcases List.mem_cons.mp hp with rfl | hp
          · exact ⟨zD, hDL, hD₀⟩
          · exact N₄ p hp
        | true =>
          simp only [if_true] at h₅ ⊢
          refine wpAny_mono h₅ (fun y s₆ h₆ => ?_) fun _ _ e => e
          obtain ⟨h₄, tk₄, nx₄, m₄, rfl, F₄, st₄, ns₄, zD, N₄, off₄, hJ₄⟩ := fin _ _ h₆
          have hl := hJl _ _ _ hJ'
          refine append_at (n := ys.length) (its := ys.toArray) (hsz := by rw [List.size_toArray]; omega) zD fun h₇ hs₇ hD₇ => ?_
          refine ⟨n + 1 - (i + 1), Nat.sub_lt_sub_left (Nat.lt_succ_of_lt hlt) (Nat.lt_succ_self _), h₇, tk₄, i + 1, ys ++ [y], m₄, nx₄, rfl, hlt, rfl, W.frame _ _ _ st₄ fun b hb o e => hs₇.extBut b o (fun q => hDf (q ▸ hb)) e, F₄.change hs₇ hDL hD₀, ns₄.sameBut hs₇ (Ne.symm hDC), fun p hp => ?_, off₄, hJ₄⟩
          rcases List.mem_cons.mp hp with rfl | hp
          · exact ⟨hD₇.trans (congrArg some (lst_snoc ys y)), hDL, hD₀⟩
          · exact ⟨hs₇.extBut _ _ (off₄ p hp).2.2 (N₄ p hp).1, (N₄ p hp).2⟩
      · obtain rfl : i = n := Nat.le_antisymm hi (Nat.not_lt.mp hlt)
        refine W.done _ _ _ hst' fun h₂ tk₂ hk₂ => ?_
        exact hRR D C h₂ tk₂ m' ys nx (LCg.fr_but F' hk₂ hIL hI₀) (N'' h₂ hk₂) (fun p hp => (off' p hp).2.2) (hn'.at' fun o e => hk₂ _ o (by simpa using Ne.symm hIC) e) hC₀ hD₀ hCL hDL (Ne.symm hDC) (fun p hp => (off' p hp).2.1) hJ'
    · rcases List.mem_cons.mp hp with rfl | hp
      · exact ⟨hacc, hDL, hD₀⟩
      · exact ⟨old _ _ (N p hp).1, (N p hp).2⟩
  exact codeAny_compStart_list (loop _ rfl) (W.self 0 _ _ _ hst₁ (loop _ rfl))

/-- what a block over a list of the ledger asks; Fin: what is made of the list at the end -/
inductive GSrcL (prog : Program) (w : World) (A : Around) (h₀ : Heap) (L : Addr) (m : Str → Option Value) (cenv : Addr → Env) (elt target : PySem.Expr) (ifs : List PySem.Expr) (Fin : Shared → Addr → List Value → List (Addr × Obj) → Heap → Nat → Prop) (xv : Value) (s₁ : Shared) : Prop
  | mk (ax : Addr) (its : List Value) (kk : Nat) (news : List (Addr × Obj)) (J : Nat → List Value → List (Addr × Obj) → Prop) : xv = .ref ax → A.handled = none → Fr h₀ L s₁.heap m → News h₀ L s₁.heap news → (ax, listOf (List.toArray its) kk) ∈ news → its.length ≤ sizeLine →
    ((∀ it v, letOwnedTupleGo target it v = pure ()) ∨ ((∃ elts x1 tp, target = .Tuple elts x1 tp) ∧ ∀ v ∈ its, ∃ T, v = .ref T)) →
    J 0 [] news → (∀ i ys nx, J i ys nx → List.length ys ≤ i) → (∀ i ys nx, J i ys nx → (ax, listOf its.toArray kk) ∈ nx) →
    Turn prog w A h₀ L m s₁ elt target ifs cenv J (fun i v => its[i]? = some v) its.length →
    (∀ D ys nx h tk, J its.length ys nx → News h₀ L h ((D, lst ys) :: nx) → (∀ p ∈ nx, p.1 ≠ D) → Fin s₁ D ys nx h tk) → GSrcL prog w A h₀ L m cenv elt target ifs Fin xv s₁
inductive GSrcR (prog : Program) (w : World) (A : Around) (h₀ : Heap) (L : Addr) (m : Str → Option Value) (cenv : Addr → Env) (elt target : PySem.Expr) (ifs : List PySem.Expr) (Fin : Shared → Addr → List Value → List (Addr × Obj) → Heap → Nat → Prop) (xv : Value) (s₁ : Shared) : Prop
  | mk (r : Addr) (a b : Int) (t u v : Tok) (n : Nat) (news : List (Addr × Obj)) (J : Nat → List Value → List (Addr × Obj) → Prop) : xv = .ref r → A.handled = none → Fr h₀ L s₁.heap m → News h₀ L s₁.heap news → IsRange s₁.heap r a b 1 t u v → Builtin.Range.small a b 1 = true → Builtin.Range.rangeSize a b 1 = ((n : Nat) : Int) → n ≤ sizeLine →
    (∀ it v, letOwnedTupleGo target it v = pure ()) →
    J 0 [] news → (∀ i ys nx, J i ys nx → List.length ys ≤ i) →
    Turn prog w A h₀ L m s₁ elt target ifs cenv J (fun i v => ∃ t, v = .int (a + (i : Int)) t) n →
    (∀ D ys nx h tk, J n ys nx → News h₀ L h ((D, lst ys) :: nx) → (∀ p ∈ nx, p.1 ≠ D) → Fin s₁ D ys nx h tk) → GSrcR prog w A h₀ L m cenv elt target ifs Fin xv s₁
def GSrc (prog : Program) (w : World) (A : Around) (h₀ : Heap) (L : Addr) (m : Str → Option Value) (cenv : Addr → Env) (elt target : PySem.Expr) (ifs : List PySem.Expr) (Fin : Shared → Addr → List Value → List (Addr × Obj) → Heap → Nat → Prop) (xv : Value) (s₁ : Shared) : Prop :=
  GSrcL prog w A h₀ L m cenv elt target ifs Fin xv s₁ ∨ GSrcR prog w A h₀ L m cenv elt target ifs Fin xv s₁

def FinE (h₀ : Heap) (L : Addr) (m : Str → Option Value) (Q : Value → Shared → Prop) (s₁ : Shared) (D : Addr) (uys : List Value) (unx : List (Addr × Obj)) (h : Heap) (tk : Nat) : Prop := Fr h₀ L h m → Q (.ref D) { s₁ with heap := h, toks := tk }
def FinA (h₀ : Heap) (L : Addr) (m : Str → Option Value) (y : Str) (Q : Flow → Shared → Prop) (s₁ : Shared) (D : Addr) (uys : List Value) (unx : List (Addr × Obj)) (h : Heap) (tk : Nat) : Prop :=
  Fr h₀ L h (fun z => if z = y then some (.ref D) else m z) → Q .next { s₁ with heap := h, toks := tk }

/-- one proof for both ends: RR is asked of the end's state -/
theorem gsrc_block {elt target iter : PySem.Expr} {ifs : List PySem.Expr} {scope : Scope} {cl : List (Str × Addr)} {pos : Pos} {s₁ : Shared} {xv : Value} {Fin : Shared → Addr → List Value → List (Addr × Obj) → Heap → Nat → Prop}
    {RR : Value → Addr → Result → Shared → Prop}
    (hcell : ∀ y ∈ scope.names, y.2 ≠ .cell) (hkind : scope.kind = .function)
    (h : GSrc prog w A h₀ L m (fun C => compEnvC scope cl C env) elt target ifs Fin xv s₁)
    (hRR : ∀ D C h tk m' (ys : List Value) (nx : List (Addr × Obj)), Fr h₀ L h m → News h₀ L h ((D, lst ys) :: nx) → (∀ p ∈ nx, p.1 ≠ D) → h.Ns C m' → h₀.get? C = none → h₀.get? D = none → C ≠ L → D ≠ L → C ≠ D → (∀ p ∈ nx, p.1 ≠ C) →
      (∀ h' tk', News h₀ L h' ((D, lst ys) :: nx) → Fin s₁ D ys nx h' tk') → RR (.ref D) C (.ok .next) { s₁ with heap := h, toks := tk }) :
    wpAny (model prog w) A (pyIter xv) (fun it s₂ => wpAny (model prog w) A (newList []) (fun acc s₃ => wpAny (model prog w) A (newFunctionEnv scope env.globals cl [] env.qual none .none (some env)) (fun cenv s₄ =>
      codeAny (model prog w) A (.compStart (.ListComp elt [⟨target, iter, ifs, 0⟩] scope pos) 0 it acc { cenv with scope := relabel scope env }) (RR acc cenv.locals) s₄) E s₃) E s₂) E s₁ := by
  rcases h with ⟨ax, its, kk, news, J, rfl, hh, F, N, hm, hsz, hl, hJ, hJl, hJm, T, fin⟩ | ⟨r, a, b, t, u, v, n, news, J, rfl, hh, F, N, hr, hsm, hn, hsz, hl, hJ, hJl, T, fin⟩
  · have hol := (N _ hm).1
    have hls : s₁.heap.IsList ax its.toArray := ⟨_, hol, rfl, kk, rfl⟩
    have hlt : ax < s₁.heap.objs.size := Heap.lt_size hol
    refine wpAny_pyIter_list hls ?_
    have up : ∀ b o, s₁.heap.get? b = some o → (s₁.heap.push { cls := .type "list_iterator", data := .fields #[.ref ax, .int 0 0] }).get? b = some o := fun b o e => Heap.get?_push_of_some _ e
    have W := Walks.list (prog := prog) (w := w) hh s₁.heap.objs.size ax (Nat.ne_of_lt hlt) its.toArray
    have e9 : its.toArray.size = its.length := by simp
    rw [e9] at W
    refine block_gen J (P := fun i v => its[i]? = some v) (St := fun i h => h.IsListIter s₁.heap.objs.size ax i ∧ h.IsList ax its.toArray) (by simpa using W) hsz (fun i h st => by obtain ⟨o, e, _⟩ := st.1; exact ⟨o, e⟩) ?_ ?_ hcell hkind ⟨⟨_, Heap.get?_push_size _ rfl, rfl, rfl⟩, hls.push _⟩ (fun b hb => ?_)
      (F.keeps up) (N.grown up) (Nat.ne_of_lt F.ns.lt) (next_is_new F) (fun p hp => Nat.ne_of_lt (Heap.lt_size (N p hp).1)) hJ hJl T ?_
    · intro i ys h h' o nw st e e' k N' hj
      refine ⟨by obtain ⟨o', q, r⟩ := st.1; rw [e] at q; cases q; exact ⟨o, e', r⟩, ⟨_, (N' _ (hJm _ _ _ hj)).1, rfl, kk, rfl⟩⟩
    · intro i v s Q E hP st hQ
      rcases hl with hl | ⟨⟨elts, x1, tp, rfl⟩, hT⟩
      · rw [hl]; exact wpAny_pure hQ
      · obtain ⟨T', rfl⟩ := hT v (List.mem_of_getElem? hP)
        exact wpAny_letOwnedTupleGo_listiter st.1 hQ
    · show b < (s₁.heap.push _).objs.size
      rw [Heap.size_push]
      rcases List.mem_cons.mp hb with rfl | hb
      · exact Nat.lt_succ_self _
      · rw [List.mem_singleton.mp hb]; exact Nat.lt_succ_of_lt hlt
    · intro D C h tk m' ys nx F' N' o1 hn hC₀ hD₀ hCL hDL hCD offC hj
      exact hRR D C h tk m' ys nx F' N' o1 hn hC₀ hD₀ hCL hDL hCD offC fun h' tk' N'' => fin D ys nx h' tk' hj N'' o1
  · refine wpAny_pyIter_range hr hsm ?_
    refine block_gen J (LCg.range_walks hh a n) hsz (fun i h st => ⟨_, st⟩) (fun i ys h h' o nw st e e' k N' _ => LCg.range_st (h₀ := h₀) (L := L) i h h' o nw st e e' k N' trivial) ?_ hcell hkind (by show IsRangeIter _ _ _ _ _; rw [hn]; simpa using Heap.get?_push_size _ rfl) (fun b hb => ?_)
      (F.keeps fun _ _ e => Heap.get?_push_of_some _ e) (N.grown fun _ _ e => Heap.get?_push_of_some _ e) (Nat.ne_of_lt F.ns.lt) (next_is_new F) (fun p hp => Nat.ne_of_lt (Heap.lt_size (N p hp).1)) hJ hJl T ?_
    · intro i v s Q E hP st hQ
      rw [hl]; exact wpAny_pure hQ
    · rw [List.mem_singleton.mp hb]
      show s₁.heap.objs.size < (s₁.heap.push _).objs.size
      rw [Heap.size_push]; exact Nat.lt_succ_self _
    · intro D C h tk m' ys nx F' N' o1 hn hC₀ hD₀ hCL hDL hCD offC hj
      exact hRR D C h tk m' ys nx F' N' o1 hn hC₀ hD₀ hCL hDL hCD offC fun h' tk' N'' => fin D ys nx h' tk' hj N'' o1

theorem comp_eval {elt target iter : PySem.Expr} {ifs : List PySem.Expr} {scope : Scope} {cl : List (Str × Addr)} {pos : Pos} {Q : Value → Shared → Prop}
    (hclos : closureFor scope env = pure cl) (hcell : ∀ y ∈ scope.names, y.2 ≠ .cell) (hkind : scope.kind = .function)
    (hnames : ∀ y ∈ scope.names, y.2 = .local → scope.names.lookup y.1 = some .local)
    (h : wpAny (model prog w) A (eval iter env) (GSrc prog w A h₀ L m (fun C => compEnvC scope cl C env) elt target ifs (FinE h₀ L m Q)) E s)
    (hs : ∀ x, foldedSetIterable iter env x = pure x := by intro _; rfl) :
    wpAny (model prog w) A (eval (.ListComp elt [⟨target, iter, ifs, 0⟩] scope pos) env) Q E s := by
  rw [eval_ListComp]
  refine wpAny_comprehension_free (use := none) rfl hs hclos hkind hnames (wpAny_mono h (fun xv s₁ h₁ => ?_) fun _ _ e => e)
  refine gsrc_block (RR := fun acc C => compPost (model prog w) A E none Q acc C) hcell hkind h₁ ?_
  intro D C h tk m' ys nx F' N' o1 hn hC₀ hD₀ hCL hDL hCD offC fin
  refine ⟨m', hn, fun h'' hs'' => fin h'' tk (fun p hp => ?_) (F'.change hs'' hCL hC₀)⟩
  refine ⟨hs''.extBut _ _ ?_ (N' p hp).1, (N' p hp).2⟩
  rcases List.mem_cons.mp hp with rfl | hp
  · exact Ne.symm hCD
  · exact offC p hp

theorem comp_assign {elt target iter : PySem.Expr} {ifs : List PySem.Expr} {y : Str} {py : Pos} {scope : Scope} {cl : List (Str × Addr)} {pos spos : Pos} {Q : Flow → Shared → Prop} (hLe : env.locals = L)
    (hsw : swapsWith (.ListComp elt [⟨target, iter, ifs, 0⟩] scope pos) (some (.Name y py)) spos.line env = pure true)
    (hclos : closureFor scope env = pure cl) (hcell : ∀ z ∈ scope.names, z.2 ≠ .cell) (hkind : scope.kind = .function)
    (hnames : ∀ z ∈ scope.names, z.2 = .local → scope.names.lookup z.1 = some .local)
    (hy : env.kindOf y = some .local) (hp : (env.scope.kind == .class || (env.scope.kind == .module && env.locals != env.globals)) = false)
    (h : wpAny (model prog w) A (eval iter env) (GSrc prog w A h₀ L m (fun C => compEnvC scope cl C env) elt target ifs (FinA h₀ L m y Q)) E s)
    (hs : ∀ x, foldedSetIterable iter env x = pure x := by intro _; rfl) :
    wpAny (model prog w) A (exec (.Assign [.Name y py] (.ListComp elt [⟨target, iter, ifs, 0⟩] scope pos) spos) env) Q E s := by
  subst hLe
  rw [exec_Assign_Name_used _ _ _ _ hsw]
  refine wpAny_bind (wpAny_standAt (wpAny_bind ?_))
  show wpAny _ A (do let _ ← comprehension (.ListComp elt [⟨target, iter, ifs, 0⟩] scope pos) scope env _ (newList []) false (eval iter env) (some (assign (.Name y py) env))) _ _ s
  refine wpAny_bind (wpAny_mono (wpAny_comprehension_free (use := some (assign (.Name y py) env)) (Q := fun _ s' => Q .next s') rfl hs hclos hkind hnames
    (wpAny_mono h (fun xv s₁ h₁ => ?_) fun _ _ e => e)) (fun _ s' hq => wpAny_pure (wpAny_pure hq)) fun _ _ e => e)
  refine gsrc_block (RR := fun acc C => compPost (model prog w) A E (some (assign (.Name y py) env)) (fun _ s' => Q .next s') acc C) hcell hkind h₁ ?_
  intro D C h tk m' ys nx F' N' o1 hn hC₀ hD₀ hCL hDL hCD offC fin
  show wpAny _ A (assign (.Name y py) env (.ref D)) _ _ _
  refine wpAny_assign_Name (wpAny_storeName_local hy F'.ns (fun h₂ hn₂ hs₂ => ?_) hp)
  refine ⟨m', hn.sameBut hs₂ hCL, fun h₃ hs₃ => ?_⟩
  have F₂ := F'.set hn₂ hs₂
  refine fin h₃ _ (fun p hp => ?_) (F₂.change hs₃ hCL hC₀)
  have z := N' p hp
  refine ⟨hs₃.extBut _ _ ?_ (hs₂.extBut _ _ z.2.1 z.1), z.2⟩
  rcases List.mem_cons.mp hp with rfl | hp
  · exact Ne.symm hCD
  · exact offC p hp
end
end Mine
end TB0
section TB1
set_option maxHeartbeats 2000000
namespace Mine
open LCg (NsObj lst ns_obj lst_snoc)
abbrev NoE : Value → Shared → Prop := fun _ _ => False

inductive FNext (h₀ : Heap) (L : Addr) (gs : Array GenState) (dr : Drawn) (os : OsState) (I : Addr) (oI : Obj) (J : Nat → (Str → Option Value) → List (Addr × Obj) → Prop) (i : Nat) (s₃ : Shared) : Prop
  | mk (h' : Heap) (tk' : Nat) (m' : Str → Option Value) (nx' : List (Addr × Obj)) : s₃ = ⟨h', gs, dr, tk', os⟩ → Fr h₀ L h' m' → News h₀ L h' ((I, oI) :: nx') → (∀ p ∈ nx', p.1 ≠ I) → J i m' nx' → FNext h₀ L gs dr os I oI J i s₃
def FEnd (h₀ : Heap) (L : Addr) (s : Shared) (I : Addr) (oI : Obj) (J : Nat → (Str → Option Value) → List (Addr × Obj) → Prop) (i : Nat) (Q : Flow → Shared → Prop) (f : Flow) (s₃ : Shared) : Prop :=
  match f with
  | .ret v => Q (.ret v) s₃
  | .brk => Q .next s₃
  | _ => FNext h₀ L s.gens s.drawn s.os I oI J i s₃

def FTurn (prog : Program) (w : World) (A : Around) (h₀ : Heap) (L : Addr) (s : Shared) (target : PySem.Expr) (body : List Stmt) (env : Env) (J : Nat → (Str → Option Value) → List (Addr × Obj) → Prop) (P : Nat → Value → Prop) (n : Nat) (Q : Flow → Shared → Prop) : Prop :=
  ∀ i v m₁ nx I oI h tk, i < n → P i v → J i m₁ nx → Fr h₀ L h m₁ → News h₀ L h ((I, oI) :: nx) → (∀ p ∈ nx, p.1 ≠ I) →
    wpAny (model prog w) A (assign target env v) (fun _ s₂ => wpAny (model prog w) A (execs body env) (FEnd h₀ L s I oI J (i + 1) Q) NoE s₂) NoE { s with heap := h, toks := tk }

section
variable {prog : Program} {w : World} {A : Around} {s : Shared} {h₀ : Heap} {L : Addr} {env : Env}

theorem for_walk {target : PySem.Expr} {body : List Stmt} {s₂ : Shared} {I : Addr} {fp : List Addr} {n : Nat} {P : Nat → Value → Prop} {St : Nat → Heap → Prop} {news : List (Addr × Obj)} {m : Str → Option Value} {Q : Flow → Shared → Prop}
    (J : Nat → (Str → Option Value) → List (Addr × Obj) → Prop)
    (W : Walks prog w A I fp [I] n P St) (hIo : ∀ i h, St i h → ∃ o, h.get? I = some o)
    (hSt : ∀ i m h h' o nw, St i h → h.get? I = some o → h'.get? I = some o → News h₀ L h' nw → J i m nw → St i h')
    (hlet : ∀ i v (s : Shared) (Q : Unit → Shared → Prop) (E : Value → Shared → Prop), P i v → St (i + 1) s.heap → Q () s → wpAny (model prog w) A (letOwnedTupleGo target (.ref I) v) Q E s)
    (hst : St 0 s₂.heap) (F : Fr h₀ L s₂.heap m) (N : News h₀ L s₂.heap news) (hIL : L ≠ I) (hI₀ : h₀.get? I = none) (off : ∀ p ∈ news, p.1 ≠ I) (hJ : J 0 m news)
    (turn : FTurn prog w A h₀ L s₂ target body env J P n Q)
    (done : ∀ m₁ nx h tk, J n m₁ nx → Fr h₀ L h m₁ → News h₀ L h nx → Q .next { s₂ with heap := h, toks := tk }) :
    codeAny (model prog w) A (.forLoop target (.ref I) body [] env) (fun r s' => match r with | .ok f => Q f s' | .error e => cameBackBy (model prog w) A env NoE e s') s₂ := by
  refine codeAny_forLoop_any
    (fun k s' => ∃ h' tk i m' nx, s' = { s₂ with heap := h', toks := tk } ∧ i ≤ n ∧ k = n + 1 - i ∧ St i h' ∧ Fr h₀ L h' m' ∧ News h₀ L h' nx ∧ (∀ p ∈ nx, p.1 ≠ I) ∧ J i m' nx) ?_ (n + 1)
    ⟨s₂.heap, s₂.toks, 0, m, news, rfl, Nat.zero_le _, rfl, hst, F, N, off, hJ⟩
  rintro k s' ⟨h', tk, i, m', nx, rfl, hi, rfl, hst', F', N', off', hJ'⟩
  by_cases hlt : i < n
  · refine W.item i _ _ _ hlt hst' fun v h₂ tk₂ hPv hst₂ hk₂ => ?_
    refine hlet i v _ _ _ hPv hst₂ ?_
    obtain ⟨oI, heI⟩ := hIo _ _ hst₂
    have F₂ : Fr h₀ L h₂ m' := LCg.fr_but F' hk₂ hIL hI₀
    have N₂ : News h₀ L h₂ nx := LCg.news_but N' hk₂ off'
    have N₃ : News h₀ L h₂ ((I, oI) :: nx) := fun p hp => by
      rcases List.mem_cons.mp hp with rfl | hp
      · exact ⟨heI, Ne.symm hIL, hI₀⟩
      · exact N₂ p hp
    have fin : ∀ s₃, FNext h₀ L s₂.gens s₂.drawn s₂.os I oI J (i + 1) s₃ →
        ∃ m, m < n + 1 - i ∧ ∃ h' tk i m' nx, s₃ = { s₂ with heap := h', toks := tk } ∧ i ≤ n ∧ m = n + 1 - i ∧ St i h' ∧ Fr h₀ L h' m' ∧ News h₀ L h' nx ∧ (∀ p ∈ nx, p.1 ≠ I) ∧ J i m' nx := by
      rintro s₃ ⟨h₄, tk₄, m₄, nx₄, rfl, F₄, N₄, off₄, hJ₄⟩
      have N₄' : News h₀ L h₄ nx₄ := fun p hp => N₄ p (List.mem_cons_of_mem _ hp)
      exact ⟨n + 1 - (i + 1), Nat.sub_lt_sub_left (Nat.lt_succ_of_lt hlt) (Nat.lt_succ_self _), h₄, tk₄, i + 1, m₄, nx₄, rfl, hlt, rfl, hSt _ _ _ _ _ _ hst₂ heI (N₄ (I, oI) List.mem_cons_self).1 N₄' hJ₄, F₄, N₄', off₄, hJ₄⟩
    refine wpAny_mono (turn i v m' nx I oI h₂ tk₂ hlt hPv hJ' F₂ N₃ off') (fun _ s₃ h₃ => ?_) fun _ _ e => e.elim
    refine wpAny_mono h₃ (fun f s₄ h₄ => ?_) fun _ _ e => e.elim
    cases f with
    | ret v => exact h₄
    | brk => exact h₄
    | next => exact fin _ h₄
    | cont => exact fin _ h₄
  · obtain rfl : i = n := Nat.le_antisymm hi (Nat.not_lt.mp hlt)
    refine W.done _ _ _ hst' fun h₂ tk₂ hk₂ => ?_
    exact wpAny_execs_nil (done m' nx h₂ tk₂ hJ' (LCg.fr_but F' hk₂ hIL hI₀) (LCg.news_but N' hk₂ off'))

inductive FSrcL (prog : Program) (w : World) (A : Around) (h₀ : Heap) (L : Addr) (env : Env) (target : PySem.Expr) (body : List Stmt) (Q : Flow → Shared → Prop) (xv : Value) (s₁ : Shared) : Prop
  | mk (ax : Addr) (its : List Value) (kk : Nat) (news : List (Addr × Obj)) (m : Str → Option Value) (J : Nat → (Str → Option Value) → List (Addr × Obj) → Prop) : xv = .ref ax → A.handled = none → Fr h₀ L s₁.heap m → News h₀ L s₁.heap news → (ax, listOf (List.toArray its) kk) ∈ news →
    ((∀ it v, letOwnedTupleGo target it v = pure ()) ∨ ((∃ elts x1 tp, target = .Tuple elts x1 tp) ∧ ∀ v ∈ its, ∃ T, v = .ref T)) →
    J 0 m news → (∀ i m nx, J i m nx → (ax, listOf its.toArray kk) ∈ nx) →
    FTurn prog w A h₀ L s₁ target body env J (fun i v => its[i]? = some v) its.length Q →
    (∀ m₁ nx h tk, J its.length m₁ nx → Fr h₀ L h m₁ → News h₀ L h nx → Q .next { s₁ with heap := h, toks := tk }) → FSrcL prog w A h₀ L env target body Q xv s₁
inductive FSrcR (prog : Program) (w : World) (A : Around) (h₀ : Heap) (L : Addr) (env : Env) (target : PySem.Expr) (body : List Stmt) (Q : Flow → Shared → Prop) (xv : Value) (s₁ : Shared) : Prop
  | mk (r : Addr) (a b : Int) (t u v : Tok) (n : Nat) (news : List (Addr × Obj)) (m : Str → Option Value) (J : Nat → (Str → Option Value) → List (Addr × Obj) → Prop) : xv = .ref r → A.handled = none → Fr h₀ L s₁.heap m → News h₀ L s₁.heap news → IsRange s₁.heap r a b 1 t u v → Builtin.Range.small a b 1 = true → Builtin.Range.rangeSize a b 1 = ((n : Nat) : Int) →
    (∀ it v, letOwnedTupleGo target it v = pure ()) → J 0 m news →
    FTurn prog w A h₀ L s₁ target body env J (fun i v => ∃ t, v = .int (a + (i : Int)) t) n Q →
    (∀ m₁ nx h tk, J n m₁ nx → Fr h₀ L h m₁ → News h₀ L h nx → Q .next { s₁ with heap := h, toks := tk }) → FSrcR prog w A h₀ L env target body Q xv s₁
inductive FSrcS (prog : Program) (w : World) (A : Around) (h₀ : Heap) (L : Addr) (env : Env) (target : PySem.Expr) (body : List Stmt) (Q : Flow → Shared → Prop) (xv : Value) (s₁ : Shared) : Prop
  | mk (x : Str) (t : Tok) (news : List (Addr × Obj)) (m : Str → Option Value) (J : Nat → (Str → Option Value) → List (Addr × Obj) → Prop) : xv = .str x t → A.handled = none → Fr h₀ L s₁.heap m → News h₀ L s₁.heap news → (∀ it v, letOwnedTupleGo target it v = pure ()) → J 0 m news →
    FTurn prog w A h₀ L s₁ target body env J (SignAt x) x.cps.size Q →
    (∀ m₁ nx h tk, J x.cps.size m₁ nx → Fr h₀ L h m₁ → News h₀ L h nx → Q .next { s₁ with heap := h, toks := tk }) → FSrcS prog w A h₀ L env target body Q xv s₁
def FSrc (prog : Program) (w : World) (A : Around) (h₀ : Heap) (L : Addr) (env : Env) (target : PySem.Expr) (body : List Stmt) (Q : Flow → Shared → Prop) (xv : Value) (s₁ : Shared) : Prop :=
  FSrcL prog w A h₀ L env target body Q xv s₁ ∨ FSrcR prog w A h₀ L env target body Q xv s₁ ∨ FSrcS prog w A h₀ L env target body Q xv s₁

theorem for_rule (h₀ : Heap) (L : Addr) {target iter : PySem.Expr} {body : List Stmt} {pos : Pos} {Q : Flow → Shared → Prop}
    (h : wpAny (model prog w) A (eval iter env) (FSrc prog w A h₀ L env target body Q) NoE s)
    (hs : ∀ x, foldedSetIterable iter env x = pure x := by intro _; rfl) :
    wpAny (model prog w) A (exec (.For target iter body [] pos) env) Q NoE s := by
  refine wpAny_For (wpAny_mono h (fun xv s₁ h₁ => ?_) fun _ _ e => e) hs
  rcases h₁ with ⟨ax, its, kk, news, m, J, rfl, hh, F, N, hm, hl, hJ, hJm, T, fin⟩ | ⟨r, a, b, t, u, v, n, news, m, J, rfl, hh, F, N, hr, hsm, hn, hl, hJ, T, fin⟩ | ⟨x, t, news, m, J, rfl, hh, F, N, hl, hJ, T, fin⟩
  · have hol := (N _ hm).1
    have hls : s₁.heap.IsList ax its.toArray := ⟨_, hol, rfl, kk, rfl⟩
    have hlt : ax < s₁.heap.objs.size := Heap.lt_size hol
    refine wpAny_pyIter_list hls ?_
    have up : ∀ b o, s₁.heap.get? b = some o → (s₁.heap.push { cls := .type "list_iterator", data := .fields #[.ref ax, .int 0 0] }).get? b = some o := fun b o e => Heap.get?_push_of_some _ e
    have W := Walks.list (prog := prog) (w := w) hh s₁.heap.objs.size ax (Nat.ne_of_lt hlt) its.toArray
    have e9 : its.toArray.size = its.length := by simp
    rw [e9] at W
    refine for_walk J (P := fun i v => its[i]? = some v) (St := fun i h => h.IsListIter s₁.heap.objs.size ax i ∧ h.IsList ax its.toArray) (by simpa using W) (fun i h st => by obtain ⟨o, e, _⟩ := st.1; exact ⟨o, e⟩) ?_ ?_ ⟨⟨_, Heap.get?_push_size _ rfl, rfl, rfl⟩, hls.push _⟩
      (F.keeps up) (N.grown up) (Nat.ne_of_lt F.ns.lt) (next_is_new F) (fun p hp => Nat.ne_of_lt (Heap.lt_size (N p hp).1)) hJ T fin
    · intro i m h h' o nw st e e' N' hj
      refine ⟨by obtain ⟨o', q, r⟩ := st.1; rw [e] at q; cases q; exact ⟨o, e', r⟩, ⟨_, (N' _ (hJm _ _ _ hj)).1, rfl, kk, rfl⟩⟩
    · intro i v s Q E hP st hQ
      rcases hl with hl | ⟨⟨elts, x1, tp, rfl⟩, hT⟩
      · rw [hl]; exact wpAny_pure hQ
      · obtain ⟨T', rfl⟩ := hT v (List.mem_of_getElem? hP)
        exact wpAny_letOwnedTupleGo_listiter st.1 hQ
  · refine wpAny_pyIter_range hr hsm ?_
    refine for_walk J (LCg.range_walks hh a n) (fun i h st => ⟨_, st⟩) (fun i m h h' o nw st e e' N' _ => ?_) ?_ (by show IsRangeIter _ _ _ _ _; rw [hn]; simpa using Heap.get?_push_size _ rfl)
      (F.keeps fun _ _ e => Heap.get?_push_of_some _ e) (N.grown fun _ _ e => Heap.get?_push_of_some _ e) (Nat.ne_of_lt F.ns.lt) (next_is_new F) (fun p hp => Nat.ne_of_lt (Heap.lt_size (N p hp).1)) hJ T fin
    · have st' : h.get? s₁.heap.objs.size = some _ := st
      show h'.get? s₁.heap.objs.size = some _
      rw [e', ← e]; exact st'
    · intro i v s Q E hP st hQ
      rw [hl]; exact wpAny_pure hQ
  · have up : ∀ (o : Obj) b o', s₁.heap.get? b = some o' → (s₁.heap.push o).get? b = some o' := fun o b o' e => Heap.get?_push_of_some _ e
    cases ha : x.cps.all (· < 128)
    · refine wpAny_pyIter_wide ha ?_
      refine for_walk J (Walks.strWide hh s₁.heap.objs.size x t) (fun i h st => by obtain ⟨o, e, _⟩ := st; exact ⟨o, e⟩) (fun i m h h' o nw st e e' N' _ => ?_) ?_ ⟨_, Heap.get?_push_size _ rfl, rfl, rfl⟩
        (F.keeps (up _)) (N.grown (up _)) (Nat.ne_of_lt F.ns.lt) (next_is_new F) (fun p hp => Nat.ne_of_lt (Heap.lt_size (N p hp).1)) hJ T fin
      · obtain ⟨o', q, r⟩ := st; rw [e] at q; cases q; exact ⟨o, e', r⟩
      · intro i v s Q E hP st hQ
        rw [hl]; exact wpAny_pure hQ
    · refine wpAny_pyIter_ascii ha ?_
      refine for_walk J (Walks.strAscii hh s₁.heap.objs.size x t) (fun i h st => by obtain ⟨o, e, _⟩ := st; exact ⟨o, e⟩) (fun i m h h' o nw st e e' N' _ => ?_) ?_ ⟨_, Heap.get?_push_size _ rfl, rfl, rfl⟩
        (F.keeps (up _)) (N.grown (up _)) (Nat.ne_of_lt F.ns.lt) (next_is_new F) (fun p hp => Nat.ne_of_lt (Heap.lt_size (N p hp).1)) hJ T fin
      · obtain ⟨o', q, r⟩ := st; rw [e] at q; cases q; exact ⟨o, e', r⟩
      · intro i v s Q E hP st hQ
        rw [hl]; exact wpAny_pure hQ
end
end Mine
end TB1
section TP1
namespace Mine
inductive Pc where
  | any | one | sign (c : Nat) | lot (rs : List (Nat × Nat)) (neg : Bool)
def Pc.code : Pc → Int
  | .any => 0 | .one => 1 | .sign _ => 2 | .lot _ _ => 3
def Pc.takes : Pc → Nat → Bool
  | .any, _ => true
  | .one, _ => true
  | .sign c, x => c == x
  | .lot rs neg, x => (rs.any fun r => decide (r.1 ≤ x) && decide (x ≤ r.2)) != neg
def anySuf (f : List Nat → Bool) : List Nat → Bool
  | [] => f []
  | c :: t => f (c :: t) || anySuf f t
def glob : List Pc → List Nat → Bool
  | [], t => t.isEmpty
  | .any :: ps, t => anySuf (glob ps) t
  | p :: ps, t => match t with
    | [] => false
    | c :: t' => p.takes c && glob ps t'

theorem anySuf_iff {f : List Nat → Bool} : ∀ {t : List Nat}, anySuf f t = true ↔ ∃ k, k ≤ t.length ∧ f (t.drop k) = true
  | [] => by
    constructor
    · intro h; exact ⟨0, Nat.le_refl _, h⟩
    · rintro ⟨k, hk, h⟩
      have : k = 0 := Nat.le_zero.mp hk
      subst this; exact h
  | c :: t => by
    unfold anySuf
    rw [Bool.or_eq_true, anySuf_iff]
    constructor
    · rintro (h | ⟨k, hk, h⟩)
      · exact ⟨0, Nat.zero_le _, h⟩
      · exact ⟨k + 1, Nat.succ_le_succ hk, h⟩
    · rintro ⟨k, hk, h⟩
      cases k with
      | zero => exact .inl h
      | succ k => exact .inr ⟨k, Nat.le_of_succ_le_succ hk, h⟩

/-- the parts from i on stand for the text from k on -/
def G (ps : List Pc) (t : List Nat) (i k : Nat) : Prop := glob (ps.drop i) (t.drop k) = true

theorem G_end {ps : List Pc} {t : List Nat} {k : Nat} (hk : k ≤ t.length) : G ps t ps.length k ↔ k = t.length := by
  unfold G
  rw [List.drop_length]
  simp only [glob, List.isEmpty_iff]
  constructor
  · intro h
    have := congrArg List.length h
    simp at this
    omega
  · rintro rfl; exact List.drop_length
theorem G_any {ps : List Pc} {t : List Nat} {i k : Nat} (hp : ps[i]? = some .any) (hk : k ≤ t.length) : G ps t i k ↔ ∃ j, k ≤ j ∧ j ≤ t.length ∧ G ps t (i + 1) j := by
  unfold G
  obtain ⟨hi, hp⟩ := List.getElem?_eq_some_iff.mp hp
  rw [List.drop_eq_getElem_cons hi, hp]
  show anySuf _ _ = true ↔ _
  rw [anySuf_iff]
  constructor
  · rintro ⟨j, hj, h⟩
    refine ⟨k + j, Nat.le_add_right _ _, ?_, ?_⟩
    · rw [List.length_drop] at hj; exact Nat.add_comm _ _ ▸ Nat.add_le_of_le_sub hk hj
    · rw [List.drop_drop] at h; exact h
  · rintro ⟨j, h1, h2, h⟩
    refine ⟨j - k, by rw [List.length_drop]; exact Nat.sub_le_sub_right h2 _, ?_⟩
    rw [List.drop_drop, Nat.add_sub_cancel' h1]; exact h
theorem G_one {ps : List Pc} {t : List Nat} {i k : Nat} {p : Pc} (hp : ps[i]? = some p) (ha : p ≠ .any) : G ps t i k ↔ ∃ c, t[k]? = some c ∧ p.takes c = true ∧ G ps t (i + 1) (k + 1) := by
  unfold G
  obtain ⟨hi, hp⟩ := List.getElem?_eq_some_iff.mp hp
  rw [List.drop_eq_getElem_cons hi, hp]
  by_cases hk : k < t.length
  · rw [List.drop_eq_getElem_cons hk]
    have e : glob (p :: ps.drop (i + 1)) (t[k] :: t.drop (k + 1)) = (p.takes t[k] && glob (ps.drop (i + 1)) (t.drop (k + 1))) := by
      cases p <;> first | exact absurd rfl ha | rfl
    rw [e, Bool.and_eq_true]
    constructor
    · rintro ⟨h1, h2⟩; exact ⟨t[k], by simp [hk], h1, h2⟩
    · rintro ⟨c, hc, h1, h2⟩
      obtain ⟨_, rfl⟩ := List.getElem?_eq_some_iff.mp hc
      exact ⟨h1, h2⟩
  · rw [List.drop_eq_nil_of_le (Nat.le_of_not_lt hk)]
    have e : glob (p :: ps.drop (i + 1)) [] = false := by cases p <;> first | exact absurd rfl ha | rfl
    rw [e]
    constructor
    · intro h; cases h
    · rintro ⟨c, hc, _⟩
      exact absurd (List.getElem?_eq_some_iff.mp hc).1 hk

/-- what holds between the turns of the first loop of matches -/
structure MInv (ps : List Pc) (t : List Nat) (place «at» : Nat) (bp : Option Nat) (ba : Nat) : Prop where
  hp : place ≤ ps.length
  ha : «at» ≤ t.length
  hba : ba ≤ «at»
  hn : bp = none → ba = 0 ∧ (G ps t 0 0 ↔ G ps t place «at»)
  hs : ∀ b, bp = some b → b ≤ place ∧ «at» + b = place + ba ∧ (G ps t b ba ↔ G ps t place «at») ∧ (G ps t 0 0 ↔ ∃ j, ba ≤ j ∧ j ≤ t.length ∧ G ps t b j) ∧ ∀ i, b ≤ i → i < place → ∃ p, ps[i]? = some p ∧ p ≠ .any

theorem MInv.start (ps : List Pc) (t : List Nat) : MInv ps t 0 0 none 0 := ⟨Nat.zero_le _, Nat.zero_le _, Nat.le_refl _, fun _ => ⟨rfl, Iff.rfl⟩, fun _ h => by cases h⟩

/-- parts without an any take as many signs as they are -/
theorem G_seg {ps : List Pc} {t : List Nat} {b : Nat} : ∀ {d j : Nat}, (∀ i, b ≤ i → i < b + d → ∃ p, ps[i]? = some p ∧ p ≠ .any) → G ps t b j → j ≤ t.length → j + d ≤ t.length ∧ G ps t (b + d) (j + d)
  | 0, j, _, h, hj => ⟨hj, h⟩
  | d + 1, j, hs, h, hj => by
    obtain ⟨h1, h2⟩ := G_seg (d := d) (fun i a b' => hs i a (Nat.lt_succ_of_lt b')) h hj
    obtain ⟨p, hp, ha⟩ := hs (b + d) (Nat.le_add_right _ _) (Nat.lt_succ_self _)
    obtain ⟨c, hc, _, h3⟩ := (G_one hp ha).mp h2
    have := (List.getElem?_eq_some_iff.mp hc).1
    exact ⟨this, h3⟩

theorem MInv.any {ps : List Pc} {t : List Nat} {place «at» ba : Nat} {bp : Option Nat} (M : MInv ps t place «at» bp ba) (hp : ps[place]? = some .any) : MInv ps t (place + 1) «at» (some (place + 1)) «at» := by
  have hlt := (List.getElem?_eq_some_iff.mp hp).1
  refine ⟨hlt, M.ha, Nat.le_refl _, (fun h => by cases h), fun b hb => ?_⟩
  cases hb
  refine ⟨Nat.le_refl _, by omega, Iff.rfl, ?_, fun i h1 h2 => absurd h1 (by omega)⟩
  rw [← G_any hp M.ha]
  cases bp with
  | none => exact (M.hn rfl).2
  | some b =>
    obtain ⟨h1, h2, h3, h4, h5⟩ := M.hs b rfl
    rw [h4]
    constructor
    · rintro ⟨j, a1, a2, g⟩
      obtain ⟨b1, b2⟩ := G_seg (d := place - b) (fun i x y => h5 i x (Nat.add_sub_cancel' h1 ▸ y)) g a2
      rw [Nat.add_sub_cancel' h1] at b2
      obtain ⟨j', c1, c2, g'⟩ := (G_any hp b1).mp b2
      exact (G_any hp M.ha).mpr ⟨j', by have := M.hba; omega, c2, g'⟩
    · intro g
      exact ⟨ba, Nat.le_refl _, by have := M.hba; have := M.ha; omega, h3.mpr g⟩

theorem MInv.one {ps : List Pc} {t : List Nat} {place «at» ba c : Nat} {bp : Option Nat} {p : Pc} (M : MInv ps t place «at» bp ba) (hp : ps[place]? = some p) (ha : p ≠ .any) (hc : t[«at»]? = some c) (ht : p.takes c = true) :
    MInv ps t (place + 1) («at» + 1) bp ba := by
  have hlt := (List.getElem?_eq_some_iff.mp hp).1
  have hlt2 := (List.getElem?_eq_some_iff.mp hc).1
  have e : G ps t place «at» ↔ G ps t (place + 1) («at» + 1) := by
    rw [G_one hp ha]
    constructor
    · rintro ⟨_, _, _, g⟩; exact g
    · intro g; exact ⟨c, hc, ht, g⟩
  refine ⟨hlt, hlt2, by have := M.hba; omega, fun h => ⟨(M.hn h).1, (M.hn h).2.trans e⟩, fun b hb => ?_⟩
  obtain ⟨h1, h2, h3, h4, h5⟩ := M.hs b hb
  have := M.hba
  refine ⟨by omega, by omega, h3.trans e, h4, fun i x y => ?_⟩
  by_cases hi : i = place
  · subst hi; exact ⟨p, hp, ha⟩
  · exact h5 i x (by omega)

/-- where the attempt fails -/
theorem stuck_no {ps : List Pc} {t : List Nat} {place «at» : Nat} (hat : «at» < t.length) (hp : place ≤ ps.length)
    (h : ∀ p, ps[place]? = some p → p ≠ .any ∧ ∀ c, t[«at»]? = some c → p.takes c = false) : ¬ G ps t place «at» := by
  intro g
  by_cases he : place = ps.length
  · subst he
    exact absurd ((G_end (Nat.le_of_lt hat)).mp g) (by omega)
  · have hlt : place < ps.length := by omega
    obtain ⟨a, f⟩ := h ps[place] (by simp [hlt])
    obtain ⟨c, hc, ht, _⟩ := (G_one (by simp [hlt]) a).mp g
    rw [f c hc] at ht; cases ht

theorem MInv.back {ps : List Pc} {t : List Nat} {place «at» ba b : Nat} (M : MInv ps t place «at» (some b) ba) (hat : «at» < t.length) (h : ¬ G ps t place «at») : MInv ps t b (ba + 1) (some b) (ba + 1) := by
  obtain ⟨h1, h2, h3, h4, h5⟩ := M.hs b rfl
  have := M.hba
  have := M.hp
  refine ⟨by omega, by omega, Nat.le_refl _, (fun h => by cases h), fun b' hb => ?_⟩
  cases hb
  refine ⟨Nat.le_refl _, by omega, Iff.rfl, ?_, fun i x y => absurd x (by omega)⟩
  rw [h4]
  constructor
  · rintro ⟨j, a1, a2, g⟩
    by_cases hj : j = ba
    · subst hj; exact absurd (h3.mp g) h
    · exact ⟨j, by omega, a2, g⟩
  · rintro ⟨j, a1, a2, g⟩; exact ⟨j, by omega, a2, g⟩
theorem MInv.none_no {ps : List Pc} {t : List Nat} {place «at» ba : Nat} (M : MInv ps t place «at» none ba) (h : ¬ G ps t place «at») : ¬ G ps t 0 0 := fun g => h ((M.hn rfl).2.mp g)

theorem MInv.last {ps : List Pc} {t : List Nat} {place ba : Nat} {bp : Option Nat} (M : MInv ps t place t.length bp ba) : G ps t 0 0 ↔ G ps t place t.length := by
  cases bp with
  | none => exact (M.hn rfl).2
  | some b =>
    obtain ⟨h1, h2, h3, h4, h5⟩ := M.hs b rfl
    have := M.hba
    rw [h4]
    constructor
    · rintro ⟨j, a1, a2, g⟩
      obtain ⟨b1, _⟩ := G_seg (d := place - b) (fun i x y => h5 i x (Nat.add_sub_cancel' h1 ▸ y)) g a2
      have : j = ba := by omega
      subst this
      exact h3.mp g
    · intro g; exact ⟨ba, Nat.le_refl _, M.hba, h3.mpr g⟩

theorem G_rest_any {ps : List Pc} {t : List Nat} {place : Nat} (hp : ps[place]? = some .any) : G ps t place t.length ↔ G ps t (place + 1) t.length := by
  rw [G_any hp (Nat.le_refl _)]
  constructor
  · rintro ⟨j, a, b, g⟩
    have : j = t.length := by omega
    subst this; exact g
  · intro g; exact ⟨_, Nat.le_refl _, Nat.le_refl _, g⟩
theorem G_rest_no {ps : List Pc} {t : List Nat} {place : Nat} {p : Pc} (hp : ps[place]? = some p) (ha : p ≠ .any) : ¬ G ps t place t.length := by
  intro g
  obtain ⟨c, hc, _⟩ := (G_one hp ha).mp g
  exact absurd (List.getElem?_eq_some_iff.mp hc).1 (Nat.lt_irrefl _)
theorem G_zero {ps : List Pc} {t : List Nat} : G ps t 0 0 ↔ glob ps t = true := Iff.rfl

theorem Pc.any_of {p : Pc} (h : p.code = 0) : p = .any := by
  cases p <;> first | rfl | (simp [Pc.code] at h)
theorem Pc.not_any {p : Pc} (h : p.code ≠ 0) : p ≠ .any := by rintro rfl; exact h rfl
theorem getD_at {ps : List Pc} {i : Nat} (h : i < ps.length) : ps[i]? = some (ps.getD i .any) := by simp [h]
def mu (P T ba place : Nat) : Nat := (T + 1 - ba) * (P + 1) + (P - place)
theorem mu_any {P T ba place «at» : Nat} (h : ba ≤ «at») (hp : place < P) : mu P T «at» (place + 1) < mu P T ba place := by
  unfold mu
  exact Nat.add_lt_add_of_le_of_lt (Nat.mul_le_mul_right (P + 1) (Nat.sub_le_sub_left h _)) (Nat.sub_lt_sub_left hp (Nat.lt_succ_self _))
theorem mu_one {P T ba place : Nat} (hp : place < P) : mu P T ba (place + 1) < mu P T ba place := Nat.add_lt_add_left (Nat.sub_lt_sub_left hp (Nat.lt_succ_self _)) _
theorem mu_back {P T ba place b : Nat} (h : ba < T) : mu P T (ba + 1) b < mu P T ba place := by
  unfold mu
  have e : T + 1 - ba = (T + 1 - (ba + 1)) + 1 := by rw [Nat.succ_sub_succ, Nat.succ_sub (Nat.le_of_lt h)]
  rw [e, Nat.succ_mul, Nat.add_assoc]
  exact Nat.add_lt_add_left (Nat.lt_of_le_of_lt (Nat.sub_le P b) (Nat.lt_of_lt_of_le (Nat.lt_succ_self P) (Nat.le_add_right _ _))) _

/-- a cut of the parts is a cut of the text -/
theorem glob_append {ps qs : List Pc} : ∀ {t : List Nat}, glob (ps ++ qs) t = true ↔ ∃ k, k ≤ t.length ∧ glob ps (t.take k) = true ∧ glob qs (t.drop k) = true := by
  induction ps with
  | nil =>
    intro t
    simp only [List.nil_append]
    constructor
    · intro h; exact ⟨0, Nat.zero_le _, by simp [glob], by simpa using h⟩
    · rintro ⟨k, hk, h1, h2⟩
      simp only [glob, List.isEmpty_iff] at h1
      have := congrArg List.length h1
      rw [List.length_take] at this
      simp at this
      rcases this with rfl | h
      · simpa using h2
      · have : t = [] := List.eq_nil_of_length_eq_zero (by simpa using h)
        subst this; simpa using h2
  | cons p ps ih =>
    intro t
    by_cases ha : p = .any
    · subst ha
      show anySuf (glob (ps ++ qs)) t = true ↔ _
      rw [anySuf_iff]
      constructor
      · rintro ⟨j, hj, h⟩
        obtain ⟨k, hk, h1, h2⟩ := ih.mp h
        rw [List.length_drop] at hk
        refine ⟨j + k, Nat.add_comm _ _ ▸ Nat.add_le_of_le_sub hj hk, ?_, by rw [List.drop_drop] at h2; exact h2⟩
        show anySuf (glob ps) _ = true
        rw [anySuf_iff]
        refine ⟨j, by rw [List.length_take]; exact Nat.le_min.mpr ⟨Nat.le_add_right _ _, hj⟩, ?_⟩
        rw [List.drop_take, Nat.add_sub_cancel_left]; exact h1
      · rintro ⟨k, hk, h1, h2⟩
        have h1 : anySuf (glob ps) (t.take k) = true := h1
        obtain ⟨j, hj, h⟩ := anySuf_iff.mp h1
        rw [List.length_take] at hj
        have hj1 := Nat.le_trans hj (Nat.min_le_left _ _)
        refine ⟨j, Nat.le_trans hj (Nat.min_le_right _ _), ih.mpr ⟨k - j, by rw [List.length_drop]; exact Nat.sub_le_sub_right hk _, ?_, ?_⟩⟩
        · rw [List.drop_take] at h; exact h
        · rw [List.drop_drop, Nat.add_sub_cancel' hj1]; exact h2
    · have e : ∀ (rs : List Pc) (t : List Nat), glob (p :: rs) t = match t with | [] => false | c :: t' => p.takes c && glob rs t' := by
        intro rs t; cases p <;> first | exact absurd rfl ha | rfl
      rw [List.cons_append, e]
      cases t with
      | nil =>
        constructor
        · intro h; cases h
        · rintro ⟨k, _, h1, _⟩
          rw [List.take_nil, e] at h1; cases h1
      | cons c t =>
        dsimp only
        rw [Bool.and_eq_true, ih]
        constructor
        · rintro ⟨hc, k, hk, h1, h2⟩
          refine ⟨k + 1, Nat.succ_le_succ hk, ?_, h2⟩
          rw [List.take_succ_cons, e, Bool.and_eq_true]; exact ⟨hc, h1⟩
        · rintro ⟨k, hk, h1, h2⟩
          cases k with
          | zero => rw [List.take_zero, e] at h1; cases h1
          | succ k =>
            rw [List.take_succ_cons, e, Bool.and_eq_true] at h1
            exact ⟨h1.1, k, Nat.le_of_succ_le_succ hk, h1.2, h2⟩
end Mine
end TP1
section TB2
set_option maxHeartbeats 2000000
namespace Mine

inductive WNext (h₀ : Heap) (L : Addr) (gs : Array GenState) (dr : Drawn) (os : OsState) (J : Nat → (Str → Option Value) → List (Addr × Obj) → Prop) (n : Nat) (s₃ : Shared) : Prop
  | mk (h' : Heap) (tk' : Nat) (m' : Str → Option Value) (nx' : List (Addr × Obj)) (n' : Nat) : s₃ = ⟨h', gs, dr, tk', os⟩ → Fr h₀ L h' m' → News h₀ L h' nx' → n' < n → J n' m' nx' → WNext h₀ L gs dr os J n s₃
theorem WNext.out {h₀ : Heap} {L : Addr} {s s₃ : Shared} {J : Nat → (Str → Option Value) → List (Addr × Obj) → Prop} {n : Nat} (h : WNext h₀ L s.gens s.drawn s.os J n s₃) : ∃ h' tk' m' nx' n', s₃ = { s with heap := h', toks := tk' } ∧ Fr h₀ L h' m' ∧ News h₀ L h' nx' ∧ n' < n ∧ J n' m' nx' := by
  obtain ⟨h', tk', m', nx', n', a, b, c, d, e⟩ := h
  exact ⟨h', tk', m', nx', n', a, b, c, d, e⟩
def WEnd (h₀ : Heap) (L : Addr) (s : Shared) (J : Nat → (Str → Option Value) → List (Addr × Obj) → Prop) (n : Nat) (Q : Flow → Shared → Prop) (f : Flow) (s₃ : Shared) : Prop :=
  match f with
  | .ret v => Q (.ret v) s₃
  | .brk => Q .next s₃
  | _ => WNext h₀ L s.gens s.drawn s.os J n s₃

section
variable {prog : Program} {w : World} {A : Around} {s : Shared} {h₀ : Heap} {L : Addr} {env : Env}
theorem while_rule {test : PySem.Expr} {body : List Stmt} {pos : Pos} {Q : Flow → Shared → Prop} {m : Str → Option Value} {news : List (Addr × Obj)} (J : Nat → (Str → Option Value) → List (Addr × Obj) → Prop) {n₀ : Nat}
    (F : Fr h₀ L s.heap m) (N : News h₀ L s.heap news) (hJ : J n₀ m news)
    (turn : ∀ n m₁ nx h tk (Q' : Flow → Shared → Prop), (∀ f s', WEnd h₀ L s J n Q f s' → Q' f s') → Fr h₀ L h m₁ → News h₀ L h nx → J n m₁ nx →
      wpAny (model prog w) A (isTrue test env (eval test env)) (fun b s₂ =>
        if b = true then wpAny (model prog w) A (execs body env) Q' NoE s₂ else Q .next s₂) NoE { s with heap := h, toks := tk }) :
    wpAny (model prog w) A (exec (.While test body [] pos) env) Q NoE s := by
  refine While_inv2 J F N hJ (fun n m₁ nx h tk F₁ N₁ J₁ => ?_) PassesOwn.never
  refine wpAny_mono (turn n m₁ nx h tk _ (fun _ _ h => h) F₁ N₁ J₁) (fun b s₂ h₂ => ?_) fun _ _ e => e
  cases b with
  | false => exact h₂
  | true =>
    simp only [if_true] at h₂ ⊢
    refine wpAny_mono h₂ (fun f s₃ h₃ => ?_) fun _ _ e => e
    cases f <;> first | exact h₃ | exact WNext.out h₃
end

theorem for_ruleF {prog : Program} {w : World} {A : Around} {s : Shared} {h₀ : Heap} {L : Addr} {env : Env} {m : Str → Option Value} {target iter : PySem.Expr} {body : List Stmt} {pos : Pos} {Q : Flow → Shared → Prop} (uF : Fr h₀ L s.heap m)
    (h : wpAny (model prog w) A (eval iter env) (FSrc prog w A h₀ L env target body Q) NoE s)
    (hs : ∀ x, foldedSetIterable iter env x = pure x := by intro _; rfl) :
    wpAny (model prog w) A (exec (.For target iter body [] pos) env) Q NoE s := for_rule h₀ L h hs
def Has (m : Str → Option Value) : List (Str × Value) → Prop
  | [] => True
  | p :: r => m p.1 = some p.2 ∧ Has m r
theorem Has.all {m : Str → Option Value} : ∀ {ps : List (Str × Value)}, Has m ps → ∀ p ∈ ps, m p.1 = some p.2
  | _ :: _, h, _, .head _ => h.1
  | _ :: _, h, _, .tail _ q => Has.all h.2 _ q
theorem Has.fr {m : Str → Option Value} {h₀ h : Heap} {L : Addr} {ps : List (Str × Value)} (H : Has m ps) (F : Fr h₀ L h m) : Fr h₀ L h (kstB m ps) := by
  have e : kstB m ps = m := funext fun y => kstB_eq H.all fun _ => rfl
  rw [e]; exact F

theorem ent {m : Str → Option Value} {h₀ h : Heap} {L : Addr} (F : Fr h₀ L h m) (ps : List (Str × Value)) (H : Has m ps) : ∃ m₁, Fr h₀ L h (kstB m₁ ps) := ⟨m, H.fr F⟩
theorem beq1 (a b : Nat) : ((⟨#[a]⟩ : Str) == ⟨#[b]⟩) = (a == b) := by
  by_cases h : a = b
  · subst h; simp
  · have : (⟨#[a]⟩ : Str) ≠ ⟨#[b]⟩ := fun e => h (by cases e; rfl)
    rw [beq_eq_false_iff_ne.mpr this, beq_eq_false_iff_ne.mpr h]
theorem lt1 {a b : Nat} : (([a] : List Nat) < [b]) ↔ a < b := by
  constructor
  · intro h
    rcases List.cons_lt_cons_iff.mp h with h | ⟨_, h⟩
    · exact h
    · exact absurd h (List.lt_irrefl _)
  · intro h; exact List.cons_lt_cons_iff.mpr (.inl h)
theorem nsub {h₀ h : Heap} {L : Addr} {a b : List (Addr × Obj)} (N : News h₀ L h a) (hs : ∀ p ∈ b, p ∈ a) : News h₀ L h b := fun p hp => N p (hs p hp)

/-- ranges as they lie -/
inductive RgIn (D : List (Addr × Obj)) : List Value → List (Nat × Nat) → Prop
  | nil : RgIn D [] []
  | cons {a : Addr} {lo hi : Nat} {t u : Tok} {n : Nat} {vs : List Value} {rs : List (Nat × Nat)} : (a, ({ cls := .type "tuple", data := .seq #[.str ⟨#[lo]⟩ t, .str ⟨#[hi]⟩ u] n } : Obj)) ∈ D → RgIn D vs rs → RgIn D (.ref a :: vs) ((lo, hi) :: rs)
inductive PF (D : List (Addr × Obj)) : Value → Value → Value → Value → Pc → Prop
  | any (t : Tok) : PF D (.int 0 t) .none .none (.bool false) .any
  | one (t : Tok) : PF D (.int 1 t) .none .none (.bool false) .one
  | sign (c : Nat) (t u : Tok) : PF D (.int 2 t) (.str ⟨#[c]⟩ u) .none (.bool false) (.sign c)
  | lot {r : Addr} {vs : List Value} {n : Nat} {rs : List (Nat × Nat)} (t : Tok) (neg : Bool) : (r, listOf vs.toArray n) ∈ D → RgIn D vs rs → rs.length ≤ 10 → PF D (.int 3 t) .none (.ref r) (.bool neg) (.lot rs neg)
theorem RgIn.mono {D D' : List (Addr × Obj)} (hs : ∀ p ∈ D, p ∈ D') {vs : List Value} {rs : List (Nat × Nat)} (h : RgIn D vs rs) : RgIn D' vs rs := by
  induction h with
  | nil => exact .nil
  | cons h _ ih => exact .cons (hs _ h) ih
theorem PF.mono {D D' : List (Addr × Obj)} (hs : ∀ p ∈ D, p ∈ D') {a b c d : Value} {p : Pc} (h : PF D a b c d p) : PF D' a b c d p := by
  cases h with
  | any t => exact .any t
  | one t => exact .one t
  | sign c t u => exact .sign c t u
  | lot t neg h r l => exact .lot t neg (hs _ h) (r.mono hs) l
theorem PF.code {D : List (Addr × Obj)} {a b c d : Value} {p : Pc} (h : PF D a b c d p) : ∃ t, a = .int p.code t := by
  cases h <;> exact ⟨_, rfl⟩
abbrev partDict (P : Params) (t1 t2 t3 t4 : Tok) (v1 v2 v3 v4 : Value) : Obj :=
  dictOf [⟨PyData.keyHash P (Str.ofString "kind"), .str (Str.ofString "kind") t1, v1⟩, ⟨PyData.keyHash P (Str.ofString "sign"), .str (Str.ofString "sign") t2, v2⟩, ⟨PyData.keyHash P (Str.ofString "ranges"), .str (Str.ofString "ranges") t3, v3⟩, ⟨PyData.keyHash P (Str.ofString "negated"), .str (Str.ofString "negated") t4, v4⟩] 4
/-- a Part as it lies -/
inductive PartIn (P : Params) (D : List (Addr × Obj)) : Value → Pc → Prop
  | mk {x dx : Addr} {t1 t2 t3 t4 : Tok} {v1 v2 v3 v4 : Value} {p : Pc} : (x, instObj 46 dx) ∈ D → (dx, partDict P t1 t2 t3 t4 v1 v2 v3 v4) ∈ D → PF D v1 v2 v3 v4 p → PartIn P D (.ref x) p
theorem PartIn.mono {P : Params} {D D' : List (Addr × Obj)} (hs : ∀ p ∈ D, p ∈ D') {v : Value} {p : Pc} (h : PartIn P D v p) : PartIn P D' v p := by
  obtain ⟨a, b, c⟩ := h
  exact .mk (hs _ a) (hs _ b) (c.mono hs)
/-- two lists, item by item -/
inductive All2 {α β : Type} (R : α → β → Prop) : List α → List β → Prop
  | nil : All2 R [] []
  | cons {a : α} {b : β} {l : List α} {l' : List β} : R a b → All2 R l l' → All2 R (a :: l) (b :: l')
section
variable {α β : Type} {R R' : α → β → Prop} {l l₂ : List α} {l' l₂' : List β}
theorem All2.length (h : All2 R l l') : l.length = l'.length := by
  induction h with
  | nil => rfl
  | cons _ _ ih => rw [List.length_cons, List.length_cons, ih]
theorem All2.mono (hs : ∀ a b, R a b → R' a b) (h : All2 R l l') : All2 R' l l' := by
  induction h with
  | nil => exact .nil
  | cons h _ ih => exact .cons (hs _ _ h) ih
theorem All2.append (h : All2 R l l') (k : All2 R l₂ l₂') : All2 R (l ++ l₂) (l' ++ l₂') := by
  induction h with
  | nil => exact k
  | cons h _ ih => exact .cons h ih
theorem All2.get (h : All2 R l l') {i : Nat} {b : β} (hb : l'[i]? = some b) : ∃ a, l[i]? = some a ∧ R a b := by
  induction h generalizing i with
  | nil => cases hb
  | cons h _ ih =>
    cases i with
    | zero => cases hb; exact ⟨_, rfl, h⟩
    | succ i => exact ih hb
theorem All2.get' (h : All2 R l l') {i : Nat} {a : α} (ha : l[i]? = some a) : ∃ b, l'[i]? = some b ∧ R a b := by
  induction h generalizing i with
  | nil => cases ha
  | cons h _ ih =>
    cases i with
    | zero => cases ha; exact ⟨_, rfl, h⟩
    | succ i => exact ih ha
theorem All2.take (h : All2 R l l') (n : Nat) : All2 R (l.take n) (l'.take n) := by
  induction h generalizing n with
  | nil => simp only [List.take_nil]; exact .nil
  | cons h _ ih =>
    cases n with
    | zero => exact .nil
    | succ n => exact .cons h (ih n)
theorem All2.drop (h : All2 R l l') (n : Nat) : All2 R (l.drop n) (l'.drop n) := by
  induction h generalizing n with
  | nil => simp only [List.drop_nil]; exact .nil
  | cons h t ih =>
    cases n with
    | zero => exact .cons h t
    | succ n => exact ih n
end
theorem RgIn.len {D : List (Addr × Obj)} {vs : List Value} {rs : List (Nat × Nat)} (h : RgIn D vs rs) : vs.length = rs.length := by
  induction h with
  | nil => rfl
  | cons _ _ ih => rw [List.length_cons, List.length_cons, ih]
theorem RgIn.refs {D : List (Addr × Obj)} {vs : List Value} {rs : List (Nat × Nat)} (h : RgIn D vs rs) : ∀ v ∈ vs, ∃ T, v = .ref T := by
  induction h with
  | nil => intro v hv; cases hv
  | cons _ _ ih =>
    intro v hv
    rcases List.mem_cons.mp hv with rfl | hv
    · exact ⟨_, rfl⟩
    · exact ih v hv
theorem RgIn.get {D : List (Addr × Obj)} {vs : List Value} {rs : List (Nat × Nat)} (h : RgIn D vs rs) {i : Nat} {v : Value} (hv : vs[i]? = some v) :
    ∃ a lo hi t u n, v = .ref a ∧ rs[i]? = some (lo, hi) ∧ (a, ({ cls := .type "tuple", data := .seq #[.str ⟨#[lo]⟩ t, .str ⟨#[hi]⟩ u] n } : Obj)) ∈ D := by
  induction h generalizing i with
  | nil => cases hv
  | cons h _ ih =>
    cases i with
    | zero => cases hv; exact ⟨_, _, _, _, _, _, rfl, rfl, h⟩
    | succ i => exact ih hv

theorem hide2 {prog : Program} {w : World} {α β : Type} {A : Around} {x : Sem α} {y : Sem β} {P : β → Shared → Prop} {E₁ E₂ : Value → Shared → Prop} {s : Shared} (h : ∀ Q' : β → Shared → Prop, (∀ f s, P f s → Q' f s) → wpAny (model prog w) A x (fun _ s₂ => wpAny (model prog w) A y Q' E₁ s₂) E₂ s) :
    wpAny (model prog w) A x (fun _ s₂ => wpAny (model prog w) A y P E₁ s₂) E₂ s := h P fun _ _ h => h
section
variable {a L : Nat} {P : Prop} (h : a < L ∧ P)
include h
theorem neU1 : L + 1 ≠ a := Nat.ne_of_gt (Nat.lt_succ_of_lt h.1)
theorem neU2 : L + 1 + 1 ≠ a := Nat.ne_of_gt (Nat.lt_succ_of_lt (Nat.lt_succ_of_lt h.1))
theorem neU3 : L + 1 + 1 + 1 ≠ a := Nat.ne_of_gt (Nat.lt_succ_of_lt (Nat.lt_succ_of_lt (Nat.lt_succ_of_lt h.1)))
theorem neU4 : L + 1 + 1 + 1 + 1 ≠ a := Nat.ne_of_gt (Nat.lt_succ_of_lt (Nat.lt_succ_of_lt (Nat.lt_succ_of_lt (Nat.lt_succ_of_lt h.1))))
end
theorem sub_lt1 {k n : Nat} (h : k < n) : n - (k + 1) < n - k := Nat.sub_lt_sub_left h (Nat.lt_succ_self _)
theorem sub_lt2 {k n : Nat} (h : k < n) : n - (k + 1 + 1) < n - k := Nat.sub_lt_sub_left h (Nat.lt_succ_of_lt (Nat.lt_succ_self _))
theorem sub_succ1 {i n : Nat} (h : i < n) : n - i = n - (i + 1) + 1 := by
  rw [Nat.sub_add_eq, Nat.sub_add_cancel (Nat.sub_pos_of_lt h)]
theorem le_take {α : Type} {l : List α} {k n : Nat} (h : l.length ≤ n) : (l.take k).length ≤ n := by
  rw [List.length_take]; exact Nat.le_trans (Nat.min_le_right _ _) h
theorem le_drop {α : Type} {l : List α} {k n : Nat} (h : l.length ≤ n) : (l.drop k).length ≤ n := by
  rw [List.length_drop]; exact Nat.le_trans (Nat.sub_le _ _) h
theorem toNat_sub1 (a i : Nat) : ((a : Int) - (1 + (i : Int))).toNat = a - (i + 1) := by
  rw [Int.add_comm]; exact Int.toNat_sub a (i + 1)
theorem lts1 {a b c : Nat} (h : a < b) (hb : Nat.ble (b + 1) c = true) : a + 1 < c := Nat.lt_of_lt_of_le (Nat.succ_lt_succ h) (Nat.le_of_ble_eq_true hb)
theorem lts3 {a b c : Nat} (h : a < b) (hb : Nat.ble (b + 3) c = true) : a + 3 < c := Nat.lt_of_lt_of_le (Nat.add_lt_add_right h 3) (Nat.le_of_ble_eq_true hb)
section
variable {m : Str → Option Value} {a b c d e f : Str × Value} (h1 : m a.1 = some a.2) (h2 : m b.1 = some b.2) (h3 : m c.1 = some c.2) (h4 : m d.1 = some d.2) (h5 : m e.1 = some e.2) (h6 : m f.1 = some f.2)
include h1
theorem has1 : Has m [a] := ⟨h1, trivial⟩
include h2
theorem has2 : Has m [a, b] := ⟨h1, h2, trivial⟩
include h3
theorem has3 : Has m [a, b, c] := ⟨h1, h2, h3, trivial⟩
include h4
theorem has4 : Has m [a, b, c, d] := ⟨h1, h2, h3, h4, trivial⟩
include h5
theorem has5 : Has m [a, b, c, d, e] := ⟨h1, h2, h3, h4, h5, trivial⟩
include h6
theorem has6 : Has m [a, b, c, d, e, f] := ⟨h1, h2, h3, h4, h5, h6, trivial⟩
end
theorem hide1 {prog : Program} {w : World} {α : Type} {A : Around} {x : Sem α} {P : α → Shared → Prop} {E : Value → Shared → Prop} {s : Shared} (h : ∀ Q' : α → Shared → Prop, (∀ f s, P f s → Q' f s) → wpAny (model prog w) A x Q' E s) : wpAny (model prog w) A x P E s := h P fun _ _ h => h
theorem hide3 {prog : Program} {w : World} {α : Type} {A : Around} {x : Sem α} {y : Sem Bool} {z : Sem Value} {P1 : Value → Shared → Prop} {P2 : Shared → Prop} {E₁ E₂ E₃ : Value → Shared → Prop} {s : Shared}
    (h : ∀ (R1 : Value → Shared → Prop) (R2 : Shared → Prop), (∀ v s, P1 v s → R1 v s) → (∀ s, P2 s → R2 s) → wpAny (model prog w) A x (fun _ s₂ => wpAny (model prog w) A y (fun ok s₃ => if ok = true then wpAny (model prog w) A z R1 E₁ s₃ else R2 s₃) E₂ s₂) E₃ s) :
    wpAny (model prog w) A x (fun _ s₂ => wpAny (model prog w) A y (fun ok s₃ => if ok = true then wpAny (model prog w) A z (fun v s₄ => P1 v s₄) E₁ s₃ else P2 s₃) E₂ s₂) E₃ s := h P1 P2 (fun _ _ h => h) fun _ h => h
def Halt (P : Prop) : Prop := P
theorem Halt.out {P : Prop} (h : Halt P) : P := h
theorem Halt.mk {P : Prop} (h : P) : Halt P := h

section
variable {prog : Program} {w : World} {A : Around} {E : Value → Shared → Prop} {s : Shared}
theorem text_len {txt : List Nat} {t : Tok} {Q : Value → Shared → Prop} (hfit : txt.length ≤ 2000) (h : Q (.int (txt.length : Int) (s.toks + 1)) { s with toks := s.toks + 1 + 1 }) :
    wpAny (model prog w) A (call (.builtin "len") [.str ⟨txt.toArray⟩ t]) Q E s := by
  refine PyProof.Rows.len_str ?_ ?_
  · show ¬ ((txt.toArray.size : Int) ≥ 2 ^ 63)
    rw [List.size_toArray]; omega
  · show Q (.int ((txt.toArray.size : Nat) : Int) _) _
    rw [List.size_toArray]; exact h
theorem text_sub {value slice : PySem.Expr} {txt : List Nat} {t u : Tok} {k : Int} {Q : Value → Shared → Prop} (h0 : 0 ≤ k) (h1 : k < txt.length) (hfit : k < 2 ^ 63)
    (hs : subscripted slice false (.str ⟨txt.toArray⟩ t) (.int k u) = operate [.str ⟨txt.toArray⟩ t, .int k u] (getItem (.str ⟨txt.toArray⟩ t) (.int k u)))
    (h : ∀ c, txt[k.toNat]? = some c → Q (.str ⟨#[c]⟩ s.toks) { s with toks := s.toks + 1 }) : wpAny (model prog w) A (subscriptTail value slice (.str ⟨txt.toArray⟩ t) (.int k u)) Q E s := by
  have hk : k.toNat < txt.length := (Int.toNat_lt h0).mpr h1
  have e1 : (decide (k < -(2 ^ 63 : Int)) || decide (k ≥ 2 ^ 63)) = false := by
    rw [decide_eq_false (by omega), decide_eq_false (by omega)]; rfl
  refine tail_any (typeIs_str s _ t) F.slot_str_getitem.lookup (PySem.P.getItem_str (c := txt[k.toNat]) e1 ?_ (h _ (by simp [hk]))) hs
  unfold seqIndex?
  rw [show (⟨txt.toArray⟩ : Str).length = txt.length from List.size_toArray ..]
  simp only [show ¬ k < 0 from Int.not_lt.mpr h0, if_false]
  rw [if_pos (by simp [h0, h1])]
  simp [hk]
end
section
variable {prog : Program} {w : World} {A : Around} {E : Value → Shared → Prop} {s : Shared} {h₀ : Heap} {L l : Addr} {news D : List (Addr × Obj)}
theorem parts_sub {P : Params} {value slice : PySem.Expr} {vs : List Value} {ps : List Pc} {n : Nat} {k : Int} {u : Tok} {Q : Value → Shared → Prop} (N : News h₀ L s.heap news) (hm : (l, listOf vs.toArray n) ∈ news) (hP : All2 (PartIn P D) vs ps)
    (h0 : 0 ≤ k) (h1 : k < ps.length) (hfit : k < 2 ^ 63)
    (hs : subscripted slice false (.ref l) (.int k u) = operate [.ref l, .int k u] (getItem (.ref l) (.int k u)))
    (h : ∀ x dx t1 t2 t3 t4 v2 v3 v4 t, (x, instObj 46 dx) ∈ D → (dx, partDict P t1 t2 t3 t4 (.int (ps.getD k.toNat .any).code t) v2 v3 v4) ∈ D → PF D (.int (ps.getD k.toNat .any).code t) v2 v3 v4 (ps.getD k.toNat .any) → Q (.ref x) s) :
    wpAny (model prog w) A (subscriptTail value slice (.ref l) (.int k u)) Q E s := by
  have hk : k.toNat < ps.length := (Int.toNat_lt h0).mpr h1
  obtain ⟨v, hv, hD⟩ := hP.get (i := k.toNat) (b := ps.getD k.toNat .any) (by simp [hk])
  have hl : s.heap.IsList l vs.toArray := ⟨_, (N _ hm).1, rfl, n, rfl⟩
  obtain ⟨a, b, c⟩ := hD
  obtain ⟨t, rfl⟩ := c.code
  exact tail_any hl.typeIs slot_list_getitem.lookup (wpAny_getItem_list hl h0 hfit (by simpa using hv) (h _ _ _ _ _ _ _ _ _ _ a b c)) hs
end

structure Cx (w : World) (A₀ : Around) (base h₀ : Heap) (outer : List Env) (mg mb : Str → Option Value) (mean : ExcName → Option Value) : Prop where
  B : Below A₀ base outer h₀
  X : (hd.heap_39 w.params).In h₀
  T : Top hd.view_39 (looseW hd.view_39 []) mean mg mb h₀
end Mine
end TB2
local macro_rules | `(tactic| k_room) => `(tactic| ktr_room)
local macro_rules | `(tactic| k_all) => `(tactic| assumption)
section TC2
namespace Mine
variable {prog : Program} {w : World} {dp un : Nat} {gd : Option (List Code)} {cn : Str} {cs : Scope} {L a : Addr} {ccd : Value} {cl : List (Str × Addr)} {outer : List Env} {A₀ : Around} {base h₀ : Heap} {m mg mb : Str → Option Value} {mean : ExcName → Option Value} {s : Shared} {Q E : Value → Shared → Prop} {news D : List (Addr × Obj)}
inductive J2 (news : List (Addr × Obj)) (x : Addr) (c : Nat) (rs : List (Nat × Nat)) (i : Nat) (m : Str → Option Value) (nx : List (Addr × Obj)) : Prop
  | mk : nx = news → ∀ (t : Tok) (b : Bool), Has m [("self", .ref x), ("sign", .str ⟨#[c]⟩ t), ("inside", .bool b)] → b = ((rs.take i).any fun r => decide (r.1 ≤ c) && decide (c ≤ r.2)) → J2 news x c rs i m nx
set_option maxRecDepth 100000 in
set_option maxHeartbeats 800000 in
theorem con_takes {x dx : Addr} {t1 t2 t3 t4 : Tok} {v1 v2 v3 v4 : Value} {p : Pc} {c : Nat} {tc : Tok} (C : Cx w A₀ base h₀ outer mg mb mean) (F : Fr h₀ L s.heap m) (N : News h₀ L s.heap news) (hk : cs.kind = .function)
  (hdp : dp < 900) (hun : un < 9000) (hx : (x, instObj 46 dx) ∈ news) (hdx : (dx, partDict w.params t1 t2 t3 t4 v1 v2 v3 v4) ∈ news) (hp : PF news v1 v2 v3 v4 p) (hp0 : p ≠ .any)
  (ret : ∀ h' tk', Fr h₀ L h' m → News h₀ L h' news → Q (.bool (p.takes c)) { s with heap := h', toks := tk' }) :
  wpAny (model prog w) (ktrTop dp un gd cn cs L a ccd cl outer) (call (.ref 43) [.ref x, .str ⟨#[c]⟩ tc]) Q E s := by
  obtain ⟨B, X, T⟩ := C
  have hfoo : PySem.Challenge.rw_xm0748_01 = PySem.Challenge.rw_xm0748_01 := rfl
  revert hfoo X; k_fill; intro X hfoo
  clear hfoo
  refine wpAny_call ?_
  k_dflt ktr_enter
  refine wpAny_mono (E := NoE) ?_ (fun _ _ h => h) (fun _ _ h => h.elim)
  (try k_fold)
  rename Fr _ _ _ _ => F0
  obtain ⟨m₀, F1⟩ := ent F0 [("self", .ref x), ("sign", .str ⟨#[c]⟩ tc)] (has2 rfl rfl)
  clear F0
  cases hp with
  | any t => exact absurd rfl hp0
  | one t => k_steps; exact ret _ _ (by k_asm) (by k_asm)
  | sign c' t u =>
    k_steps
    rw [beq1]
    exact ret _ _ (by k_asm) (by k_asm)
  | @lot r vs n rs t neg hr hg hl =>
    k_steps
    rename Fr _ _ _ _ => F1
    refine for_ruleF F1 ?_
    k_steps
    rename Fr _ _ _ _ => F2
    rename News _ _ _ _ => N2
    refine .inl ⟨r, vs, n, news, _, J2 news x c rs, rfl, rfl, F2, N2, hr, .inr ⟨⟨_, _, _, rfl⟩, hg.refs⟩, ⟨rfl, tc, false, (has3 rfl rfl rfl), rfl⟩, ?_, ?_, ?_⟩
    · rintro _ _ _ ⟨rfl, _⟩; exact hr
    · rintro i v m₁ nx I oI h tk hi hv hJ0 F3 N3 off
      refine hide2 ?_
      intro Q' hQ
      obtain ⟨rfl, tc, b, hH, hb⟩ := hJ0
      obtain ⟨a, lo, hi, tl, th, nn, rfl, hrs, ha⟩ := hg.get hv
      have F4 := hH.fr F3
      clear F3
      refine unpackN_ F4 N3 ⟨_, (N3 _ (.tail _ ha)).1, rfl, _, rfl⟩ rfl rfl rfl ?_
      intro h5 F5 N5
      clear F4 N3
      have key : ((rs.take (i + 1)).any fun r => decide (r.1 ≤ c) && decide (c ≤ r.2)) = (b || (decide (lo ≤ c) && decide (c ≤ hi))) := by
        rw [List.take_add_one, hrs, hb]; simp
      k_steps
      all_goals
        refine hQ _ _ ⟨_, _, _, _, rfl, (by k_asm), (by k_asm), off, rfl, tc, _, (has3 rfl rfl rfl), ?_⟩
        rw [key]
        simp only [lt1] at *
        clear hb key hrs
        by_cases h8 : lo ≤ c <;> by_cases h9 : c ≤ hi <;> (try simp [h8, h9]) <;> omega
    · rintro m₁ nx h tk ⟨rfl, tc, b, hH, hb⟩ F3 N3
      have F4 := hH.fr F3
      clear F3
      dsimp only
      k_steps
      have e : (b != neg) = (Pc.lot rs neg).takes c := by
        rw [hb, List.take_of_length_le (Nat.le_of_eq hg.len.symm)]; rfl
      rw [e]
      exact ret _ _ (by k_asm) (by k_asm)
end Mine
end TC2
section TC3
namespace Mine
local macro_rules | `(tactic| walk_at "exec While Compare cons nil") => `(tactic| refine Halt.out ?_)
local macro_rules | `(tactic| walk_at "exec While BoolOp cons nil") => `(tactic| refine Halt.out ?_)
local macro_rules | `(tactic| walk_at "call builtin:len") => `(tactic| ((with_reducible show wpAny _ _ (call (Value.builtin "len") [Value.ref _]) _ _ _); (refine kst_len (by k_asm) (by assumption) (All2.length (by assumption)) (by omega) ?_)))
local macro_rules | `(tactic| walk_at "subscriptTail Name Name ref int") => `(tactic| (refine parts_sub (by k_asm) (by assumption) (by assumption) (by omega) (by omega) (by omega) (by with_unfolding_all rfl) ?_; intro x dx t1 t2 t3 t4 v2 v3 v4 t hx hdx hpf))
local macro_rules | `(tactic| walk_at "call builtin:len") => `(tactic| ((with_reducible show wpAny _ _ (call (Value.builtin "len") [Value.str _ _]) _ _ _); (refine text_len (by omega) ?_)))
local macro_rules | `(tactic| walk_at "subscriptTail Name Name str int") => `(tactic| (refine text_sub (by omega) (by omega) (by omega) (by with_unfolding_all rfl) ?_; intro c hc))
local macro_rules | `(tactic| walk_at "call ref") => `(tactic| ((with_reducible show wpAny _ _ (call (Value.ref 43) _) _ _ _); refine Halt.out ?_))
variable {prog : Program} {w : World} {dp un : Nat} {gd : Option (List Code)} {cn : Str} {cs : Scope} {L a : Addr} {ccd : Value} {cl : List (Str × Addr)} {outer : List Env} {A₀ : Around} {base h₀ : Heap} {m mg mb : Str → Option Value} {mean : ExcName → Option Value} {s : Shared} {Q E : Value → Shared → Prop} {news D : List (Addr × Obj)}
def bpv : Option Nat → Tok → Value
  | none, _ => .none
  | some b, t => .int (b : Int) t
inductive J3 (news : List (Addr × Obj)) (l : Addr) (txt : List Nat) (ps : List Pc) (n : Nat) (m : Str → Option Value) (nx : List (Addr × Obj)) : Prop
  | mk : nx = news → ∀ (place ta ba : Nat) (bp : Option Nat) (t1 t2 t3 t4 t5 : Tok), Has m [("parts", .ref l), ("text", .str ⟨txt.toArray⟩ t5), ("place", .int (place : Int) t1), ("at", .int (ta : Int) t2), ("back_place", bpv bp t3), ("back_at", .int (ba : Int) t4)] →
    MInv ps txt place ta bp ba → n = mu ps.length txt.length ba place → J3 news l txt ps n m nx
inductive J3b (nx₀ : List (Addr × Obj)) (l : Addr) (txt : List Nat) (ps : List Pc) (n : Nat) (m : Str → Option Value) (nx : List (Addr × Obj)) : Prop
  | mk : nx = nx₀ → ∀ (place : Nat) (t1 : Tok), Has m [("parts", .ref l), ("place", .int (place : Int) t1)] → place ≤ ps.length → (G ps txt 0 0 ↔ G ps txt place txt.length) → n = ps.length - place → J3b nx₀ l txt ps n m nx
set_option maxRecDepth 100000 in
set_option maxHeartbeats 800000 in
theorem con_matches {l : Addr} {vs : List Value} {n : Nat} {ps : List Pc} {txt : List Nat} {tt : Tok} (C : Cx w A₀ base h₀ outer mg mb mean) (F : Fr h₀ L s.heap m) (N : News h₀ L s.heap news) (hk : cs.kind = .function)
  (hdp : dp < 890) (hun : un < 8900) (hl : (l, listOf vs.toArray n) ∈ news) (hP : All2 (PartIn w.params news) vs ps) (hps : ps.length ≤ 1000) (htx : txt.length ≤ 1000)
  (ret : ∀ h' tk', Fr h₀ L h' m → News h₀ L h' news → Q (.bool (glob ps txt)) { s with heap := h', toks := tk' }) :
  wpAny (model prog w) (ktrTop dp un gd cn cs L a ccd cl outer) (call (.ref 57) [.ref l, .str ⟨txt.toArray⟩ tt]) Q E s := by
  have C' := C
  obtain ⟨B, X, T⟩ := C
  have hfoo : PySem.Challenge.rw_xm0748_01 = PySem.Challenge.rw_xm0748_01 := rfl
  revert hfoo X; k_fill; intro X hfoo
  clear hfoo
  refine wpAny_call ?_
  k_dflt ktr_enter
  refine wpAny_mono (E := NoE) ?_ (fun _ _ h => h) (fun _ _ h => h.elim)
  (try k_fold)
  rename Fr _ _ _ _ => F0
  obtain ⟨m₀, F1⟩ := ent F0 [("parts", .ref l), ("text", .str ⟨txt.toArray⟩ tt)] (has2 rfl rfl)
  clear F0
  (try dsimp only)
  k_steps
  refine Halt.mk ?_
  rename Fr _ _ _ _ => F2
  rename News _ _ _ _ => N2
  refine while_rule (J3 news l txt ps) F2 N2 ⟨rfl, 0, 0, 0, none, _, _, 0, _, tt, (has6 rfl rfl rfl rfl rfl rfl), MInv.start _ _, rfl⟩ ?_
  rintro k m₁ nx h tk Q' hQ F3 N3 ⟨rfl, place, ta, ba, bp, t1, t2, t3, t4, t5, hH, M, rfl⟩
  have F4 := hH.fr F3
  clear F3 hH F2 N2
  (try dsimp only)
  have M1 := M.hp
  have M2 := M.ha
  dsimp only [kstB] at F4
  (try dsimp only)
  k_steps
  · rename Pc.code _ = 0 => h0
    have hlt : place < ps.length := by omega
    rw [Int.toNat_natCast] at h0
    have hp := getD_at hlt
    rw [Pc.any_of h0] at hp
    exact hQ _ _ ⟨_, _, _, _, _, rfl, (by k_asm), (by k_asm), mu_any M.hba hlt, rfl, place + 1, ta, ta, some (place + 1), _, _, _, _, _, (has6 rfl rfl rfl rfl rfl rfl), M.any hp, rfl⟩
  · refine Halt.mk ?_
    rename txt[_]? = some _ => hc
    rename Pc.code _ ≠ 0 => h0
    rename PF _ _ _ _ _ _ => hpf
    rename (_, partDict _ _ _ _ _ _ _ _ _) ∈ _ => hdx
    rename (_, instObj _ _) ∈ _ => hx
    have hlt : place < ps.length := by omega
    have hp := getD_at hlt
    refine con_takes ⟨by k_asm, by k_asm, by k_asm⟩ F4 N3 rfl (lts1 (by assumption) rfl) (lts3 (by assumption) rfl) hx hdx hpf (Pc.not_any h0) ?_
    intro h5 tk5 F5 N5
    clear F4 N3
    (try dsimp only)
    k_steps
    · rename Pc.takes _ _ = true => ht
      rw [Int.toNat_natCast] at hc ht h0
      exact hQ _ _ ⟨_, _, _, _, _, rfl, (by k_asm), (by k_asm), mu_one hlt, rfl, place + 1, ta + 1, ba, bp, _, _, _, _, _, (has6 rfl rfl rfl rfl rfl rfl), M.one hp (Pc.not_any h0) hc ht, rfl⟩
    · rename Pc.takes _ _ = false => ht
      rw [Int.toNat_natCast] at hc ht h0
      have hst : ¬ G ps txt place ta := stuck_no (by omega) M1 fun p hp' => by
        obtain rfl := Option.some.inj (hp.symm.trans hp')
        refine ⟨Pc.not_any h0, fun c' hc' => ?_⟩
        obtain rfl := Option.some.inj (hc.symm.trans hc')
        exact ht
      clear hp hc ht h0 hpf hdx hx
      cases bp with
      | none =>
        dsimp only [bpv]
        k_steps
        (try dsimp only)
        k_steps
        refine hQ _ _ ?_
        dsimp only [WEnd]
        k_steps
        have e : glob ps txt = false := by
          rw [← Bool.not_eq_true, ← G_zero]
          exact M.none_no hst
        rw [e] at ret
        exact ret _ _ (by k_asm) (by k_asm)
      | some b =>
        dsimp only [bpv]
        k_steps
        exact hQ _ _ ⟨_, _, _, _, _, rfl, (by k_asm), (by k_asm), mu_back (b := b) (by have := M.hba; omega), rfl, b, ba + 1, ba + 1, some b, _, _, _, _, _, (has6 rfl rfl rfl rfl rfl rfl), M.back (by omega) hst, rfl⟩
  · have hst : ¬ G ps txt place ta := stuck_no (by omega) M1 fun p hp' => absurd (List.getElem?_eq_some_iff.mp hp').1 (by omega)
    cases bp with
    | none =>
      dsimp only [bpv]
      k_steps
      (try dsimp only)
      k_steps
      refine hQ _ _ ?_
      dsimp only [WEnd]
      k_steps
      have e : glob ps txt = false := by
        rw [← Bool.not_eq_true, ← G_zero]
        exact M.none_no hst
      rw [e] at ret
      exact ret _ _ (by k_asm) (by k_asm)
    | some b =>
      dsimp only [bpv]
      k_steps
      exact hQ _ _ ⟨_, _, _, _, _, rfl, (by k_asm), (by k_asm), mu_back (b := b) (by have := M.hba; omega), rfl, b, ba + 1, ba + 1, some b, _, _, _, _, _, (has6 rfl rfl rfl rfl rfl rfl), M.back (by omega) hst, rfl⟩
  · refine Halt.mk ?_
    obtain rfl : ta = txt.length := by omega
    refine while_rule (J3b nx l txt ps) F4 N3 ⟨rfl, place, t1, (has2 rfl rfl), M1, M.last, rfl⟩ ?_
    clear F4 N3 M M1 M2 hQ Q'
    (try dsimp only)
    rintro k m₂ nx' h' tk' Q2 hQ2 F5 N5 ⟨rfl, place, t1, hH, M1, hG, rfl⟩
    have F6 := hH.fr F5
    clear F5 hH
    (try dsimp only)
    dsimp only [kstB] at F6
    (try dsimp only)
    k_steps
    · rename Pc.code _ = 0 => h0
      have hlt : place < ps.length := by omega
      rw [Int.toNat_natCast] at h0
      have hp := getD_at hlt
      rw [Pc.any_of h0] at hp
      exact hQ2 _ _ ⟨_, _, _, _, _, rfl, (by k_asm), (by k_asm), (by omega), rfl, place + 1, _, (has2 rfl rfl), hlt, hG.trans (G_rest_any hp), rfl⟩
    · rename Pc.code _ ≠ 0 => h0
      have hlt : place < ps.length := by omega
      rw [Int.toNat_natCast] at h0
      have hp := getD_at hlt
      have e : glob ps txt = false := by
        rw [← Bool.not_eq_true, ← G_zero, hG]
        exact G_rest_no hp (Pc.not_any h0)
      k_steps
      rw [e] at ret
      first
        | (rw [show ((place : Int) == (ps.length : Int)) = true from by rw [beq_iff_eq]; omega]; exact ret _ _ (by k_asm) (by k_asm))
        | (rw [show ((place : Int) == (ps.length : Int)) = false from by rw [beq_eq_false_iff_ne]; omega]; exact ret _ _ (by k_asm) (by k_asm))
    · have e : glob ps txt = true := by
        obtain rfl : place = ps.length := by omega
        rw [← G_zero, hG]
        exact (G_end (Nat.le_refl _)).mpr rfl
      k_steps
      rw [e] at ret
      first
        | (rw [show ((place : Int) == (ps.length : Int)) = true from by rw [beq_iff_eq]; omega]; exact ret _ _ (by k_asm) (by k_asm))
        | (rw [show ((place : Int) == (ps.length : Int)) = false from by rw [beq_eq_false_iff_ne]; omega]; exact ret _ _ (by k_asm) (by k_asm))

end Mine
end TC3
section TC4
namespace Mine
variable {prog : Program} {w : World} {dp un : Nat} {gd : Option (List Code)} {cn : Str} {cs : Scope} {L a : Addr} {ccd : Value} {cl : List (Str × Addr)} {outer : List Env} {A₀ : Around} {base h₀ : Heap} {m mg mb : Str → Option Value} {mean : ExcName → Option Value} {s : Shared} {Q E : Value → Shared → Prop} {news D : List (Addr × Obj)}
abbrev srcObj (x y : Int) (t u : Tok) (n : Nat) : Obj := listOf #[.int x t, .int y u] n
/-- the source: a list of two ints -/
def IsSrc (o : Obj) : Prop := ∃ x y t u n, o = srcObj x y t u n
theorem log_small {z : Int} (h0 : 0 < z) (h1 : z ≤ 100) : z.natAbs.log2 < 9000 := by
  have : z.natAbs < 2 ^ 8 := by omega
  rcases Nat.eq_zero_or_pos z.natAbs with h | h
  · rw [h]; decide
  · have := (Nat.log2_lt (by omega)).mpr this
    omega
section
variable {prog : Program} {w : World} {A : Around} {E : Value → Shared → Prop} {s : Shared} {h₀ : Heap} {L sa : Addr} {m : Str → Option Value} {news : List (Addr × Obj)} {x y : Int} {t u k : Tok} {n : Nat}
theorem src_sub0 {value slice : PySem.Expr} {Q : Value → Shared → Prop} (N : News h₀ L s.heap news) (hm : (sa, srcObj x y t u n) ∈ news) (h : Q (.int x t) s)
    (hs : subscripted slice false (.ref sa) (.int 0 k) = operate [.ref sa, .int 0 k] (getItem (.ref sa) (.int 0 k))) :
    wpAny (model prog w) A (subscriptTail value slice (.ref sa) (.int 0 k)) Q E s :=
  have hl : s.heap.IsList sa #[.int x t, .int y u] := ⟨_, (N _ hm).1, rfl, n, rfl⟩
  tail_any hl.typeIs slot_list_getitem.lookup (wpAny_getItem_list hl (by decide) (by decide) rfl h) hs
theorem src_sub1 {value slice : PySem.Expr} {Q : Value → Shared → Prop} (N : News h₀ L s.heap news) (hm : (sa, srcObj x y t u n) ∈ news) (h : Q (.int y u) s)
    (hs : subscripted slice false (.ref sa) (.int 1 k) = operate [.ref sa, .int 1 k] (getItem (.ref sa) (.int 1 k))) :
    wpAny (model prog w) A (subscriptTail value slice (.ref sa) (.int 1 k)) Q E s :=
  have hl : s.heap.IsList sa #[.int x t, .int y u] := ⟨_, (N _ hm).1, rfl, n, rfl⟩
  tail_any hl.typeIs slot_list_getitem.lookup (wpAny_getItem_list hl (by decide) (by decide) rfl h) hs
theorem src_set0 {z : Int} {v : Tok} {D : List (Addr × Obj)} {Q : Unit → Shared → Prop} (F : Fr h₀ L s.heap m) (N : News h₀ L s.heap ((sa, srcObj x y t u n) :: D)) (hD : ∀ p ∈ D, p.1 ≠ sa)
    (h : ∀ h', Fr h₀ L h' m → News h₀ L h' ((sa, srcObj z y v u n) :: D) → Q () { s with heap := h' }) : wpAny (model prog w) A (setItem (.ref sa) (.int 0 k) (.int z v)) Q E s :=
  ki_set F N (by decide) (by decide) (q := [.int z v, .int y u]) rfl (Upd.head hD) h
theorem src_set1 {z : Int} {v : Tok} {D : List (Addr × Obj)} {Q : Unit → Shared → Prop} (F : Fr h₀ L s.heap m) (N : News h₀ L s.heap ((sa, srcObj x y t u n) :: D)) (hD : ∀ p ∈ D, p.1 ≠ sa)
    (h : ∀ h', Fr h₀ L h' m → News h₀ L h' ((sa, srcObj x z t v n) :: D) → Q () { s with heap := h' }) : wpAny (model prog w) A (setItem (.ref sa) (.int 1 k) (.int z v)) Q E s :=
  ki_set F N (by decide) (by decide) (q := [.int x t, .int z v]) rfl (Upd.head hD) h
theorem mul_sq {z : Int} {a b : Tok} {Q : Value → Shared → Prop} (h0 : 0 ≤ z) (h1 : z < 2147483647) (h : Q (.int (z * z) s.toks) { s with toks := s.toks + 1 }) : wpAny (model prog w) A (binaryOp .Mult (.int z a) (.int z b)) Q E s :=
  mul_int h (PySem.IntMulOk.of_right (PySem.intBits_le_64 (by omega) (by omega)))
end
/-- the ledger with one object aside, and back -/
theorem upd_in {h₀ h : Heap} {L sa : Addr} {o : Obj} {news : List (Addr × Obj)} {g : Obj → List (Addr × Obj)} (N : News h₀ L h news) (U : UpdF sa o news g) :
    ∃ D, News h₀ L h ((sa, o) :: D) ∧ (∀ p ∈ D, p.1 ≠ sa) ∧ (∀ p ∈ news, p.1 ≠ sa → p ∈ D) ∧ (∀ p ∈ D, ∀ o', p ∈ g o') ∧ ∀ h' L' g' o', News g' L' h' ((sa, o') :: D) → News g' L' h' (g o') := by
  obtain ⟨pre, post, rfl, hg, h1, h2⟩ := U.split
  refine ⟨pre ++ post, nsub N (fun p hp => ?_), fun p hp => ?_, fun p hp hne => ?_, fun p hp o' => ?_, fun h' L' g' o' N' => ?_⟩
  · rcases List.mem_cons.mp hp with rfl | hp
    · simp
    · rcases List.mem_append.mp hp with hp | hp
      · exact List.mem_append.mpr (.inl hp)
      · exact List.mem_append.mpr (.inr (.tail _ hp))
  · rcases List.mem_append.mp hp with hp | hp
    · exact h1 p hp
    · exact h2 p hp
  · rcases List.mem_append.mp hp with hp | hp
    · exact List.mem_append.mpr (.inl hp)
    · rcases List.mem_cons.mp hp with rfl | hp
      · exact absurd rfl hne
      · exact List.mem_append.mpr (.inr hp)
  · rw [hg]
    rcases List.mem_append.mp hp with hp | hp <;> simp [hp]
  · rw [hg]
    refine nsub N' fun p hp => ?_
    rcases List.mem_append.mp hp with hp | hp
    · exact .tail _ (List.mem_append.mpr (.inl hp))
    · rcases List.mem_cons.mp hp with rfl | hp
      · exact .head _
      · exact .tail _ (List.mem_append.mpr (.inr hp))
section
local macro_rules | `(tactic| walk_at "subscriptTail Name Constant ref int") => `(tactic| (first | ((with_reducible show wpAny _ _ (subscriptTail _ _ (Value.ref _) (Value.int 0 _)) _ _ _); refine src_sub0 (by k_asm) (by k_mem) ?_ (by with_unfolding_all rfl)) | ((with_reducible show wpAny _ _ (subscriptTail _ _ (Value.ref _) (Value.int 1 _)) _ _ _); refine src_sub1 (by k_asm) (by k_mem) ?_ (by with_unfolding_all rfl))))
local macro_rules | `(tactic| walk_at "setItem ref int") => `(tactic| ((first | ((with_reducible show wpAny _ _ (setItem (Value.ref _) (Value.int 0 _) (Value.int _ _)) _ _ _); refine src_set0 (by k_asm) (by k_asm) (by k_asm) ?_) | ((with_reducible show wpAny _ _ (setItem (Value.ref _) (Value.int 1 _) (Value.int _ _)) _ _ _); refine src_set1 (by k_asm) (by k_asm) (by k_asm) ?_)); intro h' F' N'))
local macro_rules | `(tactic| walk_at "binaryOp FloorDiv int int") => `(tactic| ((with_reducible refine floordiv_int ?kbe ?_ (Or.inl (PyProof.noPylong_of_log2 ?kbp))); (case kbe => omega); (case kbp => first | decide | exact log_small (by assumption) (by assumption))))
local macro_rules | `(tactic| walk_at "binaryOp Mult int int") => `(tactic| ((with_reducible refine mul_sq ?ka ?kb ?_); (case ka => exact Int.fmod_nonneg_of_pos _ (by decide)); (case kb => exact Int.fmod_lt_of_pos _ (by decide))))
set_option maxRecDepth 100000 in
set_option maxHeartbeats 800000 in
theorem con_take {sa : Addr} {o : Obj} {g : Obj → List (Addr × Obj)} {top : Int} {tt : Tok} (C : Cx w A₀ base h₀ outer mg mb mean) (F : Fr h₀ L s.heap m) (N : News h₀ L s.heap news) (U : UpdF sa o news g) (ho : IsSrc o) (hk : cs.kind = .function)
  (hdp : dp < 900) (hun : un < 9000) (htop : 0 < top) (htop2 : top ≤ 100)
  (ret : ∀ v tv o' h' tk', 0 ≤ v → v < top → IsSrc o' → Fr h₀ L h' m → News h₀ L h' (g o') → Q (.int v tv) { s with heap := h', toks := tk' }) :
  wpAny (model prog w) (ktrTop dp un gd cn cs L a ccd cl outer) (call (.ref 78) [.ref sa, .int top tt]) Q E s := by
  obtain ⟨B, X, T⟩ := C
  obtain ⟨D, N1, hD, _, _, back⟩ := upd_in N U
  obtain ⟨x, y, t, u, n, rfl⟩ := ho
  clear N U
  have hfoo : PySem.Challenge.rw_xm0748_01 = PySem.Challenge.rw_xm0748_01 := rfl
  revert hfoo X; k_fill; intro X hfoo
  clear hfoo
  refine wpAny_call ?_
  k_dflt ktr_enter
  refine wpAny_mono (E := NoE) ?_ (fun _ _ h => h) (fun _ _ h => h.elim)
  (try k_fold)
  rename Fr _ _ _ _ => F0
  obtain ⟨m₀, F1⟩ := ent F0 [("source", .ref sa), ("top", .int top tt)] (has2 rfl rfl)
  clear F0
  dsimp only [kstB] at F1
  k_steps
  all_goals exact ret _ _ _ _ _ (Int.fmod_nonneg_of_pos _ htop) (Int.fmod_lt_of_pos _ htop) ⟨_, _, _, _, _, rfl⟩ (by k_asm) (back _ _ _ _ (by k_asm))
end

theorem allLt_ne {d c : Addr} (h : AllLt d D) (hc : @LE.le Nat _ d c) : ∀ p ∈ D, p.1 ≠ c := fun p hp => Nat.ne_of_lt (Nat.lt_of_lt_of_le (kst_ltOf h p hp) hc)

section
variable {prog : Program} {A : Around} {E : Value → Shared → Prop} {s : Shared} {l : Addr}
theorem vals_sub {value slice : PySem.Expr} {vs : List Value} {n : Nat} {k : Int} {u : Tok} {Q : Value → Shared → Prop} (N : News h₀ L s.heap news) (hm : (l, listOf vs.toArray n) ∈ news)
    (h0 : 0 ≤ k) (h1 : k < vs.length) (hfit : k < 2 ^ 63)
    (hs : subscripted slice false (.ref l) (.int k u) = operate [.ref l, .int k u] (getItem (.ref l) (.int k u)))
    (h : ∀ v, vs[k.toNat]? = some v → Q v s) : wpAny (model prog w) A (subscriptTail value slice (.ref l) (.int k u)) Q E s := by
  have hk : k.toNat < vs.length := (Int.toNat_lt h0).mpr h1
  have hl : s.heap.IsList l vs.toArray := ⟨_, (N _ hm).1, rfl, n, rfl⟩
  exact tail_any hl.typeIs slot_list_getitem.lookup (wpAny_getItem_list hl h0 hfit (x := vs[k.toNat]) (by simp [hk]) (h _ (by simp [hk]))) hs
end
section
local macro_rules | `(tactic| walk_at "call builtin:len") => `(tactic| ((with_reducible show wpAny _ _ (call (Value.builtin "len") [Value.ref _]) _ _ _); (refine kst_len (by k_asm) (by first | assumption | exact List.Mem.tail _ (by assumption)) rfl (by omega) ?_)))
local macro_rules | `(tactic| walk_at "call ref") => `(tactic| (refine Halt.out ?_))
local macro_rules | `(tactic| walk_at "subscriptTail Name Call ref int") => `(tactic| (refine vals_sub (by k_asm) (List.Mem.tail _ (by assumption)) (by omega) (by omega) (by omega) (by with_unfolding_all rfl) ?_; intro v hv))
set_option maxRecDepth 100000 in
set_option maxHeartbeats 800000 in
theorem con_one {sa l : Addr} {o : Obj} {g : Obj → List (Addr × Obj)} {vs : List Value} {n : Nat} (C : Cx w A₀ base h₀ outer mg mb mean) (F : Fr h₀ L s.heap m) (N : News h₀ L s.heap news) (U : UpdF sa o news g) (ho : IsSrc o) (hk : cs.kind = .function)
  (hdp : dp < 890) (hun : un < 8900) (hl : (l, listOf vs.toArray n) ∈ news) (hne : l ≠ sa) (hv0 : 0 < vs.length) (hv1 : vs.length ≤ 100)
  (ret : ∀ (i : Nat) v o' h' tk', vs[i]? = some v → IsSrc o' → Fr h₀ L h' m → News h₀ L h' (g o') → Q v { s with heap := h', toks := tk' }) :
  wpAny (model prog w) (ktrTop dp un gd cn cs L a ccd cl outer) (call (.ref 85) [.ref sa, .ref l]) Q E s := by
  obtain ⟨B, X, T⟩ := C
  obtain ⟨D, N1, hD, hin, _, back⟩ := upd_in N U
  have hlD := hin _ hl hne
  clear N U hl
  have hfoo : PySem.Challenge.rw_xm0748_01 = PySem.Challenge.rw_xm0748_01 := rfl
  revert hfoo X; k_fill; intro X hfoo
  clear hfoo
  refine wpAny_call ?_
  k_dflt ktr_enter
  refine wpAny_mono (E := NoE) ?_ (fun _ _ h => h) (fun _ _ h => h.elim)
  (try k_fold)
  rename Fr _ _ _ _ => F0
  obtain ⟨m₀, F1⟩ := ent F0 [("source", .ref sa), ("things", .ref l)] (has2 rfl rfl)
  clear F0
  dsimp only [kstB] at F1
  k_steps
  refine Halt.mk ?_
  rename Fr _ _ _ _ => F2
  rename News _ _ _ _ => N2
  refine con_take ⟨by k_asm, by k_asm, by k_asm⟩ F2 N2 (by k_updF) (by assumption) rfl (lts1 hdp rfl) (lts3 hun rfl) (by omega) (by omega) ?_
  intro v tv o' h' tk' hv0 hv1 ho' F' N'
  (try dsimp only at N')
  clear F2 N2
  k_steps
  rename _[_]? = some _ => hvv
  exact ret _ _ _ _ _ hvv (by assumption) (by k_asm) (back _ _ _ _ (by k_asm))
end
end Mine
end TC4
section TB3
set_option maxHeartbeats 2000000
namespace Mine
open LCg (NsObj lst ns_obj lst_snoc)
section
variable {prog : Program} {w : World} {A : Around} {E : Value → Shared → Prop} {s : Shared} {h₀ : Heap} {L I C : Addr} {m m₂ : Str → Option Value} {env : Env} {scope : Scope} {cl : List (Str × Addr)} {oI oC : Obj} {rest : List (Addr × Obj)}
theorem comp_store {x : Str} {v : Value} {Q : Unit → Shared → Prop} (F : Fr h₀ L s.heap m) (N : News h₀ L s.heap ((I, oI) :: (C, oC) :: rest)) (hoC : NsObj oC m₂) (hIC : I ≠ C) (hr : ∀ p ∈ rest, p.1 ≠ C)
    (hx : (compEnvC scope cl C env).kindOf x = some .local) (hk : scope.kind = .function)
    (h : ∀ h' oC', Fr h₀ L h' m → NsObj oC' (fun y => if y = x then some v else m₂ y) → News h₀ L h' ((I, oI) :: (C, oC') :: rest) → Q () { s with heap := h', toks := s.toks + 1 }) :
    wpAny (model prog w) A (storeName (compEnvC scope cl C env) x v) Q E s := by
  have zC := N (C, oC) (.tail _ (.head _))
  refine wpAny_storeName_local hx (show s.heap.Ns C m₂ from hoC.ns zC.1) (fun h' hn hs => ?_) (by simp [compEnvC, relabel, hk])
  obtain ⟨oC', e', hoC'⟩ := ns_obj hn
  have hs : Heap.SameBut C s.heap h' := hs
  refine h h' oC' (F.change hs zC.2.1 zC.2.2) hoC' fun p hp => ?_
  rcases List.mem_cons.mp hp with rfl | hp
  · have z := N (I, oI) (.head _)
    exact ⟨hs.extBut _ _ hIC z.1, z.2⟩
  · rcases List.mem_cons.mp hp with rfl | hp
    · exact ⟨e', zC.2⟩
    · have z := N p (.tail _ (.tail _ hp))
      exact ⟨hs.extBut _ _ (hr p hp) z.1, z.2⟩
theorem comp_one {x : Str} {px : Pos} {v : Value} {Q : Unit → Shared → Prop} (F : Fr h₀ L s.heap m) (N : News h₀ L s.heap ((I, oI) :: (C, oC) :: rest)) (hoC : NsObj oC m₂) (hIC : I ≠ C) (hr : ∀ p ∈ rest, p.1 ≠ C)
    (hx : (compEnvC scope cl C env).kindOf x = some .local) (hk : scope.kind = .function)
    (h : ∀ h' tk' oC' m₃, Fr h₀ L h' m → NsObj oC' m₃ → m₃ x = some v → News h₀ L h' ((I, oI) :: (C, oC') :: rest) → Q () { s with heap := h', toks := tk' }) :
    wpAny (model prog w) A (assign (.Name x px) (compEnvC scope cl C env) v) Q E s :=
  wpAny_assign_Name (comp_store F N hoC hIC hr hx hk fun h' oC' F' n' N' => h h' _ oC' _ F' n' (by simp) N')
theorem comp_two {x x₂ : Str} {px px₂ tp : Pos} {tk nn : Nat} {a : Addr} {v v₂ : Value} {Q : Unit → Shared → Prop} (F : Fr h₀ L s.heap m) (N : News h₀ L s.heap ((I, oI) :: (C, oC) :: rest)) (hoC : NsObj oC m₂) (hIC : I ≠ C) (hr : ∀ p ∈ rest, p.1 ≠ C)
    (ha : (a, ({ cls := .type "tuple", data := .seq #[v, v₂] nn } : Obj)) ∈ rest) (hh : A.handled = none)
    (hx : (compEnvC scope cl C env).kindOf x = some .local) (hx₂ : (compEnvC scope cl C env).kindOf x₂ = some .local) (hxx : x ≠ x₂) (hk : scope.kind = .function)
    (h : ∀ h' tk' oC' m₃, Fr h₀ L h' m → NsObj oC' m₃ → m₃ x = some v → m₃ x₂ = some v₂ → News h₀ L h' ((I, oI) :: (C, oC') :: rest) → Q () { s with heap := h', toks := tk' }) :
    wpAny (model prog w) A (assign (.Tuple [.Name x px, .Name x₂ px₂] tk tp) (compEnvC scope cl C env) (.ref a)) Q E s := by
  refine unpackN_ F N ⟨_, (N _ (.tail _ (.tail _ ha))).1, rfl, _, rfl⟩ hh rfl rfl fun h1 F1 N1 => ?_
  refine assignInOrder_cons (wpAny_assign_Name (comp_store F1 N1 hoC hIC hr hx hk fun h2 oC2 F2 n2 N2 => ?_))
  refine assignInOrder_cons (wpAny_assign_Name (comp_store F2 N2 n2 hIC hr hx₂ hk fun h3 oC3 F3 n3 N3 => ?_))
  exact assignInOrder_nil (h h3 _ oC3 _ F3 n3 (by simp [hxx]) (by simp) N3)
theorem comp_four {x x₂ x₃ x₄ : Str} {px px₂ px₃ px₄ tp : Pos} {tk nn : Nat} {a : Addr} {v v₂ v₃ v₄ : Value} {Q : Unit → Shared → Prop} (F : Fr h₀ L s.heap m) (N : News h₀ L s.heap ((I, oI) :: (C, oC) :: rest)) (hoC : NsObj oC m₂) (hIC : I ≠ C) (hr : ∀ p ∈ rest, p.1 ≠ C)
    (ha : (a, ({ cls := .type "tuple", data := .seq #[v, v₂, v₃, v₄] nn } : Obj)) ∈ rest) (hh : A.handled = none)
    (hx : (compEnvC scope cl C env).kindOf x = some .local) (hx₂ : (compEnvC scope cl C env).kindOf x₂ = some .local) (hx₃ : (compEnvC scope cl C env).kindOf x₃ = some .local) (hx₄ : (compEnvC scope cl C env).kindOf x₄ = some .local)
    (hxx : x ≠ x₂ ∧ x ≠ x₃ ∧ x ≠ x₄ ∧ x₂ ≠ x₃ ∧ x₂ ≠ x₄ ∧ x₃ ≠ x₄) (hk : scope.kind = .function)
    (h : ∀ h' tk' oC' m₃, Fr h₀ L h' m → NsObj oC' m₃ → m₃ x = some v → m₃ x₂ = some v₂ → m₃ x₃ = some v₃ → m₃ x₄ = some v₄ → News h₀ L h' ((I, oI) :: (C, oC') :: rest) → Q () { s with heap := h', toks := tk' }) :
    wpAny (model prog w) A (assign (.Tuple [.Name x px, .Name x₂ px₂, .Name x₃ px₃, .Name x₄ px₄] tk tp) (compEnvC scope cl C env) (.ref a)) Q E s := by
  refine unpackN_ F N ⟨_, (N _ (.tail _ (.tail _ ha))).1, rfl, _, rfl⟩ hh rfl rfl fun h1 F1 N1 => ?_
  refine assignInOrder_cons (wpAny_assign_Name (comp_store F1 N1 hoC hIC hr hx hk fun h2 oC2 F2 n2 N2 => ?_))
  refine assignInOrder_cons (wpAny_assign_Name (comp_store F2 N2 n2 hIC hr hx₂ hk fun h3 oC3 F3 n3 N3 => ?_))
  refine assignInOrder_cons (wpAny_assign_Name (comp_store F3 N3 n3 hIC hr hx₃ hk fun h4 oC4 F4 n4 N4 => ?_))
  refine assignInOrder_cons (wpAny_assign_Name (comp_store F4 N4 n4 hIC hr hx₄ hk fun h5 oC5 F5 n5 N5 => ?_))
  exact assignInOrder_nil (h h5 _ oC5 _ F5 n5 (by simp [hxx]) (by simp [hxx]) (by simp [hxx]) (by simp) N5)

theorem comp_evalF {elt target iter : PySem.Expr} {ifs : List PySem.Expr} {pos : Pos} {Q : Value → Shared → Prop} (uF : Fr h₀ L s.heap m)
    (hclos : closureFor scope env = pure cl) (hcell : ∀ y ∈ scope.names, y.2 ≠ .cell) (hkind : scope.kind = .function)
    (hnames : ∀ y ∈ scope.names, y.2 = .local → scope.names.lookup y.1 = some .local) (hs : ∀ x, foldedSetIterable iter env x = pure x)
    (h : wpAny (model prog w) A (eval iter env) (GSrc prog w A h₀ L m (fun C => compEnvC scope cl C env) elt target ifs (FinE h₀ L m Q)) E s) :
    wpAny (model prog w) A (eval (.ListComp elt [⟨target, iter, ifs, 0⟩] scope pos) env) Q E s := comp_eval hclos hcell hkind hnames h hs
theorem comp_assignF {elt target iter : PySem.Expr} {ifs : List PySem.Expr} {y : Str} {py pos spos : Pos} {Q : Flow → Shared → Prop} (uF : Fr h₀ L s.heap m) (hLe : env.locals = L)
    (hsw : swapsWith (.ListComp elt [⟨target, iter, ifs, 0⟩] scope pos) (some (.Name y py)) spos.line env = pure true)
    (hclos : closureFor scope env = pure cl) (hcell : ∀ z ∈ scope.names, z.2 ≠ .cell) (hkind : scope.kind = .function)
    (hnames : ∀ z ∈ scope.names, z.2 = .local → scope.names.lookup z.1 = some .local)
    (hy : env.kindOf y = some .local) (hp : (env.scope.kind == .class || (env.scope.kind == .module && env.locals != env.globals)) = false) (hs : ∀ x, foldedSetIterable iter env x = pure x)
    (h : wpAny (model prog w) A (eval iter env) (GSrc prog w A h₀ L m (fun C => compEnvC scope cl C env) elt target ifs (FinA h₀ L m y Q)) E s) :
    wpAny (model prog w) A (exec (.Assign [.Name y py] (.ListComp elt [⟨target, iter, ifs, 0⟩] scope pos) spos) env) Q E s := comp_assign hLe hsw hclos hcell hkind hnames hy hp h hs

theorem tup_sub {value slice : PySem.Expr} {vs : List Value} {n a : Nat} {k : Int} {u : Tok} {v : Value} {news : List (Addr × Obj)} {Q : Value → Shared → Prop} (N : News h₀ L s.heap news) (hm : (a, ({ cls := .type "tuple", data := .seq vs.toArray n } : Obj)) ∈ news)
    (h0 : 0 ≤ k) (hfit : k < 2 ^ 63) (hv : vs[k.toNat]? = some v) (hs : subscripted slice false (.ref a) (.int k u) = operate [.ref a, .int k u] (getItem (.ref a) (.int k u))) (h : Q v s) :
    wpAny (model prog w) A (subscriptTail value slice (.ref a) (.int k u)) Q E s := by
  have hlt : k.toNat < vs.length := (List.getElem?_eq_some_iff.mp hv).1
  refine item_tupleT (l := vs) ⟨_, (N _ hm).1, rfl, n, rfl⟩ (by omega) hfit (j := k.toNat) ?_ hv h hs
  unfold seqIndex?
  simp only [show ¬ k < 0 from Int.not_lt.mpr h0, if_false]
  rw [if_pos (by simp; omega)]
end
/-- a piece as it lies -/
inductive PieceIn (D : List (Addr × Obj)) : Value → Pc → Prop
  | mk {a : Addr} {n : Nat} {v1 v2 v3 v4 : Value} {p : Pc} : (a, ({ cls := .type "tuple", data := .seq [v1, v2, v3, v4].toArray n } : Obj)) ∈ D → PF D v1 v2 v3 v4 p → PieceIn D (.ref a) p
theorem PieceIn.mono {D D' : List (Addr × Obj)} (hs : ∀ p ∈ D, p ∈ D') {v : Value} {p : Pc} (h : PieceIn D v p) : PieceIn D' v p := by
  obtain ⟨a, b⟩ := h
  exact .mk (hs _ a) (b.mono hs)
end Mine
end TB3
local macro_rules | `(tactic| walk_at "m_mem") => `(tactic| first | assumption | (refine List.Mem.tail _ ?_; walk_at "m_mem"))
local macro_rules | `(tactic| walk_at "subscriptTail Name Constant ref int") => `(tactic| k_dflt (refine Mine.tup_sub (by k_asm) (by walk_at "m_mem") (by decide) (by decide) rfl (by with_unfolding_all rfl) ?_))
local macro_rules | `(tactic| walk_at "exec Assign cons ListComp") => `(tactic| (refine Mine.Halt.out ?_))
section TC5
namespace Mine
variable {prog : Program} {w : World} {dp un : Nat} {gd : Option (List Code)} {cn : Str} {cs : Scope} {L a : Addr} {ccd : Value} {cl : List (Str × Addr)} {outer : List Env} {A₀ : Around} {base h₀ : Heap} {m mg mb : Str → Option Value} {mean : ExcName → Option Value} {s : Shared} {Q E : Value → Shared → Prop} {news D : List (Addr × Obj)}
theorem m_ints_snoc {i : Int} {t : Tok} {vs : List Value} {ns : List Int} (h : IntsAre vs ns) : IntsAre (vs ++ [.int i t]) (ns ++ [i]) := by
  induction h with
  | nil => exact .cons _ _ .nil
  | cons a b _ ih => exact .cons _ _ ih
section
local macro_rules | `(tactic| walk_at "compareOp Eq ref ref") => `(tactic| (refine Halt.out ?_))
inductive J5 (NW : List (Addr × Obj)) (rs : List (Nat × Nat)) (c i : Nat) (ys : List Value) (nx : List (Addr × Obj)) : Prop
  | mk : nx = NW → ys.length ≤ i → ∀ ns : List Int, IntsAre ys ns → (ns = [] ↔ ((rs.take i).any fun r => decide (r.1 ≤ c) && decide (c ≤ r.2)) = false) → J5 NW rs c i ys nx
set_option maxRecDepth 100000 in
set_option maxHeartbeats 800000 in
theorem con_stands {pa : Addr} {nn : Nat} {v1 v2 v3 v4 : Value} {p : Pc} {c : Nat} {tc : Tok} (C : Cx w A₀ base h₀ outer mg mb mean) (F : Fr h₀ L s.heap m) (N : News h₀ L s.heap news) (hk : cs.kind = .function)
  (hdp : dp < 890) (hun : un < 8900) (hpa : (pa, ({ cls := .type "tuple", data := .seq [v1, v2, v3, v4].toArray nn } : Obj)) ∈ news) (hp : PF news v1 v2 v3 v4 p) (hp0 : p ≠ .any)
  (ret : ∀ h' tk', Fr h₀ L h' m → News h₀ L h' news → Q (.bool (p.takes c)) { s with heap := h', toks := tk' }) :
  wpAny (model prog w) (ktrTop dp un gd cn cs L a ccd cl outer) (call (.ref 90) [.ref pa, .str ⟨#[c]⟩ tc]) Q E s := by
  obtain ⟨B, X, T⟩ := C
  obtain ⟨ck, cnames, cg, cco, cmore⟩ := cs
  dsimp only at hk
  subst hk
  have hfoo : PySem.Challenge.rw_xm0748_01 = PySem.Challenge.rw_xm0748_01 := rfl
  revert hfoo X; k_fill; intro X hfoo
  clear hfoo
  refine wpAny_call ?_
  k_enter
  refine wpAny_mono (E := NoE) ?_ (fun _ _ h => h) (fun _ _ h => h.elim)
  (try k_fold)
  rename Fr _ _ _ _ => F0
  obtain ⟨m₀, F1⟩ := ent F0 [("piece", .ref pa)] (has1 rfl)
  clear F0
  (try dsimp only)
  dsimp only [kstB] at F1
  (try dsimp only)
  rename Obj.data _ = _ => d0
  rename News _ _ _ _ => N1
  cases hp with
  | any t => exact absurd rfl hp0
  | one t =>
    k_steps
    rename News _ _ _ _ => N2
    exact ret _ _ (by k_asm) (nsub N2 fun p hp => .tail _ hp)
  | sign c' t u =>
    k_steps
    rename News _ _ _ _ => N2
    rw [beq1]
    exact ret _ _ (by k_asm) (nsub N2 fun p hp => .tail _ hp)
  | @lot r vs n rs t neg hr hg hl =>
    k_steps
    refine Halt.mk ?_
    refine comp_assignF F1 rfl (by with_unfolding_all rfl) (by with_unfolding_all rfl) (by decide) rfl (by decide) rfl rfl (by intro _; rfl) ?_
    k_steps
    rename Fr _ _ _ _ => F2
    rename News _ _ _ _ => N2
    generalize hNW : (_ :: news) = NW at N2
    have hin : ∀ p ∈ news, p ∈ NW := fun p hp => hNW ▸ List.Mem.tail _ hp
    refine .inl ⟨r, vs, n, NW, J5 NW rs c, rfl, rfl, F2, N2, hin _ hr, by rw [hg.len, sizeLine_eq]; omega, .inr ⟨⟨_, _, _, rfl⟩, hg.refs⟩, ⟨rfl, Nat.le_refl _, [], .nil, by simp⟩, ?_, ?_, ?_, ?_⟩
    · rintro i ys nx ⟨_, h, _⟩; exact h
    · rintro i ys nx ⟨rfl, _⟩; exact hin _ hr
    · rintro i v ys nx I oI oC C D m₂ h tk E' hi hv hJ0 hoC F3 N3 off h1 h2 h3
      refine hide3 ?_
      intro R1 R2 hR1 hR2
      obtain ⟨rfl, hlen, ns, hns, hys⟩ := hJ0
      obtain ⟨a, lo, hi, tl, th, n9, rfl, hrs, ha⟩ := hg.get hv
      refine comp_two F3 N3 hoC h1 ?_ (.tail _ (hin _ ha)) rfl rfl rfl (by decide) rfl ?_
      · intro p hp
        rcases List.mem_cons.mp hp with rfl | hp
        · exact Ne.symm h3
        · exact (off p hp).2.1
      intro h4 tk4 oC4 m₄ F4 n4 hlow hhigh N4
      clear F3 N3 hoC
      (try dsimp only)
      refine wpAny_tests_one ?_
      subst hNW
      have key : ((rs.take (i + 1)).any fun r => decide (r.1 ≤ c) && decide (c ≤ r.2)) = (((rs.take i).any fun r => decide (r.1 ≤ c) && decide (c ≤ r.2)) || (decide (lo ≤ c) && decide (c ≤ hi))) := by
        rw [List.take_add_one, hrs]; simp
      k_steps
      · refine hR1 _ _ ⟨_, _, _, _, _, rfl, (by k_asm), n4, (by k_asm), off, rfl, by rw [List.length_append, List.length_singleton]; omega, ns ++ [1], ?_, ?_⟩
        · exact m_ints_snoc hns
        · rw [key]
          have : decide (lo ≤ c) = true := by rw [decide_eq_true_eq]; omega
          have : decide (c ≤ hi) = true := by rw [decide_eq_true_eq]; omega
          simp [*]
      all_goals
        refine hR2 _ ⟨_, _, _, _, _, rfl, (by k_asm), n4, (by k_asm), off, rfl, by omega, ns, hns, ?_⟩
        rw [key, hys]
        have : (decide (lo ≤ c) && decide (c ≤ hi)) = false := by
          rw [Bool.and_eq_false_iff, decide_eq_false_iff_not, decide_eq_false_iff_not]; omega
        rw [this, Bool.or_false]
    · rintro D ys nx h tk ⟨rfl, hlen, ns, hns, hys⟩ N5 off5 F5
      clear F2 N2
      (try dsimp only)
      (try dsimp only)
      k_steps
      refine Halt.mk ?_
      rename News _ _ _ _ => N6
      have N7 := N6
      simp only [List.mem_cons, forall_eq_or_imp, News] at N7
      refine ke_eq_ints (ys := []) ⟨_, N7.2.1.1, rfl, _, rfl⟩ ⟨_, N7.1.1, rfl, _, rfl⟩ hns .nil (by have := cLine_is; dsimp only [ktrTop, Around.deeper]; omega) ?_
      clear N7
      (try dsimp only)
      subst hNW
      k_steps
      rename News _ _ _ _ => N8
      have e : (decide (ns = []) == neg) = (Pc.lot rs neg).takes c := by
        show _ = ((rs.any fun r => decide (r.1 ≤ c) && decide (c ≤ r.2)) != neg)
        rw [List.take_of_length_le (Nat.le_of_eq hg.len.symm)] at hys
        cases hb : (rs.any fun r => decide (r.1 ≤ c) && decide (c ≤ r.2)) with
        | false => rw [decide_eq_true (hys.mpr hb)]; cases neg <;> rfl
        | true => rw [decide_eq_false (fun h => by rw [hys.mp h] at hb; cases hb)]; cases neg <;> rfl
      rw [e]
      exact ret _ _ (by k_asm) (nsub N8 fun p hp => .tail _ (.tail _ (.tail _ hp)))
end
end Mine
end TC5
section TP2
namespace Mine
/-- the places of the text from which the parts from j on stand for the rest -/
structure PInv (ps : List Pc) (t : List Nat) (j : Nat) (ns : List Int) : Prop where
  mem : ∀ k : Int, k ∈ ns ↔ 0 ≤ k ∧ k ≤ t.length ∧ G ps t j k.toNat
  len : ns.length ≤ t.length + 1
theorem PInv.start (ps : List Pc) (t : List Nat) : PInv ps t ps.length [(t.length : Int)] := by
  refine ⟨fun k => ?_, by simp⟩
  rw [List.mem_singleton]
  constructor
  · rintro rfl
    refine ⟨by omega, Int.le_refl _, ?_⟩
    rw [Int.toNat_natCast]
    exact (G_end (Nat.le_refl _)).mpr rfl
  · rintro ⟨h0, h1, g⟩
    have := (G_end (by omega)).mp g
    omega
def upTo (M : Int) : List Int := (List.range (M + 1).toNat).map fun (i : Nat) => (0 : Int) + (i : Int)
theorem mem_upTo {M k : Int} : k ∈ upTo M ↔ 0 ≤ k ∧ k ≤ M := by
  unfold upTo
  rw [List.mem_map]
  constructor
  · rintro ⟨i, hi, rfl⟩
    rw [List.mem_range] at hi
    omega
  · rintro ⟨h0, h1⟩
    exact ⟨k.toNat, by rw [List.mem_range]; omega, by omega⟩
theorem PInv.any {ps : List Pc} {t : List Nat} {j : Nat} {ns : List Int} {M : Int} (I : PInv ps t (j + 1) ns) (hp : ps[j]? = some .any) (h1 : -1 ≤ M) (h2 : ∀ k ∈ ns, k ≤ M) (h3 : M = -1 ∨ M ∈ ns) : PInv ps t j (upTo M) := by
  have hM : M ≤ t.length := by
    rcases h3 with rfl | h
    · omega
    · exact ((I.mem M).mp h).2.1
  refine ⟨fun k => ?_, by simp [upTo]; omega⟩
  rw [mem_upTo]
  constructor
  · rintro ⟨a, b⟩
    have hm : M ∈ ns := by
      rcases h3 with rfl | h
      · omega
      · exact h
    obtain ⟨m0, m1, g⟩ := (I.mem M).mp hm
    refine ⟨a, by omega, (G_any hp (by omega)).mpr ⟨M.toNat, by omega, by omega, g⟩⟩
  · rintro ⟨a, b, g⟩
    obtain ⟨i, h4, h5, g'⟩ := (G_any hp (by omega)).mp g
    have := h2 (i : Int) ((I.mem i).mpr ⟨by omega, by omega, by rw [Int.toNat_natCast]; exact g'⟩)
    omega
def stepK (p : Pc) (t : List Nat) (k : Int) : Option Int := if 0 < k ∧ p.takes (t.getD (k - 1).toNat 0) = true then some (k - 1) else none
theorem PInv.one {ps : List Pc} {t : List Nat} {j : Nat} {ns : List Int} {p : Pc} (I : PInv ps t (j + 1) ns) (hp : ps[j]? = some p) (ha : p ≠ .any) : PInv ps t j (ns.filterMap (stepK p t)) := by
  refine ⟨fun k => ?_, Nat.le_trans (List.length_filterMap_le _ _) I.len⟩
  rw [List.mem_filterMap]
  constructor
  · rintro ⟨i, hi, e⟩
    unfold stepK at e
    split at e
    · rename_i hc
      obtain ⟨a, b, g⟩ := (I.mem i).mp hi
      obtain rfl : i - 1 = k := Option.some.inj e
      have hc1 := hc.1
      obtain ⟨i, rfl⟩ := Int.eq_ofNat_of_zero_le a
      obtain ⟨n, rfl⟩ : ∃ n, i = n + 1 := ⟨i - 1, (Nat.sub_add_cancel (Int.ofNat_lt.mp hc1)).symm⟩
      rw [show ((n + 1 : Nat) : Int) - 1 = (n : Int) by rw [Int.natCast_succ, Int.add_sub_cancel]] at hc ⊢
      have hlt : n < t.length := Int.ofNat_le.mp b
      rw [Int.toNat_natCast] at hc ⊢
      refine ⟨Int.natCast_nonneg _, Int.ofNat_le.mpr (Nat.le_of_lt hlt), (G_one hp ha).mpr ⟨t.getD n 0, by rw [List.getD_eq_getElem?_getD, List.getElem?_eq_getElem hlt]; rfl, hc.2, g⟩⟩
    · cases e
  · rintro ⟨a, b, g⟩
    obtain ⟨k, rfl⟩ := Int.eq_ofNat_of_zero_le a
    rw [Int.toNat_natCast] at g
    obtain ⟨c, hc, ht, g'⟩ := (G_one hp ha).mp g
    have hlt := (List.getElem?_eq_some_iff.mp hc).1
    refine ⟨(k : Int) + 1, (I.mem _).mpr ⟨Int.natCast_nonneg (k + 1), Int.ofNat_le.mpr hlt, g'⟩, ?_⟩
    unfold stepK
    have e : t.getD ((k : Int) + 1 - 1).toNat 0 = c := by
      rw [Int.add_sub_cancel, Int.toNat_natCast, List.getD_eq_getElem?_getD, hc]; rfl
    rw [if_pos ⟨Int.ofNat_lt.mpr (Nat.succ_pos k), by rw [e]; exact ht⟩, Int.add_sub_cancel]
theorem PInv.zero {ps : List Pc} {t : List Nat} {ns : List Int} (I : PInv ps t 0 ns) : ((0 : Int) ∈ ns) ↔ glob ps t = true := by
  rw [I.mem]
  constructor
  · rintro ⟨_, _, g⟩; exact g
  · intro g; exact ⟨Int.le_refl _, by omega, g⟩
end Mine
end TP2
section TC6
namespace Mine
variable {prog : Program} {w : World} {dp un : Nat} {gd : Option (List Code)} {cn : Str} {cs : Scope} {L a : Addr} {ccd : Value} {cl : List (Str × Addr)} {outer : List Env} {A₀ : Around} {base h₀ : Heap} {m mg mb : Str → Option Value} {mean : ExcName → Option Value} {s : Shared} {Q E : Value → Shared → Prop} {news D : List (Addr × Obj)}
theorem swap3 {g h : Heap} {L : Addr} {x a b : Addr × Obj} {rest : List (Addr × Obj)} (N : News g L h (x :: a :: b :: rest)) : News g L h (a :: b :: x :: rest) :=
  nsub N fun p hp => by
    simp only [List.mem_cons] at hp ⊢
    rcases hp with h | h | h | h <;> simp [h]
section
local macro_rules | `(tactic| walk_at "exec For Name Call cons nil") => `(tactic| (refine Halt.out ?_))
local macro_rules | `(tactic| walk_at "call builtin:len") => `(tactic| ((with_reducible show wpAny _ _ (call (Value.builtin "len") [Value.ref _]) _ _ _); (refine kst_len (by k_asm) (by walk_at "m_mem") (All2.length (by assumption)) (by omega) ?_)))
local macro_rules | `(tactic| walk_at "call builtin:len") => `(tactic| ((with_reducible show wpAny _ _ (call (Value.builtin "len") [Value.str _ _]) _ _ _); (refine text_len (by omega) ?_)))
local macro_rules | `(tactic| walk_at "subscriptTail Name BinOp ref int") => `(tactic| k_dflt (refine vals_sub (by k_asm) (by walk_at "m_mem") (by omega) (by omega) (by omega) (by with_unfolding_all rfl) ?_; refine Halt.out ?_))
local macro_rules | `(tactic| walk_at "binaryOp Add ref ref") => `(tactic| (refine Halt.out ?_))
local macro_rules | `(tactic| walk_at "call builtin:max") => `(tactic| (refine Halt.out ?_))
local macro_rules | `(tactic| walk_at "call ref") => `(tactic| ((with_reducible show wpAny _ _ (call (Value.ref 90) _) _ _ _); refine Halt.out ?_))
local macro_rules | `(tactic| walk_at "subscriptTail Name BinOp str int") => `(tactic| (refine Halt.out ?_))
inductive J6 (x2 : Addr × Obj) (b1 : Addr) (news : List (Addr × Obj)) (l : Addr) (ps : List Pc) (txt : List Nat) (i : Nat) (m : Str → Option Value) (nx : List (Addr × Obj)) : Prop
  | mk (op : Obj) (q : Addr) (zs : List Value) (nn : Nat) (ns : List Int) (pv : Option Value) : nx = (b1, op) :: x2 :: (q, listOf (List.toArray zs) nn) :: news → op.data = .cell pv → q ≠ b1 → q ≠ x2.1 → Has m [("pieces", .ref l), ("places", .ref q)] → IntsAre zs ns → PInv ps txt (ps.length - i) ns → J6 x2 b1 news l ps txt i m nx
inductive J6b (NX : List (Addr × Obj)) (i : Nat) (ys : List Value) (nx : List (Addr × Obj)) : Prop
  | mk : nx = NX → ys.length = i → IntsAre ys ((List.range i).map fun (i : Nat) => (0 : Int) + (i : Int)) → J6b NX i ys nx
inductive J6c (NX : List (Addr × Obj)) (ns : List Int) (p : Pc) (txt : List Nat) (i : Nat) (ys : List Value) (nx : List (Addr × Obj)) : Prop
  | mk : nx = NX → ys.length ≤ i → IntsAre ys ((ns.take i).filterMap (stepK p txt)) → J6c NX ns p txt i ys nx
set_option maxRecDepth 100000 in
set_option maxHeartbeats 800000 in
theorem con_places {l : Addr} {vs : List Value} {n : Nat} {ps : List Pc} {txt : List Nat} {tt : Tok} (C : Cx w A₀ base h₀ outer mg mb mean) (F : Fr h₀ L s.heap m) (N : News h₀ L s.heap news) (hk : cs.kind = .function)
  (hdp : dp < 880) (hun : un < 8800) (hl : (l, listOf vs.toArray n) ∈ news) (hP : All2 (PieceIn news) vs ps) (hps : ps.length ≤ 1000) (htx : txt.length ≤ 1000)
  (ret : ∀ q zs nn ns h' tk', IntsAre zs ns → PInv ps txt 0 ns → Fr h₀ L h' m → News h₀ L h' ((q, listOf (List.toArray zs) nn) :: news) → Q (.ref q) { s with heap := h', toks := tk' }) :
  wpAny (model prog w) (ktrTop dp un gd cn cs L a ccd cl outer) (call (.ref 95) [.ref l, .str ⟨txt.toArray⟩ tt]) Q E s := by
  obtain ⟨B, X, T⟩ := C
  obtain ⟨ck, cnames, cg, cco, cmore⟩ := cs
  dsimp only at hk
  subst hk
  have hfoo : PySem.Challenge.rw_xm0748_01 = PySem.Challenge.rw_xm0748_01 := rfl
  revert hfoo X; k_fill; intro X hfoo
  clear hfoo
  refine wpAny_call ?_
  k_enter
  rename_i g1 L1 h1 tk1 FG1 F0 B1 X1 T1 l1 oP oT dP' dT' N1
  have dP : oP.data = .cell none := dP'
  have dT : oT.data = .cell (some (.str ⟨txt.toArray⟩ tt)) := dT'
  clear dP' dT'
  refine wpAny_mono (E := NoE) ?_ (fun _ _ h => h) (fun _ _ h => h.elim)
  (try k_fold)
  obtain ⟨m₀, F1⟩ := ent F0 [("pieces", .ref l)] (has1 rfl)
  clear F0
  (try dsimp only)
  dsimp only [kstB] at F1
  (try dsimp only)
  k_steps
  refine Halt.mk ?_
  rename Fr _ _ _ _ => F2
  rename (_ ∧ _ ∧ AllLt _ _) => l2
  refine for_ruleF F2 ?_
  k_steps
  rename Fr _ _ _ _ => F3
  rename News _ _ _ _ => N3
  rename IsRange _ _ _ _ _ _ _ _ => rg
  have eP : ((ps.length : Int) + 1 - 1).toNat = ps.length := by omega
  refine .inr (.inl ⟨_, _, _, _, _, _, _, _, _, J6 (L1 + 1, oT) (L1 + 1 + 1) news l ps txt,
    rfl, rfl, F3, swap3 N3, rg, small_one (by omega) (by omega) (by omega) (by omega), rangeSize_nat _ _, by intro _ _; rfl, ⟨oP, _, _, _, _, _, rfl, dP, ?_, ?_, (has2 rfl rfl), .cons _ _ .nil, PInv.start _ _⟩, ?_, ?_⟩)
  · exact Nat.ne_of_gt l2.1
  · exact Nat.ne_of_gt l2.2.1
  · rintro i v m₁ nx I oI h tk hi ⟨tb, rfl⟩ hJ0 F4 N4 off
    refine hide2 ?_
    intro Q' hQ
    obtain ⟨op, q, zs, nn, ns, pv, rfl, hop, hq1, hq2, hH, hzs, hI⟩ := hJ0
    rw [eP] at hi
    have F5 := hH.fr F4
    clear F4 F3 N3 hH rg
    (try dsimp only)
    dsimp only [kstB] at F5
    (try dsimp only)
    refine wpAny_assign_Name ?_
    have hvs := hP.length
    k_steps
    refine Halt.mk ?_
    intro v hv
    obtain ⟨p, hp, hpv⟩ := hP.get' hv
    obtain ⟨hpa, hpf⟩ := hpv
    obtain ⟨tv, rfl⟩ := hpf.code
    rename_i pa n9 v2 v3 v4
    have ej : ((ps.length : Int) - (1 + (i : Int))).toNat = ps.length - (i + 1) := toNat_sub1 _ _
    rw [ej] at hp
    rw [sub_succ1 hi] at hI
    rename Fr _ _ _ _ => F6
    rename News _ _ _ _ => N6
    refine storeX_C (g := fun o' => (I, oI) :: (L1 + 1 + 1, o') :: (L1 + 1, oT) :: (q, listOf zs.toArray nn) :: news) F6 N6 rfl (.tail (Ne.symm (off _ (.head _))) (.head ?_)) hop ?_ rfl rfl
    · intro p hp
      rcases List.mem_cons.mp hp with rfl | hp
      · exact Nat.ne_of_lt (Nat.lt_succ_self _)
      · rcases List.mem_cons.mp hp with rfl | hp
        · exact hq1
        · exact Nat.ne_of_lt (Nat.lt_trans (l1 p hp) (Nat.lt_trans (Nat.lt_succ_self _) (Nat.lt_succ_self _)))
    intro h7 op7 F7 N7 hop7
    clear F6 N6
    (try dsimp only)
    k_steps
    · refine Halt.mk ?_
      rename Pc.code _ = 0 => h0
      rw [Pc.any_of h0] at hp
      refine comp_assignF F7 rfl (by with_unfolding_all rfl) (by with_unfolding_all rfl) (by decide) rfl (by decide) rfl rfl (by intro _; rfl) ?_
      k_steps
      refine Halt.mk ?_
      rename Fr _ _ _ _ => F8
      rename News _ _ _ _ => N8
      have N8' := N8
      simp only [List.mem_cons, forall_eq_or_imp, News] at N8'
      refine kmk_add_ints F8 N8 ⟨_, N8'.1.1, rfl, _, rfl⟩ ⟨_, N8'.2.2.2.2.1.1, rfl, _, rfl⟩ (.cons _ _ .nil) hzs ?_ (by have := hI.len; rw [sizeLine_eq]; simp only [List.length_cons, List.length_nil]; omega)
      clear N8'
      (try dsimp only)
      intro D us h9 F9 N9 l9 hus
      k_steps
      refine Halt.mk ?_
      refine kso_max F9 N9 ⟨_, (N9 _ (.head _)).1, rfl, _, rfl⟩ hus (by simp) rfl ?_
      intro h10 M tM tk10 F10 N10 hM1 hM2
      clear F9 N9 F8 N8
      (try dsimp only)
      have a1 : -1 ≤ M := hM2 _ (by simp)
      have a2 : ∀ k ∈ ns, k ≤ M := fun k hk => hM2 k (by simp [hk])
      have a3 : M = -1 ∨ M ∈ ns := by simpa using hM1
      have a4 : M ≤ txt.length := by
        rcases a3 with h | h
        · omega
        · exact ((hI.mem M).mp h).2.1
      k_steps
      rename Fr _ _ _ _ => F11
      rename News _ _ _ _ => N11
      rename IsRange _ _ _ _ _ _ _ _ => rg
      refine .inr ⟨_, _, _, _, _, _, (M + 1 - 0).toNat, _, J6b ((I, oI) :: (L1 + 1 + 1, op7) :: (L1 + 1, oT) :: (q, listOf zs.toArray nn) :: news),
        rfl, rfl, F11, nsub N11 (fun p hp => .tail _ (.tail _ hp)), rg, small_one (by omega) (by omega) (by omega) (by omega), rangeSize_nat _ _, by rw [sizeLine_eq]; omega, by intro _ _; rfl, ⟨rfl, rfl, .nil⟩, ?_, ?_, ?_⟩
      · rintro i ys nx ⟨_, h, _⟩; exact Nat.le_of_eq h
      · rintro i v ys nx I' oI' oC C D m₂ h tk E' hi' ⟨t, rfl⟩ hJ0 hoC F12 N12 off' h1 h2 h3
        refine hide3 ?_
        intro R1 R2 hR1 hR2
        obtain ⟨rfl, hlen, hys⟩ := hJ0
        refine comp_one F12 N12 hoC h1 ?_ rfl rfl ?_
        · intro p hp
          rcases List.mem_cons.mp hp with rfl | hp
          · exact Ne.symm h3
          · exact (off' p hp).2.1
        intro h13 tk13 oC13 m13 F13 n13 hat N13
        clear F12 N12 F11 N11 rg
        (try dsimp only)
        refine wpAny_tests_nil ?_
        simp only [if_true]
        k_steps
        refine hR1 _ _ ⟨_, _, _, _, _, rfl, F13, n13, N13, off', rfl, by rw [List.length_append, hlen]; rfl, ?_⟩
        rw [List.range_succ, List.map_append]
        exact m_ints_snoc hys
      · rintro D ys nx h tk ⟨rfl, hlen, hys⟩ N12 off12 F12
        clear F11 N11 rg
        (try dsimp only)
        (try dsimp only)
        k_steps
        have d1 : I ≠ D := off12 _ (.head _)
        have d2 : L1 + 1 + 1 ≠ D := off12 _ (.tail _ (.head _))
        have d3 : L1 + 1 ≠ D := off12 _ (.tail _ (.tail _ (.head _)))
        refine hQ _ _ ⟨_, _, _, (L1 + 1 + 1, op7) :: (L1 + 1, oT) :: (D, listOf ys.toArray ys.length) :: news, rfl, F12, nsub N12 ?_, ?_, op7, D, ys, ys.length, upTo M, _, rfl, hop7, Ne.symm d2, Ne.symm d3, (has2 rfl rfl), ?_, hI.any hp a1 a2 a3⟩
        · intro p hp
          simp only [List.mem_cons] at hp ⊢
          rcases hp with h | h | h | h | h <;> simp [h]
        · intro p hp
          rcases List.mem_cons.mp hp with rfl | hp
          · exact off (L1 + 1 + 1, op) (.head _)
          · rcases List.mem_cons.mp hp with rfl | hp
            · exact off _ (.tail _ (.head _))
            · rcases List.mem_cons.mp hp with rfl | hp
              · exact Ne.symm d1
              · exact off _ (.tail _ (.tail _ (.tail _ hp)))
        · rw [show M + 1 - 0 = M + 1 by omega] at hys; exact hys
    · refine Halt.mk ?_
      rename Pc.code _ ≠ 0 => h0
      have ha := Pc.not_any h0
      refine comp_assignF F7 rfl (by with_unfolding_all rfl) (by with_unfolding_all rfl) (by decide) rfl (by decide) rfl rfl (by intro _; rfl) ?_
      k_steps
      rename Fr _ _ _ _ => F11
      rename News _ _ _ _ => N11
      refine .inl ⟨q, zs, nn, _, J6c ((I, oI) :: (L1 + 1 + 1, op7) :: (L1 + 1, oT) :: (q, listOf zs.toArray nn) :: news) ns p txt,
        rfl, rfl, F11, N11, .tail _ (.tail _ (.tail _ (.head _))), by rw [hzs.length, sizeLine_eq]; have := hI.len; omega, .inl (by intro _ _; rfl), ⟨rfl, Nat.le_refl _, .nil⟩, ?_, ?_, ?_, ?_⟩
      · rintro i ys nx ⟨_, h, _⟩; exact h
      · rintro i ys nx ⟨rfl, _⟩; exact .tail _ (.tail _ (.tail _ (.head _)))
      · rintro i v ys nx I' oI' oC C D m₂ h tk E' hi' hv' hJ0 hoC F12 N12 off' h1 h2 h3
        refine hide3 ?_
        intro R1 R2 hR1 hR2
        obtain ⟨rfl, hlen, hys⟩ := hJ0
        obtain ⟨k, t, rfl, hk⟩ := hzs.at i v hv'
        obtain ⟨k0, k1, _⟩ := (hI.mem k).mp (List.mem_of_getElem? hk)
        refine comp_one F12 N12 hoC h1 ?_ rfl rfl ?_
        · intro p hp
          rcases List.mem_cons.mp hp with rfl | hp
          · exact Ne.symm h3
          · exact (off' p hp).2.1
        intro h13 tk13 oC13 m13 F13 n13 hat N13
        clear F12 N12 F11 N11 hoC
        (try dsimp only)
        refine wpAny_tests_one ?_
        have key : (ns.take (i + 1)).filterMap (stepK p txt) = (ns.take i).filterMap (stepK p txt) ++ (stepK p txt k).toList := by
          rw [List.take_add_one, hk, List.filterMap_append]
          cases h : stepK p txt k <;> simp [h]
        k_steps
        · refine Halt.mk ?_
          refine text_sub (by omega) (by omega) (by omega) (by with_unfolding_all rfl) ?_
          intro c hc
          k_steps
          refine Halt.mk ?_
          refine con_stands ⟨by k_asm, by k_asm, by k_asm⟩ F13 N13 rfl (lts1 (by assumption) rfl) (lts3 (by assumption) rfl) (by walk_at "m_mem") (hpf.mono fun p hp => by walk_at "m_mem") ha ?_
          intro h14 tk14 F14 N14
          have eg : txt.getD (k - 1).toNat 0 = c := by rw [List.getD_eq_getElem?_getD, hc]; rfl
          clear F13 N13
          (try dsimp only)
          k_steps
          · rename Pc.takes _ _ = true => ht
            refine hR1 _ _ ⟨_, _, _, _, _, rfl, F14, n13, N14, off', rfl, by rw [List.length_append, List.length_singleton]; omega, ?_⟩
            rw [key, stepK, if_pos ⟨by omega, by rw [eg]; exact ht⟩]
            exact m_ints_snoc hys
          · rename Pc.takes _ _ = false => ht
            refine hR2 _ ⟨_, _, _, _, _, rfl, F14, n13, N14, off', rfl, by omega, ?_⟩
            rw [key, stepK, if_neg (by rw [eg, ht]; simp)]
            simpa using hys
        · refine hR2 _ ⟨_, _, _, _, _, rfl, F13, n13, N13, off', rfl, by omega, ?_⟩
          rw [key, stepK, if_neg (by omega)]
          simpa using hys
      · rintro D ys nx h tk ⟨rfl, hlen, hys⟩ N12 off12 F12
        clear F11 N11
        (try dsimp only)
        (try dsimp only)
        k_steps
        have d1 : I ≠ D := off12 _ (.head _)
        have d2 : L1 + 1 + 1 ≠ D := off12 _ (.tail _ (.head _))
        have d3 : L1 + 1 ≠ D := off12 _ (.tail _ (.tail _ (.head _)))
        refine hQ _ _ ⟨_, _, _, (L1 + 1 + 1, op7) :: (L1 + 1, oT) :: (D, listOf ys.toArray ys.length) :: news, rfl, F12, nsub N12 ?_, ?_, op7, D, ys, ys.length, ns.filterMap (stepK p txt), _, rfl, hop7, Ne.symm d2, Ne.symm d3, (has2 rfl rfl), ?_, hI.one hp ha⟩
        · intro p hp
          simp only [List.mem_cons] at hp ⊢
          rcases hp with h | h | h | h | h <;> simp [h]
        · intro p hp
          rcases List.mem_cons.mp hp with rfl | hp
          · exact off (L1 + 1 + 1, op) (.head _)
          · rcases List.mem_cons.mp hp with rfl | hp
            · exact off _ (.tail _ (.head _))
            · rcases List.mem_cons.mp hp with rfl | hp
              · exact Ne.symm d1
              · exact off _ (.tail _ (.tail _ (.tail _ hp)))
        · rw [List.take_of_length_le (Nat.le_of_eq hzs.length.symm)] at hys; exact hys
  · rintro m₁ nx h tk ⟨op, q, zs, nn, ns, pv, rfl, hop, hq1, hq2, hH, hzs, hI⟩ F4 N4
    have F5 := hH.fr F4
    clear F4 F3 N3 hH rg
    (try dsimp only)
    dsimp only [kstB] at F5
    (try dsimp only)
    k_steps
    rename News _ _ _ _ => N5
    rw [eP, Nat.sub_self] at hI
    exact ret _ _ _ _ _ _ hzs hI (by k_asm) (nsub N5 fun p hp => .tail _ (.tail _ hp))
end
end Mine
end TC6
section TC7a
namespace Mine
variable {prog : Program} {w : World} {dp un : Nat} {gd : Option (List Code)} {cn : Str} {cs : Scope} {L a : Addr} {ccd : Value} {cl : List (Str × Addr)} {outer : List Env} {A₀ : Around} {base h₀ : Heap} {m mg mb : Str → Option Value} {mean : ExcName → Option Value} {s : Shared} {Q E : Value → Shared → Prop} {news D : List (Addr × Obj)}
theorem tl_back {h₀ h : Heap} {L sa : Addr} {o' : Obj} {nx tl D : List (Addr × Obj)} {g : Obj → List (Addr × Obj)} (N : News h₀ L h nx) (h1 : ∀ p ∈ tl, p ∈ nx) (h2 : (sa, o') ∈ nx) (h3 : ∀ p ∈ D, p ∈ nx)
    (back : ∀ h' L' g' o', News g' L' h' ((sa, o') :: D) → News g' L' h' (g o')) : News h₀ L h (tl ++ g o') := by
  intro p hp
  rcases List.mem_append.mp hp with hp | hp
  · exact N p (h1 p hp)
  · refine back _ _ _ _ (nsub N fun p hp => ?_) p hp
    rcases List.mem_cons.mp hp with rfl | hp
    · exact h2
    · exact h3 p hp
/-- strings of one sign -/
def OneStr (v : Value) : Prop := ∃ c t, v = .str ⟨#[c]⟩ t ∧ c < 1000
theorem one_of {vs : List Value} (h : ∀ v ∈ vs, OneStr v) {i : Nat} {v : Value} (hv : vs[i]? = some v) : OneStr v := h v (List.mem_of_getElem? hv)
theorem fresh_news {sa : Addr} {news D : List (Addr × Obj)} {b : Addr} (hin : ∀ p ∈ news, p.1 ≠ sa → p ∈ D) (h1 : sa < b) (h2 : AllLt b D) : ∀ y ∈ news, b ≠ y.1 := fun y hy => by
  by_cases h : y.1 = sa
  · rw [h]; exact Nat.ne_of_gt h1
  · exact Nat.ne_of_gt (kst_ltOf h2 y (hin y hy h))
theorem abs_list {g h : Heap} {L : Addr} {x a b c : Addr × Obj} {l : Addr} {vs : List Value} {n : Nat} {D : List (Addr × Obj)} (N : News g L h (x :: (l, listOf vs.toArray n) :: a :: b :: c :: D)) (h1 : ∀ v ∈ vs, OneStr v) (h2 : 0 < vs.length) (h3 : vs.length ≤ 100) :
    ∃ sg : List Value, (∀ v ∈ sg, OneStr v) ∧ 0 < sg.length ∧ sg.length ≤ 100 ∧ News g L h (a :: b :: c :: (l, listOf sg.toArray n) :: D) :=
  ⟨vs, h1, h2, h3, nsub N fun p hp => by
    simp only [List.mem_cons] at hp ⊢
    rcases hp with h | h | h | h | h <;> simp [h]⟩
theorem RgIn.snoc {D : List (Addr × Obj)} {vs : List Value} {rs : List (Nat × Nat)} (h : RgIn D vs rs) {a : Addr} {lo hi : Nat} {t u : Tok} {n : Nat} (ha : (a, ({ cls := .type "tuple", data := .seq #[.str ⟨#[lo]⟩ t, .str ⟨#[hi]⟩ u] n } : Obj)) ∈ D) : RgIn D (vs ++ [.ref a]) (rs ++ [(lo, hi)]) := by
  induction h with
  | nil => exact .cons ha .nil
  | cons x _ ih => exact .cons x ih
theorem con_oneS {sa l : Addr} {o : Obj} {g : Obj → List (Addr × Obj)} {vs : List Value} {n : Nat} (C : Cx w A₀ base h₀ outer mg mb mean) (F : Fr h₀ L s.heap m) (N : News h₀ L s.heap news) (U : UpdF sa o news g) (ho : IsSrc o) (hk : cs.kind = .function)
  (hdp : dp < 890) (hun : un < 8900) (hl : (l, listOf vs.toArray n) ∈ news) (hs : ∀ v ∈ vs, OneStr v) (hv0 : 0 < vs.length) (hv1 : vs.length ≤ 100)
  (ret : ∀ c t o' h' tk', .str ⟨#[c]⟩ t ∈ vs → IsSrc o' → Fr h₀ L h' m → News h₀ L h' (g o') → Q (.str ⟨#[c]⟩ t) { s with heap := h', toks := tk' }) :
  wpAny (model prog w) (ktrTop dp un gd cn cs L a ccd cl outer) (call (.ref 85) [.ref sa, .ref l]) Q E s := by
  have hne : l ≠ sa := by
    rintro rfl
    obtain ⟨D, N1, _⟩ := upd_in N U
    have e1 := (N _ hl).1
    rw [(N1 _ (.head _)).1] at e1
    obtain ⟨x, y, t, u, n', rfl⟩ := ho
    have e2 := Option.some.inj e1
    have e3 : vs = [.int x t, .int y u] := by
      have := congrArg Obj.data e2
      injection this with e4 _
      injection e4 with e5
      exact e5.symm
    obtain ⟨c, t', h, _⟩ := hs (.int x t) (by rw [e3]; exact .head _)
    cases h
  refine con_one C F N U ho hk hdp hun hl hne hv0 hv1 fun i v o' h' tk' hv => ?_
  obtain ⟨c, t, rfl, _⟩ := hs v (List.mem_of_getElem? hv)
  exact ret c t o' h' tk' (List.mem_of_getElem? hv)
end Mine
end TC7a
local macro_rules | `(tactic| walk_at "call ref") => `(tactic| ((fail_if_success (with_reducible show wpAny _ _ (call (Value.ref 46) _) _ _ _)); refine Mine.Halt.out ?_))
local macro_rules | `(tactic| k_all) => `(tactic| first | assumption | exact Mine.allLt_ne (by assumption) (by omega) | exact Mine.allLt_ne (And.right (by assumption)) (by omega))
local macro_rules | `(tactic| walk_at "m_mem") => `(tactic| first | assumption | exact List.Mem.head _ | (refine List.Mem.tail _ ?_; walk_at "m_mem"))
local macro_rules | `(tactic| walk_at "call ref") => `(tactic| ((with_reducible show wpAny _ _ (call (Value.ref 78) _) _ _ _); k_dflt (refine Mine.con_take ⟨by k_asm, by k_asm, by k_asm⟩ (by k_asm) (by k_asm) (by k_updF) (by assumption) rfl (Mine.lts1 (by assumption) rfl) (Mine.lts3 (by assumption) rfl) (by first | decide | omega) (by first | decide | omega) ?_); intro v tv o' h' tk' hv0 hv1 ho' F' N'; (try dsimp only at N')))
local macro_rules | `(tactic| walk_at "m_ones") => `(tactic| first | assumption | (intro v hv; simp only [List.mem_cons, List.mem_nil_iff, or_false] at hv; (repeat' (rcases hv with rfl | hv)); (all_goals (first | exact ⟨_, _, rfl, by decide⟩ | (subst hv; exact ⟨_, _, rfl, by decide⟩)))))
local macro_rules | `(tactic| walk_at "call ref") => `(tactic| ((with_reducible show wpAny _ _ (call (Value.ref 85) _) _ _ _); k_dflt (refine Mine.con_oneS ⟨by k_asm, by k_asm, by k_asm⟩ (by k_asm) (by k_asm) (by k_updF) (by assumption) rfl (Mine.lts1 (by assumption) rfl) (Mine.lts3 (by assumption) rfl) (by walk_at "m_mem") (by walk_at "m_ones") (by first | assumption | exact Nat.le_of_ble_eq_true rfl) (by first | assumption | exact Nat.le_of_ble_eq_true rfl) ?_); intro c t o' h' tk' hv ho' F' N'; (try dsimp only at N')))
local macro_rules | `(tactic| walk_at "exec For Name Name cons nil") => `(tactic| (refine Mine.Halt.out ?_))
local macro_rules | `(tactic| walk_at "binaryOp Add str str") => `(tactic| ((with_reducible show wpAny _ _ (binaryOp Operator.Add (Value.str _ _) (Value.str _ _)) _ _ _); k_dflt (refine KOpn.add (by omega) ?_); intro t' k hA))
local macro_rules | `(tactic| walk_at "compareOp NotEq ref ref") => `(tactic| (refine Mine.Halt.out ?_))
local macro_rules | `(tactic| walk_at "eval ListComp") => `(tactic| (refine Mine.Halt.out ?_))
local macro_rules | `(tactic| walk_at "subscriptTail") => `(tactic| ((with_reducible show wpAny _ _ (subscriptTail _ (Expr.Slice none (some _) none _) (Value.str _ _) (Value.ref _)) _ _ _); (with_reducible rename Fr _ _ _ _ => F'); (with_reducible rename News _ _ _ _ => N'); k_dflt (refine slice_strN_ns_len (s := ⟨_, _, _, _, _⟩) F' N' ?_ (hsz := (by rw [sizeLine_eq]; omega))); intro _ _ _ _ _ hZ))
local macro_rules | `(tactic| walk_at "subscriptTail") => `(tactic| ((with_reducible show wpAny _ _ (subscriptTail _ (Expr.Slice (some _) none none _) (Value.str _ _) (Value.ref _)) _ _ _); (with_reducible rename Fr _ _ _ _ => F'); (with_reducible rename News _ _ _ _ => N'); k_dflt (refine slice_strN_sn_len (s := ⟨_, _, _, _, _⟩) F' N' ?_ (hsz := (by rw [sizeLine_eq]; omega))); intro _ _ _ _ _ hZ))
local macro_rules | `(tactic| walk_at "call builtin:len") => `(tactic| ((with_reducible show wpAny _ _ (call (Value.builtin "len") [Value.ref _]) _ _ _); (refine kst_len (by k_asm) (by walk_at "m_mem") (by assumption) (by omega) ?_)))
local macro_rules | `(tactic| walk_at "call builtin:len") => `(tactic| ((with_reducible show wpAny _ _ (call (Value.builtin "len") [Value.str _ _]) _ _ _); (refine Mine.text_len (by omega) ?_)))
local macro_rules | `(tactic| walk_at "exec For Name Call cons nil") => `(tactic| (refine Mine.Halt.out ?_))
local macro_rules | `(tactic| k_ne) => `(tactic| first | assumption | exact Ne.symm (by assumption) | exact Mine.neU2 (by assumption) | exact Mine.neU1 (by assumption) | exact Mine.neU3 (by assumption))
section TC7
namespace Mine
variable {prog : Program} {w : World} {dp un : Nat} {gd : Option (List Code)} {cn : Str} {cs : Scope} {L a : Addr} {ccd : Value} {cl : List (Str × Addr)} {outer : List Env} {A₀ : Around} {base h₀ : Heap} {m mg mb : Str → Option Value} {mean : ExcName → Option Value} {s : Shared} {Q E : Value → Shared → Prop} {news D : List (Addr × Obj)}
section
inductive J7 (x1 x2 : Addr × Obj) (sa : Addr) (x4 : Addr × Obj) (D : List (Addr × Obj)) (i : Nat) (ys : List Value) (nx : List (Addr × Obj)) : Prop
  | mk (o' : Obj) (TD tl : List (Addr × Obj)) (rs : List (Nat × Nat)) : IsSrc o' → nx = x1 :: x2 :: (sa, o') :: x4 :: TD → TD = tl ++ D → (∀ p ∈ TD, p.1 ≠ sa) → (∀ p ∈ tl, @LT.lt Nat _ x1.1 p.1) → ys.length = i → rs.length = i → RgIn tl ys rs → J7 x1 x2 sa x4 D i ys nx
set_option maxRecDepth 100000 in
set_option maxHeartbeats 800000 in
theorem con_piece {sa : Addr} {o : Obj} {g : Obj → List (Addr × Obj)} (C : Cx w A₀ base h₀ outer mg mb mean) (F : Fr h₀ L s.heap m) (N : News h₀ L s.heap news) (U : UpdF sa o news g) (ho : IsSrc o) (hk : cs.kind = .function)
  (hdp : dp < 880) (hun : un < 8800)
  (ret : ∀ v p o' tl h' tk', PieceIn tl v p → IsSrc o' → Fr h₀ L h' m → News h₀ L h' (tl ++ g o') → (∀ x ∈ tl, ∀ y ∈ news, x.1 ≠ y.1) → Q v { s with heap := h', toks := tk' }) :
  wpAny (model prog w) (ktrTop dp un gd cn cs L a ccd cl outer) (call (.ref 105) [.ref sa]) Q E s := by
  obtain ⟨B, X, T⟩ := C
  obtain ⟨D, N0, hD, hin, hout, back⟩ := upd_in N U
  obtain ⟨ck, cnames, cg, cco, cmore⟩ := cs
  dsimp only at hk
  subst hk
  have hfoo : PySem.Challenge.rw_xm0748_01 = PySem.Challenge.rw_xm0748_01 := rfl
  revert hfoo X; k_fill; intro X hfoo
  clear hfoo
  clear N
  refine wpAny_call ?_
  k_enter
  rename_i g1 L1 h1 tk1 FG1 F0 B1 X1 T1 l1 oG oS dG' dS' N1
  have dG : oG.data = .cell none := dG'
  have dS : oS.data = .cell (some (.ref sa)) := dS'
  clear dG' dS'
  refine wpAny_mono (E := NoE) ?_ (fun _ _ h => h) (fun _ _ h => h.elim)
  (try k_fold)
  obtain ⟨m₀, F1⟩ := ent F0 [] trivial
  clear F0
  dsimp only [kstB] at F1
  k_steps
  · rename News _ _ _ _ => N9
    rename (_ < _ ∧ _) => l9
    refine ret _ .any _ [(_, _)] _ _ (.mk (.head _) (.any _)) (by assumption) (by k_asm) (tl_back N9 (fun p hp => by rw [List.mem_singleton.mp hp]; exact .head _) (by walk_at "m_mem") (fun p hp => by walk_at "m_mem") back) ?_
    intro x hx
    rw [List.mem_singleton.mp hx]
    exact fresh_news hin l9.2.2.2.2.1 l9.2.2.2.2.2
  · rename News _ _ _ _ => N9
    rename (_ < _ ∧ _) => l9
    refine ret _ .one _ [(_, _)] _ _ (.mk (.head _) (.one _)) (by assumption) (by k_asm) (tl_back N9 (fun p hp => by rw [List.mem_singleton.mp hp]; exact .head _) (by walk_at "m_mem") (fun p hp => by walk_at "m_mem") back) ?_
    intro x hx
    rw [List.mem_singleton.mp hx]
    exact fresh_news hin l9.2.2.2.2.1 l9.2.2.2.2.2
  · rename News _ _ _ _ => N9
    rename (_ < _ ∧ _) => l9
    refine ret _ (.sign _) _ [(_, _)] _ _ (.mk (.head _) (.sign _ _ _)) (by assumption) (by k_asm) (tl_back N9 (fun p hp => by rw [List.mem_singleton.mp hp]; exact .head _) (by walk_at "m_mem") (fun p hp => by walk_at "m_mem") back) ?_
    intro x hx
    rw [List.mem_singleton.mp hx]
    exact fresh_news hin l9.2.2.2.2.1 l9.2.2.2.2.2
  · refine Halt.mk ?_
    rename Fr _ _ _ _ => F5
    rename News _ _ _ _ => N5
    rename Obj.data _ = _ => d5
    refine comp_assignF F5 rfl (by with_unfolding_all rfl) (by with_unfolding_all rfl) (by decide) rfl (by decide) rfl rfl (by intro _; rfl) ?_
    k_steps
    clear N5 F5
    rename Fr _ _ _ _ => F6
    rename News _ _ _ _ => N6
    rename IsSrc _ => ho6
    rename IsRange _ _ _ _ _ _ _ _ => rg
    rename (_ < _ ∧ _ < _ ∧ _ < _ ∧ _ < _ ∧ AllLt _ _) => l5
    rename (_ < _ ∧ _ < _ ∧ _ < _ ∧ AllLt _ _) => l4
    rename_i l' uh6 D' uh5 uh4 uh3 uh2 oX utk3 ua3 utk2 ua2 utk1 ua1 v2 tv2 o6 uh1 utk' w0 w1 uF uN uh utk ut1 uu1 uv1 ua
    clear uF uN
    have e9 : ((1 + v2 - 0).toNat) ≤ 2 := by omega
    have hns : ∀ p ∈ D, p.1 ≠ sa := hD
    obtain ⟨sg, hsg, hs0, hs1, N7⟩ := abs_list N6 (by walk_at "m_ones") (Nat.le_of_ble_eq_true rfl) (Nat.le_of_ble_eq_true rfl)
    refine .inr ⟨_, _, _, _, _, _, (1 + v2 - 0).toNat, _, J7 (L1 + 1 + 1, oX) (L1 + 1, oS) sa (l', listOf sg.toArray 0) D,
        rfl, rfl, F6, N7, rg, small_one (by omega) (by omega) (by omega) (by omega), rangeSize_nat _ _, by rw [sizeLine_eq]; omega, by intro _ _; rfl, ⟨o6, D, [], [], ho6, rfl, rfl, hns, (fun p hp => by cases hp), rfl, rfl, .nil⟩, ?_, ?_, ?_⟩
    · rintro i ys nx ⟨_, _, _, _, _, _, _, _, _, h, _⟩; exact Nat.le_of_eq h
    · rintro i v ys nx I oI oC C D9 m₂ h tk E' hi ⟨t, rfl⟩ hJ0 hoC F7 N8 off n1 n2 n3
      refine hide3 ?_
      intro R1 R2 hR1 hR2
      obtain ⟨o', TD, tl, rs, hso, rfl, hTD, hTs, htl, hlen, hrl, hrs⟩ := hJ0
      clear N7 N6 F6 rg
      refine comp_one F7 N8 hoC n1 ?_ rfl rfl ?_
      · intro p hp
        rcases List.mem_cons.mp hp with rfl | hp
        · exact Ne.symm n3
        · exact (off p hp).2.1
      intro h8 tk8 oC8 m8 F8 n8 hat N9
      clear F7 N8 hoC
      refine wpAny_tests_nil ?_
      simp only [if_true]
      have k0 := off (sa, o') (.tail _ (.tail _ (.head _)))
      have k1 : I ≠ sa := Ne.symm k0.1
      have k2 : C ≠ sa := Ne.symm k0.2.1
      have k3 : D9 ≠ sa := Ne.symm k0.2.2
      have k4 : l' ≠ sa := Nat.ne_of_gt l4.2.2.1
      k_steps
      rename Fr _ _ _ _ => F10
      rename News _ _ _ _ => N10
      rename (_ < _ ∧ _) => l10
      rename_i uq ue c1 t1 o11 uh2 utk1 hv1 ho11 ucE c2 t2 o12 uh1 utk uhv2 ho12 D12 uh0
      refine hR1 _ _ ⟨_, _, (L1 + 1 + 1, oX) :: (L1 + 1, oS) :: (sa, o12) :: (l', listOf sg.toArray 0) :: (D12, { cls := .type "tuple", data := .seq #[.str ⟨#[c1]⟩ t1, .str ⟨#[c2]⟩ t2] 0 }) :: TD, _, _, rfl, F10, n8, nsub N10 ?_, ?_, o12, _, (D12, { cls := .type "tuple", data := .seq #[.str ⟨#[c1]⟩ t1, .str ⟨#[c2]⟩ t2] 0 }) :: tl, rs ++ [(c1, c2)], ho12, rfl, by rw [hTD]; rfl, ?_, ?_, ?_, ?_, ?_⟩
      · intro p hp
        simp only [List.mem_cons] at hp ⊢
        rcases hp with h | h | h | h | h | h | h | h | h <;> simp [h]
      · intro p hp
        rcases List.mem_cons.mp hp with rfl | hp
        · exact off _ (.head _)
        · rcases List.mem_cons.mp hp with rfl | hp
          · exact off _ (.tail _ (.head _))
          · rcases List.mem_cons.mp hp with rfl | hp
            · exact k0
            · rcases List.mem_cons.mp hp with rfl | hp
              · exact off _ (.tail _ (.tail _ (.tail _ (.head _))))
              · rcases List.mem_cons.mp hp with rfl | hp
                · exact ⟨Nat.ne_of_gt l10.1, Nat.ne_of_gt l10.2.1, Nat.ne_of_gt l10.2.2.1⟩
                · exact off _ (.tail _ (.tail _ (.tail _ (.tail _ hp))))
      · intro p hp
        rcases List.mem_cons.mp hp with rfl | hp
        · exact Nat.ne_of_gt l10.2.2.2.2.2.1
        · exact hTs p hp
      · intro p hp
        rcases List.mem_cons.mp hp with rfl | hp
        · exact l10.2.2.2.1
        · exact htl p hp
      · rw [List.length_append, hlen]; rfl
      · rw [List.length_append, hrl]; rfl
      · exact (hrs.mono fun p hp => .tail _ hp).snoc (.head _)
    · rintro D9 ys nx h tk ⟨o', TD, tl, rs, hso, rfl, hTD, hTs, htl, hlen, hrl, hrs⟩ N8 off7 F7
      clear N7 N6 F6 rg
      dsimp only
      have k4 : l' ≠ sa := Nat.ne_of_gt l4.2.2.1
      have k5 : D9 ≠ sa := Ne.symm (off7 (sa, o') (.tail _ (.tail _ (.head _))))
      k_steps
      rename News _ _ _ _ => N9
      rename (_ < _ ∧ _) => l9
      subst hTD
      rename IsSrc _ => ho9
      refine ret _ (.lot rs _) _ ((_, _) :: (D9, listOf ys.toArray ys.length) :: tl) _ _ (.mk (.head _) (.lot _ _ (.tail _ (.head _)) (hrs.mono fun p hp => .tail _ (.tail _ hp)) (by omega))) ho9 (by k_asm) (tl_back N9 (fun p hp => by
        rcases List.mem_cons.mp hp with h | hp
        · rw [h]; exact .head _
        · rcases List.mem_cons.mp hp with h | hp
          · rw [h]; exact .tail _ (.head _)
          · exact .tail _ (.tail _ (.tail _ (.tail _ (.tail _ (.tail _ (List.mem_append.mpr (.inl hp)))))))) (by walk_at "m_mem") (fun p hp => ?_) back) ?_
      · exact .tail _ (.tail _ (.tail _ (.tail _ (.tail _ (.tail _ (List.mem_append.mpr (.inr hp)))))))
      · intro x hx
        rcases List.mem_cons.mp hx with rfl | hx
        · intro y hy
          by_cases h : y.1 = sa
          · rw [h]; exact Nat.ne_of_gt l9.2.2.2.1
          · exact Nat.ne_of_gt (kst_ltOf l9.2.2.2.2.2 y (List.mem_append.mpr (.inr (hin y hy h))))
        · rcases List.mem_cons.mp hx with rfl | hx
          · intro y hy
            by_cases h : y.1 = sa
            · rw [h]; exact k5
            · exact Ne.symm (off7 y (.tail _ (.tail _ (.tail _ (.tail _ (List.mem_append.mpr (.inr (hin y hy h))))))))
          · have a1 := htl x hx
            have a2 : @LT.lt Nat _ L1 x.1 := Nat.lt_trans (Nat.lt_succ_self _) (Nat.lt_trans (Nat.lt_succ_self _) a1)
            intro y hy
            by_cases h : y.1 = sa
            · rw [h]; exact Nat.ne_of_gt (Nat.lt_trans l1.1 a2)
            · exact Nat.ne_of_gt (Nat.lt_trans (kst_ltOf l1.2 y (hin y hy h)) a2)
end
end Mine
end TC7
section TC8
namespace Mine
variable {prog : Program} {w : World} {dp un : Nat} {gd : Option (List Code)} {cn : Str} {cs : Scope} {L a : Addr} {ccd : Value} {cl : List (Str × Addr)} {outer : List Env} {A₀ : Around} {base h₀ : Heap} {m mg mb : Str → Option Value} {mean : ExcName → Option Value} {s : Shared} {Q E : Value → Shared → Prop} {news D : List (Addr × Obj)}

def NotSrc (ob : Obj) : Prop := ∀ x y t u n, ob ≠ srcObj x y t u n
theorem notSrc_cls {ob : Obj} (h : ob.cls ≠ .type "list") : NotSrc ob := fun x y t u n e => h (by rw [e])
theorem notSrc_list {vs : List Value} {n : Nat} (h : ∀ v ∈ vs, ∀ z t, v ≠ .int z t) : NotSrc (listOf vs.toArray n) := fun x y t u n' e => by
  have e3 : vs = [.int x t, .int y u] := by
    have := congrArg Obj.data e
    injection this with e4 _
    injection e4
  exact h (.int x t) (by rw [e3]; exact .head _) x t rfl
theorem OneStr.noInt {v : Value} (h : OneStr v) : ∀ z t, v ≠ .int z t := by
  obtain ⟨c, t, rfl, _⟩ := h
  intro z t e; cases e
theorem inD {h₀ h : Heap} {L sa : Addr} {o : Obj} {news D : List (Addr × Obj)} (N : News h₀ L h news) (N1 : News h₀ L h ((sa, o) :: D)) (ho : IsSrc o) (hin : ∀ p ∈ news, p.1 ≠ sa → p ∈ D) : ∀ p ∈ news, NotSrc p.2 → p ∈ D := fun p hp hn => by
  refine hin p hp fun e => ?_
  have e1 := (N p hp).1
  rw [e, (N1 _ (.head _)).1] at e1
  obtain ⟨x, y, t, u, n, rfl⟩ := ho
  exact hn x y t u n (Option.some.inj e1).symm
theorem RgIn.inD {news D : List (Addr × Obj)} (hD : ∀ p ∈ news, NotSrc p.2 → p ∈ D) {vs : List Value} {rs : List (Nat × Nat)} (h : RgIn news vs rs) : RgIn D vs rs := by
  induction h with
  | nil => exact .nil
  | cons h _ ih => exact .cons (hD _ h (notSrc_cls (by intro e; injection e with e; exact absurd e (by decide)))) ih
theorem PF.inD {news D : List (Addr × Obj)} (hD : ∀ p ∈ news, NotSrc p.2 → p ∈ D) {a b c d : Value} {p : Pc} (h : PF news a b c d p) : PF D a b c d p := by
  cases h with
  | any t => exact .any t
  | one t => exact .one t
  | sign c t u => exact .sign c t u
  | lot t neg h r l => exact .lot t neg (hD _ h (notSrc_list fun v hv z t e => by obtain ⟨T, rfl⟩ := r.refs v hv; cases e)) (r.inD hD) l
theorem PieceIn.inD {news D : List (Addr × Obj)} (hD : ∀ p ∈ news, NotSrc p.2 → p ∈ D) {v : Value} {p : Pc} (h : PieceIn news v p) : PieceIn D v p := by
  obtain ⟨a, b⟩ := h
  exact .mk (hD _ a (notSrc_cls (by intro e; injection e with e; exact absurd e (by decide)))) (b.inD hD)
theorem PartIn.inD {P : Params} {news D : List (Addr × Obj)} (hD : ∀ p ∈ news, NotSrc p.2 → p ∈ D) {v : Value} {p : Pc} (h : PartIn P news v p) : PartIn P D v p := by
  obtain ⟨a, b, c⟩ := h
  exact .mk (hD _ a (notSrc_cls (by intro e; cases e))) (hD _ b (notSrc_cls (by intro e; injection e with e; exact absurd e (by decide)))) (c.inD hD)
theorem PieceIn.noInt {D : List (Addr × Obj)} {v : Value} {p : Pc} (h : PieceIn D v p) : ∀ z t, v ≠ .int z t := by
  obtain ⟨a, b⟩ := h
  intro z t e; cases e
theorem PartIn.noInt {P : Params} {D : List (Addr × Obj)} {v : Value} {p : Pc} (h : PartIn P D v p) : ∀ z t, v ≠ .int z t := by
  obtain ⟨a, b, c⟩ := h
  intro z t e; cases e
theorem All2.all {α β : Type} {R : α → β → Prop} {l : List α} {l' : List β} {P : α → Prop} (h : All2 R l l') (hp : ∀ a b, R a b → P a) : ∀ a ∈ l, P a := by
  induction h with
  | nil => intro a ha; cases ha
  | cons x _ ih =>
    intro a ha
    rcases List.mem_cons.mp ha with rfl | ha
    · exact hp _ _ x
    · exact ih a ha
theorem one_len (c : Nat) : PySem.Str.length ⟨#[c]⟩ = 1 := rfl
abbrev oneD (c : Nat) : PyData := .str ⟨#[c]⟩
theorem ones_canLay : ∀ cs : List Nat, (∀ c ∈ cs, c < 1000) → PyData.canLayAll0 (cs.map oneD) = true
  | [], _ => rfl
  | c :: r, h => by
    have h0 := h c (.head _)
    have h1 : PyData.strOk ⟨#[c]⟩ = true := by
      show (#[c].all fun x => decide (x < 0x110000)) = true
      simp; omega
    simp [PyData.canLayAll0, PyData.canLay0, ones_canLay r fun x hx => h x (.tail _ hx), h1]
theorem ones_depth : ∀ cs : List Nat, PyData.depthAll (cs.map oneD) = 0
  | [] => rfl
  | _ :: r => by simp [PyData.depthAll, PyData.depth, ones_depth r]
theorem ones_shaped (cs : List Nat) (h : ∀ c ∈ cs, c < 1000) : SeqAt.shaped (.list (cs.map oneD)) = true := by
  simp [SeqAt.shaped, PyData.canLay0, PyData.depth, ones_canLay cs h, ones_depth]
theorem ne_ones_nil {prog : Program} {w : World} {A : Around} {E : Value → Shared → Prop} {s : Shared} {a b : Addr} {xs : List Value} {cs : List Nat} {Q : Value → Shared → Prop} (ha : s.heap.IsList a xs.toArray) (hb : s.heap.IsList b ([] : List Value).toArray) (hi : CarriedAll xs (cs.map oneD)) (hc : ∀ c ∈ cs, c < 1000) (hu : A.units + 64 < cLine)
    (h : Q (.bool (decide (cs ≠ []))) s) : wpAny (model prog w) A (compareOp .NotEq (.ref a) (.ref b)) Q E s := by
  refine ne_dataH (reads_newData ha hi) (reads_newData hb .nil) (ones_shaped cs hc) rfl hu ?_
  have e : (!PyData.eqv (.list (cs.map oneD)) (.list [])) = decide (cs ≠ []) := by cases cs <;> rfl
  rw [e]; exact h
theorem ones_snoc {vs : List Value} {cs : List Nat} (h : CarriedAll vs (cs.map oneD)) (c : Nat) (t : Tok) : CarriedAll (vs ++ [.str ⟨#[c]⟩ t]) ((cs ++ [c]).map oneD) := by
  rw [List.map_append]
  generalize cs.map oneD = ds at h
  induction h with
  | nil => exact .cons (.str _ t) .nil
  | cons a _ ih => exact .cons a ih
theorem ones_all {vs : List Value} {cs : List Nat} (h : CarriedAll vs (cs.map oneD)) (hc : ∀ c ∈ cs, c < 1000) : ∀ v ∈ vs, OneStr v := by
  induction cs generalizing vs with
  | nil => cases h; intro v hv; cases hv
  | cons c cs ih =>
    cases h with
    | cons a b =>
      intro v hv
      rcases List.mem_cons.mp hv with rfl | hv
      · cases a; exact ⟨_, _, rfl, hc _ (.head _)⟩
      · exact ih b (fun x hx => hc x (.tail _ hx)) v hv
section
local macro_rules | `(tactic| walk_at "call builtin:str.join") => `(tactic| ((with_reducible show wpAny _ _ (call (Value.builtin "str.join") [Value.str _ _, Value.ref _]) _ _ _); (with_reducible rename CarriedAll _ (List.map oneD _) => hC); k_dflt (refine KT.join_1 (g := fun c => ⟨#[c]⟩) ⟨_, ((by k_asm : News _ _ _ _) _ (by walk_at "m_mem")).1, rfl, _, rfl⟩ hC (fun _ _ => rfl) (by omega) ?_); intro t' k hJ))
inductive J8 (b1 : Addr) (x2 x3 : Addr × Obj) (sa : Addr) (D : List (Addr × Obj)) (i : Nat) (m : Str → Option Value) (nx : List (Addr × Obj)) : Prop
  | mk (oP o' : Obj) (x : Str) (t : Tok) (pv : Option Value) : nx = (b1, oP) :: x2 :: x3 :: (sa, o') :: D → oP.data = .cell pv → IsSrc o' → PySem.Str.length x ≤ 2 * i → Has m [("found", .str x t)] → J8 b1 x2 x3 sa D i m nx
inductive J8b (x1 x2 x3 x4 : Addr × Obj) (sa : Addr) (D : List (Addr × Obj)) (i : Nat) (ys : List Value) (nx : List (Addr × Obj)) : Prop
  | mk (o' : Obj) (cs : List Nat) : IsSrc o' → nx = x1 :: x2 :: x3 :: x4 :: (sa, o') :: D → ys.length = i → List.length cs = i → CarriedAll ys (cs.map oneD) → J8b x1 x2 x3 x4 sa D i ys nx
inductive J8c (NX : List (Addr × Obj)) (i : Nat) (ys : List Value) (nx : List (Addr × Obj)) : Prop
  | mk (cs : List Nat) : nx = NX → ys.length ≤ i → List.length cs ≤ i → (∀ c ∈ cs, c < 1000) → CarriedAll ys (cs.map oneD) → J8c NX i ys nx
set_option maxRecDepth 100000 in
set_option maxHeartbeats 800000 in
theorem con_text {sa : Addr} {o : Obj} {g : Obj → List (Addr × Obj)} {l lg : Addr} {vs sg : List Value} {n n2 : Nat} {ps : List Pc} (C : Cx w A₀ base h₀ outer mg mb mean) (F : Fr h₀ L s.heap m) (N : News h₀ L s.heap news) (U : UpdF sa o news g) (ho : IsSrc o) (hk : cs.kind = .function)
  (hdp : dp < 880) (hun : un < 8800) (hl : (l, listOf vs.toArray n) ∈ news) (hP : All2 (PieceIn news) vs ps) (hps : ps.length ≤ 10) (hlg : (lg, listOf sg.toArray n2) ∈ news) (hsg : ∀ v ∈ sg, OneStr v) (hs0 : 0 < sg.length) (hs1 : sg.length ≤ 20)
  (ret : ∀ x t o' h' tk', x.length ≤ 4 * ps.length + 1 → IsSrc o' → Fr h₀ L h' m → News h₀ L h' (g o') → Q (.str x t) { s with heap := h', toks := tk' }) :
  wpAny (model prog w) (ktrTop dp un gd cn cs L a ccd cl outer) (call (.ref 100) [.ref sa, .ref l, .ref lg]) Q E s := by
  obtain ⟨B, X, T⟩ := C
  obtain ⟨D, N0, hD, hin, hout, back⟩ := upd_in N U
  have hinD := inD N N0 ho hin
  replace hP := hP.mono fun _ _ h => PieceIn.inD hinD h
  replace hl := hinD _ hl (notSrc_list (hP.all fun _ _ h => h.noInt))
  replace hlg := hinD _ hlg (notSrc_list fun v hv => (hsg v hv).noInt)
  clear hinD hin N U
  obtain ⟨ck, cnames, cg, cco, cmore⟩ := cs
  dsimp only at hk
  subst hk
  have hfoo : PySem.Challenge.rw_xm0748_01 = PySem.Challenge.rw_xm0748_01 := rfl
  revert hfoo X; k_fill; intro X hfoo
  clear hfoo
  refine wpAny_call ?_
  k_enter
  rename_i g1 L1 h1 tk1 FG1 F0 B1 X1 T1 l1 oP oG oS dP' dG' dS' N1
  have dP : oP.data = .cell none := dP'
  have dG : oG.data = .cell (some (.ref lg)) := dG'
  have dS : oS.data = .cell (some (.ref sa)) := dS'
  clear dP' dG' dS'
  refine wpAny_mono (E := NoE) ?_ (fun _ _ h => h) (fun _ _ h => h.elim)
  (try k_fold)
  obtain ⟨m₀, F1⟩ := ent F0 [("pieces", .ref l)] (has1 rfl)
  clear F0
  (try dsimp only)
  dsimp only [kstB] at F1
  (try dsimp only)
  k_steps
  refine Halt.mk ?_
  rename Fr _ _ _ _ => F2
  refine for_ruleF F2 ?_
  k_steps
  rename Fr _ _ _ _ => F3
  rename News _ _ _ _ => N3
  have hlr : ∀ v ∈ vs, ∃ T, v = .ref T := hP.all fun _ _ h => by obtain ⟨a, b⟩ := h; exact ⟨_, rfl⟩
  refine .inl ⟨l, vs, n, _, _, J8 (L1 + 1 + 1 + 1) (L1 + 1 + 1, oG) (L1 + 1, oS) sa D,
    rfl, rfl, F3, N3, .tail _ (.tail _ (.tail _ (.tail _ hl))), .inl (by intro _ _; rfl), ⟨oP, o, _, _, _, rfl, dP, ho, Nat.le_of_ble_eq_true rfl, (has1 rfl)⟩, ?_, ?_, ?_⟩
  · rintro i m nx ⟨_, _, _, _, _, rfl, _⟩; exact .tail _ (.tail _ (.tail _ (.tail _ hl)))
  · rintro i v m₁ nx I oI h tk hi hv hJ0 F4 N4 off
    refine hide2 ?_
    intro Q' hQ
    obtain ⟨oP1, o1, x, t, pv, rfl, dP1, ho1, hx, hH⟩ := hJ0
    have F5 := hH.fr F4
    clear F4 F3 N3 hH
    (try dsimp only)
    dsimp only [kstB] at F5
    (try dsimp only)
    refine wpAny_assign_Name ?_
    obtain ⟨p, hp, hpv⟩ := hP.get' hv
    obtain ⟨hpa, hpf⟩ := hpv
    obtain ⟨tv, rfl⟩ := hpf.code
    rename_i pa n9 v2 v3 v4
    have k1 : I ≠ sa := Ne.symm (off _ (.tail _ (.tail _ (.tail _ (.head _)))))
    refine storeX_C (g := fun o' => (I, oI) :: (L1 + 1 + 1 + 1, o') :: (L1 + 1 + 1, oG) :: (L1 + 1, oS) :: (sa, o1) :: D) F5 N4 rfl (.tail (Ne.symm (off _ (.head _))) (.head ?_)) dP1 ?_ rfl rfl
    · intro p hp
      rcases List.mem_cons.mp hp with rfl | hp
      · exact Nat.ne_of_lt (Nat.lt_succ_self _)
      · rcases List.mem_cons.mp hp with rfl | hp
        · exact Nat.ne_of_lt (Nat.lt_trans (Nat.lt_succ_self _) (Nat.lt_succ_self _))
        · rcases List.mem_cons.mp hp with rfl | hp
          · exact Nat.ne_of_lt (Nat.lt_trans l1.1 (Nat.lt_trans (Nat.lt_succ_self _) (Nat.lt_trans (Nat.lt_succ_self _) (Nat.lt_succ_self _))))
          · exact Nat.ne_of_lt (Nat.lt_trans (kst_ltOf l1.2 p hp) (Nat.lt_trans (Nat.lt_succ_self _) (Nat.lt_trans (Nat.lt_succ_self _) (Nat.lt_succ_self _))))
    intro h7 oP7 F7 N7 dP7
    clear F5 N4
    (try dsimp only)
    k_steps
    · refine Halt.mk ?_
      refine comp_evalF F7 (by with_unfolding_all rfl) (by decide) rfl (by decide) (by intro _; rfl) ?_
      k_steps
      rename Fr _ _ _ _ => F8
      rename News _ _ _ _ => N8
      rename IsRange _ _ _ _ _ _ _ _ => rg
      rename IsSrc _ => ho8
      rename _ < 3 => w3
      have hi' : i < ps.length := by rw [← hP.length]; exact hi
      refine .inr ⟨_, _, _, _, _, _, _, _, J8b (I, oI) (L1 + 1 + 1 + 1, oP7) (L1 + 1 + 1, oG) (L1 + 1, oS) sa D,
        rfl, rfl, F8, N8, rg, small_one (by omega) (by omega) (by omega) (by omega), rangeSize_nat _ _, by rw [sizeLine_eq]; omega, by intro _ _; rfl, ⟨_, [], ho8, rfl, rfl, rfl, .nil⟩, ?_, ?_, ?_⟩
      · rintro i ys nx ⟨_, _, _, _, h, _⟩; exact Nat.le_of_eq h
      · rintro i v ys nx I' oI' oC C D9 m₂ h tk E' hi ⟨t, rfl⟩ hJ0 hoC F9 N9 off9 n1 n2 n3
        refine hide3 ?_
        intro R1 R2 hR1 hR2
        obtain ⟨o', cs, hso, rfl, hlen, hcl, hcs⟩ := hJ0
        clear N8 F8 rg
        (try dsimp only)
        refine comp_one F9 N9 hoC n1 ?_ rfl rfl ?_
        · intro p hp
          rcases List.mem_cons.mp hp with rfl | hp
          · exact Ne.symm n3
          · exact (off9 p hp).2.1
        intro h8 tk8 oC8 m8 F8 n8 hat N8
        clear F9 N9 hoC
        (try dsimp only)
        refine wpAny_tests_nil ?_
        simp only [if_true]
        have k0 := off9 (sa, o') (.tail _ (.tail _ (.tail _ (.tail _ (.head _)))))
        have k2 : I' ≠ sa := Ne.symm k0.1
        have k3 : C ≠ sa := Ne.symm k0.2.1
        have k4 : D9 ≠ sa := Ne.symm k0.2.2
        have k5 : sg.length ≤ 100 := by omega
        k_steps
        rename Fr _ _ _ _ => F10
        rename News _ _ _ _ => N10
        rename IsSrc _ => ho10
        refine hR1 _ _ ⟨_, _, _, _, _, rfl, F10, n8, N10, ?_, _, cs ++ [_], ho10, rfl, by rw [List.length_append, hlen]; rfl, by rw [List.length_append, hcl]; rfl, ones_snoc hcs _ _⟩
        intro p hp
        rcases List.mem_cons.mp hp with rfl | hp
        · exact off9 _ (.head _)
        · rcases List.mem_cons.mp hp with rfl | hp
          · exact off9 _ (.tail _ (.head _))
          · rcases List.mem_cons.mp hp with rfl | hp
            · exact off9 _ (.tail _ (.tail _ (.head _)))
            · rcases List.mem_cons.mp hp with rfl | hp
              · exact off9 _ (.tail _ (.tail _ (.tail _ (.head _))))
              · rcases List.mem_cons.mp hp with rfl | hp
                · exact k0
                · exact off9 _ (.tail _ (.tail _ (.tail _ (.tail _ (.tail _ hp)))))
      · rintro D9 ys nx h tk ⟨o', cs, hso, rfl, hlen, hcl, hcs⟩ N9 off9 F9
        clear N8 F8 rg
        (try dsimp only)
        (try dsimp only)
        have hcl3 : cs.length ≤ 2 := by omega
        clear hcl hlen
        k_steps
        rename Fr _ _ _ _ => F10
        rename News _ _ _ _ => N10
        refine hQ _ _ ⟨_, _, _, (L1 + 1 + 1 + 1, oP7) :: (L1 + 1 + 1, oG) :: (L1 + 1, oS) :: (sa, o') :: D, rfl, F10, nsub N10 fun p hp => .tail _ hp, ?_, oP7, o', _, _, _, rfl, dP7, hso, by omega, (has1 rfl)⟩
        intro p hp
        rcases List.mem_cons.mp hp with rfl | hp
        · exact off (L1 + 1 + 1 + 1, oP1) (.head _)
        · rcases List.mem_cons.mp hp with rfl | hp
          · exact off _ (.tail _ (.head _))
          · rcases List.mem_cons.mp hp with rfl | hp
            · exact off _ (.tail _ (.tail _ (.head _)))
            · rcases List.mem_cons.mp hp with rfl | hp
              · exact Ne.symm k1
              · exact off _ (.tail _ (.tail _ (.tail _ (.tail _ hp))))
    · refine Halt.mk ?_
      rename Pc.code _ ≠ 0 => h0
      have ha := Pc.not_any h0
      refine comp_assignF F7 rfl (by with_unfolding_all rfl) (by with_unfolding_all rfl) (by decide) rfl (by decide) rfl rfl (by intro _; rfl) ?_
      k_steps
      rename Fr _ _ _ _ => F8
      rename News _ _ _ _ => N8
      have hi' : i < ps.length := by rw [← hP.length]; exact hi
      have hlgm : (lg, listOf sg.toArray n2) ∈ (I, oI) :: (L1 + 1 + 1 + 1, oP7) :: (L1 + 1 + 1, oG) :: (L1 + 1, oS) :: (sa, o1) :: D := .tail _ (.tail _ (.tail _ (.tail _ (.tail _ hlg))))
      refine .inl ⟨lg, sg, n2, _, J8c ((I, oI) :: (L1 + 1 + 1 + 1, oP7) :: (L1 + 1 + 1, oG) :: (L1 + 1, oS) :: (sa, o1) :: D),
        rfl, rfl, F8, N8, hlgm, by rw [sizeLine_eq]; omega, .inl (by intro _ _; rfl), ⟨[], rfl, Nat.le_refl _, Nat.le_refl _, (fun c hc => by cases hc), .nil⟩, ?_, ?_, ?_, ?_⟩
      · rintro i ys nx ⟨_, _, h, _⟩; exact h
      · rintro i ys nx ⟨_, rfl, _⟩; exact hlgm
      · rintro i v ys nx I' oI' oC C D9 m₂ h tk E' hi hvi hJ0 hoC F9 N9 off9 n1 n2 n3
        refine hide3 ?_
        intro R1 R2 hR1 hR2
        obtain ⟨cs, rfl, hlen, hcl, hcb, hcs⟩ := hJ0
        obtain ⟨c, t, rfl, hc⟩ := hsg v (List.mem_of_getElem? hvi)
        clear N8 F8
        (try dsimp only)
        refine comp_one F9 N9 hoC n1 ?_ rfl rfl ?_
        · intro p hp
          rcases List.mem_cons.mp hp with rfl | hp
          · exact Ne.symm n3
          · exact (off9 p hp).2.1
        intro h8 tk8 oC8 m8 F8 n8 hat N8
        clear F9 N9 hoC
        (try dsimp only)
        refine wpAny_tests_one ?_
        k_steps
        refine Halt.mk ?_
        refine con_stands ⟨by k_asm, by k_asm, by k_asm⟩ F8 N8 rfl (lts1 (by assumption) rfl) (lts3 (by assumption) rfl) (by walk_at "m_mem") (hpf.mono fun p hp => by walk_at "m_mem") ha ?_
        intro h9 tk9 F9 N9
        clear F8 N8
        (try dsimp only)
        k_steps
        · refine hR1 _ _ ⟨_, _, _, _, _, rfl, (by k_asm), n8, (by k_asm), off9, cs ++ [c], rfl, by rw [List.length_append, List.length_singleton]; omega, by rw [List.length_append, List.length_singleton]; omega, ?_, ones_snoc hcs _ _⟩
          intro x hx
          rcases List.mem_append.mp hx with hx | hx
          · exact hcb x hx
          · rw [List.mem_singleton.mp hx]; exact hc
        · exact hR2 _ ⟨_, _, _, _, _, rfl, (by k_asm), n8, (by k_asm), off9, cs, rfl, by omega, by omega, hcb, hcs⟩
      · rintro D9 ys nx h tk ⟨cs, rfl, hlen, hcl, hcb, hcs⟩ N9 off9 F9
        clear N8 F8
        (try dsimp only)
        (try dsimp only)
        have k3 : D9 ≠ sa := Ne.symm (off9 _ (.tail _ (.tail _ (.tail _ (.tail _ (.head _))))))
        k_steps
        refine Halt.mk ?_
        rename Fr _ _ _ _ => F10
        rename News _ _ _ _ => N10
        refine ne_ones_nil ⟨_, (N10 _ (.tail _ (.head _))).1, rfl, _, rfl⟩ ⟨_, (N10 _ (.head _)).1, rfl, _, rfl⟩ hcs hcb (by have := cLine_is; dsimp only [ktrTop, Around.deeper]; omega) ?_
        have hys := ones_all hcs hcb
        have hl9 := hcs.length_eq
        rw [List.length_map] at hl9
        have hl8 : ys.length ≤ 100 := by omega
        have hl7 : sg.length ≤ 100 := by omega
        cases cs with
        | nil =>
          rw [show decide (([] : List Nat) ≠ []) = false from rfl]
          k_steps
          rename Fr _ _ _ _ => F11
          rename News _ _ _ _ => N11
          rename IsSrc _ => ho11
          refine hQ _ _ ⟨_, _, _, (L1 + 1 + 1 + 1, oP7) :: (L1 + 1 + 1, oG) :: (L1 + 1, oS) :: (sa, _) :: D, rfl, F11, nsub N11 (fun p hp => .tail _ (.tail _ hp)), ?_, oP7, _, _, _, _, rfl, dP7, ho11, by simp only [PySem.Str.length_append, one_len]; omega, (has1 rfl)⟩
          · intro p hp
            rcases List.mem_cons.mp hp with rfl | hp
            · exact off (L1 + 1 + 1 + 1, oP1) (.head _)
            · rcases List.mem_cons.mp hp with rfl | hp
              · exact off _ (.tail _ (.head _))
              · rcases List.mem_cons.mp hp with rfl | hp
                · exact off _ (.tail _ (.tail _ (.head _)))
                · rcases List.mem_cons.mp hp with rfl | hp
                  · exact Ne.symm k1
                  · exact off _ (.tail _ (.tail _ (.tail _ (.tail _ hp))))
        | cons c0 cr =>
          rw [show decide (c0 :: cr ≠ []) = true from rfl]
          have hl6 : 0 < ys.length := by rw [hl9]; exact Nat.zero_lt_succ _
          k_steps
          rename Fr _ _ _ _ => F11
          rename News _ _ _ _ => N11
          rename IsSrc _ => ho11
          refine hQ _ _ ⟨_, _, _, (L1 + 1 + 1 + 1, oP7) :: (L1 + 1 + 1, oG) :: (L1 + 1, oS) :: (sa, _) :: D, rfl, F11, nsub N11 (fun p hp => .tail _ (.tail _ hp)), ?_, oP7, _, _, _, _, rfl, dP7, ho11, by simp only [PySem.Str.length_append, one_len]; omega, (has1 rfl)⟩
          · intro p hp
            rcases List.mem_cons.mp hp with rfl | hp
            · exact off (L1 + 1 + 1 + 1, oP1) (.head _)
            · rcases List.mem_cons.mp hp with rfl | hp
              · exact off _ (.tail _ (.head _))
              · rcases List.mem_cons.mp hp with rfl | hp
                · exact off _ (.tail _ (.tail _ (.head _)))
                · rcases List.mem_cons.mp hp with rfl | hp
                  · exact Ne.symm k1
                  · exact off _ (.tail _ (.tail _ (.tail _ (.tail _ hp))))
  · rintro m₁ nx h tk ⟨oP1, o1, x, t, pv, rfl, dP1, ho1, hx, hH⟩ F4 N4
    have F5 := hH.fr F4
    clear F4 F3 N3 hH
    (try dsimp only)
    dsimp only [kstB] at F5
    (try dsimp only)
    rw [hP.length] at hx
    have hl7 : sg.length ≤ 100 := by omega
    k_steps
    all_goals
      rename News _ _ _ _ => N11
      refine ret _ _ _ _ _ ?_ (by assumption) (by k_asm) (back _ _ _ _ (nsub N11 fun p hp => ?_))
      · (try simp only [PySem.Str.length_append, one_len]); omega
      · rcases List.mem_cons.mp hp with h | hp
        · rw [h]; walk_at "m_mem"
        · walk_at "m_mem"
end
end Mine
end TC8
local macro_rules | `(tactic| walk_at "call builtin:str.join") => `(tactic| ((with_reducible show wpAny _ _ (call (Value.builtin "str.join") [Value.str _ _, Value.ref _]) _ _ _); (with_reducible rename CarriedAll _ (List.map Mine.oneD _) => hC); k_dflt (refine KT.join_1 (g := fun c => ⟨#[c]⟩) ⟨_, ((by k_asm : News _ _ _ _) _ (by walk_at "m_mem")).1, rfl, _, rfl⟩ hC (fun _ _ => rfl) (by omega) ?_); intro t' k hJ))
section TC9
namespace Mine
variable {prog : Program} {w : World} {dp un : Nat} {gd : Option (List Code)} {cn : Str} {cs : Scope} {L a : Addr} {ccd : Value} {cl : List (Str × Addr)} {outer : List Env} {A₀ : Around} {base h₀ : Heap} {m mg mb : Str → Option Value} {mean : ExcName → Option Value} {s : Shared} {Q E : Value → Shared → Prop} {news D : List (Addr × Obj)}

def fold (c : Nat) : Nat := if 65 ≤ c ∧ c ≤ 90 then c + 32 else c
def fv : Nat → Nat → Tok → List Value
  | 0, _, _ => []
  | _, c, t => [.str ⟨#[c]⟩ t]
section
local macro_rules | `(tactic| walk_at "call builtin:str.join") => `(tactic| (refine Halt.out ?_))
inductive J9 (l : Addr) (c : Nat) (news : List (Addr × Obj)) (i : Nat) (m : Str → Option Value) (nx : List (Addr × Obj)) : Prop
  | mk (u : Tok) (nn : Nat) : nx = (l, listOf (List.toArray (fv i (fold c) u)) nn) :: news → Has m [("signs", .ref l)] → J9 l c news i m nx
set_option maxRecDepth 100000 in
set_option maxHeartbeats 800000 in
theorem con_fold {c : Nat} {tc : Tok} (C : Cx w A₀ base h₀ outer mg mb mean) (F : Fr h₀ L s.heap m) (N : News h₀ L s.heap news) (hk : cs.kind = .function)
  (hdp : dp < 890) (hun : un < 8900) (hc : c < 1000)
  (ret : ∀ t h' tk', Fr h₀ L h' m → News h₀ L h' news → Q (.str ⟨#[fold c]⟩ t) { s with heap := h', toks := tk' }) :
  wpAny (model prog w) (ktrTop dp un gd cn cs L a ccd cl outer) (call (.ref 21) [.str ⟨#[c]⟩ tc]) Q E s := by
  obtain ⟨B, X, T⟩ := C
  have hfoo : PySem.Challenge.rw_xm0748_01 = PySem.Challenge.rw_xm0748_01 := rfl
  revert hfoo X; k_fill; intro X hfoo
  clear hfoo
  refine wpAny_call ?_
  k_dflt ktr_enter
  refine wpAny_mono (E := NoE) ?_ (fun _ _ h => h) (fun _ _ h => h.elim)
  (try k_fold)
  rename Fr _ _ _ _ => F0
  obtain ⟨m₀, F1⟩ := ent F0 [("text", .str ⟨#[c]⟩ tc)] (has1 rfl)
  clear F0
  (try dsimp only)
  dsimp only [kstB] at F1
  (try dsimp only)
  k_steps
  refine Halt.mk ?_
  rename Fr _ _ _ _ => F2
  refine for_ruleF F2 ?_
  k_steps
  rename Fr _ _ _ _ => F3
  rename News _ _ _ _ => N3
  rename_i l _ l3 _
  refine .inr (.inr ⟨_, _, _, _, J9 l c news,
    rfl, rfl, F3, N3, by intro _ _; rfl, ⟨0, 0, rfl, (has1 rfl)⟩, ?_, ?_⟩)
  · rintro i v m₁ nx I oI h tk hi ⟨c', u', hc', rfl⟩ hJ0 F4 N4 off
    refine hide2 ?_
    intro Q' hQ
    obtain ⟨u, nn, rfl, hH⟩ := hJ0
    have i0 : i = 0 := by
      have : i < 1 := hi
      omega
    subst i0
    have e : c' = c := by
      have : some c = some c' := hc'
      injection this with h; exact h.symm
    subst e
    have F5 := hH.fr F4
    clear F4 F3 N3 hH
    (try dsimp only)
    dsimp only [kstB] at F5
    (try dsimp only)
    replace N4 : News _ _ _ ((I, oI) :: (l, listOf (List.toArray []) nn) :: news) := N4
    have k1 : I ≠ l := Ne.symm (off _ (.head _))
    refine wpAny_assign_Name ?_
    k_steps
    all_goals
      rename News _ _ _ _ => N6
      rename Fr _ _ _ _ => F6
      refine' hQ _ _ ⟨_, _, _, _, rfl, F6, N6, ?_, _, _, ?e, (has1 rfl)⟩
      case e =>
        first
          | (have h1 := lt1.mp (by assumption : [c'] < [65]); rw [show fold c' = c' from if_neg (by omega)]; rfl)
          | (have h1 := lt1.mp (by assumption : [90] < [c']); rw [show fold c' = c' from if_neg (by omega)]; rfl)
          | (have h1 : ¬ c' < 65 := fun h => (by assumption : ¬ [c'] < [65]) (lt1.mpr h)
             have h2 : ¬ 90 < c' := fun h => (by assumption : ¬ [90] < [c']) (lt1.mpr h)
             rw [show fold c' = ((c' : Int) + 32).toNat by unfold fold; rw [if_pos (by omega)]; rfl]; rfl)
      intro p hp
      rcases List.mem_cons.mp hp with rfl | hp
      · exact Ne.symm k1
      · exact off _ (.tail _ hp)
  · rintro m₁ nx h tk ⟨u, nn, rfl, hH⟩ F4 N4
    have F5 := hH.fr F4
    clear F4 F3 N3 hH
    (try dsimp only)
    dsimp only [kstB] at F5
    (try dsimp only)
    replace N4 : News _ _ _ ((l, listOf (List.toArray [.str ⟨#[fold c]⟩ u]) nn) :: news) := N4
    have hC : CarriedAll [.str ⟨#[fold c]⟩ u] ([fold c].map oneD) := .cons (.str _ _) .nil
    k_steps
    refine Halt.mk ?_
    rename News _ _ _ _ => N6
    refine KT.join_1 (g := fun c => ⟨#[c]⟩) ⟨_, (N6 _ (.head _)).1, rfl, _, rfl⟩ hC (fun _ _ => rfl) (Nat.le_of_ble_eq_true rfl) ?_
    intro t' k hJ
    clear hJ
    rw [show Txt.join (Str.ofString "") ([fold c].map fun c => (⟨#[c]⟩ : Str)) = ⟨#[fold c]⟩ from rfl]
    k_steps
    rename News _ _ _ _ => N7
    exact ret _ _ _ (by k_asm) (nsub N7 fun p hp => .tail _ hp)
end
end Mine
end TC9
section TC10
namespace Mine
variable {prog : Program} {w : World} {dp un : Nat} {gd : Option (List Code)} {cn : Str} {cs : Scope} {L a : Addr} {ccd : Value} {cl : List (Str × Addr)} {outer : List Env} {A₀ : Around} {base h₀ : Heap} {m mg mb : Str → Option Value} {mean : ExcName → Option Value} {s : Shared} {Q E : Value → Shared → Prop} {news D : List (Addr × Obj)}

def pcOf (c : Nat) : Pc := if c = 37 then .any else if c = 95 then .one else .sign (fold c)
def lp (esc : Option Nat) : List Nat → Option (List Pc)
  | [] => some []
  | [c] => if esc = some c then none else some [pcOf c]
  | c :: d :: r => if esc = some c then (lp esc r).map (.sign (fold d) :: ·) else (lp esc (d :: r)).map (pcOf c :: ·)
theorem lp_end {esc : Option Nat} {c : Nat} (h : esc = some c) : lp esc [c] = none := by rw [lp, if_pos h]
theorem lp_two {esc : Option Nat} {c d : Nat} {r : List Nat} (h : esc = some c) : lp esc (c :: d :: r) = (lp esc r).map (.sign (fold d) :: ·) := by rw [lp, if_pos h]
theorem lp_one {esc : Option Nat} {c : Nat} {r : List Nat} (h : esc ≠ some c) : lp esc (c :: r) = (lp esc r).map (pcOf c :: ·) := by
  cases r with
  | nil => rw [show lp esc [c] = if esc = some c then none else some [pcOf c] from rfl, if_neg h]; rfl
  | cons d r => rw [lp, if_neg h]
def escV : Option Nat → Tok → Value
  | none, _ => .none
  | some e, t => .str ⟨#[e]⟩ t
/-- what holds between the turns of like_parts -/
def LpI (esc : Option Nat) (pat : List Nat) (k : Nat) (ps : List Pc) : Prop := lp esc pat = (lp esc (pat.drop k)).map (ps ++ ·)
theorem LpI.start (esc : Option Nat) (pat : List Nat) : LpI esc pat 0 [] := by
  unfold LpI
  rw [List.drop_zero]; cases lp esc pat <;> rfl
theorem LpI.one {esc : Option Nat} {pat : List Nat} {k c : Nat} {ps : List Pc} (h : LpI esc pat k ps) (hc : pat[k]? = some c) (he : esc ≠ some c) : LpI esc pat (k + 1) (ps ++ [pcOf c]) := by
  obtain ⟨hk, rfl⟩ := List.getElem?_eq_some_iff.mp hc
  unfold LpI at *
  rw [h, List.drop_eq_getElem_cons hk, lp_one he]
  cases lp esc (pat.drop (k + 1)) <;> simp
theorem LpI.two {esc : Option Nat} {pat : List Nat} {k c d : Nat} {ps : List Pc} (h : LpI esc pat k ps) (hc : pat[k]? = some c) (he : esc = some c) (hd : pat[k + 1]? = some d) : LpI esc pat (k + 1 + 1) (ps ++ [.sign (fold d)]) := by
  obtain ⟨hk, rfl⟩ := List.getElem?_eq_some_iff.mp hc
  obtain ⟨hk', rfl⟩ := List.getElem?_eq_some_iff.mp hd
  unfold LpI at *
  rw [h, List.drop_eq_getElem_cons hk, List.drop_eq_getElem_cons hk', lp_two he]
  cases lp esc (pat.drop (k + 1 + 1)) <;> simp
theorem LpI.none {esc : Option Nat} {pat : List Nat} {k c : Nat} {ps : List Pc} (h : LpI esc pat k ps) (hc : pat[k]? = some c) (he : esc = some c) (hd : k + 1 = pat.length) : lp esc pat = none := by
  obtain ⟨hk, rfl⟩ := List.getElem?_eq_some_iff.mp hc
  unfold LpI at *
  rw [h, List.drop_eq_getElem_cons hk, List.drop_eq_nil_of_le (Nat.le_of_eq hd.symm), lp_end he]; rfl
theorem LpI.done {esc : Option Nat} {pat : List Nat} {ps : List Pc} (h : LpI esc pat pat.length ps) : lp esc pat = some ps := by
  unfold LpI at h
  rw [h, List.drop_length]
  show (some []).map _ = _
  simp
theorem All2.snoc {α β : Type} {R : α → β → Prop} {l : List α} {l' : List β} (h : All2 R l l') {a : α} {b : β} (hab : R a b) : All2 R (l ++ [a]) (l' ++ [b]) := h.append (.cons hab .nil)
theorem pf_any {D : List (Addr × Obj)} {c : Nat} {t : Tok} (h : ((⟨#[c]⟩ : Str) == Str.ofString "%") = true) : PF D (.int 0 t) .none .none (.bool false) (pcOf c) := by
  have h : c = 37 := by rw [show Str.ofString "%" = ⟨#[37]⟩ from rfl, beq1] at h; exact eq_of_beq h
  rw [pcOf, if_pos h]; exact .any t
theorem pf_one {D : List (Addr × Obj)} {c : Nat} {t : Tok} (h0 : ((⟨#[c]⟩ : Str) == Str.ofString "%") = false) (h : ((⟨#[c]⟩ : Str) == Str.ofString "_") = true) : PF D (.int 1 t) .none .none (.bool false) (pcOf c) := by
  have h0 : c ≠ 37 := by rw [show Str.ofString "%" = ⟨#[37]⟩ from rfl, beq1] at h0; exact ne_of_beq_false h0
  have h : c = 95 := by rw [show Str.ofString "_" = ⟨#[95]⟩ from rfl, beq1] at h; exact eq_of_beq h
  rw [pcOf, if_neg h0, if_pos h]; exact .one t
theorem pf_sign {D : List (Addr × Obj)} {c : Nat} {t u : Tok} (h0 : ((⟨#[c]⟩ : Str) == Str.ofString "%") = false) (h : ((⟨#[c]⟩ : Str) == Str.ofString "_") = false) : PF D (.int 2 t) (.str ⟨#[fold c]⟩ u) .none (.bool false) (pcOf c) := by
  have h0 : c ≠ 37 := by rw [show Str.ofString "%" = ⟨#[37]⟩ from rfl, beq1] at h0; exact ne_of_beq_false h0
  have h : c ≠ 95 := by rw [show Str.ofString "_" = ⟨#[95]⟩ from rfl, beq1] at h; exact ne_of_beq_false h
  rw [pcOf, if_neg h0, if_neg h]; exact .sign _ t u
theorem ne_esc {c e : Nat} (h : ((⟨#[c]⟩ : Str) == ⟨#[e]⟩) = false) : (some e : Option Nat) ≠ some c := by
  rw [beq1] at h
  intro q; injection q with q
  exact ne_of_beq_false h q.symm
theorem eq_esc {c e : Nat} (h : ((⟨#[c]⟩ : Str) == ⟨#[e]⟩) = true) : (some e : Option Nat) = some c := by
  rw [beq1] at h
  rw [eq_of_beq h]
theorem like_step {P : Params} {g h : Heap} {L x dx l : Addr} {nn : Nat} {vs : List Value} {ps : List Pc} {tl TD news : List (Addr × Obj)} {t1 t2 t3 t4 : Tok} {v1 v2 v3 v4 : Value} {p : Pc} (N : News g L h ((x, instObj 46 dx) :: (dx, partDict P t1 t2 t3 t4 v1 v2 v3 v4) :: (l, listOf (vs.toArray.push (.ref x)) nn) :: TD))
    (h1 : @LT.lt Nat _ l dx ∧ AllLt dx TD) (h2 : @LT.lt Nat _ dx x) (hTD : TD = tl ++ news) (hTl : ∀ p ∈ TD, p.1 ≠ l) (hfr : ∀ p ∈ tl, ∀ q ∈ news, p.1 ≠ q.1) (hA : All2 (PartIn P tl) vs ps) (hp : PF [] v1 v2 v3 v4 p) :
    ∃ tl' TD', News g L h ((l, listOf (List.toArray (vs ++ [.ref x])) nn) :: TD') ∧ TD' = tl' ++ news ∧ (∀ p ∈ TD', p.1 ≠ l) ∧ (∀ p ∈ tl', ∀ q ∈ news, p.1 ≠ q.1) ∧ All2 (PartIn P tl') (vs ++ [.ref x]) (ps ++ [p]) := by
  have lt1 : ∀ q ∈ TD, @LT.lt Nat _ q.1 dx := fun q hq => kst_ltOf h1.2 q hq
  refine ⟨(x, instObj 46 dx) :: (dx, partDict P t1 t2 t3 t4 v1 v2 v3 v4) :: tl, (x, instObj 46 dx) :: (dx, partDict P t1 t2 t3 t4 v1 v2 v3 v4) :: TD, ?_, by rw [hTD]; rfl, ?_, ?_, ?_⟩
  · rw [List.push_toArray] at N
    refine nsub N fun p hp => ?_
    rcases List.mem_cons.mp hp with rfl | hp
    · exact .tail _ (.tail _ (.head _))
    · rcases List.mem_cons.mp hp with rfl | hp
      · exact .head _
      · rcases List.mem_cons.mp hp with rfl | hp
        · exact .tail _ (.head _)
        · exact .tail _ (.tail _ (.tail _ hp))
  · intro p hp
    rcases List.mem_cons.mp hp with rfl | hp
    · exact Nat.ne_of_gt (Nat.lt_trans h1.1 h2)
    · rcases List.mem_cons.mp hp with rfl | hp
      · exact Nat.ne_of_gt h1.1
      · exact hTl p hp
  · intro p hp q hq
    have hq' : q ∈ TD := hTD ▸ List.mem_append.mpr (.inr hq)
    rcases List.mem_cons.mp hp with rfl | hp
    · exact Nat.ne_of_gt (Nat.lt_trans (lt1 q hq') h2)
    · rcases List.mem_cons.mp hp with rfl | hp
      · exact Nat.ne_of_gt (lt1 q hq')
      · exact hfr p hp q hq
  · exact (hA.mono fun _ _ h => h.mono fun p hp => .tail _ (.tail _ hp)).snoc (.mk (.head _) (.tail _ (.head _)) (hp.mono fun p hp => by cases hp))
section
local macro_rules | `(tactic| walk_at "exec While Compare cons nil") => `(tactic| refine Halt.out ?_)
local macro_rules | `(tactic| walk_at "subscriptTail Name Name str int") => `(tactic| (refine text_sub (by omega) (by omega) (by omega) (by with_unfolding_all rfl) ?_; intro c hc; have hcb := (by assumption : ∀ c ∈ _, c < 1000) c (List.mem_of_getElem? hc)))
local macro_rules | `(tactic| walk_at "call ref") => `(tactic| ((with_reducible show wpAny _ _ (call (Value.ref 21) _) _ _ _); k_dflt (refine con_fold ⟨by k_asm, by k_asm, by k_asm⟩ (by k_asm) (by k_asm) rfl (lts1 (by assumption) rfl) (lts3 (by assumption) rfl) (by assumption) ?_); intro t h' tk' F' N'))
inductive Mark : Prop
  | mk
/-- behind the test of the escape -/
inductive TestEnd (P : Nat → Prop) (esc : Option Nat) (c : Nat) (s : Shared) (b : Bool) (s' : Shared) : Prop
  | yes (tk e : Nat) : b = true → s' = ⟨s.heap, s.gens, s.drawn, tk, s.os⟩ → esc = some e → P e → TestEnd P esc c s b s'
  | no (tk : Nat) : b = false → s' = ⟨s.heap, s.gens, s.drawn, tk, s.os⟩ → esc ≠ some c → TestEnd P esc c s b s'
theorem midT {A : Around} {x : Sem Bool} {Q : Bool → Shared → Prop} {s₂ : Shared} (P : Nat → Prop) (esc : Option Nat) (c : Nat) 
    (h1 : wpAny (model prog w) A x (TestEnd P esc c s₂) NoE s₂) (h2 : ∀ b s', TestEnd P esc c s₂ b s' → Q b s') : wpAny (model prog w) A x Q NoE s₂ := wpAny_mono h1 h2 fun _ _ h => h
theorem midT2 {A : Around} {x : Sem Bool} {Q : Bool → Shared → Prop} {s₂ : Shared} {pat : List Nat} {k c : Nat} (esc : Option Nat) (uhc : pat[k]? = some c)
    (h1 : wpAny (model prog w) A x (TestEnd (fun e => e = c) esc c s₂) NoE s₂) (h2 : ∀ b s', TestEnd (fun e => e = c) esc c s₂ b s' → Q b s') : wpAny (model prog w) A x Q NoE s₂ := wpAny_mono h1 h2 fun _ _ h => h
theorem testEq {e c tk : Nat} {s : Shared} : TestEnd (fun e => e = c) (some e) c s ((⟨#[c]⟩ : Str) == ⟨#[e]⟩) ⟨s.heap, s.gens, s.drawn, tk, s.os⟩ := by
  cases h : ((⟨#[c]⟩ : Str) == ⟨#[e]⟩) with
  | true => exact .yes _ e rfl rfl rfl (Option.some.inj (eq_esc h))
  | false => exact .no _ rfl rfl (ne_esc h)
local macro_rules | `(tactic| walk_at "isTrue BoolOp") => `(tactic| ((with_reducible rename Mark => hmk); refine Halt.out ?_))
inductive J10 (P : Params) (l : Addr) (news : List (Addr × Obj)) (pat : List Nat) (tp : Tok) (esc : Option Nat) (te : Tok) (n : Nat) (m : Str → Option Value) (nx : List (Addr × Obj)) : Prop
  | mk (k nn : Nat) (t : Tok) (vs : List Value) (ps : List Pc) (tl TD : List (Addr × Obj)) : nx = (l, listOf vs.toArray nn) :: TD → TD = tl ++ news → (∀ p ∈ TD, p.1 ≠ l) → (∀ p ∈ tl, ∀ q ∈ news, p.1 ≠ q.1) → k ≤ pat.length → vs.length ≤ k → Has m [("pattern", .str ⟨pat.toArray⟩ tp), ("escape", escV esc te), ("parts", .ref l), ("at", .int (k : Int) t)] →
    All2 (PartIn P tl) vs ps → LpI esc pat k ps → n = pat.length - k → J10 P l news pat tp esc te n m nx
set_option maxRecDepth 100000 in
set_option maxHeartbeats 800000 in
theorem con_like {pat : List Nat} {esc : Option Nat} {tp te : Tok} (C : Cx w A₀ base h₀ outer mg mb mean) (F : Fr h₀ L s.heap m) (N : News h₀ L s.heap news) (hk : cs.kind = .function)
  (hdp : dp < 880) (hun : un < 8800) (hpat : ∀ c ∈ pat, c < 1000) (hpl : pat.length ≤ 100)
  (retN : lp esc pat = none → ∀ h' tk', Fr h₀ L h' m → News h₀ L h' news → Q .none { s with heap := h', toks := tk' })
  (ret : ∀ l vs nn ps tl h' tk', lp esc pat = some ps → ps.length ≤ pat.length → All2 (PartIn w.params tl) vs ps → Fr h₀ L h' m → News h₀ L h' ((l, listOf (List.toArray vs) nn) :: (tl ++ news)) → (∀ q ∈ news, l ≠ q.1) → (∀ p ∈ tl, ∀ q ∈ news, p.1 ≠ q.1) → Q (.ref l) { s with heap := h', toks := tk' }) :
  wpAny (model prog w) (ktrTop dp un gd cn cs L a ccd cl outer) (call (.ref 64) [.str ⟨pat.toArray⟩ tp, escV esc te]) Q E s := by
  obtain ⟨B, X, T⟩ := C
  have hfoo : PySem.Challenge.rw_xm0748_01 = PySem.Challenge.rw_xm0748_01 := rfl
  revert hfoo X; k_fill; intro X hfoo
  clear hfoo
  refine wpAny_call ?_
  k_dflt ktr_enter
  refine wpAny_mono (E := NoE) ?_ (fun _ _ h => h) (fun _ _ h => h.elim)
  (try k_fold)
  rename Fr _ _ _ _ => F0
  obtain ⟨m₀, F1⟩ := ent F0 [("pattern", .str ⟨pat.toArray⟩ tp), ("escape", escV esc te)] (has2 rfl rfl)
  clear F0
  (try dsimp only)
  dsimp only [kstB] at F1
  (try dsimp only)
  k_steps
  refine Halt.mk ?_
  rename Fr _ _ _ _ => F2
  rename News _ _ _ _ => N2
  rename_i l _ l2 _ tk0
  refine while_rule (J10 w.params l news pat tp esc te) F2 N2 ⟨0, 0, _, [], [], [], news, rfl, rfl, (fun p hp => Nat.ne_of_lt (l2 p hp)), (fun p hp => by cases hp), Nat.zero_le _, Nat.le_refl _, (has4 rfl rfl rfl rfl), .nil, LpI.start _ _, rfl⟩ ?_
  rintro n m₁ nx h tk Q' hQ F3 N3 ⟨k, nn, t, vs, ps, tl, TD, rfl, hTD, hTl, hfr, hkp, hvk, hH, hA, hI, rfl⟩
  have F4 := hH.fr F3
  clear F3 hH F2 N2
  (try dsimp only)
  have hin : ∀ p ∈ tl, p ∈ TD := fun p hp => hTD ▸ List.mem_append.mpr (.inl hp)
  dsimp only [kstB] at F4
  (try dsimp only)
  have hmk : Mark := .mk
  k_steps
  · refine Halt.mk ?_
    rename Mark => hmk; clear hmk
    rename Fr _ _ _ _ => F5
    rename pat[_]? = some _ => hc
    rw [Int.toNat_natCast] at hc
    refine midT2 esc hc ?_ ?_
    · cases esc with
      | none =>
        dsimp only [escV] at F5
        k_steps
        exact .no _ rfl rfl (by intro h; cases h)
      | some e =>
        dsimp only [escV] at F5
        k_steps
        all_goals first
          | exact testEq
          | exact .yes _ e rfl rfl rfl (Option.some.inj (eq_esc (by assumption)))
          | exact .no _ rfl rfl (ne_esc (by assumption))
    rintro b s' (⟨tk9, e, rfl, rfl, rfl, hec⟩ | ⟨tk9, rfl, rfl, hne⟩)
    · subst hec
      (try dsimp only)
      k_steps
      all_goals first
        | (rename News _ _ _ _ => N6
           rename pat[((k : Int) + 1).toNat]? = some _ => hd
           rw [show ((k : Int) + 1).toNat = k + 1 by omega] at hd
           obtain ⟨tl', TD', N7, e1, e2, e3, e4⟩ := like_step (P := w.params) N6 (by assumption) (by assumption) hTD hTl hfr hA (.sign _ _ _)
           exact hQ _ _ ⟨_, _, _, _, _, rfl, (by k_asm), N7, sub_lt2 (by omega), k + 1 + 1, _, _, _, _, tl', TD', rfl, e1, e2, e3, by omega, by rw [List.length_append, List.length_singleton]; omega, (has4 rfl rfl rfl rfl), e4, hI.two hc rfl hd, rfl⟩)
        | (have hno := hI.none hc rfl (by omega)
           subst hTD
           (try dsimp only)
           k_steps
           refine hQ _ _ ?_
           dsimp only [WEnd]
           k_steps
           rename News _ _ _ _ => N6
           exact retN hno _ _ (by k_asm) (nsub N6 fun p hp => .tail _ (List.mem_append.mpr (.inr hp))))
    · dsimp only
      k_steps
      all_goals
        rename News _ _ _ _ => N6
        obtain ⟨tl', TD', N7, e1, e2, e3, e4⟩ := like_step (P := w.params) N6 (by assumption) (by assumption) hTD hTl hfr hA (by first | exact pf_any (by assumption) | exact pf_one (by assumption) (by assumption) | exact pf_sign (by assumption) (by assumption))
        exact hQ _ _ ⟨_, _, _, _, _, rfl, (by k_asm), N7, sub_lt1 (by omega), k + 1, _, _, _, _, tl', TD', rfl, e1, e2, e3, by omega, by rw [List.length_append, List.length_singleton]; omega, (has4 rfl rfl rfl rfl), e4, hI.one hc hne, rfl⟩
  · obtain rfl : k = pat.length := by omega
    have h0 : ps.length = vs.length := hA.length.symm
    subst hTD
    rename News _ _ _ _ => N6
    exact ret _ _ _ _ _ _ _ hI.done (by omega) hA (by k_asm) N6 (fun q hq => Ne.symm (hTl q (List.mem_append.mpr (.inr hq)))) hfr
end
end Mine
end TC10
section TC14
namespace Mine
variable {prog : Program} {w : World} {dp un : Nat} {gd : Option (List Code)} {cn : Str} {cs : Scope} {L a : Addr} {ccd : Value} {cl : List (Str × Addr)} {outer : List Env} {A₀ : Around} {base h₀ : Heap} {m mg mb : Str → Option Value} {mean : ExcName → Option Value} {s : Shared} {Q E : Value → Shared → Prop} {news D : List (Addr × Obj)}

section
local macro_rules | `(tactic| walk_at "call builtin:len") => `(tactic| (refine Halt.out ?_))
local macro_rules | `(tactic| walk_at "subscriptTail Name Name ref int") => `(tactic| (refine Halt.out ?_))
local macro_rules | `(tactic| walk_at "exec If") => `(tactic| ((with_reducible rename Mark => hmk); refine Halt.out ?_))
inductive M14 (h₀ : Heap) (L : Addr) (gs : Array GenState) (dr : Drawn) (os : OsState) (news : List (Addr × Obj)) (sc : Addr) (kv : Value) (f : Flow) (s' : Shared) : Prop
  | mk (z : Int) (tz : Tok) (h : Heap) (tk : Nat) (m' : Str → Option Value) : f = .next → s' = ⟨h, gs, dr, tk, os⟩ → Fr h₀ L h m' → News h₀ L h news → Has m' [("script", .ref sc), ("k", kv), ("cell", .int z tz)] → M14 h₀ L gs dr os news sc kv f s'
theorem mid14 {A : Around} {x : Sem Flow} {g h : Heap} {Q : Flow → Shared → Prop} {s₂ : Shared} (gs : Array GenState) (dr : Drawn) (os : OsState) (sc : Addr) (kv : Value) (uN : News g L h news)
    (h1 : wpAny (model prog w) A x (M14 g L gs dr os news sc kv) NoE s₂) (h2 : ∀ f s', M14 g L gs dr os news sc kv f s' → Q f s') : wpAny (model prog w) A x Q NoE s₂ := wpAny_mono h1 h2 fun _ _ h => h
set_option maxRecDepth 100000 in
set_option maxHeartbeats 1600000 in
theorem con_pool {sc : Addr} {vs : List Value} {ns : List Int} {k : Int} {tk0 : Tok} (C : Cx w A₀ base h₀ outer mg mb mean) (F : Fr h₀ L s.heap m) (N : News h₀ L s.heap news) (hk : cs.kind = .function)
  (hdp : dp < 860) (hun : un < 8600) (hl : h₀.IsList sc vs.toArray) (hI : IntsAre vs ns) (hlen : ns.length ≤ 63) (hk2 : k = 0 ∨ k = 1)
  (ret : ∀ sa o h' tk', IsSrc o → Fr h₀ L h' m → News h₀ L h' ((sa, o) :: news) → (∀ p ∈ news, p.1 ≠ sa) → Q (.ref sa) { s with heap := h', toks := tk' }) :
  wpAny (model prog w) (ktrTop dp un gd cn cs L a ccd cl outer) (call (.ref 71) [.ref sc, .int k tk0]) Q E s := by
  obtain ⟨B, X, T⟩ := C
  have hfoo : PySem.Challenge.rw_xm0748_01 = PySem.Challenge.rw_xm0748_01 := rfl
  revert hfoo X; k_fill; intro X hfoo
  clear hfoo
  refine wpAny_call ?_
  k_dflt ktr_enter
  refine wpAny_mono (E := NoE) ?_ (fun _ _ h => h) (fun _ _ h => h.elim)
  (try k_fold)
  rename Fr _ _ _ _ => F0
  obtain ⟨m₀, F1⟩ := ent F0 [("script", .ref sc), ("k", .int k tk0)] (has2 rfl rfl)
  clear F0
  dsimp only [kstB] at F1
  have hmk : Mark := .mk
  k_steps
  refine Halt.mk ?_
  rename Mark => hmk; clear hmk
  rename Fr _ _ _ _ => F2
  rename News _ _ _ _ => N2
  refine mid14 s.gens s.drawn s.os sc (.int k tk0) N2 ?_ ?_
  · obtain ⟨kn, rfl, hkn⟩ : ∃ kn : Nat, k = (kn : Int) ∧ kn ≤ 1 := by
      rcases hk2 with rfl | rfl
      · exact ⟨0, rfl, by decide⟩
      · exact ⟨1, rfl, by decide⟩
    k_steps
    refine Halt.mk ?_
    have hl' := hl
    obtain ⟨ol, hol, hcl, nl, hdl⟩ := hl'
    have hlen' : vs.length = ns.length := hI.length
    refine len_list (items := vs.toArray) ⟨ol, F2.keep _ _ (Fr.keep (by assumption) _ _ hol), hcl, nl, hdl⟩ (by rw [List.size_toArray]; omega) ?_
    rw [List.size_toArray, hlen']
    have hls : ∀ h' : Heap, (∀ b o, h₀.get? b = some o → h'.get? b = some o) → h'.IsList sc vs.toArray := fun h' hk => ⟨ol, hk _ _ hol, hcl, nl, hdl⟩
    k_steps
    · refine Halt.mk ?_
      rename Fr _ _ _ _ => F3
      have hk3 : kn < vs.length := by omega
      have hv : vs[kn]? = some vs[kn] := List.getElem?_eq_getElem hk3
      obtain ⟨z, tz, hz, _⟩ := hI.at _ _ hv
      rw [hz] at hv
      have hsl := hls _ fun b o e => F3.keep _ _ (Fr.keep (by assumption) _ _ e)
      refine tail_any hsl.typeIs slot_list_getitem.lookup (wpAny_getItem_list hsl (Int.natCast_nonneg _) (by omega) (x := .int z tz) (by simpa using hv) ?_) (by with_unfolding_all rfl)
      k_steps
      exact ⟨_, _, _, _, _, rfl, rfl, (by k_asm), (by k_asm), has3 rfl rfl rfl⟩
    · exact ⟨_, _, _, _, _, rfl, rfl, (by k_asm), (by k_asm), has3 rfl rfl rfl⟩
  rintro f s' ⟨z, tz, h9, tk9, m9, rfl, rfl, F9, N9, hH⟩
  have F10 := hH.fr F9
  clear F9 hH F2 N2
  dsimp only [kstB] at F10
  dsimp only
  rcases hk2 with rfl | rfl
  all_goals
    k_steps
    rename News _ _ _ _ => Na
    exact ret _ _ _ _ ⟨_, _, _, _, _, rfl⟩ (by k_asm) Na (fun p hp => Nat.ne_of_lt ((by assumption : ∀ p ∈ news, p.1 < _) p hp))
end
end Mine
end TC14
section TS1
open PySem PySem.W PyProof.Rows PySem.Builtin.Str
set_option maxHeartbeats 2000000
namespace Mine
theorem sl_idx_to (k n : Nat) : strSliceIndices none (some (k : Int)) 1 n = strSliceIndices (some ((0 : Nat) : Int)) (some (k : Int)) 1 n := by
  simp only [strSliceIndices, show ((1 : Int) > 0) = True from by simp, if_true, show ¬ (((0 : Nat) : Int) < 0) by omega, if_false]
  congr 1
theorem sl_idx_from (k n : Nat) : strSliceIndices (some (k : Int)) none 1 n = strSliceIndices (some (k : Int)) (some (n : Int)) 1 n := by
  simp only [strSliceIndices, show ((1 : Int) > 0) = True from by simp, if_true, show ¬ ((n : Int) < 0) by omega, if_false]
  congr 1
  rw [Int.min_self, Int.max_eq_right (Int.natCast_nonneg _)]
theorem txt_len (txt : List Nat) : PySem.Str.length ⟨txt.toArray⟩ = txt.length := List.size_toArray ..
theorem slice_to {txt : List Nat} {k : Nat} (hk : k ≤ txt.length) : Txt.slice ⟨txt.toArray⟩ none (some (k : Int)) = ⟨(txt.take k).toArray⟩ := by
  have e := StrLaws.sliced_plain ⟨txt.toArray⟩ (a := 0) (b := k) (Nat.zero_le _) (by rw [txt_len]; exact hk)
  have l := StrLaws.strSliceIndices_plain (a := 0) (b := k) (len := PySem.Str.length ⟨txt.toArray⟩) (Nat.zero_le _) (by rw [txt_len]; exact hk)
  unfold Txt.slice
  rw [sl_idx_to]
  split
  · rename_i h
    rw [l] at h
    simp only [beq_self_eq_true, Bool.true_and, List.length_map, List.length_range, Nat.sub_zero, beq_iff_eq, txt_len] at h
    rw [h, List.take_length]
  · rw [e]; simp
theorem slice_from {txt : List Nat} {k : Nat} (hk : k ≤ txt.length) : Txt.slice ⟨txt.toArray⟩ (some (k : Int)) none = ⟨(txt.drop k).toArray⟩ := by
  have e := StrLaws.sliced_plain ⟨txt.toArray⟩ (a := k) (b := txt.length) hk (by rw [txt_len]; exact Nat.le_refl _)
  have l := StrLaws.strSliceIndices_plain (a := k) (b := txt.length) (len := txt.length) hk (Nat.le_refl _)
  unfold Txt.slice
  rw [sl_idx_from, txt_len]
  split
  · rename_i h
    rw [l] at h
    simp only [beq_self_eq_true, Bool.true_and, List.length_map, List.length_range, beq_iff_eq] at h
    have : k = 0 ∨ txt.length = 0 := by omega
    rcases this with rfl | h0
    · rw [List.drop_zero]
    · rw [List.eq_nil_of_length_eq_zero h0, List.drop_nil]
  · rw [txt_len] at e
    rw [e, List.take_of_length_le (by simp)]
theorem clamp_nat (n m : Nat) : max (0 : Int) (min (n : Int) (m : Int)) = ((min n m : Nat) : Int) := by
  rcases Nat.le_total n m with h | h
  · rw [Nat.min_eq_left h, Int.min_eq_left (Int.ofNat_le.mpr h), Int.max_eq_right (Int.natCast_nonneg _)]
  · rw [Nat.min_eq_right h, Int.min_eq_right (Int.ofNat_le.mpr h), Int.max_eq_right (Int.natCast_nonneg _)]
theorem pick_to {vs : List Value} {y : Int} (h : 0 ≤ y) : slicePick vs.toArray none (some y) none = (vs.take y.toNat).toArray := by
  obtain ⟨y, rfl⟩ := Int.eq_ofNat_of_zero_le h
  have e : sliceBounds none (some (y : Int)) none vs.toArray.size = (((0 : Nat) : Int), ((min y vs.toArray.size : Nat) : Int), 1) := by
    simp only [sliceBounds, Option.getD_none, show (1 : Int) > 0 by decide, if_true, if_neg (show ¬ ((y : Int) < 0) from Int.not_lt.mpr h)]
    rw [clamp_nat]; rfl
  rw [kmk_pick_nat _ e, List.drop_zero, Nat.sub_zero, List.size_toArray, kmk_take_min, Int.toNat_natCast]
theorem pick_from {vs : List Value} {x : Int} (h : 0 ≤ x) : slicePick vs.toArray (some x) none none = (vs.drop x.toNat).toArray := by
  obtain ⟨x, rfl⟩ := Int.eq_ofNat_of_zero_le h
  have e : sliceBounds (some (x : Int)) none none vs.toArray.size = (((min x vs.toArray.size : Nat) : Int), ((vs.toArray.size : Nat) : Int), 1) := by
    simp only [sliceBounds, Option.getD_none, show (1 : Int) > 0 by decide, if_true, if_neg (show ¬ ((x : Int) < 0) from Int.not_lt.mpr h)]
    rw [clamp_nat]
  rw [kmk_pick_nat _ e, List.size_toArray, kmk_drop_min, Int.toNat_natCast, List.take_of_length_le (by rw [List.length_drop]; exact Nat.sub_le_sub_left (Nat.min_le_left _ _) _)]
end Mine
end TS1
local macro_rules | `(tactic| walk_at "isTrue BoolOp") => `(tactic| ((with_reducible rename Mine.Mark => hmk); refine Mine.Halt.out ?_))
section TC11
namespace Mine
variable {prog : Program} {w : World} {dp un : Nat} {gd : Option (List Code)} {cn : Str} {cs : Scope} {L a : Addr} {ccd : Value} {cl : List (Str × Addr)} {outer : List Env} {A₀ : Around} {base h₀ : Heap} {m mg mb : Str → Option Value} {mean : ExcName → Option Value} {s : Shared} {Q E : Value → Shared → Prop} {news D : List (Addr × Obj)}

theorem abs_all {g h : Heap} {L sa : Addr} {o7 : Obj} {x y p q : Addr × Obj} {TD : List (Addr × Obj)} (N : News g L h (x :: y :: p :: q :: (sa, o7) :: TD)) (ho : IsSrc o7) : ∃ NW o7', p ∈ NW ∧ (∀ r ∈ TD, r ∈ NW) ∧ IsSrc o7' ∧ (sa, o7') ∈ NW ∧ News g L h NW :=
  ⟨_, o7, .tail _ (.tail _ (.head _)), (fun _ hr => .tail _ (.tail _ (.tail _ (.tail _ (.tail _ hr))))), ho, .tail _ (.tail _ (.tail _ (.tail _ (.head _)))), N⟩
theorem part_news {g h : Heap} {L : Addr} {x y a b c : Addr × Obj} {nx : List (Addr × Obj)} (N : News g L h (x :: y :: a :: b :: c :: nx)) : News g L h (a :: b :: c :: x :: y :: nx) :=
  nsub N fun p hp => by
    simp only [List.mem_cons] at hp ⊢
    rcases hp with h | h | h | h | h | h <;> simp [h]
theorem part_off {I C D x dx : Addr} {ox od : Obj} {nx : List (Addr × Obj)} (h1 : @LT.lt Nat _ I dx ∧ @LT.lt Nat _ C dx ∧ @LT.lt Nat _ D dx ∧ AllLt dx nx) (h2 : @LT.lt Nat _ dx x) (off : ∀ p ∈ nx, p.1 ≠ I ∧ p.1 ≠ C ∧ p.1 ≠ D) : ∀ p ∈ (x, ox) :: (dx, od) :: nx, p.1 ≠ I ∧ p.1 ≠ C ∧ p.1 ≠ D := by
  intro p hp
  rcases List.mem_cons.mp hp with rfl | hp
  · exact ⟨Nat.ne_of_gt (Nat.lt_trans h1.1 h2), Nat.ne_of_gt (Nat.lt_trans h1.2.1 h2), Nat.ne_of_gt (Nat.lt_trans h1.2.2.1 h2)⟩
  · rcases List.mem_cons.mp hp with rfl | hp
    · exact ⟨Nat.ne_of_gt h1.1, Nat.ne_of_gt h1.2.1, Nat.ne_of_gt h1.2.2.1⟩
    · exact off p hp
/-- the cuts that were tried -/
def Cuts (ps : List Pc) (txt : List Nat) (cut i : Nat) (b : Bool) : Prop := b = true ↔ ∃ k, k < i ∧ glob (ps.take cut) (txt.take k) = true ∧ glob (ps.drop cut) (txt.drop k) = true
theorem Cuts.start {ps : List Pc} {txt : List Nat} {cut : Nat} : Cuts ps txt cut 0 false := by
  constructor
  · intro h; cases h
  · rintro ⟨k, hk, _⟩; omega
theorem Cuts.step {ps : List Pc} {txt : List Nat} {cut i : Nat} {b : Bool} (h : Cuts ps txt cut i b) : Cuts ps txt cut (i + 1) (b || (glob (ps.take cut) (txt.take i) && glob (ps.drop cut) (txt.drop i))) := by
  unfold Cuts at *
  rw [Bool.or_eq_true, Bool.and_eq_true, h]
  constructor
  · rintro (⟨k, hk, q⟩ | q)
    · exact ⟨k, by omega, q⟩
    · exact ⟨i, by omega, q⟩
  · rintro ⟨k, hk, q⟩
    by_cases hi : k = i
    · subst hi; exact .inr q
    · exact .inl ⟨k, by omega, q⟩
theorem Cuts.done {ps : List Pc} {txt : List Nat} {cut : Nat} {b : Bool} (h : Cuts ps txt cut (txt.length + 1) b) : b = glob ps txt := by
  have e : b = true ↔ glob ps txt = true := by
    unfold Cuts at h; rw [h]
    conv => rhs; rw [← List.take_append_drop cut ps, glob_append]
    constructor
    · rintro ⟨k, hk, q⟩; exact ⟨k, by omega, q⟩
    · rintro ⟨k, hk, q⟩; exact ⟨k, by omega, q⟩
  rw [Bool.eq_iff_iff]; exact e
section
local macro_rules | `(tactic| walk_at "compareOp In int ref") => `(tactic| (refine Halt.out ?_))
local macro_rules | `(tactic| walk_at "subscriptTail Name Slice ref ref") => `(tactic| (refine Halt.out ?_))
local macro_rules | `(tactic| walk_at "m_pad") => `(tactic| skip)
inductive J11 (x1 : Addr × Obj) (sa : Addr) (D : List (Addr × Obj)) (i : Nat) (ys : List Value) (nx : List (Addr × Obj)) : Prop
  | mk (o' : Obj) (TD tl : List (Addr × Obj)) (ps : List Pc) : IsSrc o' → nx = x1 :: (sa, o') :: TD → TD = tl ++ D → (∀ p ∈ TD, p.1 ≠ sa) → ys.length = i → List.length ps = i → All2 (PieceIn tl) ys ps → J11 x1 sa D i ys nx
inductive J11b (P : Params) (NW : List (Addr × Obj)) (ps : List Pc) (i : Nat) (zs : List Value) (nx : List (Addr × Obj)) : Prop
  | mk : (∀ p ∈ NW, p ∈ nx) → zs.length = i → All2 (PartIn P nx) zs (ps.take i) → J11b P NW ps i zs nx
inductive J11c (NX : List (Addr × Obj)) (D8 D9 : Addr) (ps : List Pc) (txt : List Nat) (cut i : Nat) (m : Str → Option Value) (nx : List (Addr × Obj)) : Prop
  | mk : nx = NX → ∀ (b : Bool) (tc tt : Tok), Has m [("found", .bool b), ("parts", .ref D8), ("text", .str ⟨txt.toArray⟩ tt), ("cut", .int (cut : Int) tc), ("told", .bool (glob ps txt)), ("pieces", .ref D9)] → Cuts ps txt cut i b → J11c NX D8 D9 ps txt cut i m nx
set_option maxRecDepth 100000 in
set_option maxHeartbeats 800000 in
theorem con_any {sa : Addr} {o : Obj} {g : Obj → List (Addr × Obj)} (C : Cx w A₀ base h₀ outer mg mb mean) (F : Fr h₀ L s.heap m) (N : News h₀ L s.heap news) (U : UpdF sa o news g) (ho : IsSrc o) (hk : cs.kind = .function)
  (hdp : dp < 870) (hun : un < 8700)
  (ret : ∀ o' h' tk', IsSrc o' → Fr h₀ L h' m → News h₀ L h' (g o') → Q (.bool true) { s with heap := h', toks := tk' }) :
  wpAny (model prog w) (ktrTop dp un gd cn cs L a ccd cl outer) (call (.ref 110) [.ref sa]) Q E s := by
  obtain ⟨B, X, T⟩ := C
  obtain ⟨D, N0, hD, hin, hout, back⟩ := upd_in N U
  clear hin hout N U
  obtain ⟨ck, cnames, cg, cco, cmore⟩ := cs
  dsimp only at hk
  subst hk
  have hfoo : PySem.Challenge.rw_xm0748_01 = PySem.Challenge.rw_xm0748_01 := rfl
  revert hfoo X; k_fill; intro X hfoo
  clear hfoo
  refine wpAny_call ?_
  k_enter
  rename_i g1 L1 h1 tk1 FG1 F0 B1 X1 T1 l1 oS dS' N1
  have dS : oS.data = .cell (some (.ref sa)) := dS'
  clear dS'
  refine wpAny_mono (E := NoE) ?_ (fun _ _ h => h) (fun _ _ h => h.elim)
  (try k_fold)
  obtain ⟨m₀, F1⟩ := ent F0 [] trivial
  clear F0
  dsimp only [kstB] at F1
  k_steps
  refine Halt.mk ?_
  rename Fr _ _ _ _ => F2
  refine comp_assignF F2 rfl (by with_unfolding_all rfl) (by with_unfolding_all rfl) (by decide) rfl (by decide) rfl rfl (by intro _; rfl) ?_
  k_steps
  rename Fr _ _ _ _ => F3
  rename News _ _ _ _ => N3
  rename IsRange _ _ _ _ _ _ _ _ => rg
  rename IsSrc _ => ho3
  rename 0 ≤ _ => w0
  rename _ < 6 => w1
  refine .inr ⟨_, _, _, _, _, _, _, _, J11 (L1 + 1, oS) sa D,
    rfl, rfl, F3, N3, rg, small_one (by omega) (by omega) (by omega) (by omega), rangeSize_nat _ _, by rw [sizeLine_eq]; omega, by intro _ _; rfl, ⟨_, D, [], [], ho3, rfl, rfl, hD, rfl, rfl, .nil⟩, ?_, ?_, ?_⟩
  · rintro i ys nx ⟨_, _, _, _, _, _, _, _, h, _⟩; exact Nat.le_of_eq h
  · rintro i v ys nx I oI oC C D9 m₂ h tk E' hi ⟨t, rfl⟩ hJ0 hoC F4 N4 off n1 n2 n3
    refine hide3 ?_
    intro R1 R2 hR1 hR2
    obtain ⟨o', TD, tl, ps, hso, rfl, hTD, hTs, hlen, hpl, hA⟩ := hJ0
    clear N3 F3 rg
    refine comp_one F4 N4 hoC n1 ?_ rfl rfl ?_
    · intro p hp
      rcases List.mem_cons.mp hp with rfl | hp
      · exact Ne.symm n3
      · exact (off p hp).2.1
    intro h8 tk8 oC8 m8 F8 n8 hat N8
    clear F4 N4 hoC
    refine wpAny_tests_nil ?_
    simp only [if_true]
    have k0 := off (sa, o') (.tail _ (.head _))
    have k1 : I ≠ sa := Ne.symm k0.1
    have k2 : C ≠ sa := Ne.symm k0.2.1
    have k3 : D9 ≠ sa := Ne.symm k0.2.2
    k_steps
    refine Halt.mk ?_
    refine con_piece ⟨by k_asm, by k_asm, by k_asm⟩ F8 N8 (by k_updF) hso rfl (lts1 (by assumption) rfl) (lts3 (by assumption) rfl) ?_
    intro v p o9 tl9 h9 tk9 hv ho9 F9 N9 fr9
    (try dsimp only at N9)
    (try dsimp only at fr9)
    clear F8 N8
    k_steps
    refine hR1 _ _ ⟨_, _, (L1 + 1, oS) :: (sa, o9) :: (tl9 ++ TD), _, _, rfl, F9, n8, nsub N9 ?_, ?_, o9, tl9 ++ TD, tl9 ++ tl, ps ++ [p], ho9, rfl, by rw [hTD, List.append_assoc], ?_, by rw [List.length_append, hlen]; rfl, by rw [List.length_append, hpl]; rfl, ?_⟩
    · intro p hp
      simp only [List.mem_cons, List.mem_append] at hp ⊢
      rcases hp with h | h | h | h | h | h | h <;> simp [h]
    · intro p hp
      rcases List.mem_cons.mp hp with rfl | hp
      · exact off _ (.head _)
      · rcases List.mem_cons.mp hp with rfl | hp
        · exact k0
        · rcases List.mem_append.mp hp with hp | hp
          · exact ⟨fr9 p hp _ (.head _), fr9 p hp _ (.tail _ (.head _)), fr9 p hp _ (.tail _ (.tail _ (.head _)))⟩
          · exact off _ (.tail _ (.tail _ hp))
    · intro p hp
      rcases List.mem_append.mp hp with hp | hp
      · exact fr9 p hp _ (.tail _ (.tail _ (.tail _ (.tail _ (.head _)))))
      · exact hTs p hp
    · exact (hA.mono fun _ _ h => h.mono fun p hp => List.mem_append.mpr (.inr hp)).snoc (hv.mono fun p hp => List.mem_append.mpr (.inl hp))
  · rintro D9 ys nx h tk ⟨o', TD, tl, ps, hso, rfl, hTD, hTs, hlen, hpl, hA⟩ N4 off4 F4
    clear N3 F3 rg
    dsimp only
    have k3 : D9 ≠ sa := Ne.symm (off4 _ (.tail _ (.head _)))
    have hp5 : ps.length ≤ 5 := by omega
    replace hlen : ys.length = ps.length := hA.length
    clear hpl
    replace hA : All2 (PieceIn TD) ys ps := hA.mono fun _ _ h => h.mono fun p hp => hTD ▸ List.mem_append.mpr (.inl hp)
    k_steps
    refine Halt.mk ?_
    rename Fr _ _ _ _ => F5
    rename News _ _ _ _ => N5
    refine con_text (ps := ps) ⟨by k_asm, by k_asm, by k_asm⟩ F5 N5 (by k_updF) hso rfl (lts1 (by assumption) rfl) (lts3 (by assumption) rfl) (.tail _ (.head _)) (hA.mono fun _ _ h => h.mono fun p hp => .tail _ (.tail _ (.tail _ (.tail _ hp)))) (by omega) (.head _) (by walk_at "m_ones") (by exact Nat.le_of_ble_eq_true rfl) (by exact Nat.le_of_ble_eq_true rfl) ?_
    intro x t o6 h6 tk6 hx ho6 F6 N6
    (try dsimp only at N6)
    clear F5 N5
    obtain ⟨txt, rfl⟩ : ∃ txt : List Nat, x = ⟨txt.toArray⟩ := ⟨x.cps.toList, rfl⟩
    rw [txt_len] at hx
    have ht9 : txt.length ≤ 1000 := by omega
    have hp9 : ps.length ≤ 1000 := by omega
    k_steps
    refine Halt.mk ?_
    rename Fr _ _ _ _ => F7
    rename News _ _ _ _ => N7
    rename IsSrc _ => ho7
    rename 0 ≤ _ => c0
    rename _ < (ps.length : Int) + 1 => c1
    obtain ⟨cut, rfl⟩ := Int.eq_ofNat_of_zero_le c0
    obtain ⟨NW, o8, q1, q2, ho8, q3, N8⟩ := abs_all N7 ho7
    clear N7
    have hsz : ys.length ≤ sizeLine := by rw [sizeLine_eq]; omega
    refine comp_assignF F7 rfl (by with_unfolding_all rfl) (by with_unfolding_all rfl) (by decide) rfl (by decide) rfl rfl (by intro _; rfl) ?_
    k_steps
    refine .inl ⟨D9, ys, ys.length, NW, J11b w.params NW ps, rfl, rfl, by k_asm, N8, q1, hsz, .inr ⟨⟨_, _, _, rfl⟩, hA.all fun _ _ h => by obtain ⟨a, b⟩ := h; exact ⟨_, rfl⟩⟩, ⟨fun _ hp => hp, rfl, by rw [List.take_zero]; exact .nil⟩, ?_, ?_, ?_, ?_⟩
    · rintro i ys nx ⟨_, h, _⟩; exact Nat.le_of_eq h
    · rintro i zs nx ⟨h, _⟩; exact h _ q1
    · rintro i v zs nx I oI oC C D8 m₂ h tk E' hi hvi hJ0 hoC F8 N9 off n1 n2 n3
      refine hide3 ?_
      intro R1 R2 hR1 hR2
      obtain ⟨hsub, hzl, hA2⟩ := hJ0
      obtain ⟨p, hp, hpv⟩ := hA.get' hvi
      obtain ⟨hpa, hpf⟩ := hpv
      refine comp_four F8 N9 hoC n1 ?_ (.tail _ (hsub _ (q2 _ hpa))) rfl rfl rfl rfl rfl (by decide) rfl ?_
      · intro p hp
        rcases List.mem_cons.mp hp with rfl | hp
        · exact Ne.symm n3
        · exact (off p hp).2.1
      intro h9 tk9 oC9 m9 F9 n9 e1 e2 e3 e4 N10
      clear F8 N9 hoC
      refine wpAny_tests_nil ?_
      simp only [if_true]
      k_steps
      rename News _ _ _ _ => N11
      rename Fr _ _ _ _ => F11
      refine hR1 _ _ ⟨_, _, _, _, _, rfl, F11, n9, part_news N11, part_off (by assumption) (by assumption) off, fun p hp => .tail _ (.tail _ (hsub p hp)), by rw [List.length_append, hzl]; rfl, ?_⟩
      rw [List.take_add_one, hp]
      exact (hA2.mono fun _ _ h => h.mono fun p hp => .tail _ (.tail _ hp)).snoc (.mk (.head _) (.tail _ (.head _)) (hpf.mono fun p hp => .tail _ (.tail _ (hsub _ (q2 p hp)))))
    · rintro D8 zs nx h tk ⟨hsub, hzl, hA2⟩ N9 off9 F9
      rw [List.take_of_length_le (Nat.le_of_eq hlen.symm)] at hA2
      clear N8 F7
      dsimp only
      k_steps
      refine Halt.mk ?_
      refine con_matches ⟨by k_asm, by k_asm, by k_asm⟩ F9 N9 rfl (lts1 (by assumption) rfl) (lts3 (by assumption) rfl) (.head _) (hA2.mono fun _ _ h => h.mono fun p hp => .tail _ hp) hp9 ht9 ?_
      intro h10 tk10 F10 N10
      clear F9 N9
      k_steps
      refine Halt.mk ?_
      rename Fr _ _ _ _ => F11
      refine for_ruleF F11 ?_
      k_steps
      rename Fr _ _ _ _ => F12
      rename News _ _ _ _ => N12
      rename IsRange _ _ _ _ _ _ _ _ => rg
      have hl8 : zs.length = ps.length := hA2.length
      refine .inr (.inl ⟨_, _, _, _, _, _, _, _, _, J11c ((D8, listOf zs.toArray zs.length) :: nx) D8 D9 ps txt cut,
        rfl, rfl, F12, nsub N12 (fun p hp => .tail _ hp), rg, small_one (by omega) (by omega) (by omega) (by omega), rangeSize_nat _ _, by intro _ _; rfl, ⟨rfl, false, _, _, (has6 rfl rfl rfl rfl rfl rfl), Cuts.start⟩, ?_, ?_⟩)
      · rintro i v m₁ nx' I oI h13 tk13 hi ⟨tb, rfl⟩ hJ0 F13 N13 off
        refine hide2 ?_
        intro Q' hQ
        obtain ⟨rfl, b, tc, tt, hH, hC⟩ := hJ0
        have F14 := hH.fr F13
        clear F13 F12 N12 hH rg
        dsimp only [kstB] at F14
        have hi' : i ≤ txt.length := by omega
        have hcut : cut ≤ ps.length := by omega
        refine wpAny_assign_Name ?_
        rw [Int.zero_add]
        cases b with
        | true =>
          k_steps
          exact hQ _ _ ⟨_, _, _, _, rfl, (by k_asm), (by k_asm), off, rfl, true, _, _, (has6 rfl rfl rfl rfl rfl rfl), hC.step⟩
        | false =>
          have hst := hC.step
          rw [Bool.false_or] at hst
          k_steps
          refine Halt.mk ?_
          rename Fr _ _ _ _ => Fa
          rename News _ _ _ _ => Na
          refine kmk_slice Fa Na ⟨_, (Na _ (.tail _ (.head _))).1, rfl, _, rfl⟩ .none (.int _ _) ?_ (by with_unfolding_all rfl) (by intro _; with_unfolding_all rfl) (by rw [List.size_toArray, sizeLine_eq]; omega)
          intro P1 h15 F15 N15 l15
          clear l15 Fa Na
          rw [pick_to (by omega), Int.toNat_natCast] at N15
          k_steps
          refine Halt.mk ?_
          rw [slice_to hi']
          rename Fr _ _ _ _ => Fb
          rename News _ _ _ _ => Nb
          refine con_matches ⟨by k_asm, by k_asm, by k_asm⟩ Fb Nb rfl (lts1 (by assumption) rfl) (lts3 (by assumption) rfl) (.head _) ((hA2.take cut).mono fun _ _ h => h.mono fun p hp => .tail _ (.tail _ (.tail _ hp))) (le_take hp9) (le_take ht9) ?_
          intro h16 tk16 F16 N16
          clear Fb Nb
          cases hg : glob (ps.take cut) (txt.take i) with
          | false =>
            rw [hg, Bool.false_and] at hst
            k_steps
            rename News _ _ _ _ => N16
            exact hQ _ _ ⟨_, _, _, (D8, listOf zs.toArray zs.length) :: nx, rfl, (by k_asm), nsub N16 (fun p hp => .tail _ hp), off, rfl, false, _, _, (has6 rfl rfl rfl rfl rfl rfl), hst⟩
          | true =>
            rw [hg, Bool.true_and] at hst
            k_steps
            refine Halt.mk ?_
            rename Fr _ _ _ _ => Fa
            rename News _ _ _ _ => Na
            refine kmk_slice Fa Na ⟨_, (Na _ (.tail _ (.tail _ (.head _)))).1, rfl, _, rfl⟩ (.int _ _) .none ?_ (by with_unfolding_all rfl) (by intro _; with_unfolding_all rfl) (by rw [List.size_toArray, sizeLine_eq]; omega)
            intro P2 h17 F17 N17 l17
            clear l17 Fa Na
            rw [pick_from (by omega), Int.toNat_natCast] at N17
            k_steps
            refine Halt.mk ?_
            rw [slice_from hi']
            rename Fr _ _ _ _ => Fb
            rename News _ _ _ _ => Nb
            refine con_matches ⟨by k_asm, by k_asm, by k_asm⟩ Fb Nb rfl (lts1 (by assumption) rfl) (lts3 (by assumption) rfl) (.head _) ((hA2.drop cut).mono fun _ _ h => h.mono fun p hp => .tail _ (.tail _ (.tail _ (.tail _ hp)))) (le_drop hp9) (le_drop ht9) ?_
            intro h18 tk18 F18 N18
            clear Fb Nb
            k_steps
            rename News _ _ _ _ => N18
            exact hQ _ _ ⟨_, _, _, (D8, listOf zs.toArray zs.length) :: nx, rfl, (by k_asm), nsub N18 (fun p hp => .tail _ (.tail _ hp)), off, rfl, _, _, _, (has6 rfl rfl rfl rfl rfl rfl), hst⟩
      · rintro m₁ nx' h13 tk13 ⟨rfl, b, tc, tt, hH, hC⟩ F13 N13
        have F14 := hH.fr F13
        clear F13 F12 N12 hH rg
        dsimp only [kstB] at F14
        rw [show ((txt.length : Int) + 1 - 0).toNat = txt.length + 1 by omega] at hC
        have hb := hC.done
        subst hb
        k_steps
        · refine Halt.mk ?_
          refine con_places (ps := ps) ⟨by k_asm, by k_asm, by k_asm⟩ F14 N13 rfl (lts1 (by assumption) rfl) (lts3 (by assumption) rfl) (.tail _ (hsub _ q1)) (hA.mono fun _ _ h => h.mono fun p hp => .tail _ (hsub _ (q2 p hp))) hp9 ht9 ?_
          intro q zs' nn ns h15 tk15 hzs hI F15 N15
          have e : ns.any (· == 0) = glob ps txt := by
            rw [Bool.eq_iff_iff, ← hI.zero, List.any_eq_true]
            constructor
            · rintro ⟨x, hx, h0⟩; rw [eq_of_beq h0] at hx; exact hx
            · intro h; exact ⟨0, h, beq_self_eq_true _⟩
          k_steps
          refine Halt.mk ?_
          refine in_list_ints ⟨_, (N15 _ (.head _)).1, rfl, _, rfl⟩ hzs ?_
          rw [e]
          k_steps
          rw [beq_self_eq_true]
          rename News _ _ _ _ => N16
          refine ret _ _ _ ho8 (by k_asm) (back _ _ _ _ (nsub N16 fun p hp => ?_))
          rcases List.mem_cons.mp hp with rfl | hp
          · exact .tail _ (.tail _ (hsub _ q3))
          · exact .tail _ (.tail _ (hsub _ (q2 _ (hTD ▸ List.mem_append.mpr (.inr hp)))))
        · first
            | exact absurd rfl (by assumption)
            | (rename (_ == _) = false => hq; rw [beq_self_eq_true] at hq; cases hq)
            | (rename ¬ (_ == _) = true => hq; exact absurd (beq_self_eq_true _) hq)
end
end Mine
end TC11
section TC12
namespace Mine
variable {prog : Program} {w : World} {dp un : Nat} {gd : Option (List Code)} {cn : Str} {cs : Scope} {L a : Addr} {ccd : Value} {cl : List (Str × Addr)} {outer : List Env} {A₀ : Around} {base h₀ : Heap} {m mg mb : Str → Option Value} {mean : ExcName → Option Value} {s : Shared} {Q E : Value → Shared → Prop} {news D : List (Addr × Obj)}

theorem le2 {x i : Nat} (h : x ≤ 2 * i) : x + 1 ≤ 2 * (i + 1) := Nat.le_succ_of_le (Nat.succ_le_succ h)
theorem le2b {x i : Nat} (h : x ≤ 2 * i) : x + 1 + 1 ≤ 2 * (i + 1) := Nat.succ_le_succ (Nat.succ_le_succ h)
theorem low1 {c : Nat} (h : c < 128) : Txt.lower ⟨#[c]⟩ = ⟨#[fold c]⟩ := by
  have : ∀ c : Fin 128, Txt.lower ⟨#[c.1]⟩ = ⟨#[fold c.1]⟩ := by decide +kernel
  exact this ⟨c, h⟩
/-- the pattern that was written stands for the pieces, whatever follows -/
def Wr (esc : Option Nat) (pat : List Nat) (ps : List Pc) : Prop := ∀ suf, lp esc (pat ++ suf) = (lp esc suf).map (ps ++ ·)
theorem Wr.start (esc : Option Nat) : Wr esc [] [] := fun suf => by
  rw [List.nil_append]; cases lp esc suf <;> rfl
theorem Wr.one {esc : Option Nat} {pat : List Nat} {ps : List Pc} {c : Nat} (h : Wr esc pat ps) (he : esc ≠ some c) : Wr esc (pat ++ [c]) (ps ++ [pcOf c]) := fun suf => by
  rw [List.append_assoc, h, List.singleton_append, lp_one he]
  cases lp esc suf <;> simp
theorem Wr.two {esc : Option Nat} {pat : List Nat} {ps : List Pc} {e c : Nat} (h : Wr esc pat ps) (he : esc = some e) : Wr esc (pat ++ [e] ++ [c]) (ps ++ [.sign (fold c)]) := fun suf => by
  rw [List.append_assoc, List.append_assoc, h, List.singleton_append, List.singleton_append, lp_two he]
  cases lp esc suf <;> simp
theorem Wr.all {esc : Option Nat} {pat : List Nat} {ps : List Pc} (h : Wr esc pat ps) : lp esc pat = some ps := by
  have := h []
  rw [List.append_nil] at this
  rw [this]
  show (some []).map _ = _
  simp
theorem Wr.end {pat : List Nat} {ps : List Pc} {e : Nat} (h : Wr (some e) pat ps) : lp (some e) (pat ++ [e]) = none := by
  rw [h, lp_end rfl]; rfl
/-- no lot, signs of the menus -/
def Smp (ps : List Pc) : Prop := ∀ p ∈ ps, p = .any ∨ p = .one ∨ ∃ c, p = .sign c ∧ c < 2000
theorem Smp.snoc {ps : List Pc} {p : Pc} (h : Smp ps) (hp : p = .any ∨ p = .one ∨ ∃ c, p = .sign c ∧ c < 2000) : Smp (ps ++ [p]) := fun q hq => by
  rcases List.mem_append.mp hq with hq | hq
  · exact h q hq
  · rw [List.mem_singleton.mp hq]; exact hp
theorem fold_lt {c : Nat} (h : c < 1000) : fold c < 2000 := by unfold fold; split <;> omega
theorem smp_pc {c : Nat} (h : c < 1000) : pcOf c = .any ∨ pcOf c = .one ∨ ∃ d, pcOf c = .sign d ∧ d < 2000 := by
  unfold pcOf
  split
  · exact .inl rfl
  · split
    · exact .inr (.inl rfl)
    · exact .inr (.inr ⟨_, rfl, fold_lt h⟩)
theorem app1 (pat : List Nat) (c : Nat) : (⟨pat.toArray⟩ : Str) ++ ⟨#[c]⟩ = ⟨(pat ++ [c]).toArray⟩ := by
  show (⟨pat.toArray ++ #[c]⟩ : Str) = _
  simp
theorem pf_wide {D : List (Addr × Obj)} {c : Nat} {t u : Tok} (h0 : ((⟨#[c]⟩ : Str) == Str.ofString "%") = false) (h : ((⟨#[c]⟩ : Str) == Str.ofString "_") = false) (hc : ¬ ((c : Int) < 128)) : PF D (.int 2 t) (.str ⟨#[c]⟩ u) .none (.bool false) (pcOf c) := by
  have e : fold c = c := if_neg (by omega)
  have := pf_sign (D := D) (t := t) (u := u) h0 h
  rw [e] at this; exact this
theorem pf_esc {D : List (Addr × Obj)} {c : Nat} {t u : Tok} (hc : ¬ ((c : Int) < 128)) : PF D (.int 2 t) (.str ⟨#[c]⟩ u) .none (.bool false) (.sign (fold c)) := by
  have e : fold c = c := if_neg (by omega)
  rw [e]; exact .sign _ _ _
theorem written_step {g h : Heap} {L I sa l x : Addr} {oI o' : Obj} {k nn : Nat} {vs : List Value} {ps : List Pc} {tl TD D news : List (Addr × Obj)} {v1 v2 v3 v4 : Value} {p : Pc}
    (N : News g L h ((x, ({ cls := .type "tuple", data := .seq #[v1, v2, v3, v4] k } : Obj)) :: (I, oI) :: (sa, o') :: (l, listOf (vs.toArray.push (.ref x)) nn) :: TD))
    (h1 : @LT.lt Nat _ I x ∧ @LT.lt Nat _ sa x ∧ @LT.lt Nat _ l x ∧ AllLt x TD) (hin : ∀ p ∈ news, p.1 ≠ sa → p ∈ D) (hTD : TD = tl ++ D) (hT1 : ∀ p ∈ TD, p.1 ≠ sa) (hT2 : ∀ p ∈ TD, p.1 ≠ l) (hfr : ∀ p ∈ tl, ∀ y ∈ news, p.1 ≠ y.1)
    (k1 : I ≠ sa) (k2 : I ≠ l) (off : ∀ p ∈ TD, p.1 ≠ I) (hA : All2 (PieceIn tl) vs ps) (hp : PF [] v1 v2 v3 v4 p) :
    ∃ tl' TD', News g L h ((I, oI) :: (sa, o') :: (l, listOf (List.toArray (vs ++ [.ref x])) nn) :: TD') ∧ (∀ p ∈ (sa, o') :: (l, listOf (List.toArray (vs ++ [.ref x])) nn) :: TD', p.1 ≠ I) ∧ TD' = tl' ++ D ∧ (∀ p ∈ TD', p.1 ≠ sa) ∧ (∀ p ∈ TD', p.1 ≠ l) ∧ (∀ p ∈ tl', ∀ y ∈ news, p.1 ≠ y.1) ∧ All2 (PieceIn tl') (vs ++ [.ref x]) (ps ++ [p]) := by
  refine ⟨(x, ({ cls := .type "tuple", data := .seq #[v1, v2, v3, v4] k } : Obj)) :: tl, (x, ({ cls := .type "tuple", data := .seq #[v1, v2, v3, v4] k } : Obj)) :: TD, ?_, ?_, by rw [hTD]; rfl, ?_, ?_, ?_, ?_⟩
  · rw [List.push_toArray] at N
    refine nsub N fun p hp => ?_
    simp only [List.mem_cons] at hp ⊢
    rcases hp with h | h | h | h | h <;> simp [h]
  · intro p hp
    rcases List.mem_cons.mp hp with rfl | hp
    · exact Ne.symm k1
    · rcases List.mem_cons.mp hp with rfl | hp
      · exact Ne.symm k2
      · rcases List.mem_cons.mp hp with rfl | hp
        · exact Nat.ne_of_gt h1.1
        · exact off p hp
  · intro p hp
    rcases List.mem_cons.mp hp with rfl | hp
    · exact Nat.ne_of_gt h1.2.1
    · exact hT1 p hp
  · intro p hp
    rcases List.mem_cons.mp hp with rfl | hp
    · exact Nat.ne_of_gt h1.2.2.1
    · exact hT2 p hp
  · intro p hp y hy
    rcases List.mem_cons.mp hp with rfl | hp
    · by_cases e : y.1 = sa
      · rw [e]; exact Nat.ne_of_gt h1.2.1
      · exact Nat.ne_of_gt (kst_ltOf h1.2.2.2 y (hTD ▸ List.mem_append.mpr (.inr (hin y hy e))))
    · exact hfr p hp y hy
  · exact (hA.mono fun _ _ h => h.mono fun p hp => .tail _ hp).snoc (.mk (.head _) (hp.mono fun p hp => by cases hp))
theorem drop2 {g h : Heap} {L : Addr} {x y : Addr × Obj} {r : List (Addr × Obj)} (N : News g L h (x :: y :: r)) : News g L h (x :: r) := nsub N fun p hp => by
  rcases List.mem_cons.mp hp with rfl | hp
  · exact .head _
  · exact .tail _ (.tail _ hp)
theorem cp_snoc {pat : List Nat} {c : Nat} (h : ∀ c ∈ pat, c < 1000) (hc : c < 1000) : ∀ d ∈ pat ++ [c], d < 1000 := fun d hd => by
  rcases List.mem_append.mp hd with hd | hd
  · exact h d hd
  · rw [List.mem_singleton.mp hd]; exact hc
theorem lit_ne {c e : Nat} (h : ((⟨#[c]⟩ : Str) == ⟨#[e]⟩) = false) : (some e : Option Nat) ≠ some c := ne_esc h
theorem one_lt {vs : List Value} {c : Nat} {t : Tok} (h : ∀ v ∈ vs, OneStr v) (hv : .str ⟨#[c]⟩ t ∈ vs) : c < 1000 := by
  obtain ⟨d, u, e, hd⟩ := h _ hv
  injection e with e _
  injection e with e
  have e : [c] = [d] := congrArg Array.toList e
  injection e with e _
  rw [e]; exact hd
section
local macro_rules | `(tactic| walk_at "call builtin:str.lower") => `(tactic| ((with_reducible show wpAny _ _ (call (Value.builtin "str.lower") [Value.str ⟨#[_]⟩ _]) _ _ _); k_dflt (refine KXw.lower (low1 (by omega)) (by rw [low1 (by omega)]; rfl) ?_); intro t' k))
/-- behind the word of a turn -/
inductive M12 (h₀ : Heap) (L : Addr) (gs : Array GenState) (dr : Drawn) (os : OsState) (x1 : Addr × Obj) (sa : Addr) (x3 : Addr × Obj) (TD : List (Addr × Obj)) (ev pv lv : Value) (f : Flow) (s' : Shared) : Prop
  | mk (c : Nat) (tw : Tok) (wy : Int) (twy : Tok) (o' : Obj) (h : Heap) (tk : Nat) (m' : Str → Option Value) : f = .next → s' = ⟨h, gs, dr, tk, os⟩ → c < 1000 → IsSrc o' → Fr h₀ L h m' → News h₀ L h (x1 :: (sa, o') :: x3 :: TD) →
      Has m' [("source", .ref sa), ("escape", ev), ("pattern", pv), ("pieces", lv), ("way", .int wy twy), ("word", .str ⟨#[c]⟩ tw)] → M12 h₀ L gs dr os x1 sa x3 TD ev pv lv f s'
theorem mid12 {A : Around} {x : Sem Flow} {g h : Heap} {x1 x3 : Addr × Obj} {sa : Addr} {o : Obj} {TD : List (Addr × Obj)} {Q : Flow → Shared → Prop} {s₂ : Shared} (gs : Array GenState) (dr : Drawn) (os : OsState) (ev pv lv : Value) (uN : News g L h (x1 :: (sa, o) :: x3 :: TD))
    (h1 : wpAny (model prog w) A x (M12 g L gs dr os x1 sa x3 TD ev pv lv) NoE s₂) (h2 : ∀ f s', M12 g L gs dr os x1 sa x3 TD ev pv lv f s' → Q f s') : wpAny (model prog w) A x Q NoE s₂ := wpAny_mono h1 h2 fun _ _ h => h
local macro_rules | `(tactic| walk_at "exec Assign cons IfExp") => `(tactic| ((with_reducible rename Mark => hmk); refine Halt.out ?_))
inductive J12 (sa l : Addr) (D news : List (Addr × Obj)) (esc : Option Nat) (te : Tok) (i : Nat) (m : Str → Option Value) (nx : List (Addr × Obj)) : Prop
  | mk (o' : Obj) (nn : Nat) (vs : List Value) (pat : List Nat) (ps : List Pc) (tl TD : List (Addr × Obj)) (tp : Tok) : IsSrc o' → nx = (sa, o') :: (l, listOf (List.toArray vs) nn) :: TD → TD = tl ++ D → (∀ p ∈ TD, p.1 ≠ sa) → (∀ p ∈ TD, p.1 ≠ l) → (∀ p ∈ tl, ∀ y ∈ news, p.1 ≠ y.1) → Has m [("source", .ref sa), ("escape", escV esc te), ("pattern", .str ⟨List.toArray pat⟩ tp), ("pieces", .ref l)] →
      All2 (PieceIn tl) vs ps → Wr esc pat ps → Smp ps → (∀ c ∈ pat, c < 1000) → pat.length ≤ 2 * i → ps.length = i → J12 sa l D news esc te i m nx
set_option maxRecDepth 100000 in
set_option maxHeartbeats 4000000 in
theorem con_written {sa : Addr} {o : Obj} {g : Obj → List (Addr × Obj)} {esc : Option Nat} {te : Tok} (C : Cx w A₀ base h₀ outer mg mb mean) (F : Fr h₀ L s.heap m) (N : News h₀ L s.heap news) (U : UpdF sa o news g) (ho : IsSrc o) (hk : cs.kind = .function)
  (hdp : dp < 870) (hun : un < 8700) (hesc : ∀ e, esc = some e → e < 1000)
  (ret : ∀ q nq pat tp l vs nn ps tl o' h' tk', Wr esc pat ps → Smp ps → (∀ c ∈ pat, c < 1000) → pat.length ≤ 10 → ps.length ≤ 5 → All2 (PieceIn tl) vs ps → IsSrc o' → Fr h₀ L h' m → News h₀ L h' (tl ++ g o') → (∀ x ∈ tl, ∀ y ∈ news, x.1 ≠ y.1) →
    (q, ({ cls := .type "tuple", data := .seq #[.str ⟨pat.toArray⟩ tp, .ref l] nq } : Obj)) ∈ tl → (l, listOf (List.toArray vs) nn) ∈ tl → Q (.ref q) { s with heap := h', toks := tk' }) :
  wpAny (model prog w) (ktrTop dp un gd cn cs L a ccd cl outer) (call (.ref 117) [.ref sa, escV esc te]) Q E s := by
  obtain ⟨B, X, T⟩ := C
  obtain ⟨D, N0, hD, hin, hout, back⟩ := upd_in N U
  clear N U
  (try dsimp only)
  have hfoo : PySem.Challenge.rw_xm0748_01 = PySem.Challenge.rw_xm0748_01 := rfl
  revert hfoo X; k_fill; intro X hfoo
  clear hfoo
  refine wpAny_call ?_
  k_dflt ktr_enter
  refine wpAny_mono (E := NoE) ?_ (fun _ _ h => h) (fun _ _ h => h.elim)
  (try k_fold)
  rename Fr _ _ _ _ => F0
  obtain ⟨m₀, F1⟩ := ent F0 [("source", .ref sa), ("escape", escV esc te)] (has2 rfl rfl)
  clear F0
  (try dsimp only)
  dsimp only [kstB] at F1
  (try dsimp only)
  k_steps
  refine Halt.mk ?_
  rename Fr _ _ _ _ => F2
  refine for_ruleF F2 ?_
  k_steps
  rename Fr _ _ _ _ => F3
  rename News _ _ _ _ => N3
  rename IsRange _ _ _ _ _ _ _ _ => rg
  rename IsSrc _ => ho3
  rename 0 ≤ _ => w0
  rename _ < 6 => w1
  rename_i l uh6 la D' uh5 lb uh4 uh3 uh2 uN1 vT tvT o3 uh1 utk' uF uN uh utk ut1 uu1 uv1 ua
  clear uN uF uN1
  have hls : l ≠ sa := Nat.ne_of_gt la.1
  have hsl : sa ≠ l := Nat.ne_of_lt la.1
  refine .inr (.inl ⟨_, _, _, _, _, _, _, _, _, J12 sa l D news esc te,
    rfl, rfl, F3, nsub (b := (sa, o3) :: (l, listOf (List.toArray []) 0) :: D) N3 ?_, rg, small_one (by omega) (by omega) (by omega) (by omega), rangeSize_nat _ _, by intro _ _; rfl,
    ⟨o3, 0, [], [], [], [], D, _, ho3, rfl, rfl, hD, (fun p hp => Nat.ne_of_lt (kst_ltOf la.2 p hp)), (fun p hp => by cases hp), (has4 rfl rfl rfl rfl), .nil, Wr.start _, (fun p hp => by cases hp), (fun p hp => by cases hp), Nat.le_refl _, rfl⟩, ?_, ?_⟩)
  · intro p hp
    simp only [List.mem_cons] at hp ⊢
    rcases hp with h | h | h <;> simp [h]
  · rintro i v m₁ nx I oI h tk hi ⟨tb, rfl⟩ hJ0 F4 N4 off
    refine hide2 ?_
    intro Q' hQ
    obtain ⟨o', nn, vs, pat, ps, tl, TD, tp, hso, rfl, hTD, hT1, hT2, hfr, hH, hA, hW, hS, hcp, hpl, hsl'⟩ := hJ0
    have F5 := hH.fr F4
    clear F4 F3 N3 F2 hH rg
    (try dsimp only)
    have k1 : I ≠ sa := Ne.symm (off _ (.head _))
    have k2 : I ≠ l := Ne.symm (off _ (.tail _ (.head _)))
    have hi5 : i < 5 := by omega
    have off3 : ∀ p ∈ TD, p.1 ≠ I := fun p hp => off p (.tail _ (.tail _ hp))
    have hvl : vs.length = ps.length := hA.length
    refine wpAny_assign_Name ?_
    dsimp only [kstB] at F5
    (try dsimp only)
    have hmk : Mark := .mk
    k_steps
    refine Halt.mk ?_
    rename Mark => hmk; clear hmk
    rename News _ _ _ _ => N6
    rename Fr _ _ _ _ => F6
    refine mid12 s.gens s.drawn s.os (escV esc te) (.str ⟨List.toArray pat⟩ tp) (.ref l) N6 ?_ ?_
    · k_steps
      all_goals
        rename News _ _ _ _ => N7
        rename Fr _ _ _ _ => F7
        first
          | exact ⟨37, _, _, _, _, _, _, _, rfl, rfl, by decide, (by assumption), F7, N7, has6 rfl rfl rfl rfl rfl rfl⟩
          | exact ⟨95, _, _, _, _, _, _, _, rfl, rfl, by decide, (by assumption), F7, N7, has6 rfl rfl rfl rfl rfl rfl⟩
          | (rename Value.str _ _ ∈ _ => hv9
             exact ⟨_, _, _, _, _, _, _, _, rfl, rfl, one_lt (by walk_at "m_ones") hv9, (by assumption), F7, nsub N7 (fun p hp => .tail _ hp), has6 rfl rfl rfl rfl rfl rfl⟩)
    rintro f s' ⟨c, tw, wy, twy, o7, h7, tk7, m7, rfl, rfl, hc, ho7, F7, N7, hH⟩
    have F8 := hH.fr F7
    clear F7 hH F6 N6
    (try dsimp only)
    dsimp only [kstB] at F8
    (try dsimp only)
    have hmk : Mark := .mk
    k_steps
    refine Halt.mk ?_
    rename Mark => hmk; clear hmk
    refine midT (fun _ => True) esc c ?_ ?_
    · cases esc with
      | none =>
        dsimp only [escV] at F8
        k_steps
        exact .no _ rfl rfl (by intro h; cases h)
      | some e =>
        dsimp only [escV] at F8
        k_steps
        all_goals first
          | exact .yes _ e rfl rfl rfl trivial
          | exact .no _ rfl rfl (ne_esc (by assumption))
          | (cases hce : ((⟨#[c]⟩ : Str) == ⟨#[e]⟩) with
             | true => exact .yes _ e rfl rfl rfl trivial
             | false => exact .no _ rfl rfl (ne_esc hce))
    rintro b s' (⟨tk9, e, rfl, rfl, rfl, -⟩ | ⟨tk9, rfl, rfl, hne⟩)
    · dsimp only [escV] at F8
      (try dsimp only)
      k_steps
      all_goals
        rename News _ _ _ _ => N9
        rename Fr _ _ _ _ => F9
        obtain ⟨tl', TD', N8, e0, e1, e2, e3, e4, e5⟩ := written_step (p := .sign (fold c)) N9 (by assumption) hin hTD hT1 hT2 hfr k1 k2 off3 hA (by first | exact .sign _ _ _ | exact pf_esc (by assumption))
        exact hQ _ _ ⟨_, _, _, _, rfl, F9, N8, e0, _, _, _, pat ++ [e] ++ [c], _, tl', TD', _, ho7, rfl, e1, e2, e3, e4, has4 rfl rfl (by rw [← app1, ← app1]; rfl) rfl, e5, hW.two rfl, hS.snoc (.inr (.inr ⟨_, rfl, fold_lt hc⟩)), cp_snoc (cp_snoc hcp (hesc _ rfl)) hc, by simp only [List.length_append, List.length_singleton]; exact le2b (by assumption), by rw [List.length_append, hsl']; rfl⟩
    · dsimp only
      k_steps
      all_goals
        rename News _ _ _ _ => N9
        rename Fr _ _ _ _ => F9
        obtain ⟨tl', TD', N8, e0, e1, e2, e3, e4, e5⟩ := written_step (p := pcOf c) N9 (by assumption) hin hTD hT1 hT2 hfr k1 k2 off3 hA (by first | exact pf_any (by assumption) | exact pf_one (by assumption) (by assumption) | exact pf_sign (by assumption) (by assumption) | exact pf_wide (by assumption) (by assumption) (by assumption))
        exact hQ _ _ ⟨_, _, _, _, rfl, F9, N8, e0, _, _, _, pat ++ [c], _, tl', TD', _, ho7, rfl, e1, e2, e3, e4, has4 rfl rfl (by rw [← app1]; rfl) rfl, e5, hW.one hne, hS.snoc (smp_pc hc), cp_snoc hcp hc, by simp only [List.length_append, List.length_singleton]; exact le2 (by assumption), by rw [List.length_append, hsl']; rfl⟩
  · rintro m₁ nx h tk ⟨o', nn, vs, pat, ps, tl, TD, tp, hso, rfl, hTD, hT1, hT2, hfr, hH, hA, hW, hS, hcp, hpl, hsl'⟩ F4 N4
    have F5 := hH.fr F4
    clear F4 F3 N3 F2 hH rg
    (try dsimp only)
    dsimp only [kstB] at F5
    (try dsimp only)
    k_steps
    rename News _ _ _ _ => N6
    rename (_ < _ ∧ _ < _ ∧ AllLt _ _) => l9
    rw [show (vT - 0).toNat = vT.toNat by rw [Int.sub_zero]] at hpl hsl'
    refine ret _ _ pat _ l vs _ ps ((_, _) :: (l, listOf vs.toArray nn) :: tl) _ _ _ hW hS hcp (by omega) (by omega) (hA.mono fun _ _ h => h.mono fun p hp => .tail _ (.tail _ hp)) hso (by k_asm) (tl_back N6 (fun p hp => by
        rcases List.mem_cons.mp hp with h | hp
        · rw [h]; exact .head _
        · rcases List.mem_cons.mp hp with h | hp
          · rw [h]; exact .tail _ (.tail _ (.head _))
          · exact .tail _ (.tail _ (.tail _ (hTD ▸ List.mem_append.mpr (.inl hp))))) (.tail _ (.head _)) (fun p hp => .tail _ (.tail _ (.tail _ (hTD ▸ List.mem_append.mpr (.inr hp))))) back) ?_ (.head _) (.tail _ (.head _))
    intro x hx
    rcases List.mem_cons.mp hx with rfl | hx
    · intro y hy
      by_cases e : y.1 = sa
      · rw [e]; exact Nat.ne_of_gt l9.1
      · exact Nat.ne_of_gt (kst_ltOf l9.2.2 y (hTD ▸ List.mem_append.mpr (.inr (hin y hy e))))
    · rcases List.mem_cons.mp hx with rfl | hx
      · exact fresh_news hin la.1 la.2
      · exact hfr x hx
end
end Mine
end TC12
section TC13
namespace Mine
variable {prog : Program} {w : World} {dp un : Nat} {gd : Option (List Code)} {cn : Str} {cs : Scope} {L a : Addr} {ccd : Value} {cl : List (Str × Addr)} {outer : List Env} {A₀ : Around} {base h₀ : Heap} {m mg mb : Str → Option Value} {mean : ExcName → Option Value} {s : Shared} {Q E : Value → Shared → Prop} {news D : List (Addr × Obj)}

def escOf : Value → Prop := fun v => v = .none ∨ OneStr v
theorem con_oneN {sa l : Addr} {o : Obj} {g : Obj → List (Addr × Obj)} {vs : List Value} {n : Nat} (C : Cx w A₀ base h₀ outer mg mb mean) (F : Fr h₀ L s.heap m) (N : News h₀ L s.heap news) (U : UpdF sa o news g) (ho : IsSrc o) (hk : cs.kind = .function)
  (hdp : dp < 890) (hun : un < 8900) (hl : (l, listOf vs.toArray n) ∈ news) (hs : ∀ v ∈ vs, escOf v) (hv0 : 0 < vs.length) (hv1 : vs.length ≤ 100)
  (ret : ∀ esc te o' h' tk', (∀ e, esc = some e → e < 1000) → IsSrc o' → Fr h₀ L h' m → News h₀ L h' (g o') → Q (escV esc te) { s with heap := h', toks := tk' }) :
  wpAny (model prog w) (ktrTop dp un gd cn cs L a ccd cl outer) (call (.ref 85) [.ref sa, .ref l]) Q E s := by
  have hne : l ≠ sa := by
    rintro rfl
    obtain ⟨D, N1, _⟩ := upd_in N U
    have e1 := (N _ hl).1
    rw [(N1 _ (.head _)).1] at e1
    obtain ⟨x, y, t, u, n', rfl⟩ := ho
    have e2 := Option.some.inj e1
    have e3 : vs = [.int x t, .int y u] := by
      have := congrArg Obj.data e2
      injection this with e4 _
      injection e4 with e5
      exact e5.symm
    rcases hs (.int x t) (by rw [e3]; exact .head _) with h | ⟨c, t', h, _⟩ <;> cases h
  refine con_one C F N U ho hk hdp hun hl hne hv0 hv1 fun i v o' h' tk' hv => ?_
  rcases hs v (List.mem_of_getElem? hv) with rfl | ⟨c, t, rfl, hc⟩
  · exact ret none 0 o' h' tk' (fun e h => by cases h)
  · exact ret (some c) t o' h' tk' (fun e h => by injection h with h; rw [← h]; exact hc)
def sgD : Pc → PyData
  | .sign c => .str ⟨#[c]⟩
  | _ => .none
abbrev pcD (p : Pc) : PyData := .tuple [.int p.code, sgD p, .none, .bool false]
theorem pcs_canLay : ∀ ps : List Pc, Smp ps → PyData.canLayAll0 (ps.map pcD) = true
  | [], _ => rfl
  | p :: r, h => by
    have h1 : PyData.canLay0 (sgD p) = true := by
      rcases h p (.head _) with rfl | rfl | ⟨c, rfl, hc⟩
      · rfl
      · rfl
      · show (#[c].all fun x => decide (x < 0x110000)) = true
        simp; omega
    simp [PyData.canLayAll0, PyData.canLay0, pcs_canLay r fun x hx => h x (.tail _ hx), h1]
theorem sg_depth (p : Pc) : PyData.depth (sgD p) = 0 := by cases p <;> rfl
theorem pcs_depth : ∀ ps : List Pc, PyData.depthAll (ps.map pcD) ≤ 1
  | [] => Nat.zero_le _
  | p :: r => by
    have := pcs_depth r
    simp [PyData.depthAll, PyData.depth, sg_depth p]
    omega
theorem pcs_shaped (ps : List Pc) (h : Smp ps) : SeqAt.shaped (.list (ps.map pcD)) = true := by
  have := pcs_depth ps
  simp [SeqAt.shaped, PyData.canLay0, PyData.depth, pcs_canLay ps h]
  omega
theorem pcs_eqv : ∀ ps : List Pc, PyData.eqvAll (ps.map pcD) (ps.map pcD) = true
  | [] => rfl
  | p :: r => by
    have h : PyData.eqv (sgD p) (sgD p) = true := by cases p <;> simp [sgD, PyData.eqv]
    simp [PyData.eqvAll, PyData.eqv, h, pcs_eqv r]
theorem pcs_reads {g h : Heap} {L : Addr} {X : List (Addr × Obj)} (N : News g L h X) {vs : List Value} {ps : List Pc} (hA : All2 (PieceIn X) vs ps) (hS : Smp ps) : ReadsAll h vs (ps.map pcD) [] := by
  induction hA with
  | nil => exact .nil
  | cons x _ ih =>
    rename_i p _ _ _
    obtain ⟨a, b⟩ := x
    refine readsAll_cons_val (.tuple (N _ a).1 rfl rfl ?_) (ih fun q hq => hS q (.tail _ hq))
    rcases hS p (.head _) with rfl | rfl | ⟨c, rfl, hc⟩
    · cases b
      exact readsAll_cons_val (.int _ _) (readsAll_cons_val .none (readsAll_cons_val .none (readsAll_cons_val (.bool _) .nil)))
    · cases b
      exact readsAll_cons_val (.int _ _) (readsAll_cons_val .none (readsAll_cons_val .none (readsAll_cons_val (.bool _) .nil)))
    · cases b
      exact readsAll_cons_val (.int _ _) (readsAll_cons_val (.str _ _) (readsAll_cons_val .none (readsAll_cons_val (.bool _) .nil)))
theorem pcs_ne {prog : Program} {w : World} {A : Around} {E : Value → Shared → Prop} {s : Shared} {a b : Addr} {xs ys : List Value} {n1 n2 : Nat} {ps : List Pc} {g : Heap} {L : Addr} {X : List (Addr × Obj)} {Q : Value → Shared → Prop} (N : News g L s.heap X) (ha : (a, listOf xs.toArray n1) ∈ X) (hb : (b, listOf ys.toArray n2) ∈ X)
    (h1 : All2 (PieceIn X) xs ps) (h2 : All2 (PieceIn X) ys ps) (hS : Smp ps) (hu : A.units + 64 < cLine)
    (h : Q (.bool false) s) : wpAny (model prog w) A (compareOp .NotEq (.ref a) (.ref b)) Q E s := by
  refine ne_dataH (reads_list_at (N _ ha).1 rfl rfl (pcs_reads N h1 hS)) (reads_list_at (N _ hb).1 rfl rfl (pcs_reads N h2 hS)) (pcs_shaped ps hS) (pcs_shaped ps hS) hu ?_
  have e : PyData.eqv (.list (ps.map pcD)) (.list (ps.map pcD)) = true := pcs_eqv ps
  rw [e]; exact h
theorem regroup {g h : Heap} {L sa : Addr} {o5 o3 : Obj} {x : Addr × Obj} {tl D : List (Addr × Obj)} (N : News g L h (tl ++ (x :: (sa, o5) :: D))) (h1 : ∀ p ∈ tl, ∀ y ∈ x :: (sa, o3) :: D, p.1 ≠ y.1) (hx : x.1 ≠ sa) (hD : ∀ p ∈ D, p.1 ≠ sa) :
    ∃ D2, News g L h ((sa, o5) :: D2) ∧ (∀ p ∈ D2, p.1 ≠ sa) ∧ (∀ p ∈ tl, p ∈ D2) ∧ (∀ p ∈ D, p ∈ D2) := by
  refine ⟨x :: (tl ++ D), nsub N fun p hp => ?_, fun p hp => ?_, fun p hp => .tail _ (List.mem_append.mpr (.inl hp)), fun p hp => .tail _ (List.mem_append.mpr (.inr hp))⟩
  · simp only [List.mem_cons, List.mem_append] at hp ⊢
    rcases hp with h | h | h | h <;> simp [h]
  · rcases List.mem_cons.mp hp with rfl | hp
    · exact hx
    · rcases List.mem_append.mp hp with hp | hp
      · exact h1 p hp (sa, o3) (.tail _ (.head _))
      · exact hD p hp
theorem regroup2 {g h : Heap} {L sa : Addr} {o5 : Obj} {x : Addr × Obj} {tl D : List (Addr × Obj)} (N : News g L h (x :: (tl ++ ((sa, o5) :: D)))) (h0 : ∀ q ∈ (sa, o5) :: D, x.1 ≠ q.1) (h1 : ∀ p ∈ tl, ∀ q ∈ (sa, o5) :: D, p.1 ≠ q.1) (hD : ∀ p ∈ D, p.1 ≠ sa) :
    ∃ D2, News g L h ((sa, o5) :: D2) ∧ (∀ p ∈ D2, p.1 ≠ sa) ∧ x ∈ D2 ∧ (∀ p ∈ tl, p ∈ D2) ∧ (∀ p ∈ D, p ∈ D2) := by
  refine ⟨x :: (tl ++ D), nsub N fun p hp => ?_, fun p hp => ?_, .head _, fun p hp => .tail _ (List.mem_append.mpr (.inl hp)), fun p hp => .tail _ (List.mem_append.mpr (.inr hp))⟩
  · simp only [List.mem_cons, List.mem_append] at hp ⊢
    rcases hp with h | h | h | h <;> simp [h]
  · rcases List.mem_cons.mp hp with rfl | hp
    · exact h0 _ (.head _)
    · rcases List.mem_append.mp hp with hp | hp
      · exact h1 p hp _ (.head _)
      · exact hD p hp
theorem regroup3 {g h : Heap} {L : Addr} {t a b c d : Addr × Obj} {r : List (Addr × Obj)} (N : News g L h (t :: a :: b :: c :: d :: r)) : News g L h (a :: b :: c :: d :: t :: r) :=
  nsub N fun p hp => by
    simp only [List.mem_cons] at hp ⊢
    rcases hp with h | h | h | h | h | h <;> simp [h]
theorem off3 {I C D sa x : Addr} {o5 ob : Obj} {TD : List (Addr × Obj)} (h : @LT.lt Nat _ I x ∧ @LT.lt Nat _ C x ∧ @LT.lt Nat _ D x ∧ @LT.lt Nat _ sa x ∧ AllLt x TD) (off : ∀ p ∈ (sa, o5) :: TD, p.1 ≠ I ∧ p.1 ≠ C ∧ p.1 ≠ D) :
    ∀ p ∈ (sa, o5) :: (x, ob) :: TD, p.1 ≠ I ∧ p.1 ≠ C ∧ p.1 ≠ D := by
  intro p hp
  rcases List.mem_cons.mp hp with rfl | hp
  · exact off _ (.head _)
  · rcases List.mem_cons.mp hp with rfl | hp
    · exact ⟨Nat.ne_of_gt h.1, Nat.ne_of_gt h.2.1, Nat.ne_of_gt h.2.2.1⟩
    · exact off _ (.tail _ hp)
theorem ne3 {I C D sa x : Addr} {ob : Obj} {TD : List (Addr × Obj)} (h : @LT.lt Nat _ I x ∧ @LT.lt Nat _ C x ∧ @LT.lt Nat _ D x ∧ @LT.lt Nat _ sa x ∧ AllLt x TD) (hT : ∀ p ∈ TD, p.1 ≠ sa) : ∀ p ∈ (x, ob) :: TD, p.1 ≠ sa := by
  intro p hp
  rcases List.mem_cons.mp hp with rfl | hp
  · exact Nat.ne_of_gt h.2.2.2.1
  · exact hT p hp
section
local macro_rules | `(tactic| walk_at "call ref") => `(tactic| ((with_reducible show wpAny _ _ (call (Value.ref 85) _) _ _ _); refine Halt.out ?_))
local macro_rules | `(tactic| walk_at "assign Tuple") => `(tactic| (refine Halt.out ?_))
local macro_rules | `(tactic| walk_at "compareOp In int ref") => `(tactic| (refine Halt.out ?_))
local macro_rules | `(tactic| walk_at "getAttr ref") => `(tactic| (k_dflt (refine get_own (by k_asm) (by k_asm) (InstAt.of_news (by k_asm) (by assumption) (by assumption)) (by k_is) (by k_is) (by k_is) (by k_is) (by k_get) (by k_handed) ?_)))
inductive M13 (h₀ : Heap) (L : Addr) (m : Str → Option Value) (gs : Array GenState) (dr : Drawn) (os : OsState) (news : List (Addr × Obj)) (b : Bool) (s' : Shared) : Prop
  | mk (h : Heap) (tk : Nat) : b = false → s' = ⟨h, gs, dr, tk, os⟩ → Fr h₀ L h m → News h₀ L h news → M13 h₀ L m gs dr os news b s'
theorem mid13 {A : Around} {x : Sem Bool} {g h : Heap} {m : Str → Option Value} {news : List (Addr × Obj)} {Q : Bool → Shared → Prop} {s₂ : Shared} (gs : Array GenState) (dr : Drawn) (os : OsState) (uF : Fr g L h m) (uN : News g L h news)
    (h1 : wpAny (model prog w) A x (M13 g L m gs dr os news) NoE s₂) (h2 : ∀ b s', M13 g L m gs dr os news b s' → Q b s') : wpAny (model prog w) A x Q NoE s₂ := wpAny_mono h1 h2 fun _ _ h => h
theorem PF.smp {D : List (Addr × Obj)} {a b c d : Value} {p : Pc} (h : PF D a b c d p) (hs : p = .any ∨ p = .one ∨ ∃ e, p = .sign e ∧ e < 2000) :
    (∃ t, a = .int 0 t ∧ b = .none ∧ c = .none ∧ d = .bool false ∧ p = .any) ∨ (∃ t, a = .int 1 t ∧ b = .none ∧ c = .none ∧ d = .bool false ∧ p = .one) ∨ (∃ e t u, a = .int 2 t ∧ b = .str ⟨#[e]⟩ u ∧ c = .none ∧ d = .bool false ∧ p = .sign e) := by
  cases h with
  | any t => exact .inl ⟨_, rfl, rfl, rfl, rfl, rfl⟩
  | one t => exact .inr (.inl ⟨_, rfl, rfl, rfl, rfl, rfl⟩)
  | sign c t u => exact .inr (.inr ⟨_, _, _, rfl, rfl, rfl, rfl, rfl⟩)
  | lot t neg h r l => rcases hs with h | h | ⟨e, h, _⟩ <;> cases h
inductive J13 (x1 : Addr × Obj) (D3 : List (Addr × Obj)) (ps : List Pc) (i : Nat) (ys : List Value) (nx : List (Addr × Obj)) : Prop
  | mk (TD : List (Addr × Obj)) : nx = x1 :: TD → (∀ p ∈ D3, p ∈ TD) → (∀ p ∈ TD, p.1 ≠ x1.1) → ys.length = i → All2 (PieceIn TD) ys (ps.take i) → J13 x1 D3 ps i ys nx
set_option maxRecDepth 100000 in
set_option maxHeartbeats 1600000 in
theorem con_likeR {sa : Addr} {o : Obj} {g : Obj → List (Addr × Obj)} (C : Cx w A₀ base h₀ outer mg mb mean) (F : Fr h₀ L s.heap m) (N : News h₀ L s.heap news) (U : UpdF sa o news g) (ho : IsSrc o) (hk : cs.kind = .function)
  (hdp : dp < 860) (hun : un < 8600)
  (ret : ∀ o' h' tk', IsSrc o' → Fr h₀ L h' m → News h₀ L h' (g o') → Q (.bool true) { s with heap := h', toks := tk' }) :
  wpAny (model prog w) (ktrTop dp un gd cn cs L a ccd cl outer) (call (.ref 122) [.ref sa]) Q E s := by
  obtain ⟨B, X, T⟩ := C
  obtain ⟨D, N0, hD, hin, hout, back⟩ := upd_in N U
  clear N U hin hout
  (try dsimp only)
  have hfoo : PySem.Challenge.rw_xm0748_01 = PySem.Challenge.rw_xm0748_01 := rfl
  revert hfoo X; k_fill; intro X hfoo
  clear hfoo
  refine wpAny_call ?_
  k_dflt ktr_enter
  refine wpAny_mono (E := NoE) ?_ (fun _ _ h => h) (fun _ _ h => h.elim)
  (try k_fold)
  rename Fr _ _ _ _ => F0
  obtain ⟨m₀, F1⟩ := ent F0 [("source", .ref sa)] (has1 rfl)
  clear F0
  (try dsimp only)
  dsimp only [kstB] at F1
  (try dsimp only)
  k_steps
  refine Halt.mk ?_
  rename Fr _ _ _ _ => F2
  rename News _ _ _ _ => N2
  refine con_oneN ⟨by k_asm, by k_asm, by k_asm⟩ F2 N2 (by k_updF) ho rfl (lts1 (by assumption) rfl) (lts3 (by assumption) rfl) (.head _) (by
    intro v hv
    simp only [List.mem_cons, List.mem_nil_iff, or_false] at hv
    (repeat' (rcases hv with rfl | hv))
    all_goals first | exact .inl rfl | exact .inr ⟨_, _, rfl, by decide⟩ | (subst hv; first | exact .inl rfl | exact .inr ⟨_, _, rfl, by decide⟩)) (by exact Nat.le_of_ble_eq_true rfl) (by exact Nat.le_of_ble_eq_true rfl) ?_
  intro esc te o3 h3 tk3 hesc ho3 F3 N3
  (try dsimp only at N3)
  clear F2 N2
  (try dsimp only)
  k_steps
  refine Halt.mk ?_
  rename Fr _ _ _ _ => F4
  rename News _ _ _ _ => N4
  refine con_written ⟨by k_asm, by k_asm, by k_asm⟩ F4 N4 (by k_updF) ho3 rfl (lts1 (by assumption) rfl) (lts3 (by assumption) rfl) hesc ?_
  intro q nq pat tp l vs nn ps tl o5 h5 tk5 hW hS hcp hpl hps hA ho5 F5 N5 hfr hq hlm
  (try dsimp only at N5)
  clear F4 N4
  (try dsimp only)
  k_steps
  refine Halt.mk ?_
  rename (_ < _ ∧ AllLt _ _) => l1
  obtain ⟨D2, N6, hD2, hs2, hd2⟩ := regroup N5 hfr (Nat.ne_of_gt l1.1) hD
  replace hd := hd2
  clear N5 hfr
  (try dsimp only)
  replace hq := hs2 _ hq
  replace hlm := hs2 _ hlm
  replace hA : All2 (PieceIn D2) vs ps := hA.mono fun _ _ h => h.mono hs2
  refine unpackN_ F5 N6 ⟨_, (N6 _ (.tail _ hq)).1, rfl, _, rfl⟩ rfl rfl rfl fun h6 F6 N7 => ?_
  clear F5 N6 hs2
  (try dsimp only)
  refine assignInOrder_cons (wpAny_assign_Name ?_)
  k_steps
  refine Halt.mk ?_
  rename Fr _ _ _ _ => F7
  rename News _ _ _ _ => N8
  refine con_like (pat := pat) ⟨by k_asm, by k_asm, by k_asm⟩ F7 N8 rfl (lts1 (by assumption) rfl) (lts3 (by assumption) rfl) hcp (by omega) ?_ ?_
  · intro h; rw [hW.all] at h; cases h
  intro lq vs' nn' ps' tl' h8 tk8 hlp _ hA' F8 N9 fr1 fr2
  obtain rfl : ps' = ps := by rw [hW.all] at hlp; exact (Option.some.inj hlp).symm
  obtain ⟨D3, N10, hD3, hq3, hs3, hd3⟩ := regroup2 N9 fr1 fr2 hD2
  clear N9 fr1 fr2
  (try dsimp only)
  replace hlm := hd3 _ hlm
  replace hA : All2 (PieceIn D3) vs ps' := hA.mono fun _ _ h => h.mono hd3
  replace hA' : All2 (PartIn w.params D3) vs' ps' := hA'.mono fun _ _ h => h.mono hs3
  replace hd : ∀ p ∈ D, p ∈ D3 := fun p hp => hd3 _ (hd p hp)
  clear hq hd3 hs3 hd2
  have hl1 : vs.length = ps'.length := hA.length
  have hl2 : vs'.length = ps'.length := hA'.length
  k_steps
  refine Halt.mk ?_
  rename Fr _ _ _ _ => F9
  refine comp_evalF F9 (by with_unfolding_all rfl) (by decide) rfl (by decide) (by intro _; rfl) ?_
  k_steps
  rename News _ _ _ _ => N11
  refine .inl ⟨lq, vs', nn', (sa, o5) :: D3, J13 (sa, o5) D3 ps', rfl, rfl, by k_asm, N11, .tail _ hq3, by rw [sizeLine_eq]; omega, .inl (by intro _ _; rfl), ⟨D3, rfl, fun _ hp => hp, hD3, rfl, by rw [List.take_zero]; exact .nil⟩, ?_, ?_, ?_, ?_⟩
  · rintro i ys nx ⟨_, _, _, _, h, _⟩; exact Nat.le_of_eq h
  · rintro i ys nx ⟨TD, rfl, h, _⟩; exact .tail _ (h _ hq3)
  · rintro i v ys nx I oI oC C D8 m₂ h tk E' hi hvi hJ0 hoC F10 N12 off n1 n2 n3
    refine hide3 ?_
    intro R1 R2 hR1 hR2
    obtain ⟨TD, rfl, hsub, hTs, hzl, hA2⟩ := hJ0
    obtain ⟨p, hp, hpv⟩ := hA'.get' hvi
    obtain ⟨hx, hdx, hpf⟩ := hpv
    replace hx := hsub _ hx
    replace hdx := hsub _ hdx
    refine comp_one F10 N12 hoC n1 ?_ rfl rfl ?_
    · intro p hp
      rcases List.mem_cons.mp hp with rfl | hp
      · exact Ne.symm n3
      · exact (off p hp).2.1
    intro h9 tk9 oC9 m9 F11 n9 hat N13
    clear F10 N12 hoC
    (try dsimp only)
    refine wpAny_tests_nil ?_
    simp only [if_true]
    have hx' := (List.Mem.tail (I, oI) (List.Mem.tail (C, oC9) (List.Mem.tail (D8, LCg.lst ys) (List.Mem.tail (sa, o5) hx))) : (_, instObj 46 _) ∈ (I, oI) :: (C, oC9) :: (D8, LCg.lst ys) :: (sa, o5) :: TD)
    have hdx' := (List.Mem.tail (I, oI) (List.Mem.tail (C, oC9) (List.Mem.tail (D8, LCg.lst ys) (List.Mem.tail (sa, o5) hdx))) : (_, partDict w.params _ _ _ _ _ _ _ _) ∈ (I, oI) :: (C, oC9) :: (D8, LCg.lst ys) :: (sa, o5) :: TD)

    rcases hpf.smp (hS p (List.mem_of_getElem? hp)) with ⟨t1, rfl, rfl, rfl, rfl, rfl⟩ | ⟨t1, rfl, rfl, rfl, rfl, rfl⟩ | ⟨c, t1, t2, rfl, rfl, rfl, rfl, rfl⟩
    all_goals
      k_steps
      rename Fr _ _ _ _ => F12
      rename News _ _ _ _ => N14
      refine hR1 _ _ ⟨_, _, _, _, _, rfl, F12, n9, regroup3 N14, off3 (by assumption) off, _, rfl, fun p hp => .tail _ (hsub p hp), ne3 (by assumption) hTs, by rw [List.length_append, hzl]; rfl, ?_⟩
      rw [List.take_add_one, hp]
      exact (hA2.mono fun _ _ h => h.mono fun p hp => .tail _ hp).snoc (.mk (.head _) (by first | exact .any _ | exact .one _ | exact .sign _ _ _))
  · rintro D9 ys nx h tk ⟨TD, rfl, hsub, hTs, hzl, hA2⟩ N12 off9 F10
    rw [List.take_of_length_le (Nat.le_of_eq hl2.symm)] at hA2
    have hlm' := hsub _ hlm
    have hlq' := hsub _ hq3
    have hA3 : All2 (PieceIn TD) vs ps' := hA.mono fun _ _ h => h.mono hsub
    have hA4 : All2 (PartIn w.params TD) vs' ps' := hA'.mono fun _ _ h => h.mono hsub
    have k1 : D9 ≠ sa := Ne.symm (off9 _ (.head _))
    clear N11 F9
    (try dsimp only)
    k_steps
    refine Halt.mk ?_
    rename Fr _ _ _ _ => F11
    rename News _ _ _ _ => N13
    refine pcs_ne N13 (.head _) (.tail _ (.tail _ hlm')) (hA2.mono fun _ _ h => h.mono fun p hp => .tail _ (.tail _ hp)) (hA3.mono fun _ _ h => h.mono fun p hp => .tail _ (.tail _ hp)) hS (by have := cLine_is; dsimp only [ktrTop, Around.deeper]; omega) ?_
    have hmk : Mark := .mk
    k_steps
    refine Halt.mk ?_
    rename Mark => hmk; clear hmk
    rename Fr _ _ _ _ => F12
    rename News _ _ _ _ => N14
    refine mid13 s.gens s.drawn s.os F12 N14 ?_ ?_
    · cases esc with
      | none =>
        dsimp only [escV] at F12
        k_steps
        exact ⟨_, _, rfl, rfl, F12, N14⟩
      | some e =>
        dsimp only [escV] at F12
        k_steps
        refine Halt.mk ?_
        rw [app1]
        refine con_like (pat := pat ++ [e]) (esc := some e) ⟨by k_asm, by k_asm, by k_asm⟩ F12 N14 rfl (lts1 (by assumption) rfl) (lts3 (by assumption) rfl) (cp_snoc hcp (hesc _ rfl)) (by rw [List.length_append, List.length_singleton]; omega) ?_ ?_
        · intro hno h10 tk10 F13 N15
          clear F12 N14
          (try dsimp only)
          k_steps
          exact ⟨_, _, rfl, rfl, F13, N15⟩
        · intro lq2 vs2 nn2 ps2 tl2 h10 tk10 hlp2
          rw [hW.end] at hlp2; cases hlp2
    rintro b s' ⟨h14, tk14, rfl, rfl, F13, N15⟩
    clear F12 N14
    (try dsimp only)
    k_steps
    refine Halt.mk ?_
    rename Fr _ _ _ _ => Fa
    rename News _ _ _ _ => Na
    refine con_text (ps := ps') ⟨by k_asm, by k_asm, by k_asm⟩ Fa Na (by k_updF) ho5 rfl (lts1 (by assumption) rfl) (lts3 (by assumption) rfl) (by walk_at "m_mem") (hA3.mono fun _ _ h => h.mono fun p hp => by walk_at "m_mem") (by omega) (.head _) (by walk_at "m_ones") (by exact Nat.le_of_ble_eq_true rfl) (by exact Nat.le_of_ble_eq_true rfl) ?_
    intro x t o6 h6 tk6 hx ho6 F6 N6
    (try dsimp only at N6)
    clear Fa Na
    (try dsimp only)
    obtain ⟨txt, rfl⟩ : ∃ txt : List Nat, x = ⟨txt.toArray⟩ := ⟨x.cps.toList, rfl⟩
    rw [txt_len] at hx
    have ht9 : txt.length ≤ 1000 := by omega
    have hp9 : ps'.length ≤ 1000 := Nat.le_trans hps (by decide)
    k_steps
    refine Halt.mk ?_
    rename Fr _ _ _ _ => Fb
    rename News _ _ _ _ => Nb
    refine con_matches (ps := ps') ⟨by k_asm, by k_asm, by k_asm⟩ Fb Nb rfl (lts1 (by assumption) rfl) (lts3 (by assumption) rfl) (by walk_at "m_mem") (hA4.mono fun _ _ h => h.mono fun p hp => by walk_at "m_mem") hp9 ht9 ?_
    intro h7 tk7 F7 N7
    clear Fb Nb
    (try dsimp only)
    k_steps
    refine Halt.mk ?_
    rename Fr _ _ _ _ => Fc
    rename News _ _ _ _ => Nc
    refine con_places (ps := ps') ⟨by k_asm, by k_asm, by k_asm⟩ Fc Nc rfl (lts1 (by assumption) rfl) (lts3 (by assumption) rfl) (by walk_at "m_mem") (hA3.mono fun _ _ h => h.mono fun p hp => by walk_at "m_mem") hp9 ht9 ?_
    intro q zs' nn2 ns h15 tk15 hzs hI F15 N15
    have e : ns.any (· == 0) = glob ps' txt := by
      rw [Bool.eq_iff_iff, ← hI.zero, List.any_eq_true]
      constructor
      · rintro ⟨x, hx, h0⟩; rw [eq_of_beq h0] at hx; exact hx
      · intro h; exact ⟨0, h, beq_self_eq_true _⟩
    k_steps
    refine Halt.mk ?_
    refine in_list_ints ⟨_, (N15 _ (.head _)).1, rfl, _, rfl⟩ hzs ?_
    rw [e]
    k_steps
    rw [beq_self_eq_true]
    rename News _ _ _ _ => N16
    refine ret _ _ _ ho6 (by k_asm) (back _ _ _ _ (nsub N16 fun p hp => ?_))
    rcases List.mem_cons.mp hp with h | hp
    · rw [h]; walk_at "m_mem"
    · have hp := hsub _ (hd _ hp)
      walk_at "m_mem"
end
end Mine
end TC13
section TC15
namespace Mine
theorem turns_le (n : Int) : 0 ≤ (if (if n < 2 then n else 2) > 1 then if n < 2 then n else 2 else 1) ∧ (if (if n < 2 then n else 2) > 1 then if n < 2 then n else 2 else 1) ≤ 2 := by
  by_cases h : n < 2
  · rw [if_pos h]
    by_cases h2 : n > 1
    · rw [if_pos h2]; omega
    · rw [if_neg h2]; omega
  · rw [if_neg h]
    rw [if_pos (by omega)]; omega
theorem rg_abs {h : Heap} {r : Addr} {n : Int} {t u v : Tok} (rg : IsRange h r 0 (if (if n < 2 then n else 2) > 1 then if n < 2 then n else 2 else 1) 1 t u v) : ∃ b, IsRange h r 0 b 1 t u v ∧ 0 ≤ b ∧ b ≤ 2 :=
  ⟨_, rg, (turns_le n).1, (turns_le n).2⟩
inductive J15 (a : Addr) (i : Nat) (m : Str → Option Value) (nx : List (Addr × Obj)) : Prop
  | mk : nx = [] → Has m [("script", .ref a)] → J15 a i m nx
end Mine
section
open Mine
local macro_rules | `(tactic| walk_at "exec If") => `(tactic| ((with_reducible rename Mine.Mark => hmk); refine Halt.out ?_))
set_option maxRecDepth 100000 in
set_option maxHeartbeats 8000000 in
theorem PySem.Challenge.cw_xm0748_01_holds : PySem.Challenge.rw_xm0748_01.Holds :=
  hd (by
  k_go0
  (all_goals try k_fold)
  refine wpAny_mono (E := NoE) ?_ (fun _ _ h => h) (fun _ _ h => h.elim)
  (try k_fold)
  have hmk : Mine.Mark := .mk
  k_steps
  refine Halt.mk ?_
  rename Mine.Mark => hmk; clear hmk
  refine Mine.hide1 ?_
  intro Q' hQ'
  k_steps
  refine Halt.mk ?_
  rename Fr _ _ _ _ => F1
  rename News _ _ _ _ => N1
  refine con_matches (ps := []) (txt := []) (vs := []) ⟨by k_asm, by k_asm, by k_asm⟩ F1 N1 rfl (by decide +kernel) (by decide +kernel) (.head _) .nil (Nat.le_of_ble_eq_true rfl) (Nat.le_of_ble_eq_true rfl) ?_
  intro h2 tk2 F2 N2
  clear F1 N1
  replace N2 := nsub (b := []) N2 (fun p hp => by cases hp)
  rw [show glob [] [] = true from rfl]
  k_steps
  refine Halt.mk ?_
  rename Fr _ _ _ _ => F1
  rename News _ _ _ _ => N1
  refine con_matches (ps := []) (txt := [97]) (vs := []) ⟨by k_asm, by k_asm, by k_asm⟩ F1 N1 rfl (by decide +kernel) (by decide +kernel) (.head _) .nil (Nat.le_of_ble_eq_true rfl) (Nat.le_of_ble_eq_true rfl) ?_
  intro h2 tk2 F2 N2
  clear F1 N1
  replace N2 := nsub (b := []) N2 (fun p hp => by cases hp)
  rw [show glob [] [97] = false from rfl]
  k_steps
  refine Halt.mk ?_
  rename Fr _ _ _ _ => F1
  rename News _ _ _ _ => N1
  refine con_matches (ps := [.any]) (txt := []) (vs := [_]) ⟨by k_asm, by k_asm, by k_asm⟩ F1 N1 rfl (by decide +kernel) (by decide +kernel) (.head _) (.cons (.mk (.tail _ (.head _)) (.tail _ (.tail _ (.head _))) (.any _)) .nil) (Nat.le_of_ble_eq_true rfl) (Nat.le_of_ble_eq_true rfl) ?_
  intro h2 tk2 F2 N2
  clear F1 N1
  replace N2 := nsub (b := []) N2 (fun p hp => by cases hp)
  rw [show glob [.any] [] = true from rfl]
  k_steps
  refine Halt.mk ?_
  rename Fr _ _ _ _ => F1
  rename News _ _ _ _ => N1
  refine con_matches (ps := [.one]) (txt := []) (vs := [_]) ⟨by k_asm, by k_asm, by k_asm⟩ F1 N1 rfl (by decide +kernel) (by decide +kernel) (.head _) (.cons (.mk (.tail _ (.head _)) (.tail _ (.tail _ (.head _))) (.one _)) .nil) (Nat.le_of_ble_eq_true rfl) (Nat.le_of_ble_eq_true rfl) ?_
  intro h2 tk2 F2 N2
  clear F1 N1
  replace N2 := nsub (b := []) N2 (fun p hp => by cases hp)
  rw [show glob [.one] [] = false from rfl]
  k_steps
  refine hQ' _ _ ?_
  (try dsimp only)
  k_steps
  refine Halt.mk ?_
  rename Fr _ _ _ _ => F1
  refine for_ruleF F1 ?_
  k_steps
  rename IsRange _ _ _ _ _ _ _ _ => rg
  rename Fr _ _ _ _ => F2
  rename News _ _ _ _ => N2
  obtain ⟨b, rg, b0, b2⟩ := rg_abs rg
  rename Heap.IsList _ _ _ => hsc
  rename IntsAre _ _ => hI
  rename ¬ (63 : Int) < _ => h63
  refine .inr (.inl ⟨_, _, _, _, _, _, _, _, _, J15 _,
    rfl, rfl, F2, nsub (b := []) N2 (fun p hp => by cases hp), rg, small_one (by omega) (by omega) (by omega) (by omega), rangeSize_nat _ _, by intro _ _; rfl, ⟨rfl, (has1 rfl)⟩, ?_, ?_⟩)
  · rintro i v m₁ nx I oI h tk hi ⟨tb, rfl⟩ hJ0 F4 N4 off
    refine hide2 ?_
    intro Q' hQ
    obtain ⟨rfl, hH⟩ := hJ0
    have F5 := hH.fr F4
    clear F4 F2 N2 hH rg F1
    dsimp only [kstB] at F5
    refine wpAny_assign_Name ?_
    k_steps
    refine Halt.mk ?_
    rename Fr _ _ _ _ => F6
    rename News _ _ _ _ => N6
    refine con_pool ⟨by k_asm, by k_asm, by k_asm⟩ F6 N6 rfl (by decide +kernel) (by decide +kernel) (by assumption) hI (by omega) (by omega) ?_
    intro sa o h7 tk7 ho F7 N7 hne
    have k1 : I ≠ sa := hne (I, oI) (.head _)
    clear F6 N6
    k_steps
    refine Halt.mk ?_
    rename Fr _ _ _ _ => F8
    rename News _ _ _ _ => N8
    refine con_any ⟨by k_asm, by k_asm, by k_asm⟩ F8 N8 (by k_updF) ho rfl (by decide +kernel) (by decide +kernel) ?_
    intro o9 h9 tk9 ho9 F9 N9
    (try dsimp only at N9)
    clear F8 N8
    k_steps
    refine Halt.mk ?_
    refine con_likeR ⟨by k_asm, by k_asm, by k_asm⟩ F9 N9 (by k_updF) ho9 rfl (by decide +kernel) (by decide +kernel) ?_
    intro o10 h10 tk10 ho10 F10 N10
    (try dsimp only at N10)
    clear F9 N9
    k_steps
    rename Fr _ _ _ _ => F11
    exact hQ _ _ ⟨_, _, _, [], rfl, F11, nsub N10 (fun p hp => .tail _ hp), off, rfl, (has1 rfl)⟩
  · rintro m₁ nx h tk ⟨rfl, hH⟩ F4 N4
    have F5 := hH.fr F4
    clear F4 F2 N2 hH rg F1
    dsimp only [kstB] at F5
    k_steps)
end
end TC15
