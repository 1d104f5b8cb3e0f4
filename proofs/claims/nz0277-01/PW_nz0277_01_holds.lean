import PyProof.Rows.All
import Wide.All
import OpenK.AllK
import Wide.FinOn
import PySem.Challenge.RW_nz0277_01
open PySem PySem.W PySem.Calls PyProof.Rows
set_option Elab.async false

namespace Mine
set_option maxRecDepth 100000 in
set_option maxHeartbeats 8000000 in
open_top hd for PySem.Challenge.rw_nz0277_01
end Mine

namespace Mine
set_option maxRecDepth 100000
/-- a mark at which a walk stands still -/
def Stop (P : Prop) : Prop := P
theorem Stop.of {P : Prop} (h : Stop P) : P := h
theorem Stop.to {P : Prop} (h : P) : Stop P := h
/-- an object that is a namespace -/
def NsObj (o : Obj) (m : Str → Option Value) : Prop := ∃ es ep, o.data = .dict es ep ∧ StrKeys es ∧ ∀ name, nsFind es name = m name
theorem NsObj.of {h : Heap} {a : Addr} {m : Str → Option Value} (H : h.Ns a m) : ∃ o, h.get? a = some o ∧ NsObj o m := let ⟨o, es, ep, e, r⟩ := H; ⟨o, e, es, ep, r⟩
theorem NsObj.ns {h : Heap} {a : Addr} {o : Obj} {m : Str → Option Value} (H : NsObj o m) (e : h.get? a = some o) : h.Ns a m := let ⟨es, ep, r⟩ := H; ⟨o, es, ep, e, r⟩

section
variable {prog : Program} {w : World} {A : Around} {E : Value → Shared → Prop} {s : Shared} {h₀ : Heap} {L : Addr} {m : Str → Option Value}
/-- what an element's evaluation leaves -/
def CompStep (h₀ : Heap) (L : Addr) (m : Str → Option Value) (own : List (Addr × Obj)) (adr : List Addr) (J : List Value → List (Addr × Obj) → Prop) (ys : List Value) (s₁ : Shared) (y : Value) (s' : Shared) : Prop :=
  ∃ h' tk' nx' news', s' = { s₁ with heap := h', toks := tk' } ∧ Fr h₀ L h' m ∧ News h₀ L h' news' ∧ (∀ p ∈ nx', p ∈ news') ∧ (∀ p ∈ own, p ∈ news') ∧ nx'.map (·.1) = adr ∧ J (ys ++ [y]) nx'
theorem CompStep.mk' {own nx' news' : List (Addr × Obj)} {adr : List Addr} {J : List Value → List (Addr × Obj) → Prop} {ys : List Value} {s₁ : Shared} {y : Value} {h' : Heap} {tk' : Nat} (F : Fr h₀ L h' m) (N : News h₀ L h' news') (h1 : ∀ p ∈ nx', p ∈ news') (h2 : ∀ p ∈ own, p ∈ news') (ha : nx'.map (·.1) = adr) (hj : J (ys ++ [y]) nx') :
    CompStep h₀ L m own adr J ys s₁ y { s₁ with heap := h', toks := tk' } := ⟨h', tk', nx', news', rfl, F, N, h1, h2, ha, hj⟩

structure CD (h₀ : Heap) (L C D I : Addr) (adr : List Addr) : Prop where
  iL : I ≠ L
  cL : C ≠ L
  dL : D ≠ L
  iC : I ≠ C
  iD : I ≠ D
  dC : D ≠ C
  i0 : h₀.get? I = none
  c0 : h₀.get? C = none
  d0 : h₀.get? D = none
  iA : I ∉ adr
  cA : C ∉ adr
  dA : D ∉ adr
structure CS (h₀ : Heap) (L C D : Addr) (m : Str → Option Value) (h : Heap) (ys : List Value) (nx : List (Addr × Obj)) : Prop where
  F : Fr h₀ L h m
  N : News h₀ L h nx
  acc : h.PlainList D ys.toArray
  ns : ∃ mC, h.Ns C mC

theorem CS.but {C D X : Addr} {h h' : Heap} {ys : List Value} {nx : List (Addr × Obj)} (S : CS h₀ L C D m h ys nx) (hL : X ≠ L) (h0 : h₀.get? X = none) (hC : C ≠ X) (hD : D ≠ X) (hA : X ∉ nx.map (·.1))
    (hk : ∀ b o, b ≠ X → h.get? b = some o → h'.get? b = some o) : CS h₀ L C D m h' ys nx where
  F := ⟨S.F.ns.at' fun o e => hk L o hL.symm e, fun b o e => hk b o (fun x => by rw [x, h0] at e; cases e) (S.F.keep b o e), S.F.above⟩
  N := fun p hp => ⟨hk _ _ (fun x => hA (List.mem_map.mpr ⟨p, hp, x⟩)) (S.N p hp).1, (S.N p hp).2⟩
  acc := S.acc.at fun o e => hk D o hD e
  ns := let ⟨mC, x⟩ := S.ns; ⟨mC, x.at' fun o e => hk C o hC e⟩
theorem but_same {X : Addr} {h h' : Heap} (hs : Heap.SameBut X h h') : ∀ b o, b ≠ X → h.get? b = some o → h'.get? b = some o := fun b _ hb e => (hs.2 b hb).trans e
end

section
variable {prog : Program} {w : World} {A : Around} {s : Shared} {h₀ : Heap} {L : Addr} {m : Str → Option Value}

/-- the innermost loop of a comprehension -/
theorem engine1 {elt : Expr} {gens : List Comprehension} {scope : Scope} {pos px p0 : Pos} {depth : Nat} {x : Str} {cenv : Env} {C D I : Addr} {adr : List Addr} {n : Nat} {P : Nat → Value → Prop} {St : Nat → Heap → Prop} {R : Result → Shared → Prop}
    {fx : List (Addr × Obj)} (J : Nat → List Value → List (Addr × Obj) → Prop) {ys₀ : List Value} {nx₀ : List (Addr × Obj)}
    (hturn : compTurn (.ListComp elt gens scope pos) depth (.ref I) (.ref D) cenv = (standAt p0 >>= fun _ => pyNext (.ref I) >>= fun r => match r with
      | none => pure (.done .next)
      | some v => letOwnedTupleGo (.Name x px) (.ref I) v >>= fun _ => assign (.Name x px) cenv v >>= fun _ =>
        (eval elt cenv >>= fun x => call (.builtin "list.append") [.ref D, x] >>= fun _ => pure ()) >>= fun _ =>
          again (.compLoop (.ListComp elt gens scope pos) depth (.ref I) (.ref D) cenv)))
    (hx : cenv.kindOf x = some .local) (hp : (cenv.scope.kind == .class || (cenv.scope.kind == .module && cenv.locals != cenv.globals)) = false) (hC : cenv.locals = C)
    (W : Walks prog w A I (I :: fx.map (·.1)) [I] n P St) (hsz : n ≤ 1000000) (hy₀ : ys₀.length ≤ 1000000) (d : CD h₀ L C D I adr)
    (hfx : ∀ i ys nx, J i ys nx → ∀ p ∈ fx, p ∈ nx) (hst : St 0 s.heap) (S : CS h₀ L C D m s.heap ys₀ nx₀) (hadr : nx₀.map (·.1) = adr) (hj : J 0 ys₀ nx₀)
    (turn : ∀ i v ys nx own oC mC h tk, i < n → P i v → J i ys nx → nx.map (·.1) = adr → OwnOff own adr → (C, oC) ∈ own → NsObj oC mC → mC x = some v → Fr h₀ L h m → News h₀ L h (nx ++ own) →
      wpAny (model prog w) A (eval elt cenv) (CompStep h₀ L m own adr (J (i + 1)) ys { s with heap := h, toks := tk }) (fun _ _ => False) { s with heap := h, toks := tk })
    (done : ∀ ys nx h tk, J n ys nx → nx.map (·.1) = adr → CS h₀ L C D m h ys nx → R (.ok .next) { s with heap := h, toks := tk }) :
    codeAny (model prog w) A (.compLoop (.ListComp elt gens scope pos) depth (.ref I) (.ref D) cenv) R s := by
  subst hC
  refine codeAny_loop rfl (fun k s' => ∃ i h tk ys nx, s' = { s with heap := h, toks := tk } ∧ i ≤ n ∧ k = n + 1 - i ∧ St i h ∧ CS h₀ L cenv.locals D m h ys nx ∧ nx.map (·.1) = adr ∧ J i ys nx ∧ ys.length = ys₀.length + i) ?_ (n + 1)
    ⟨0, s.heap, s.toks, ys₀, nx₀, rfl, Nat.zero_le _, rfl, hst, S, hadr, hj, rfl⟩
  rintro k s' ⟨i, h, tk, ys, nx, rfl, hi, rfl, hst', S', ha', hj', hyl⟩
  show wpAny _ _ ((compTurn (.ListComp elt gens scope pos) depth (.ref I) (.ref D) cenv).onRaise (fun x => do noteFrame x cenv; theTreesLotGoes x)) _ _ _
  refine wpAny_noted ?_
  rw [hturn]
  have keepI : ∀ {h h' : Heap}, (∀ b o, b ∉ [I] → h.get? b = some o → h'.get? b = some o) → ∀ b o, b ≠ I → h.get? b = some o → h'.get? b = some o := fun hk b o hb e => hk b o (fun hm => hb (List.mem_singleton.mp hm)) e
  refine wpAny_bind (wpAny_standAt (wpAny_bind ?_))
  by_cases hlt : i < n
  · refine W.item i _ _ _ hlt hst' fun v h₁ tk₁ hPv hst₁ hk₁ => ?_
    have S₁ := S'.but d.iL d.i0 d.iC.symm d.iD.symm (by rw [ha']; exact d.iA) (keepI hk₁)
    obtain ⟨mC, hn₁⟩ := S₁.ns
    refine wpAny_bind (wpAny_of_eq rfl (wpAny_bind (wpAny_assign_Name (wpAny_storeName_local hx hn₁ (fun h₂ hn₂ hs₂ => ?_) hp))))
    have F₂ : Fr h₀ L h₂ m := S₁.F.change hs₂ d.cL d.c0
    have N₂ : News h₀ L h₂ nx := fun p hp => ⟨but_same hs₂ _ _ (fun e => d.cA (by rw [← ha']; exact List.mem_map.mpr ⟨p, hp, e⟩)) (S₁.N p hp).1, (S₁.N p hp).2⟩
    have acc₂ := S₁.acc.at fun o e => but_same hs₂ D o d.dC e
    have hst₂ : St (i + 1) h₂ := W.frame _ _ _ hst₁ fun b hb o e => but_same hs₂ b o (fun x => by
      rcases List.mem_cons.mp hb with h1 | h1
      · exact d.iC (h1.symm.trans x)
      · obtain ⟨p, hp, rfl⟩ := List.mem_map.mp h1
        exact d.cA (by rw [← ha', ← x]; exact List.mem_map.mpr ⟨p, hfx _ _ _ hj' p hp, rfl⟩)) e
    obtain ⟨oC, hoC, hNs⟩ := NsObj.of hn₂
    obtain ⟨kD, hoD⟩ := id acc₂
    let ownI : List (Addr × Obj) := match h₂.get? I with | some o => [(I, o)] | none => []
    have hoI : ∀ p ∈ ownI, p.1 = I ∧ h₂.get? I = some p.2 := by
      intro p hp
      show p.1 = I ∧ _
      revert hp
      show p ∈ (match h₂.get? I with | some o => [(I, o)] | none => []) → _
      cases h₂.get? I with
      | none => intro hp; cases hp
      | some o => intro hp; cases List.mem_singleton.mp hp; exact ⟨rfl, rfl⟩
    have hoI' : ∀ o, h₂.get? I = some o → (I, o) ∈ ownI := by
      intro o e
      show (I, o) ∈ (match h₂.get? I with | some o => [(I, o)] | none => [])
      rw [e]; exact List.mem_singleton.mpr rfl
    let own : List (Addr × Obj) := (cenv.locals, oC) :: (D, { cls := .type "list", data := .seq ys.toArray kD }) :: ownI
    have hoff : OwnOff own adr := by
      intro p hp b hb e
      rcases List.mem_cons.mp hp with rfl | hp
      · exact d.cA (by rw [show cenv.locals = b from e]; exact hb)
      · rcases List.mem_cons.mp hp with rfl | hp
        · exact d.dA (by rw [show D = b from e]; exact hb)
        · exact d.iA (by rw [← (hoI p hp).1, e]; exact hb)
    have Nown : News h₀ L h₂ (nx ++ own) := by
      intro p hp
      rcases List.mem_append.mp hp with hp | hp
      · exact N₂ p hp
      · rcases List.mem_cons.mp hp with rfl | hp
        · exact ⟨hoC, d.cL, d.c0⟩
        · rcases List.mem_cons.mp hp with rfl | hp
          · exact ⟨hoD, d.dL, d.d0⟩
          · obtain ⟨e1, e2⟩ := hoI p hp
            exact ⟨by rw [e1]; exact e2, by rw [e1]; exact d.iL, by rw [e1]; exact d.i0⟩
    refine wpAny_bind (wpAny_bind (wpAny_mono (turn i v ys nx own oC _ h₂ _ hlt hPv hj' ha' hoff (List.mem_cons_self ..) hNs (by simp) F₂ Nown) (fun y s₃ hy => ?_) fun _ _ x => x.elim))
    obtain ⟨h₃, tk₃, nx', news', rfl, F₃, N₃, hin, hown, ha₃, hj₃⟩ := hy
    have hget : ∀ p ∈ own, h₃.get? p.1 = some p.2 := fun p hp => (N₃ p (hown p hp)).1
    have acc₃ : h₃.PlainList D ys.toArray := ⟨kD, hget _ (List.mem_cons_of_mem _ (List.mem_cons_self ..))⟩
    have hys : ys.toArray.size ≤ sizeLine := by rw [List.size_toArray, hyl, sizeLine_eq]; omega
    refine wpAny_bind (wpAny_list_append_plain (hsz := hys) acc₃ fun h₄ hl₄ hs₄ => wpAny_pure (wpAny_pure ⟨rfl, n + 1 - (i + 1), by omega, i + 1, h₄, tk₃, ys ++ [y], nx', rfl, hlt, rfl, ?_, ⟨F₃.change hs₄ d.dL d.d0, ?_, ?_, ?_⟩, ha₃, hj₃, by simp [hyl]; omega⟩))
    · refine W.frame _ _ _ hst₂ fun b hb o e => ?_
      rcases List.mem_cons.mp hb with rfl | h1
      · exact but_same hs₄ _ _ d.iD (hget _ (List.mem_cons_of_mem _ (List.mem_cons_of_mem _ (hoI' o e))))
      · obtain ⟨p, hp, rfl⟩ := List.mem_map.mp h1
        have h2 := hfx _ _ _ hj' p hp
        have h3 := hfx _ _ _ hj₃ p hp
        have h4 : o = p.2 := Option.some.inj (e.symm.trans (N₂ p h2).1)
        rw [h4]
        exact but_same hs₄ _ _ (fun x => d.dA (by rw [← ha', ← x]; exact List.mem_map.mpr ⟨p, h2, rfl⟩)) (N₃ p (hin p h3)).1
    · exact fun p hp => ⟨but_same hs₄ _ _ (fun x => d.dA (by rw [← ha₃, ← x]; exact List.mem_map.mpr ⟨p, hp, rfl⟩)) (N₃ p (hin p hp)).1, (N₃ p (hin p hp)).2⟩
    · simpa using hl₄
    · exact ⟨_, (hNs.ns (hget _ (List.mem_cons_self ..))).sameBut hs₄ d.dC.symm⟩
  · have hin : i = n := by omega
    subst hin
    refine W.done _ _ _ hst' fun h₁ tk₁ hk₁ => wpAny_pure ?_
    exact done ys nx h₁ tk₁ hj' ha' (S'.but d.iL d.i0 d.iC.symm d.iD.symm (by rw [ha']; exact d.iA) (keepI hk₁))

/-- what a comprehension wants of its iterator -/
def CompAt (prog : Program) (w : World) (A : Around) (env : Env) (scope : Scope) (cl : List (Str × Addr)) (x : Str) (elt : Expr) (Q : Value → Shared → Prop) (it : Value) (s₂ : Shared) : Prop :=
  ∃ (h₀ : Heap) (L : Addr) (m : Str → Option Value) (I : Addr) (fx : List (Addr × Obj)) (n : Nat) (P : Nat → Value → Prop) (St : Nat → Heap → Prop) (nx₀ : List (Addr × Obj)) (J : Nat → List Value → List (Addr × Obj) → Prop),
    it = .ref I ∧ Walks prog w A I (I :: fx.map (·.1)) [I] n P St ∧ n ≤ 1000000 ∧ St 0 s₂.heap ∧ I < s₂.heap.objs.size ∧ h₀.get? I = none ∧ I ≠ L ∧ I ∉ nx₀.map (·.1) ∧
    (∀ i ys nx, J i ys nx → ∀ p ∈ fx, p ∈ nx) ∧ Fr h₀ L s₂.heap m ∧ News h₀ L s₂.heap nx₀ ∧ J 0 [] nx₀ ∧
    (∀ i v ys nx own C oC mC h tk, i < n → P i v → J i ys nx → nx.map (·.1) = nx₀.map (·.1) → (∀ p ∈ nx, p.1 < C) → OwnOff own (nx₀.map (·.1)) → (C, oC) ∈ own → NsObj oC mC → mC x = some v → Fr h₀ L h m → News h₀ L h (nx ++ own) →
      wpAny (model prog w) A (eval elt (compEnvC scope cl C env)) (CompStep h₀ L m own (nx₀.map (·.1)) (J (i + 1)) ys { s₂ with heap := h, toks := tk }) (fun _ _ => False) { s₂ with heap := h, toks := tk }) ∧
    (∀ (D k : Nat) ys nx h tk, J n ys nx → (∀ p ∈ nx, p.1 < D) → Fr h₀ L h m → News h₀ L h ((D, PySem.W.listOf ys.toArray k) :: nx) → Q (.ref D) { s₂ with heap := h, toks := tk })

theorem comp1 {env : Env} {E : Value → Shared → Prop} {elt iter : Expr} {x : Str} {px : Pos} {scope : Scope} {cl : List (Str × Addr)} {pos : Pos} {Q : Value → Shared → Prop}
    (hclos : closureFor scope env = pure cl) (hcell : ∀ y ∈ scope.names, y.2 ≠ .cell) (hkind : scope.kind = .function)
    (hnames : ∀ y ∈ scope.names, y.2 = .local → scope.names.lookup y.1 = some .local) (hx : scope.names.lookup x = some .local)
    (h : wpAny (model prog w) A (eval iter env) (fun xv s₁ => wpAny (model prog w) A (pyIter xv) (fun it s₂ => CompAt prog w A env scope cl x elt Q it s₂) E s₁) E s)
    (hs : ∀ x, foldedSetIterable iter env x = pure x := by intro _; rfl) :
    wpAny (model prog w) A (eval (.ListComp elt [⟨.Name x px, iter, [], 0⟩] scope pos) env) Q E s := by
  rw [eval_ListComp]
  refine wpAny_comprehension_free (use := none) rfl hs hclos hkind hnames (wpAny_mono h (fun xv s₁ h₁ => wpAny_mono h₁ (fun it s₂ h₂ => ?_) fun _ _ e => e) fun _ _ e => e)
  obtain ⟨h₀, L, m, I, fx, n, P, St, nx₀, J, rfl, W, hsz, hst, hIlt, hI0, hIL, hIA, hfx, F, N, hj, turn, done⟩ := h₂
  refine wpAny_newObj_type (wpAny_newFunctionEnv hcell (by intro y hy; simp at hy) (fun h₁ hns₁ hsb₁ => ?_) hkind)
  dsimp only at hns₁ hsb₁ ⊢
  generalize hH2 : s₂.heap.push { cls := .type "list", dict := none, data := .seq ([] : List Value).toArray } = H2 at hns₁ hsb₁ ⊢
  have hC : H2.objs.size = s₂.heap.objs.size + 1 := by rw [← hH2, Heap.size_push]
  have below : ∀ b, b < s₂.heap.objs.size → b ≠ H2.objs.size ∧ b ≠ s₂.heap.objs.size := fun b hb => ⟨by rw [hC]; exact Nat.ne_of_lt (Nat.lt_succ_of_lt hb), Nat.ne_of_lt hb⟩
  have old : ∀ b o, s₂.heap.get? b = some o → h₁.get? b = some o := fun b o e => hsb₁.extBut b o (below b (Heap.lt_size e)).1 (Heap.get?_push_of_some _ (hH2 ▸ Heap.get?_push_of_some _ e))
  have hDC : s₂.heap.objs.size ≠ H2.objs.size := by rw [hC]; exact Nat.ne_of_lt (Nat.lt_succ_self _)
  have hacc : h₁.PlainList s₂.heap.objs.size #[] := ⟨_, hsb₁.extBut _ _ hDC (Heap.get?_push_of_some _ (hH2 ▸ Heap.get?_push_size _ rfl))⟩
  have fresh : ∀ a, s₂.heap.objs.size ≤ a → h₀.get? a = none := fun a ha => by
    cases e : h₀.get? a with
    | none => rfl
    | some o' => exact absurd (Heap.lt_size (F.keep _ _ e)) (Nat.not_lt.mpr ha)
  have hLlt : L < s₂.heap.objs.size := F.ns.lt
  have hAlt : ∀ a ∈ nx₀.map (·.1), a < s₂.heap.objs.size := fun a ha => by
    obtain ⟨p, hp, rfl⟩ := List.mem_map.mp ha
    exact Heap.lt_size (N p hp).1
  have d : CD h₀ L H2.objs.size s₂.heap.objs.size I (nx₀.map (·.1)) :=
    { iL := hIL, cL := (below L hLlt).1.symm, dL := (below L hLlt).2.symm, iC := (below I hIlt).1, iD := (below I hIlt).2, dC := hDC, i0 := hI0,
      c0 := fresh _ (by rw [hC]; exact Nat.le_succ _), d0 := fresh _ (Nat.le_refl _), iA := hIA, cA := fun hm => (below _ (hAlt _ hm)).1 rfl, dA := fun hm => (below _ (hAlt _ hm)).2 rfl }
  have hst₁ : St 0 h₁ := W.frame _ _ _ hst fun b _ o e => old b o e
  have S : CS h₀ L H2.objs.size s₂.heap.objs.size m h₁ [] nx₀ := ⟨F.keeps old, N.grown old, hacc, ⟨_, hns₁⟩⟩
  have loop : ∀ s₃ : Shared, s₃ = { s₂ with heap := h₁, toks := s₂.toks + ([] : List (Str × Value)).length } →
      codeAny (model prog w) A (.compLoop (.ListComp elt [⟨.Name x px, iter, [], 0⟩] scope pos) 0 (.ref I) (.ref s₂.heap.objs.size) (compEnvC scope cl H2.objs.size env))
        (compPost (model prog w) A E none Q (.ref s₂.heap.objs.size) H2.objs.size) s₃ := by
    rintro s₃ rfl
    refine engine1 (cenv := compEnvC scope cl H2.objs.size env) (C := H2.objs.size) J (compTurn_list1 _ _ _ _ _ _ _ _) (lookup_relabel_local hx) (by simp [compEnvC, relabel, hkind]) rfl W hsz (Nat.zero_le _) d hfx hst₁ S rfl hj ?_ ?_
    · intro i v ys nx own oC mC h tk hi hP hJ ha hoff hown hNs hm F₁ N₁
      refine turn i v ys nx own _ oC mC h tk hi hP hJ ha (fun p hp => ?_) hoff hown hNs hm F₁ N₁
      have h9 := hAlt p.1 (by rw [← ha]; exact List.mem_map.mpr ⟨p, hp, rfl⟩)
      rw [hC]; exact Nat.lt_succ_of_lt h9
    · intro ys nx h tk hJ ha S₁
      obtain ⟨mC, hn⟩ := S₁.ns
      refine ⟨mC, hn, fun h' hs' => ?_⟩
      obtain ⟨kD, hoD⟩ := S₁.acc
      have S₂ : Fr h₀ L h' m := S₁.F.change hs' d.cL d.c0
      refine done _ kD ys nx h' tk hJ (fun p hp => hAlt p.1 (by rw [← ha]; exact List.mem_map.mpr ⟨p, hp, rfl⟩)) S₂ fun p hp => ?_
      rcases List.mem_cons.mp hp with rfl | hp
      · exact ⟨but_same hs' _ _ d.dC hoD, d.dL, d.d0⟩
      · exact ⟨but_same hs' _ _ (fun e => d.cA (by rw [← ha]; exact List.mem_map.mpr ⟨p, hp, e⟩)) (S₁.N p hp).1, (S₁.N p hp).2⟩
  exact codeAny_compStart_list (loop _ rfl) (W.self 0 _ _ _ hst₁ (loop _ rfl))

/-- a quiet element's end: the ledger as it was -/
def QuietStep (h₀ : Heap) (L : Addr) (m : Str → Option Value) (led : List (Addr × Obj)) (R : List Value → Prop) (ys : List Value) (s₁ : Shared) (y : Value) (s' : Shared) : Prop :=
  ∃ h' tk' news', s' = { s₁ with heap := h', toks := tk' } ∧ Fr h₀ L h' m ∧ News h₀ L h' news' ∧ (∀ p ∈ led, p ∈ news') ∧ R (ys ++ [y])
theorem QuietStep.mk' {led news' : List (Addr × Obj)} {R : List Value → Prop} {ys : List Value} {s₁ : Shared} {y : Value} {h' : Heap} {tk' : Nat} (F : Fr h₀ L h' m) (N : News h₀ L h' news') (h1 : ∀ p ∈ led, p ∈ news') (hj : R (ys ++ [y])) :
    QuietStep h₀ L m led R ys s₁ y { s₁ with heap := h', toks := tk' } := ⟨h', tk', news', rfl, F, N, h1, hj⟩
abbrev QuietTurn (prog : Program) (w : World) (A : Around) (env : Env) (scope : Scope) (cl : List (Str × Addr)) (x : Str) (elt : Expr) (h₀ : Heap) (L : Addr) (m : Str → Option Value) (nx : List (Addr × Obj)) (s₂ : Shared) (R R' : List Value → Prop) (v : Value) : Prop :=
  ∀ (ys : List Value) (own : List (Addr × Obj)) (C : Nat) (oC : Obj) (mC : Str → Option Value) (h : Heap) (tk : Nat), R ys → OwnOff own (nx.map (·.1)) → (∀ p ∈ nx, p.1 < C) → NsObj oC mC → mC x = some v → Fr h₀ L h m → News h₀ L h ((C, oC) :: (nx ++ own)) →
      wpAny (model prog w) A (eval elt (compEnvC scope cl C env)) (QuietStep h₀ L m ((C, oC) :: (nx ++ own)) R' ys { s₂ with heap := h, toks := tk }) (fun _ _ => False) { s₂ with heap := h, toks := tk }
abbrev QuietDone (h₀ : Heap) (L : Addr) (m : Str → Option Value) (nx : List (Addr × Obj)) (s₂ : Shared) (R : List Value → Prop) (Q : Value → Shared → Prop) : Prop :=
  ∀ (D k : Nat) (ys : List Value) (h : Heap) (tk : Nat), R ys → (∀ p ∈ nx, p.1 < D) → Fr h₀ L h m → News h₀ L h ((D, PySem.W.listOf ys.toArray k) :: nx) → Q (.ref D) { s₂ with heap := h, toks := tk }

theorem quiet_at {env : Env} {scope : Scope} {cl : List (Str × Addr)} {x : Str} {elt : Expr} {Q : Value → Shared → Prop} {I : Addr} {fx nx : List (Addr × Obj)} {n : Nat} {P : Nat → Value → Prop} {St : Nat → Heap → Prop} {s₂ : Shared} (R : Nat → List Value → Prop)
    (W : Walks prog w A I (I :: fx.map (·.1)) [I] n P St) (hn : n ≤ 1000000) (hst : St 0 s₂.heap) (hI : s₂.heap.objs.size = I + 1) (hI0 : h₀.get? I = none) (hIL : I ≠ L) (hIA : I ∉ nx.map (·.1)) (hfx : ∀ p ∈ fx, p ∈ nx) (F : Fr h₀ L s₂.heap m) (N : News h₀ L s₂.heap nx) (hR : R 0 [])
    (turn : ∀ i v, i < n → P i v → QuietTurn prog w A env scope cl x elt h₀ L m nx s₂ (R i) (R (i + 1)) v)
    (done : QuietDone h₀ L m nx s₂ (R n) Q) : CompAt prog w A env scope cl x elt Q (.ref I) s₂ := by
  refine ⟨h₀, L, m, I, fx, n, P, St, nx, fun i ys nx' => nx' = nx ∧ R i ys, rfl, W, hn, hst, (by rw [hI]; exact Nat.lt_succ_self _), hI0, hIL, hIA, ?_, F, N, ⟨rfl, hR⟩, ?_, ?_⟩
  · rintro i ys nx' ⟨rfl, _⟩
    exact hfx
  · rintro i v ys nx' own C oC mC h tk hi hP ⟨rfl, hR'⟩ _ hC hoff hown hNs hm F₁ N₁
    have N₂ : News h₀ L h ((C, oC) :: (nx' ++ own)) := fun p hp => by
      rcases List.mem_cons.mp hp with rfl | hp
      · exact N₁ _ (List.mem_append.mpr (.inr hown))
      · exact N₁ _ hp
    refine wpAny_mono (turn i v hi hP ys own C oC mC h tk hR' hoff hC hNs hm F₁ N₂) (fun y s' hy => ?_) fun _ _ x => x
    obtain ⟨h', tk', news', rfl, F', N', hs, hr⟩ := hy
    exact ⟨h', tk', nx', news', rfl, F', N', fun p hp => hs p (List.mem_cons_of_mem _ (List.mem_append.mpr (.inl hp))), fun p hp => hs p (List.mem_cons_of_mem _ (List.mem_append.mpr (.inr hp))), rfl, rfl, hr⟩
  · rintro D k ys nx' h tk ⟨rfl, hR'⟩ hlt F₁ N₁
    exact done D k ys h tk hR' hlt F₁ N₁

theorem quiet_str {env : Env} {E : Value → Shared → Prop} {scope : Scope} {cl : List (Str × Addr)} {x : Str} {elt : Expr} {Q : Value → Shared → Prop} {nx : List (Addr × Obj)} {xt : Str} {tx : Tok} (R : Nat → List Value → Prop)
    (hh : A.handled = none) (hn : xt.length ≤ 1000000) (F : Fr h₀ L s.heap m) (N : News h₀ L s.heap nx) (hR : R 0 [])
    (turn : ∀ i c t h₁, xt.cps[i]? = some c → QuietTurn prog w A env scope cl x elt h₀ L m nx { s with heap := h₁ } (R i) (R (i + 1)) (.str ⟨#[c]⟩ t))
    (done : ∀ h₁, QuietDone h₀ L m nx { s with heap := h₁ } (R xt.length) Q) : wpAny (model prog w) A (pyIter (.str xt tx)) (fun it s₂ => CompAt prog w A env scope cl x elt Q it s₂) E s := by
  refine wpAny_pyIter_str fun o St hW hst => ?_
  refine quiet_at (fx := []) R (hW A hh) hn hst (Heap.size_push ..) (next_is_new F) (Nat.ne_of_gt F.ns.lt) ?_ (fun _ hp => nomatch hp) (F.push _) (fun p hp => ⟨Heap.get?_push_of_some _ (N p hp).1, (N p hp).2⟩) hR ?_ (done _)
  · intro hm
    obtain ⟨p, hp, e⟩ := List.mem_map.mp hm
    exact absurd (Heap.lt_size (N p hp).1) (by rw [e]; exact Nat.lt_irrefl _)
  · rintro i v hi ⟨c, u, hc, rfl⟩
    exact turn i c u _ hc

theorem quiet_range {env : Env} {E : Value → Shared → Prop} {scope : Scope} {cl : List (Str × Addr)} {x : Str} {elt : Expr} {Q : Value → Shared → Prop} {nx : List (Addr × Obj)} {r : Addr} {a₀ b₀ : Int} {t₀ u₀ v₀ : Tok} {n : Nat} (R : Nat → List Value → Prop)
    (hh : A.handled = none) (hr : IsRange s.heap r a₀ b₀ 1 t₀ u₀ v₀) (hsmall : Builtin.Range.small a₀ b₀ 1 = true) (hn : Builtin.Range.rangeSize a₀ b₀ 1 = (n : Int)) (hsz : n ≤ 1000000) (F : Fr h₀ L s.heap m) (N : News h₀ L s.heap nx) (hR : R 0 [])
    (turn : ∀ (i : Nat) t h₁, i < n → QuietTurn prog w A env scope cl x elt h₀ L m nx { s with heap := h₁ } (R i) (R (i + 1)) (.int (a₀ + (i : Int)) t))
    (done : ∀ h₁, QuietDone h₀ L m nx { s with heap := h₁ } (R n) Q) : wpAny (model prog w) A (pyIter (.ref r)) (fun it s₂ => CompAt prog w A env scope cl x elt Q it s₂) E s := by
  refine wpAny_pyIter_range hr hsmall ?_
  refine quiet_at (fx := []) R (Walks.range hh _ a₀ 1 n) hsz (by show IsRangeIter _ _ _ _ _; rw [hn]; simpa using Heap.get?_push_size _ rfl) (Heap.size_push ..) (next_is_new F) (Nat.ne_of_gt F.ns.lt) ?_ (fun _ hp => nomatch hp) (F.push _) (fun p hp => ⟨Heap.get?_push_of_some _ (N p hp).1, (N p hp).2⟩) hR ?_ (done _)
  · intro hm
    obtain ⟨p, hp, e⟩ := List.mem_map.mp hm
    exact absurd (Heap.lt_size (N p hp).1) (by rw [e]; exact Nat.lt_irrefl _)
  · rintro i v hi ⟨t, rfl⟩
    have e1 : a₀ + (i : Int) * 1 = a₀ + (i : Int) := by omega
    rw [e1]
    exact turn i t _ hi

theorem quiet_list {env : Env} {E : Value → Shared → Prop} {scope : Scope} {cl : List (Str × Addr)} {x : Str} {elt : Expr} {Q : Value → Shared → Prop} {nx : List (Addr × Obj)} {l : Addr} {vs : List Value} {nn : Nat} (R : Nat → List Value → Prop)
    (hh : A.handled = none) (hl : (l, PySem.W.listOf vs.toArray nn) ∈ nx) (hsz : vs.length ≤ 1000000) (F : Fr h₀ L s.heap m) (N : News h₀ L s.heap nx) (hR : R 0 [])
    (turn : ∀ i v h₁, vs[i]? = some v → QuietTurn prog w A env scope cl x elt h₀ L m nx { s with heap := h₁ } (R i) (R (i + 1)) v)
    (done : ∀ h₁, QuietDone h₀ L m nx { s with heap := h₁ } (R vs.length) Q) : wpAny (model prog w) A (pyIter (.ref l)) (fun it s₂ => CompAt prog w A env scope cl x elt Q it s₂) E s := by
  have hol : s.heap.get? l = some (PySem.W.listOf vs.toArray nn) := (N _ hl).1
  have hls : s.heap.IsList l vs.toArray := ⟨_, hol, rfl, nn, rfl⟩
  have hne : l ≠ s.heap.objs.size := Nat.ne_of_lt (Heap.lt_size hol)
  refine wpAny_pyIter_list hls ?_
  have W := Walks.list (prog := prog) (w := w) hh s.heap.objs.size l hne vs.toArray
  have hlen : vs.toArray.size = vs.length := by simp
  rw [hlen] at W
  refine quiet_at (fx := [(l, PySem.W.listOf vs.toArray nn)]) R W hsz ⟨⟨_, Heap.get?_push_size _ rfl, rfl, rfl⟩, hls.at fun o e => Heap.get?_push_of_some _ e⟩ (Heap.size_push ..) (next_is_new F) (Nat.ne_of_gt F.ns.lt) ?_ (fun p hp => by rw [List.mem_singleton.mp hp]; exact hl) (F.push _) (fun p hp => ⟨Heap.get?_push_of_some _ (N p hp).1, (N p hp).2⟩) hR ?_ (done _)
  · intro hm
    obtain ⟨p, hp, e⟩ := List.mem_map.mp hm
    exact absurd (Heap.lt_size (N p hp).1) (by rw [e]; exact Nat.lt_irrefl _)
  · intro i v hi hP
    exact turn i v _ (by simpa using hP)

theorem For_stop {env : Env} {E : Value → Shared → Prop} {Q : Flow → Shared → Prop} {x : Str} {px pos : Pos} {iter : Expr} {body : List Stmt} (F : Fr h₀ env.locals s.heap m) (hx : env.kindOf x = some .local)
    (hp : (env.scope.kind == .class || (env.scope.kind == .module && env.locals != env.globals)) = false)
    (h : wpAny (model prog w) A (eval iter env) (fun xv s₁ => Stop (wpAny (model prog w) A (pyIter xv) (fun it s₂ => LoopAtV prog w A h₀ env x body Q E it s₂) E s₁)) E s)
    (hs : ∀ x, foldedSetIterable iter env x = pure x := by intro _; rfl)
    (hE : PassesOwn (model prog w) A env E := by passes_own) : wpAny (model prog w) A (exec (.For (.Name x px) iter body [] pos) env) Q E s := For_invVF F hx hp h hs hE
theorem comp_stop {env : Env} {E : Value → Shared → Prop} {elt iter : Expr} {x : Str} {px : Pos} {scope : Scope} {cl : List (Str × Addr)} {pos : Pos} {Q : Value → Shared → Prop}
    (hclos : closureFor scope env = pure cl) (hcell : ∀ y ∈ scope.names, y.2 ≠ .cell) (hkind : scope.kind = .function)
    (hnames : ∀ y ∈ scope.names, y.2 = .local → scope.names.lookup y.1 = some .local) (hx : scope.names.lookup x = some .local)
    (h : wpAny (model prog w) A (eval iter env) (fun xv s₁ => Stop (wpAny (model prog w) A (pyIter xv) (fun it s₂ => CompAt prog w A env scope cl x elt Q it s₂) E s₁)) E s)
    (hs : ∀ x, foldedSetIterable iter env x = pure x := by intro _; rfl) :
    wpAny (model prog w) A (eval (.ListComp elt [⟨.Name x px, iter, [], 0⟩] scope pos) env) Q E s := comp1 hclos hcell hkind hnames hx h hs
end
end Mine

namespace Mine
abbrev MAddr := Addr
abbrev MTok := Tok
abbrev MVal := Value
abbrev MStr := Str
abbrev MObj := Obj
abbrev MLed := List (Addr × Obj)
/-- a call's contract -/
abbrev Spec (w : World) (lv : Nat) (f : Addr) (vs : List Value) (news : List (Addr × Obj)) (Post : Value → List (Addr × Obj) → Prop) : Prop :=
  ∀ (p : Program) (loose : List Str) (mean : ExcName → Option Value) (mg mb : Str → Option Value)
    (dp un : Nat) (gd : Option (List Code)) (cn : Str) (cs : Scope) (a : Addr) (ccd : Value) (cl : List (Str × Addr)) (outer : List Env) (A₀ : Around) (base h₀ : Heap) (L : Addr) (m : Str → Option Value) (s : Shared) (Q E : Value → Shared → Prop),
    Below A₀ base outer h₀ → Fr h₀ L s.heap m → (hd.heap_39 w.params).In h₀ → News h₀ L s.heap news → Top p loose mean mg mb h₀ → cs.kind = .function →
    dp + lv < recursionLimit → un + 80 * lv < cLine →
    (∀ (v : Value) (news' : List (Addr × Obj)) (h' : Heap) (tk' : Nat), Fr h₀ L h' m → News h₀ L h' news' → Post v news' → Q v { s with heap := h', toks := tk' }) →
    wpAny (model PySem.Challenge.rw_nz0277_01.row.prog w) (ktrTop dp un gd cn cs L a ccd cl outer) (call (.ref f) vs) Q E s

theorem Spec.use {w : World} {lv : Nat} {f : Addr} {vs : List Value} {news : List (Addr × Obj)} {Post : Value → List (Addr × Obj) → Prop} (S : Spec w lv f vs news Post) {p : Program} {loose : List Str} {mean : ExcName → Option Value} {mg mb : Str → Option Value}
    {dp un : Nat} {gd : Option (List Code)} {cn : Str} {cs : Scope} {a : Addr} {ccd : Value} {cl : List (Str × Addr)} {outer : List Env} {A₀ : Around} {base h₀ : Heap} {L : Addr} {m : Str → Option Value} {s : Shared} {Q E : Value → Shared → Prop}
    (B : Below A₀ base outer h₀) (F : Fr h₀ L s.heap m) (X : (hd.heap_39 w.params).In h₀) (N : News h₀ L s.heap news) (T : Top p loose mean mg mb h₀) (hk : cs.kind = .function) (hd : dp + lv < recursionLimit) (hu : un + 80 * lv < cLine)
    (ret : ∀ (v : Value) (news' : List (Addr × Obj)) (h' : Heap) (tk' : Nat), Fr h₀ L h' m → News h₀ L h' news' → Post v news' → Q v { s with heap := h', toks := tk' }) :
    wpAny (model PySem.Challenge.rw_nz0277_01.row.prog w) (ktrTop dp un gd cn cs L a ccd cl outer) (call (.ref f) vs) Q E s := S _ _ _ _ _ _ _ _ _ _ _ _ _ _ _ _ _ _ _ _ _ _ B F X N T hk hd hu ret
section
variable {h₀ h : Heap} {L : Addr} {p q t : Addr × Obj} {a : Addr} {o : Obj} {r : List (Addr × Obj)}
theorem name_1 (_N : News h₀ L h ((a, o) :: r)) : ∃ fa : Nat, fa = a := ⟨a, rfl⟩
theorem name_2 (_N : News h₀ L h (p :: (a, o) :: r)) : ∃ fa : Nat, fa = a := ⟨a, rfl⟩
theorem name_3 (_N : News h₀ L h (p :: q :: (a, o) :: r)) : ∃ fa : Nat, fa = a := ⟨a, rfl⟩
theorem name_4 (_N : News h₀ L h (p :: q :: t :: (a, o) :: r)) : ∃ fa : Nat, fa = a := ⟨a, rfl⟩
end
theorem int_eq {a b : Int} {t : Tok} (h : a = b) : Value.int a t = Value.int b t := by rw [h]
theorem news_sub {h₀ : Heap} {L : Addr} {h : Heap} {a b : List (Addr × Obj)} (N : News h₀ L h a) (hs : ∀ p ∈ b, p ∈ a) : News h₀ L h b := fun p hp => N p (hs p hp)
section
variable {M : Model} {A : Around} {E : Value → Shared → Prop} {s : Shared} {h₀ : Heap} {L C : Addr} {news : List (Addr × Obj)} {oC : Obj} {mC : Str → Option Value} {scope : Scope} {cl : List (Str × Addr)} {env : Env}
theorem ldC {x : Str} {pos : Pos} {v : Value} {Q : Value → Shared → Prop} (N : News h₀ L s.heap news) (hm : (C, oC) ∈ news) (hn : NsObj oC mC) (hv : mC x = some v) (h : Q v s)
    (hk : (compEnvC scope cl C env).scope.kind = .function := by rfl) (hl : (compEnvC scope cl C env).kindOf x = some .local := by rfl) (hd : (x == ("__debug__" : Str)) = false := by decide) :
    wpAny M A (eval (.Name x pos) (compEnvC scope cl C env)) Q E s := wpAny_Name (wpAny_loadName_local hk hl (hn.ns (N _ hm).1) hv h) hd
end

/-- a call that hands back a new list whose values are told by G -/
def NewL (news : MLed) (G : List MVal → Prop) (v : MVal) (news' : MLed) : Prop := ∃ (r : Nat) (vs : List MVal) (nn : Nat), v = .ref r ∧ news' = (r, PySem.W.listOf vs.toArray nn) :: news ∧ G vs ∧ ∀ q ∈ news, q.1 < r
theorem ret_new {h₀ h' : Heap} {L : Addr} {m : Str → Option Value} {s : Shared} {Q : Value → Shared → Prop} {news rest : List (Addr × Obj)} {G : List Value → Prop} {r : Addr} {vs : List Value} {nn tk : Nat}
    (hret : ∀ (v : Value) (news' : List (Addr × Obj)) (h' : Heap) (tk' : Nat), Fr h₀ L h' m → News h₀ L h' news' → NewL news G v news' → Q v { s with heap := h', toks := tk' })
    (F : Fr h₀ L h' m) (N : News h₀ L h' ((r, PySem.W.listOf vs.toArray nn) :: rest)) (hsub : ∀ q ∈ news, q ∈ rest) (hi : G vs) (hlt : ∀ q ∈ news, q.1 < r) : Q (.ref r) { s with heap := h', toks := tk } :=
  hret _ _ _ _ F (news_sub N (fun q hq => (List.mem_cons.mp hq).elim (fun e => e ▸ List.mem_cons_self ..) (fun h => List.mem_cons_of_mem _ (hsub _ h)))) ⟨r, vs, nn, rfl, rfl, hi, hlt⟩
end Mine

namespace Mine
/-- a contract's use, the ledger found ahead of the contract's own conditions -/
theorem Spec.useL {w : World} {lv : Nat} {f : Addr} {vs : List Value} {news : List (Addr × Obj)} {Post : Value → List (Addr × Obj) → Prop} {p : Program} {loose : List Str} {mean : ExcName → Option Value} {mg mb : Str → Option Value}
    {dp un : Nat} {gd : Option (List Code)} {cn : Str} {cs : Scope} {a : Addr} {ccd : Value} {cl : List (Str × Addr)} {outer : List Env} {A₀ : Around} {base h₀ : Heap} {L : Addr} {m : Str → Option Value} {s : Shared} {Q E : Value → Shared → Prop}
    (B : Below A₀ base outer h₀) (F : Fr h₀ L s.heap m) (X : (hd.heap_39 w.params).In h₀) (N : News h₀ L s.heap news) (T : Top p loose mean mg mb h₀) (hk : cs.kind = .function) (hd : dp + lv < recursionLimit) (hu : un + 80 * lv < cLine)
    (S : Spec w lv f vs news Post)
    (ret : ∀ (v : Value) (news' : List (Addr × Obj)) (h' : Heap) (tk' : Nat), Fr h₀ L h' m → News h₀ L h' news' → Post v news' → Q v { s with heap := h', toks := tk' }) :
    wpAny (model PySem.Challenge.rw_nz0277_01.row.prog w) (ktrTop dp un gd cn cs L a ccd cl outer) (call (.ref f) vs) Q E s := S.use B F X N T hk hd hu ret
/-! the same, what a call tells handed on by letters: an «obtain» in a walk copies the whole goal into each of its motives -/
section
variable {w : World} {lv : Nat} {f : Addr} {vs : List Value} {news : List (Addr × Obj)} {p : Program} {loose : List Str} {mean : ExcName → Option Value} {mg mb : Str → Option Value}
    {dp un : Nat} {gd : Option (List Code)} {cn : Str} {cs : Scope} {a : Addr} {ccd : Value} {cl : List (Str × Addr)} {outer : List Env} {A₀ : Around} {base h₀ : Heap} {L : Addr} {m : Str → Option Value} {s : Shared} {Q E : Value → Shared → Prop}
theorem Spec.useN {G : List MVal → Prop} (B : Below A₀ base outer h₀) (F : Fr h₀ L s.heap m) (X : (hd.heap_39 w.params).In h₀) (N : News h₀ L s.heap news) (T : Top p loose mean mg mb h₀) (hk : cs.kind = .function) (hdp : dp + lv < recursionLimit) (hu : un + 80 * lv < cLine)
    (S : Spec w lv f vs news (NewL news G))
    (ret : ∀ (r : Nat) (us : List MVal) (nn : Nat) (h' : Heap) (tk' : Nat), G us → (∀ q ∈ news, q.1 < r) → Fr h₀ L h' m → News h₀ L h' ((r, PySem.W.listOf us.toArray nn) :: news) → Q (.ref r) { s with heap := h', toks := tk' }) :
    wpAny (model PySem.Challenge.rw_nz0277_01.row.prog w) (ktrTop dp un gd cn cs L a ccd cl outer) (call (.ref f) vs) Q E s := by
  refine Spec.use S B F X N T hk hdp hu ?_
  rintro v' n' h' tk' F' N' ⟨r, us, nn, e2, e1, hG, l1⟩
  subst e1 e2
  exact ret _ _ _ _ _ hG l1 F' N'
theorem Spec.useV {val : MTok → MVal} (B : Below A₀ base outer h₀) (F : Fr h₀ L s.heap m) (X : (hd.heap_39 w.params).In h₀) (N : News h₀ L s.heap news) (T : Top p loose mean mg mb h₀) (hk : cs.kind = .function) (hdp : dp + lv < recursionLimit) (hu : un + 80 * lv < cLine)
    (S : Spec w lv f vs news (fun v news' => news' = news ∧ ∃ t, v = val t))
    (ret : ∀ (t : MTok) (h' : Heap) (tk' : Nat), Fr h₀ L h' m → News h₀ L h' news → Q (val t) { s with heap := h', toks := tk' }) :
    wpAny (model PySem.Challenge.rw_nz0277_01.row.prog w) (ktrTop dp un gd cn cs L a ccd cl outer) (call (.ref f) vs) Q E s := by
  refine Spec.use S B F X N T hk hdp hu ?_
  rintro v' n' h' tk' F' N' ⟨e1, t, e2⟩
  subst e1 e2
  exact ret _ _ _ F' N'
theorem Spec.useC {val : MVal} (B : Below A₀ base outer h₀) (F : Fr h₀ L s.heap m) (X : (hd.heap_39 w.params).In h₀) (N : News h₀ L s.heap news) (T : Top p loose mean mg mb h₀) (hk : cs.kind = .function) (hdp : dp + lv < recursionLimit) (hu : un + 80 * lv < cLine)
    (S : Spec w lv f vs news (fun v news' => news' = news ∧ v = val))
    (ret : ∀ (h' : Heap) (tk' : Nat), Fr h₀ L h' m → News h₀ L h' news → Q val { s with heap := h', toks := tk' }) :
    wpAny (model PySem.Challenge.rw_nz0277_01.row.prog w) (ktrTop dp un gd cn cs L a ccd cl outer) (call (.ref f) vs) Q E s := by
  refine Spec.use S B F X N T hk hdp hu ?_
  rintro v' n' h' tk' F' N' ⟨e1, e2⟩
  subst e1 e2
  exact ret _ _ F' N'
end
theorem sp7 {a1 a2 a3 a4 a5 b1 b2 : Type} {P : (a1 × a2 × a3 × a4 × a5) × (b1 × b2) → Prop} (h : ∀ x1 x2 x3 x4 x5 y1 y2, P ((x1, x2, x3, x4, x5), (y1, y2))) : ∀ x, P x := fun ⟨⟨_, _, _, _, _⟩, ⟨_, _⟩⟩ => h ..
theorem sp9 {a1 a2 a3 a4 a5 b1 b2 c1 c2 : Type} {P : (a1 × a2 × a3 × a4 × a5) × (b1 × b2) × (c1 × c2) → Prop} (h : ∀ x1 x2 x3 x4 x5 y1 y2 z1 z2, P ((x1, x2, x3, x4, x5), (y1, y2), (z1, z2))) : ∀ x, P x := fun ⟨⟨_, _, _, _, _⟩, ⟨_, _⟩, ⟨_, _⟩⟩ => h ..
theorem sp4 {a1 a2 a3 a4 : Type} {P : a1 × a2 × a3 × a4 → Prop} (h : ∀ x1 x2 x3 x4, P (x1, x2, x3, x4)) : ∀ x, P x := fun ⟨_, _, _, _⟩ => h ..
theorem cpsG {a0 a1 a2 a3 : Prop} {α β : Type} {b1 b2 b3 : α → Prop} {c1 c2 c3 : β → Prop} {G : Prop} (x : a0 ∧ a1 ∧ a2 ∧ a3 ∧ (∃ n, b1 n ∧ b2 n ∧ b3 n) ∧ ∃ z, c1 z ∧ c2 z ∧ c3 z)
    (h : a0 → a1 → a2 → a3 → ∀ n, b1 n → b2 n → b3 n → ∀ z, c1 z → c2 z → c3 z → G) : G := by
  obtain ⟨g0, g1, g2, g3, ⟨n, gi, gl, gn⟩, z, gss, gcl, gok⟩ := x
  exact h g0 g1 g2 g3 n gi gl gn z gss gcl gok
theorem cps6 {α : Type} {p1 p2 p3 p4 p5 p6 : α → Prop} {G : Prop} (x : ∃ a, p1 a ∧ p2 a ∧ p3 a ∧ p4 a ∧ p5 a ∧ p6 a) (h : ∀ a, p1 a → p2 a → p3 a → p4 a → p5 a → p6 a → G) : G := by
  obtain ⟨a, h1, h2, h3, h4, h5, h6⟩ := x
  exact h a h1 h2 h3 h4 h5 h6
end Mine

namespace Mine
set_option maxRecDepth 100000
set_option maxHeartbeats 1000000
section
variable {prog : Program} {w : World} {A : Around} {s : Shared} {h₀ : Heap} {L : Addr} {m : Str → Option Value}
/-- an element's end that has turned the ledger's head -/
def MutStep {σ : Type} (h₀ : Heap) (L : Addr) (m : Str → Option Value) (led : σ → MLed) (rest : MLed) (R : σ → List Value → Prop) (ys : List Value) (s₁ : Shared) (y : Value) (s' : Shared) : Prop :=
  ∃ h' tk' news' c, s' = { s₁ with heap := h', toks := tk' } ∧ Fr h₀ L h' m ∧ News h₀ L h' news' ∧ (∀ p ∈ led c ++ rest, p ∈ news') ∧ R c (ys ++ [y])
theorem MutStep.mk' {σ : Type} {led : σ → MLed} {rest news' : MLed} {R : σ → List Value → Prop} {ys : List Value} {s₁ : Shared} {y : Value} {h' : Heap} {tk' : Nat} (c : σ) (F : Fr h₀ L h' m) (N : News h₀ L h' news') (h1 : ∀ p ∈ led c ++ rest, p ∈ news') (hj : R c (ys ++ [y])) :
    MutStep h₀ L m led rest R ys s₁ y { s₁ with heap := h', toks := tk' } := ⟨h', tk', news', c, rfl, F, N, h1, hj⟩

theorem mut_range {σ : Type} {env : Env} {E : Value → Shared → Prop} {scope : Scope} {cl : List (Str × Addr)} {x : Str} {elt : Expr} {Q : Value → Shared → Prop} {r : Addr} {a₀ b₀ : Int} {t₀ u₀ v₀ : Tok} {n : Nat} {nx : MLed}
    (led : σ → MLed) (rest : MLed) (R : Nat → σ → List Value → Prop) (c₀ : σ) (adr : List Addr) (hadr : ∀ c, (led c ++ rest).map (·.1) = adr)
    (hh : A.handled = none) (hr : IsRange s.heap r a₀ b₀ 1 t₀ u₀ v₀) (hsmall : Builtin.Range.small a₀ b₀ 1 = true) (hn : Builtin.Range.rangeSize a₀ b₀ 1 = (n : Int)) (hsz : n ≤ 1000000) (F : Fr h₀ L s.heap m) (N : News h₀ L s.heap nx) (hsub : ∀ p ∈ led c₀ ++ rest, p ∈ nx) (hR : R 0 c₀ [])
    (turn : ∀ (i : Nat) (t : Tok) (c : σ) (ys : List Value) (own : MLed) (C : Nat) (oC : Obj) (mC : Str → Option Value) (h : Heap) (tk : Nat), i < n → R i c ys → OwnOff ((C, oC) :: own) adr → NsObj oC mC → mC x = some (.int (a₀ + (i : Int)) t) → Fr h₀ L h m → News h₀ L h (led c ++ (rest ++ (C, oC) :: own)) →
      wpAny (model prog w) A (eval elt (compEnvC scope cl C env)) (MutStep h₀ L m led (rest ++ (C, oC) :: own) (R (i + 1)) ys { s with heap := h, toks := tk }) (fun _ _ => False) { s with heap := h, toks := tk })
    (done : ∀ (D k : Nat) (c : σ) (ys : List Value) (h : Heap) (tk : Nat), R n c ys → (∀ p ∈ led c ++ rest, p.1 < D) → Fr h₀ L h m → News h₀ L h ((D, PySem.W.listOf ys.toArray k) :: (led c ++ rest)) → Q (.ref D) { s with heap := h, toks := tk }) :
    wpAny (model prog w) A (pyIter (.ref r)) (fun it s₂ => CompAt prog w A env scope cl x elt Q it s₂) E s := by
  have N : News h₀ L s.heap (led c₀ ++ rest) := fun p hp => N p (hsub p hp)
  refine wpAny_pyIter_range hr hsmall ?_
  refine ⟨h₀, L, m, s.heap.objs.size, [], n, _, _, led c₀ ++ rest, fun i ys nx => ∃ c, nx = led c ++ rest ∧ R i c ys, rfl, Walks.range hh _ a₀ 1 n, hsz, (by show IsRangeIter _ _ _ _ _; rw [hn]; simpa using Heap.get?_push_size _ rfl), ?_, next_is_new F, Nat.ne_of_gt F.ns.lt, ?_, fun _ _ _ _ _ hp => absurd hp (List.not_mem_nil), F.push _, fun p hp => ⟨Heap.get?_push_of_some _ (N p hp).1, (N p hp).2⟩, ⟨c₀, rfl, hR⟩, ?_, ?_⟩
  · rw [Heap.size_push]; exact Nat.lt_succ_self _
  · intro hm
    obtain ⟨p, hp, e⟩ := List.mem_map.mp hm
    exact absurd (Heap.lt_size (N p hp).1) (by rw [e]; exact Nat.lt_irrefl _)
  · rintro i v ys nx' own C oC mC h tk hi ⟨t, rfl⟩ ⟨c, rfl, hR'⟩ _ hC hoff hown hNs hm F₁ N₁
    have e1 : a₀ + (i : Int) * 1 = a₀ + (i : Int) := by omega
    rw [e1] at hm
    have hoff' : OwnOff ((C, oC) :: own) adr := by
      rw [← hadr c₀]
      intro p hp b hb e
      rcases List.mem_cons.mp hp with rfl | hp
      · exact hoff _ hown b hb e
      · exact hoff p hp b hb e
    have N₂ : News h₀ L h (led c ++ (rest ++ (C, oC) :: own)) := fun p hp => by
      rcases List.mem_append.mp hp with hp | hp
      · exact N₁ _ (List.mem_append.mpr (.inl (List.mem_append.mpr (.inl hp))))
      · rcases List.mem_append.mp hp with hp | hp
        · exact N₁ _ (List.mem_append.mpr (.inl (List.mem_append.mpr (.inr hp))))
        · rcases List.mem_cons.mp hp with rfl | hp
          · exact N₁ _ (List.mem_append.mpr (.inr hown))
          · exact N₁ _ (List.mem_append.mpr (.inr hp))
    refine wpAny_mono (turn i t c ys own C oC mC h tk hi hR' hoff' hNs hm F₁ N₂) (fun y s' hy => ?_) fun _ _ x => x
    obtain ⟨h', tk', news', c', rfl, F', N', hs, hr⟩ := hy
    refine ⟨h', tk', led c' ++ rest, news', rfl, F', N', fun p hp => hs p ?_, fun p hp => hs p ?_, by rw [hadr c', hadr c₀], c', rfl, hr⟩
    · rcases List.mem_append.mp hp with hp | hp
      · exact List.mem_append.mpr (.inl hp)
      · exact List.mem_append.mpr (.inr (List.mem_append.mpr (.inl hp)))
    · exact List.mem_append.mpr (.inr (List.mem_append.mpr (.inr (List.mem_cons_of_mem _ hp))))
  · rintro D k ys nx' h tk ⟨c, rfl, hR'⟩ hlt F₁ N₁
    exact done D k c ys h tk hR' hlt F₁ N₁
end
end Mine

namespace Mine
set_option maxRecDepth 100000
section
variable {prog : Program} {w : World} {A : Around} {E : Value → Shared → Prop} {s : Shared} {env : Env} {h₀ : Heap} {x : Str} {body : List Stmt} {Q : Flow → Shared → Prop} {m₀ : Str → Option Value}
/-- a turn's end: the ledger's turning part is led, its steady part and the iterator stay -/
def LEnd {σ : Type} (h₀ : Heap) (L : Addr) (x : Str) (stored : List Str) (m₀ : Str → Option Value) (led : σ → List (Addr × Obj)) (ps : σ → List (Str × Value)) (R : σ → Prop) (rest : List (Addr × Obj)) (s₁ : Shared) (f : Flow) (s₂ : Shared) : Prop :=
  f = .next ∧ ∃ h' tk m' news' c, s₂ = { s₁ with heap := h', toks := tk } ∧ Fr h₀ L h' m' ∧ News h₀ L h' news' ∧ (∀ p ∈ led c, p ∈ news') ∧ (∀ p ∈ rest, p ∈ news') ∧
    (∀ p ∈ ps c, m' p.1 = some p.2) ∧ (∀ z, z ≠ x → (∀ p ∈ ps c, z ≠ p.1) → stored.contains z = false → m' z = m₀ z) ∧ R c
theorem LEnd.mk' {σ : Type} {L : Addr} {stored : List Str} {led : σ → List (Addr × Obj)} {ps : σ → List (Str × Value)} {R : σ → Prop} {rest news' : List (Addr × Obj)} {s₁ : Shared} {h' : Heap} {tk : Nat} {m' : Str → Option Value} (c : σ)
    (F : Fr h₀ L h' m') (N : News h₀ L h' news') (h1 : ∀ p ∈ led c, p ∈ news') (h2 : ∀ p ∈ rest, p ∈ news') (hk : ∀ p ∈ ps c, m' p.1 = some p.2) (hs : ∀ z, z ≠ x → (∀ p ∈ ps c, z ≠ p.1) → stored.contains z = false → m' z = m₀ z) (hR : R c) :
    LEnd h₀ L x stored m₀ led ps R rest s₁ .next { s₁ with heap := h', toks := tk } := ⟨rfl, h', tk, m', news', c, rfl, F, N, h1, h2, hk, hs, hR⟩

theorem LEnd1 {σ : Type} {L fa : Addr} {stored : List Str} {ps : List Value × Nat × σ → List (Str × Value)} {R : List Value × Nat × σ → Prop} {rest : List (Addr × Obj)} {s₁ : Shared} {h' : Heap} {tk : Nat} {m' : Str → Option Value} {us : List Value} {k : Nat} {c : σ}
    (F : Fr h₀ L h' m') (N : News h₀ L h' ((fa, PySem.W.listOf us.toArray k) :: rest)) (hk : ∀ p ∈ ps (us, k, c), m' p.1 = some p.2) (hs : ∀ z, z ≠ x → (∀ p ∈ ps (us, k, c), z ≠ p.1) → stored.contains z = false → m' z = m₀ z) (hR : R (us, k, c)) :
    LEnd h₀ L x stored m₀ (fun c : List Value × Nat × σ => [(fa, PySem.W.listOf c.1.toArray c.2.1)]) ps R rest s₁ .next { s₁ with heap := h', toks := tk } :=
  LEnd.mk' (us, k, c) F N (fun p hp => by rw [List.mem_singleton.mp hp]; exact List.mem_cons_self ..) (fun p hp => List.mem_cons_of_mem _ hp) hk hs hR

theorem LEnd1a {σ : Type} {L fa : Addr} {stored : List Str} {ps : List Value × Nat × σ → List (Str × Value)} {R : List Value × Nat × σ → Prop} {rest : List (Addr × Obj)} {s₁ : Shared} {h' : Heap} {tk : Nat} {m' : Str → Option Value} {us : List Value} {k : Nat} {c : σ} {q : Addr × Obj}
    (F : Fr h₀ L h' m') (N : News h₀ L h' (q :: (fa, PySem.W.listOf us.toArray k) :: rest)) (hk : ∀ p ∈ ps (us, k, c), m' p.1 = some p.2) (hs : ∀ z, z ≠ x → (∀ p ∈ ps (us, k, c), z ≠ p.1) → stored.contains z = false → m' z = m₀ z) (hR : R (us, k, c)) :
    LEnd h₀ L x stored m₀ (fun c : List Value × Nat × σ => [(fa, PySem.W.listOf c.1.toArray c.2.1)]) ps R rest s₁ .next { s₁ with heap := h', toks := tk } :=
  LEnd1 F (fun p hp => N p (List.mem_cons_of_mem _ hp)) hk hs hR

abbrev LTurn {σ : Type} (prog : Program) (w : World) (A : Around) (E : Value → Shared → Prop) (h₀ : Heap) (env : Env) (x : Str) (body : List Stmt) (stored : List Str) (m₀ : Str → Option Value) (led : σ → List (Addr × Obj)) (ps : σ → List (Str × Value)) (rest : List (Addr × Obj)) (s : Shared) (R R' : σ → Prop) (v : Value) : Prop :=
  ∀ (c : σ) (own : List (Addr × Obj)) (u : Str → Option Value) (h : Heap) (tk : Nat), R c → OwnOff own ((led c ++ rest).map (·.1)) → Fr h₀ env.locals h (fun y => if y = x then some v else kstB (fun z => if stored.contains z then u z else m₀ z) (ps c) y) → News h₀ env.locals h (led c ++ (rest ++ own)) →
    wpAny (model prog w) A (execs body env) (LEnd h₀ env.locals x stored m₀ led ps R' (rest ++ own) { s with heap := h, toks := tk }) E { s with heap := h, toks := tk }
abbrev LDone {σ : Type} (h₀ : Heap) (env : Env) (x : Str) (stored : List Str) (m₀ : Str → Option Value) (led : σ → List (Addr × Obj)) (ps : σ → List (Str × Value)) (rest : List (Addr × Obj)) (s : Shared) (R : σ → Prop) (Q : Flow → Shared → Prop) : Prop :=
  ∀ (c : σ) (u : Str → Option Value) (h : Heap) (tk : Nat), R c → Fr h₀ env.locals h (fun y => if y = x then u y else kstB (fun z => if stored.contains z then u z else m₀ z) (ps c) y) → News h₀ env.locals h (led c ++ rest) → Q .next { s with heap := h, toks := tk }

def LJ {σ : Type} (x : Str) (stored : List Str) (m₀ : Str → Option Value) (led : σ → List (Addr × Obj)) (ps : σ → List (Str × Value)) (rest : List (Addr × Obj)) (R : σ → Prop) (m : Str → Option Value) (nx : List (Addr × Obj)) : Prop :=
  ∃ c, nx = led c ++ rest ∧ (∀ p ∈ ps c, m p.1 = some p.2) ∧ (∀ z, z ≠ x → (∀ p ∈ ps c, z ≠ p.1) → stored.contains z = false → m z = m₀ z) ∧ R c

theorem l_turnN {σ : Type} {stored : List Str} {led : σ → List (Addr × Obj)} {ps : σ → List (Str × Value)} {rest own : List (Addr × Obj)} {adr : List Addr} {R R' : σ → Prop} {v : Value} {m₁ : Str → Option Value} {nx : List (Addr × Obj)} {h : Heap} {tk : Nat}
    (hadr : ∀ c, (led c ++ rest).map (·.1) = adr) (T : LTurn prog w A E h₀ env x body stored m₀ led ps rest s R R' v) (hoff : OwnOff own adr) (hJ : LJ x stored m₀ led ps rest R m₁ nx) (F : Fr h₀ env.locals h (fun y => if y = x then some v else m₁ y)) (N : News h₀ env.locals h (nx ++ own)) :
    wpAny (model prog w) A (execs body env) (InvPostN h₀ env.locals (LJ x stored m₀ led ps rest R') own adr { s with heap := h, toks := tk } Q) E { s with heap := h, toks := tk } := by
  obtain ⟨c, rfl, h1, h2, hR⟩ := hJ
  refine wpAny_mono (T c own m₁ h tk hR (by rw [hadr]; exact hoff) (kst_fr h1 h2 F) (by rw [← List.append_assoc]; exact N)) (fun f s₂ he => ?_) fun _ _ e => e
  obtain ⟨rfl, h', tk', m', news', c', rfl, F', N', i1, i2, hk, hs, hR'⟩ := he
  exact ⟨h', tk', m', news', led c' ++ rest, rfl, F', N', fun p hp => (List.mem_append.mp hp).elim (i1 p) fun h => i2 p (List.mem_append.mpr (.inl h)), fun p hp => i2 p (List.mem_append.mpr (.inr hp)), hadr c', c', rfl, hk, hs, hR'⟩
theorem l_turnG {σ : Type} {stored : List Str} {led : σ → List (Addr × Obj)} {ps : σ → List (Str × Value)} {rest own : List (Addr × Obj)} {adr : List Addr} {R R' : σ → Prop} {v : Value} {m₁ : Str → Option Value} {nx : List (Addr × Obj)} {h : Heap} {tk : Nat} {q : Addr × Obj} (hq : q ∈ rest)
    (hadr : ∀ c, (led c ++ rest).map (·.1) = adr) (T : LTurn prog w A E h₀ env x body stored m₀ led ps rest s R R' v) (hoff : OwnOff own (nx.map (·.1))) (hJ : LJ x stored m₀ led ps rest R m₁ nx) (F : Fr h₀ env.locals h (fun y => if y = x then some v else m₁ y)) (N : News h₀ env.locals h (nx ++ own)) :
    wpAny (model prog w) A (execs body env) (InvPostG h₀ env.locals (fun m' nx => q ∈ nx ∧ LJ x stored m₀ led ps rest R' m' nx) own { s with heap := h, toks := tk } Q) E { s with heap := h, toks := tk } := by
  obtain ⟨c, rfl, h1, h2, hR⟩ := hJ
  refine wpAny_mono (T c own m₁ h tk hR hoff (kst_fr h1 h2 F) (by rw [← List.append_assoc]; exact N)) (fun f s₂ he => ?_) fun _ _ e => e
  obtain ⟨rfl, h', tk', m', news', c', rfl, F', N', i1, i2, hk, hs, hR'⟩ := he
  exact ⟨h', tk', m', news', led c' ++ rest, rfl, F', N', fun p hp => (List.mem_append.mp hp).elim (i1 p) fun h => i2 p (List.mem_append.mpr (.inl h)), fun p hp => i2 p (List.mem_append.mpr (.inr hp)), by rw [hadr c', ← hadr c]; exact hoff, List.mem_append.mpr (.inr hq), c', rfl, hk, hs, hR'⟩

theorem l_range {σ : Type} {r : Addr} {a₀ b₀ : Int} {t₀ u₀ v₀ : Tok} {n : Nat} {news : List (Addr × Obj)} (led : σ → List (Addr × Obj)) (ps : σ → List (Str × Value)) (stored : List Str) (rest : List (Addr × Obj)) (R : Nat → σ → Prop) (c₀ : σ) (adr : List Addr)
    (hadr : ∀ c, (led c ++ rest).map (·.1) = adr) (hh : A.handled = none) (hr : IsRange s.heap r a₀ b₀ 1 t₀ u₀ v₀) (hsmall : Builtin.Range.small a₀ b₀ 1 = true) (hn : Builtin.Range.rangeSize a₀ b₀ 1 = (n : Int)) (F : Fr h₀ env.locals s.heap m₀) (N : News h₀ env.locals s.heap news) (hsub : ∀ p ∈ led c₀ ++ rest, p ∈ news)
    (hk : ∀ p ∈ ps c₀, m₀ p.1 = some p.2) (hR : R 0 c₀)
    (turn : ∀ (i : Nat) t, i < n → LTurn prog w A E h₀ env x body stored m₀ led ps rest s (R i) (R (i + 1)) (.int (a₀ + (i : Int)) t))
    (done : LDone h₀ env x stored m₀ led ps rest s (R n) Q) :
    wpAny (model prog w) A (pyIter (.ref r)) (fun it s₂ => LoopAtV prog w A h₀ env x body Q E it s₂) E s := by
  have N : News h₀ env.locals s.heap (led c₀ ++ rest) := fun p hp => N p (hsub p hp)
  refine wpAny_pyIter_range hr hsmall ?_
  have W : Walks prog w A s.heap.objs.size [s.heap.objs.size] [s.heap.objs.size] n (fun i v => i < n ∧ ∃ t, v = .int (a₀ + i * 1) t)
      (fun i h => IsRangeIter h s.heap.objs.size (a₀ + (i : Nat) * 1) ((n : Int) - (i : Nat)) 1) := (Walks.range hh _ a₀ 1 n).bound
  refine loop_invN (fun i m nx => LJ x stored m₀ led ps rest (R i) m nx) W ?_ ?_ ?_ ?_ (by show IsRangeIter _ _ _ _ _; rw [hn]; simpa using Heap.get?_push_size _ rfl) (F.push _) (fun p hp => ⟨Heap.get?_push_of_some _ (N p hp).1, (N p hp).2⟩) ⟨c₀, rfl, hk, fun _ _ _ _ => rfl, hR⟩ ?_ ?_
  · intro hm
    exact absurd F.ns.lt ((List.mem_singleton.mp hm) ▸ Nat.lt_irrefl _)
  · intro b hb
    rw [List.mem_singleton.mp hb]
    exact next_is_new F
  · intro p hp hI
    exact absurd (Heap.lt_size (N p hp).1) ((List.mem_singleton.mp hI) ▸ Nat.lt_irrefl _)
  · intro p hp hI
    exact absurd (Heap.lt_size (N p hp).1) ((List.mem_singleton.mp hI) ▸ Nat.lt_irrefl _)
  · rintro i v m₁ nx h tk own hi ⟨_, t, rfl⟩ _ hoff hJ F₁ N₁
    have e1 : a₀ + (i : Int) * 1 = a₀ + (i : Int) := by omega
    rw [e1] at F₁
    have T := turn i t hi
    rw [hadr c₀] at hoff ⊢
    exact l_turnN (s := s) hadr T hoff hJ F₁ N₁
  · rintro m₁ nx h tk ⟨c, rfl, h1, h2, hR'⟩ F₁ N₁
    exact done c m₁ h tk hR' (kst_frOut h1 h2 F₁) N₁

theorem l_bytes {σ : Type} {b : Array UInt8} {tb : Tok} {ks : List Int} {news : List (Addr × Obj)} (led : σ → List (Addr × Obj)) (ps : σ → List (Str × Value)) (stored : List Str) (rest : List (Addr × Obj)) (R : Nat → σ → Prop) (c₀ : σ) (adr : List Addr)
    (hadr : ∀ c, (led c ++ rest).map (·.1) = adr) (hks : KBw.bInts b = ks) (hh : A.handled = none) (F : Fr h₀ env.locals s.heap m₀) (N : News h₀ env.locals s.heap news) (hsub : ∀ p ∈ led c₀ ++ rest, p ∈ news)
    (hk : ∀ p ∈ ps c₀, m₀ p.1 = some p.2) (hR : R 0 c₀)
    (turn : ∀ (i : Nat) k t, ks[i]? = some k → 0 ≤ k → k < 256 → LTurn prog w A E h₀ env x body stored m₀ led ps rest s (R i) (R (i + 1)) (.int k t))
    (done : LDone h₀ env x stored m₀ led ps rest s (R ks.length) Q) :
    wpAny (model prog w) A (pyIter (.bytes b tb)) (fun it s₂ => LoopAtV prog w A h₀ env x body Q E it s₂) E s := by
  refine KBmo.iter_bytesN (news := led c₀ ++ rest) (fun i m nx => LJ x stored m₀ led ps rest (R i) m nx) hks hh F (fun p hp => N p (hsub p hp)) ⟨c₀, rfl, hk, fun _ _ _ _ => rfl, hR⟩ ?_ ?_
  · rintro i k t m₁ nx h tk own hi h0 h1 hoff hJ F₁ N₁
    have T := turn i k t hi h0 h1
    rw [hadr c₀] at hoff ⊢
    exact l_turnN (s := s) hadr T hoff hJ F₁ N₁
  · rintro m₁ nx h tk ⟨c, rfl, h1, h2, hR'⟩ F₁ N₁
    exact done c m₁ h tk hR' (kst_frOut h1 h2 F₁) N₁

theorem l_list {σ : Type} {l : Addr} {vs : List Value} {nn : Nat} {news : List (Addr × Obj)} (led : σ → List (Addr × Obj)) (ps : σ → List (Str × Value)) (stored : List Str) (rest : List (Addr × Obj)) (R : Nat → σ → Prop) (c₀ : σ) (adr : List Addr)
    (hadr : ∀ c, (led c ++ rest).map (·.1) = adr) (hl : (l, PySem.W.listOf vs.toArray nn) ∈ rest) (hh : A.handled = none) (F : Fr h₀ env.locals s.heap m₀) (N : News h₀ env.locals s.heap news) (hsub : ∀ p ∈ led c₀ ++ rest, p ∈ news)
    (hk : ∀ p ∈ ps c₀, m₀ p.1 = some p.2) (hR : R 0 c₀)
    (turn : ∀ (i : Nat) v, vs[i]? = some v → LTurn prog w A E h₀ env x body stored m₀ led ps rest s (R i) (R (i + 1)) v)
    (done : LDone h₀ env x stored m₀ led ps rest s (R vs.length) Q) :
    wpAny (model prog w) A (pyIter (.ref l)) (fun it s₂ => LoopAtV prog w A h₀ env x body Q E it s₂) E s := by
  refine kdl_iter (news := led c₀ ++ rest) (fun i m nx => LJ x stored m₀ led ps rest (R i) m nx) hh (List.mem_append.mpr (.inr hl)) F (fun p hp => N p (hsub p hp)) ⟨c₀, rfl, hk, fun _ _ _ _ => rfl, hR⟩ ?_ ?_
  · rintro i v m₁ nx h tk own hi hoff _ hJ F₁ N₁
    exact l_turnG (s := s) hl hadr (turn i v hi) hoff hJ F₁ N₁
  · rintro m₁ nx h tk ⟨c, rfl, h1, h2, hR'⟩ F₁ N₁
    exact done c m₁ h tk hR' (kst_frOut h1 h2 F₁) N₁
end
theorem off_one {news own : List (Addr × Obj)} {fa : Nat} {o : Obj} (l1 : ∀ p ∈ news, p.1 < fa) (h : OwnOff own ((fa, o) :: news |>.map (·.1))) : OwnOff (news ++ own) [fa] := by
  intro p hp b hb e
  rw [List.mem_singleton.mp hb] at e
  rcases List.mem_append.mp hp with h1 | h1
  · have := l1 p h1
    rw [e] at this
    exact Nat.lt_irrefl _ this
  · exact h p h1 fa (List.mem_cons_self ..) e
end Mine

namespace Mine
set_option maxRecDepth 100000
section
variable {prog : Program} {w : World} {A : Around} {E : Value → Shared → Prop} {s : Shared}
theorem asInt_int {M : Model} {k : Int} {t : Tok} {Q : Int → Shared → Prop} (h : Q k s) : wpAny M A (asIndex (.int k t)) Q E s := by
  unfold asIndex
  show wpAny M A (pure (some k) >>= _) _ _ s
  exact wpAny_bind (wpAny_pure (wpAny_pure h))
theorem bytes_contains_int {b : Array UInt8} {u t : Tok} {k : Int} {P : Fin → Shared → Prop} (h0 : 0 ≤ k) (h1 : k < 256) (h : P (.done (.ret (.bool (b.contains k.toNat.toUInt8)))) s) :
    wpAny (model prog w) A (Builtin.«bytes.__contains__» ⟨[.bytes b u, .int k t], []⟩) P E s := by
  show wpAny _ _ (Builtin.Bytes.containsIn "bytes.__contains__" (.bytes b u) (.int k t) >>= _) _ _ s
  refine wpAny_bind ?_
  unfold Builtin.Bytes.containsIn
  refine wpAny_bind (wpAny_attempt (asInt_int ?_))
  refine wpAny_bind (wpAny_of_eq KBy.buffer_eq ?_)
  have e : (decide (k < 0) || decide (k ≥ 256)) = false := by simp; omega
  show wpAny _ _ (if (decide (k < 0) || decide (k ≥ 256)) = true then _ else _) _ _ s
  rw [e, if_neg (by decide)]
  exact wpAny_pure (wpAny_pure h)
theorem contains_bytes_int {b : Array UInt8} {u t : Tok} {k : Int} {Q : Bool → Shared → Prop} (h0 : 0 ≤ k) (h1 : k < 256) (h : Q (b.contains k.toNat.toUInt8) s) :
    wpAny (model prog w) A (contains (.bytes b u) (.int k t)) Q E s := by
  unfold contains
  refine wpAny_holding ?_
  show wpAny _ _ (specialOf (.bytes b u) "__contains__" >>= _) _ _ s
  refine wpAny_bind (wpAny_specialOf (typeIs_bytes s b u) FB.slot_bytes_contains.lookup ?_)
  rw [if_neg (by decide)]
  exact wpAny_bind (wpAny_callSpecialUnlessNone?_slot (name := Str.ofString "__contains__") (typeIs_bytes s b u) FB.slot_bytes_contains
    (wpAny_call_entry FB.slot_bytes_contains (typeIs_bytes s b u) FB.entry_bytes_contains (bytes_contains_int h0 h1 ⟨_, rfl, wpAny_truthy_bool h⟩) (FB.args_bytes_contains_2 _ _)))
theorem notin_bytes_int {b : Array UInt8} {u t : Tok} {k : Int} {Q : Value → Shared → Prop} (h0 : 0 ≤ k) (h1 : k < 256) (h : Q (.bool (!(b.contains k.toNat.toUInt8))) s) :
    wpAny (model prog w) A (compareOp .NotIn (.int k t) (.bytes b u)) Q E s := by
  show wpAny _ _ (do return .bool (!(← contains (.bytes b u) (.int k t)))) Q E s
  exact wpAny_bind (contains_bytes_int h0 h1 (wpAny_pure h))
end
theorem tup_of_K {K : Frag} {h : Heap} {a : Addr} {items : Array Value} {d : Option Addr} {n : Nat} {sl : Array (Option Value)} (X : K.In h) (e : K.lookup a = some ⟨.type "tuple", d, .seq items n, sl⟩) : IsTup h a items := ⟨_, X _ _ e, rfl, n, rfl⟩
end Mine

namespace Mine
set_option maxRecDepth 100000
def FiltAt (P : Prop) : Prop := P
section
variable {prog : Program} {w : World} {A : Around} {E : Value → Shared → Prop} {s : Shared} {h₀ : Heap} {L : Addr} {m : Str → Option Value}
theorem paired_same : ∀ {as bs : List Value}, Paired (fun v y => y = v) as bs → bs = as
  | _, _, .nil => rfl
  | _, _, .cons h r => by rw [h, paired_same r]
/-- a comprehension over a written tuple that keeps what a test lets through -/
theorem filt_tup {env : Env} {iter c : Expr} {x : Str} {px px2 : Pos} {scope : Scope} {cl : List (Str × Addr)} {pos : Pos} {Q : Value → Shared → Prop} (p : Value → Bool)
    (hclos : closureFor scope env = pure cl) (hcell : ∀ y ∈ scope.names, y.2 ≠ .cell) (hkind : scope.kind = .function)
    (hnames : ∀ y ∈ scope.names, y.2 = .local → scope.names.lookup y.1 = some .local) (hx : scope.names.lookup x = some .local) (hdb : (x == ("__debug__" : Str)) = false)
    (hh : A.handled = none)
    (h : wpAny (model prog w) A (eval iter env) (fun xv s₁ => FiltAt (∃ (D : Addr) (items : Array Value) (n : Nat) (news : List (Addr × Obj)) (h₀ : Heap) (L : Addr) (m : Str → Option Value), xv = .ref D ∧ items.size ≤ 1000 ∧
      (D, ({ cls := .type "tuple", data := .seq items n } : Obj)) ∈ news ∧ Fr h₀ L s₁.heap m ∧ News h₀ L s₁.heap news ∧
      (∀ C v s₃ m₃, v ∈ items.toList → Fr h₀ L s₃.heap m → News h₀ L s₃.heap news → s₃.heap.Ns C m₃ → m₃ x = some v →
        wpAny (model prog w) A (isTrue c (compEnvC scope cl C env) (eval c (compEnvC scope cl C env))) (fun ok s₄ => ok = p v ∧ Keeps s₃ s₄) (fun _ _ => False) s₃) ∧
      (∀ (D' k : Nat) h' tk, (∀ q ∈ news, q.1 ≠ D') → Fr h₀ L h' m → News h₀ L h' ((D', PySem.W.listOf (items.toList.filter p).toArray k) :: news) → Q (.ref D') { s₁ with heap := h', toks := tk }))) E s)
    (hs : ∀ x, foldedSetIterable iter env x = pure x := by intro _; rfl) :
    wpAny (model prog w) A (eval (.ListComp (.Name x px2) [⟨.Name x px, iter, [c], 0⟩] scope pos) env) Q E s := by
  refine wpAny_ListComp_free p (fun v y => y = v) hclos hcell hkind hnames hx (wpAny_mono h (fun xv s₁ h₁ => ?_) fun _ _ e => e) hs
  obtain ⟨D, items, n, news, h₀, L, m, rfl, hsz, hD, F, N, test, done⟩ := h₁
  have hDo := (N _ hD).1
  have ht : s₁.heap.IsTuple D items := by
    first | exact ⟨_, hDo, rfl, n, rfl⟩ | exact ⟨_, hDo, rfl, rfl⟩ | exact ⟨n, hDo⟩
  have hne : D ≠ s₁.heap.objs.size := Nat.ne_of_lt (Heap.lt_size hDo)
  refine wpAny_pyIter_tuple ht ?_
  have W := Walks.tuple (prog := prog) (w := w) hh s₁.heap.objs.size D hne items
  have hI0 : h₀.get? s₁.heap.objs.size = none := next_is_new F
  have up : ∀ {s₃ : Shared}, (∀ b o, b ∉ [s₁.heap.objs.size] → (s₁.heap.push { cls := .type "tuple_iterator", data := .fields #[.ref D, .int 0 0] }).get? b = some o → s₃.heap.get? b = some o) → ∀ b o, s₁.heap.get? b = some o → s₃.heap.get? b = some o :=
    fun hk b o e => hk b o (fun hm => absurd (Heap.lt_size e) (by rw [List.mem_singleton.mp hm]; exact Nat.lt_irrefl _)) (Heap.get?_push_of_some _ e)
  refine ⟨_, _, _, items.size, _, _, rfl, W, by rw [sizeLine_eq]; omega, ⟨⟨_, Heap.get?_push_size _ rfl, rfl, rfl⟩, ?_⟩, ?_, ⟨?_, ?_⟩, ?_⟩
  · obtain ⟨o, e, r⟩ := ht
    exact ⟨o, Heap.get?_push_of_some _ e, r⟩
  · intro b hb
    show b < (s₁.heap.push _).objs.size
    rw [Heap.size_push]
    rcases List.mem_cons.mp hb with rfl | hb
    · exact Nat.lt_succ_self _
    · rw [List.mem_singleton.mp hb]; exact Nat.lt_succ_of_lt (Heap.lt_size hDo)
  · intro C i v s₃ m₃ E' hC hP hn hm hk _
    have hk' := up hk
    have T := test C v s₃ m₃ (by rw [← Array.getElem?_toList] at hP; exact List.mem_of_getElem? hP) (F.keeps hk') (N.grown hk') hn hm
    rw [List.forIn_cons]
    refine wpAny_bind ?_
    rw [if_pos rfl]
    refine wpAny_bind (wpAny_mono T (fun ok s₄ h4 => ?_) fun _ _ e => e.elim)
    exact wpAny_pure (wpAny_pure h4)
  · intro C i v s₃ m₃ E' hC hP hp hn hm hk _
    refine wpAny_Name (wpAny_loadName_local (env := compEnvC scope cl C env) (by simp [compEnvC, relabel, hkind]) (lookup_relabel_local hx) hn hm ⟨rfl, ?_⟩) hdb
    exact ⟨_, _, rfl, fun _ _ e => e⟩
  · intro D' h' tk ys vs hD' hl hpl hlen hP hF hk
    have hk' : ∀ b o, s₁.heap.get? b = some o → h'.get? b = some o := up (s₃ := { s₁ with heap := h' }) hk
    have e1 : vs = items.toList := by
      apply List.ext_getElem?
      intro j
      cases hj : vs[j]? with
      | some v => have := hP j v hj; rw [← Array.getElem?_toList] at this; exact this.symm
      | none =>
        have h1 : vs.length ≤ j := List.getElem?_eq_none_iff.mp hj
        rw [hlen] at h1
        exact (List.getElem?_eq_none_iff.mpr (by simpa using h1)).symm
    have e2 := paired_same hF
    rw [e1] at e2
    obtain ⟨k, ho⟩ := hpl
    have hys : ys = (items.toList.filter p).toArray := by rw [← e2]
    rw [hys] at ho
    have hD1 : ∀ b o, s₁.heap.get? b = some o → b ≠ D' := fun b o e x => by
      have h1 : (s₁.heap.push { cls := .type "tuple_iterator", data := .fields #[.ref D, .int 0 0] }).get? D' = none := hD'
      rw [← x, Heap.get?_push_of_some _ e] at h1
      cases h1
    refine done D' k h' tk (fun q hq => hD1 _ _ (N q hq).1) (F.keeps hk') fun q hq => ?_
    rcases List.mem_cons.mp hq with rfl | hq
    · refine ⟨ho, fun e => ?_, ?_⟩
      · obtain ⟨oL, _, _, hL, _⟩ := F.ns
        exact hD1 _ _ hL e.symm
      · cases e : h₀.get? D' with
        | none => rfl
        | some o => exact absurd rfl (hD1 _ _ (F.keep _ _ e))
    · exact N.grown hk' q hq
end
end Mine

namespace Mine
set_option maxRecDepth 100000
open PySem.Builtin
theorem slot_bytes_join : Slot "bytes" "join" "bytes.join" :=
  .of (owner := "bytes") (n := "join") (by rw [typeLookup_type, builtinLookup_eq_fast]; kernel_rfl) (by decide +kernel) (by decide +kernel) (by decide +kernel)
    (by first | exact .inl (by decide +kernel) | exact .inr (by decide +kernel)) (by rw [isSubtype_type]; kernel_rfl)
theorem type_bytes_join : typeOf (.builtin "bytes.join") = pure (.type "method_descriptor") := by show builtinType _ = _; rw [builtinType_eq_fast]; kernel_rfl
theorem entry_bytes_join : entryFor table "bytes.join" = some Builtin.«bytes.join» := entryFor_of_tree (by kernel_rfl)
theorem args_bytes_join_2 (a b : Value) : argsOk "bytes.join" ⟨[a, b], []⟩ := by
  unfold argsOk; rw [signature?_of (id := "bytes.join") (n := ['n', 'i', 'o', 'j']) (o := ['s', 'e', 't', 'y', 'b']) (by kernel_rfl) FB.owner_bytes]; kernel_rfl
section
variable {b : Array UInt8} {t : Tok}
theorem take_eq {id : String} : Bytes.takeBufferQuiet? id (.bytes b t) 0 = pure (some (b, none)) := by
  unfold Bytes.takeBufferQuiet? Bytes.takeBuffer?
  rw [KBy.special_eq KBy.look_buffer, KBy.own_buffer]
  have e : Bytes.buffer? id (.bytes b t) (full := (0 : Int) == Bytes.fullReadOnly) = pure (some b) := by
    have e1 : ((0 : Int) == Bytes.fullReadOnly) = false := by decide
    rw [e1]; exact KBy.buffer_eq
  simp only [pure_bind, Bool.not_true, Bool.false_eq_true, if_false]
  rw [e]
  rfl
end
section
variable {M : Model} {A : Around} {E : Value → Shared → Prop} {s : Shared}
def stepTo {β : Type} (J : β → Prop) : ForInStep β → Prop
  | .done _ => False
  | .yield c => J c
theorem forRange_any {β : Type} {n : Nat} {f : Nat → β → Sem (ForInStep β)} (I : Nat → β → Prop) {Q : β → Shared → Prop}
    (hstep : ∀ i c, i < n → I i c → wpAny M A (f i c) (fun r s' => s' = s ∧ stepTo (I (i + 1)) r) E s)
    (hend : ∀ c, I n c → Q c s) {c : β} (h : I 0 c) : wpAny M A (forIn [0:n] c f) Q E s := by
  rw [Std.Legacy.Range.forIn_eq_forIn_range']
  have hsz : ([0:n] : Std.Legacy.Range).size = n := by simp [Std.Legacy.Range.size]
  show wpAny M A (forIn (List.range' 0 ([0:n] : Std.Legacy.Range).size 1) c f) Q E s
  rw [hsz]
  refine wpAny_forIn_list f (fun l c st => st = s ∧ ∃ i, i ≤ n ∧ l = List.range' i (n - i) 1 ∧ I i c) Q ?_ ?_ _ c ⟨rfl, 0, Nat.zero_le _, by simp, h⟩
  · rintro x rest c st ⟨rfl, i, hib, hl, hI⟩
    have hlt : i < n := by
      rcases Nat.lt_or_ge i n with h' | h'
      · exact h'
      · rw [show n - i = 0 by omega] at hl; simp at hl
    obtain ⟨k, hn⟩ : ∃ k, n - i = k + 1 := ⟨n - i - 1, by omega⟩
    rw [hn, List.range'_succ] at hl
    obtain ⟨rfl, rfl⟩ := List.cons.inj hl
    refine wpAny_mono (hstep x c hlt hI) (fun r st' h' => ?_) fun _ _ e => e
    obtain ⟨rfl, h'⟩ := h'
    cases r with
    | done c' => exact h'.elim
    | yield c' => exact ⟨rfl, x + 1, by omega, by congr 1; omega, h'⟩
  · rintro c st ⟨rfl, i, hib, hl, hI⟩
    have : i = n := by
      rcases Nat.lt_or_ge i n with h' | h'
      · obtain ⟨k, hn⟩ : ∃ k, n - i = k + 1 := ⟨n - i - 1, by omega⟩
        rw [hn, List.range'_succ] at hl; simp at hl
      · omega
    subst this; exact hend _ hI
theorem joinLetGo_any {keep : List Value} {Q : Unit → Shared → Prop} (h : Q () s) : ∀ taken : List (Value × Option Value), (∀ p ∈ taken, p.2 = none) → wpAny M A (Bytes.joinLetGo taken keep) Q E s
  | [], _ => wpAny_pure h
  | (x, w) :: rest, hn => by
    have e : w = none := hn _ (List.mem_cons_self ..)
    subst e
    rw [Bytes.joinLetGo]
    · exact wpAny_bind (wpAny_letGo (joinLetGo_any h rest fun p hp => hn p (List.mem_cons_of_mem _ hp)))
    · intro _ e; cases e
end

/-- values that are bytes, by their arrays -/
inductive ArrAre : List Value → List (Array UInt8) → Prop
  | nil : ArrAre [] []
  | cons {b : Array UInt8} {t : Tok} {vs : List Value} {bs : List (Array UInt8)} (h : ArrAre vs bs) : ArrAre (.bytes b t :: vs) (b :: bs)
theorem ArrAre.length : ∀ {vs : List Value} {bs : List (Array UInt8)}, ArrAre vs bs → vs.length = bs.length
  | _, _, .nil => rfl
  | _, _, .cons h => congrArg (· + 1) h.length
theorem ArrAre.get {vs : List Value} {bs : List (Array UInt8)} (h : ArrAre vs bs) : ∀ (i : Nat) {b : Array UInt8}, bs[i]? = some b → ∃ t, vs[i]? = some (.bytes b t) := by
  induction h with
  | nil => intro i v h; cases h
  | cons h ih =>
    intro i v hv
    cases i with
    | zero => cases hv; exact ⟨_, rfl⟩
    | succ i => exact ih i hv
def joinA (bs : List (Array UInt8)) : Array UInt8 := bs.foldl (· ++ ·) #[]
theorem joined_none (bs : List (Array UInt8)) : Bytes.joined #[] bs = joinA bs := by
  unfold Bytes.joined joinA
  have key : ∀ (l : List (Array UInt8)) (n : Nat) (a : Array UInt8), (l.zipIdx n).foldl (fun out (x : Array UInt8 × Nat) => (if x.2 > 0 then out ++ (#[] : Array UInt8) else out) ++ x.1) a = l.foldl (· ++ ·) a := by
    intro l
    induction l with
    | nil => intro n a; rfl
    | cons x r ih =>
      intro n a
      rw [List.zipIdx_cons, List.foldl_cons, List.foldl_cons, ih]
      congr 1
      split <;> simp
  exact key bs 0 #[]
theorem jm_one {α : Type} (x : Value) (f : Value → α) (g : Array Value → α) : Bytes.joinM.match_1 (fun _ => α) #[x] f g = f x := by with_unfolding_all rfl
theorem jm_ne {α : Type} {xs : Array Value} (h : ¬ xs.size = 1) (f : Value → α) (g : Array Value → α) : Bytes.joinM.match_1 (fun _ => α) xs f g = g xs := by
  unfold Bytes.joinM.match_1
  rw [dif_neg h]
theorem joinA_size (bs : List (Array UInt8)) : (joinA bs).size = (bs.map (·.size)).sum := by
  unfold joinA
  have key : ∀ (l : List (Array UInt8)) (a : Array UInt8), (l.foldl (· ++ ·) a).size = a.size + (l.map (·.size)).sum := by
    intro l
    induction l with
    | nil => intro a; simp
    | cons x r ih => intro a; rw [List.foldl_cons, ih, Array.size_append, List.map_cons, List.sum_cons]; omega
  rw [key]; simp
theorem foldl_size (bs : List (Array UInt8)) (n : Nat) : bs.toArray.foldl (fun a (p : Array UInt8) => a + p.size) n = n + (bs.map (·.size)).sum := by
  rw [← Array.foldl_toList]
  induction bs generalizing n with
  | nil => simp
  | cons x r ih => 
    show (r.foldl _ (n + x.size)) = _
    have := ih (n + x.size)
    rw [List.map_cons, List.sum_cons]
    simp only at this
    rw [this]; omega
section
variable {prog : Program} {w : World} {A : Around} {E : Value → Shared → Prop} {s : Shared}
theorem join_arr {l : Addr} {vs : List Value} {bs : List (Array UInt8)} {t : Tok} {P : Fin → Shared → Prop} (hl : s.heap.IsList l vs.toArray) (hb : ArrAre vs bs) (hsz : vs.length ≤ 100000) (htot : (bs.map (·.size)).sum ≤ 16777216)
    (h : ∀ t' k, P (.done (.ret (.bytes (joinA bs) t'))) { s with toks := k }) : wpAny (model prog w) A (Builtin.«bytes.join» ⟨[.bytes #[] t, .ref l], []⟩) P E s := by
  show wpAny _ _ (Bytes.joinM .bytes ⟨[.bytes #[] t, .ref l], []⟩) _ _ _
  unfold Bytes.joinM
  dsimp only
  refine wpAny_bind (wpAny_of_eq (a := (.bytes #[] t, .ref l)) rfl ?_)
  dsimp only
  obtain ⟨o, ho, hc, n, hd⟩ := id hl
  rw [if_pos (by decide)]
  refine wpAny_bind ?_
  unfold Bytes.joinItems
  refine wpAny_bind (wpAny_typeOf hl.typeIs ?_)
  rw [if_pos (by decide)]
  refine wpAny_pure ?_
  refine wpAny_bind (wpAny_seqItems ho hd ?_)
  dsimp only
  rw [if_pos (by decide)]
  have tail : ∀ {id : String} {f : Nat → Array (Array UInt8) × List (Value × Option Value) → Sem (ForInStep (Array (Array UInt8) × List (Value × Option Value)))} {k : Array (Array UInt8) × List (Value × Option Value) → Sem PySem.Fin},
      (∀ i c, i < vs.length → (c.1 = (bs.take i).toArray ∧ ∀ p ∈ c.2, p.2 = none ∧ p.1.onHeap = false) → wpAny (model prog w) A (f i c) (fun r s' => s' = s ∧ stepTo (fun c' => c'.1 = (bs.take (i + 1)).toArray ∧ ∀ p ∈ c'.2, p.2 = none ∧ p.1.onHeap = false) r) E s) →
      (∀ c, c.1 = bs.toArray → (∀ p ∈ c.2, p.2 = none) → wpAny (model prog w) A (k c) P E s) → wpAny (model prog w) A (forIn [0:vs.toArray.size] (#[], []) f >>= k) P E s := by
    intro id f k hf hk
    refine wpAny_bind ?_
    rw [List.size_toArray]
    refine forRange_any (fun i c => c.1 = (bs.take i).toArray ∧ ∀ p ∈ c.2, p.2 = none ∧ p.1.onHeap = false) hf (fun c hc => hk c ?_ fun p hp => (hc.2 p hp).1) ⟨rfl, fun _ hp => nomatch hp⟩
    rw [hc.1, hb.length, List.take_length]
  by_cases h1 : vs.toArray.size = 1
  · rw [List.size_toArray] at h1
    cases hb with
    | nil => cases h1
    | @cons b u vs bs hb' =>
      cases hb' with
      | nil =>
        rw [jm_one]
        refine wpAny_bind (wpAny_typeOf (typeIs_bytes _ _ _) ?_)
        rw [if_pos (by decide)]
        refine wpAny_bind (wpAny_rule ?_)
        have e : joinA [b] = b := by unfold joinA; simp
        have h9 := h u s.toks
        rw [e] at h9
        exact wpAny_pure h9
      | cons _ => simp at h1
  · rw [jm_ne h1]
    refine tail (id := "") ?_ ?_
    · rintro i ⟨ps, tk⟩ hi ⟨h1, h2⟩
      dsimp only at h1 h2 ⊢
      refine wpAny_bind (wpAny_seqItems ho hd ?_)
      dsimp only
      have e1 : (Bytes.Kind.bytes == Bytes.Kind.bytearray || tk.any fun x => x.fst.onHeap) = false := by
        have : (tk.any fun x => x.fst.onHeap) = false := by
          rw [List.any_eq_false]
          intro p hp
          rw [(h2 p hp).2]
          exact Bool.false_ne_true
        rw [this]; rfl
      rw [e1, if_neg Bool.false_ne_true]
      obtain ⟨b, hbi⟩ : ∃ b, bs[i]? = some b := ⟨_, List.getElem?_eq_getElem (by rw [← hb.length]; exact hi)⟩
      obtain ⟨u, hvi⟩ := hb.get i hbi
      have e2 : vs.toArray.getD i Value.none = .bytes b u := by simp [Array.getD_eq_getD_getElem?, hvi]
      rw [e2]
      refine wpAny_bind (wpAny_holding (wpAny_of_eq take_eq ?_))
      dsimp only
      refine wpAny_bind (wpAny_seqItems ho hd ?_)
      dsimp only
      rw [if_neg (by simp)]
      refine wpAny_pure ⟨rfl, ?_, ?_⟩
      · show ps.push b = _
        rw [h1, List.take_add_one, hbi]; simp
      · intro p hp
        rcases List.mem_append.mp hp with h3 | h3
        · exact h2 p h3
        · rw [List.mem_singleton.mp h3]; exact ⟨rfl, rfl⟩
    · rintro ⟨ps, tk⟩ h1 h2
      dsimp only at h1 h2 ⊢
      subst h1
      refine wpAny_bind (wpAny_of_eq (a := #[]) rfl ?_)
      have e3 : Bytes.tooLong (Array.foldl (fun (x1 : Nat) (x2 : Array UInt8) => x1 + x2.size) ((#[] : Array UInt8).size * (bs.toArray.size - 1)) bs.toArray) = false := by
        refine KBy.tooLong_not ?_
        rw [foldl_size]
        simp only [List.size_toArray, List.length_nil, Nat.zero_mul, Nat.zero_add]
        exact htot
      rw [e3, if_neg Bool.false_ne_true]
      have e4 : Bytes.joined #[] bs.toArray.toList = joinA bs := joined_none bs
      rw [e4]
      show wpAny _ _ (mkBytes (joinA bs) >>= _) _ _ _
      refine wpAny_bind (wpAny_mkBytes ?_ (by rw [joinA_size, sizeLine_eq]; exact htot))
      refine wpAny_bind (wpAny_holding (wpAny_point ?_))
      exact wpAny_bind (joinLetGo_any (wpAny_pure (h _ _)) tk h2)
theorem call_join {l : Addr} {vs : List Value} {bs : List (Array UInt8)} {t : Tok} {Q : Value → Shared → Prop} (hl : s.heap.IsList l vs.toArray) (hb : ArrAre vs bs) (hsz : vs.length ≤ 100000) (htot : (bs.map (·.size)).sum ≤ 16777216)
    (h : ∀ t' k, Q (.bytes (joinA bs) t') { s with toks := k }) : wpAny (model prog w) A (call (.builtin "bytes.join") [.bytes #[] t, .ref l]) Q E s :=
  wpAny_call_entry slot_bytes_join (typeIs_bytes _ _ _) entry_bytes_join (join_arr hl hb hsz htot fun t' k => ⟨_, rfl, h t' k⟩) (args_bytes_join_2 _ _)
theorem meth_join {M : Model} {b : Array UInt8} {t : Tok} {pl : Sem Bool} {Q : Value × List Value → Shared → Prop} (h : Q (.builtin "bytes.join", [.bytes b t]) s) : wpAny M A (getMethod (.bytes b t) "join" pl) Q E s := by
  with_reducible exact KBd.method_of (.bytes b t) (typeIs_bytes _ _ _) slot_bytes_join type_bytes_join KBd.noRef h
end
end Mine

namespace Mine

theorem fold_app : ∀ (r : List MStr) (acc : Array Nat), r.foldl (fun acc p => acc ++ (Str.ofString "").cps ++ p.cps) acc = acc ++ (r.flatMap (fun y => y.cps.toList)).toArray
  | [], acc => by simp
  | p :: r, acc => by
    have e : (Str.ofString "").cps = #[] := by decide +kernel
    rw [List.foldl_cons, fold_app r, e]
    apply Array.toList_inj.mp
    simp
theorem join_nil (ys : List MStr) : PySem.Txt.join (Str.ofString "") ys = Str.mk (ys.flatMap (fun y => y.cps.toList)).toArray := by
  show Builtin.Str.glued (Str.ofString "") ys = _
  cases ys with
  | nil => rfl
  | cons y r =>
    show (Str.mk (r.foldl (fun acc p => acc ++ (Str.ofString "").cps ++ p.cps) y.cps)) = _
    rw [fold_app]
    congr 1
    apply Array.toList_inj.mp
    simp
def oneS (c : Nat) : MStr := Str.mk #[c]
theorem flat_ones (cz : List Nat) : (cz.map oneS).flatMap (fun y => y.cps.toList) = cz := by
  induction cz with
  | nil => rfl
  | cons a r ih => rw [List.map_cons, List.flatMap_cons, ih]; rfl
theorem sum_ones (cz : List Nat) : ((cz.map oneS).map (·.length)).sum = cz.length := by
  induction cz with
  | nil => rfl
  | cons a r ih => simp only [List.map_cons, List.sum_cons, List.length_cons, ih]; show 1 + _ = _; omega
/-- a sign that the law draws -/
def OkS (c : Nat) : Prop := 0 < c ∧ c < 1114112 ∧ (c < 55296 ∨ 57343 < c)
def menuC : List Nat := [233, 8226, 37, 39, 42, 128512, 97, 9]
theorem menu_are (t1 t2 t3 t4 t5 t6 t7 t8 : MTok) : StrsAre [.str (Str.ofString "é") t1, .str (Str.ofString "•") t2, .str (Str.ofString "%") t3, .str (Str.ofString "'") t4, .str (Str.ofString "*") t5, .str { cps := #[Int.toNat 128512] } t6, .str (Str.ofString "a") t7, .str (Str.ofString "\t") t8] (menuC.map oneS) := by
  have e1 : Str.ofString "é" = oneS 233 := by decide +kernel
  have e2 : Str.ofString "•" = oneS 8226 := by decide +kernel
  have e3 : Str.ofString "%" = oneS 37 := by decide +kernel
  have e4 : Str.ofString "'" = oneS 39 := by decide +kernel
  have e5 : Str.ofString "*" = oneS 42 := by decide +kernel
  have e7 : Str.ofString "a" = oneS 97 := by decide +kernel
  have e8 : Str.ofString "\t" = oneS 9 := by decide +kernel
  rw [e1, e2, e3, e4, e5, e7, e8]
  exact .cons _ _ (.cons _ _ (.cons _ _ (.cons _ _ (.cons _ _ (.cons (oneS 128512) _ (.cons _ _ (.cons _ _ .nil)))))))
theorem menu_ok : ∀ k : Nat, k < 8 → OkS (menuC.getD k 0) := by
  intro k hk
  rcases (show k = 0 ∨ k = 1 ∨ k = 2 ∨ k = 3 ∨ k = 4 ∨ k = 5 ∨ k = 6 ∨ k = 7 by omega) with h | h | h | h | h | h | h | h <;> subst h <;> exact ⟨by decide, by decide, by decide⟩
theorem menu_get : ∀ k : Nat, k < 8 → (menuC.map oneS).getD k Str.empty = Str.mk #[menuC.getD k 0] := by
  intro k hk
  rcases (show k = 0 ∨ k = 1 ∨ k = 2 ∨ k = 3 ∨ k = 4 ∨ k = 5 ∨ k = 6 ∨ k = 7 by omega) with h | h | h | h | h | h | h | h <;> subst h <;> rfl
section
variable {prog : Program} {w : World} {A : Around} {E : Value → Shared → Prop} {s : Shared} {Q : Value → Shared → Prop}
theorem menu_item {value slice : Expr} {l : Addr} {vs : List Value} {k : Int} {u : Tok} (hl : s.heap.IsList l vs.toArray) (hi : StrsAre vs (menuC.map oneS)) (h0 : 0 ≤ k) (hk : k < 8) (h : ∀ c t, OkS c → Q (.str (Str.mk #[c]) t) s)
    (hs : subscripted slice false (.ref l) (.int k u) = operate [.ref l, .int k u] (getItem (.ref l) (.int k u)) := by with_unfolding_all rfl) :
    wpAny (model prog w) A (subscriptTail value slice (.ref l) (.int k u)) Q E s :=
  item_strsR hl hi h0 (by show k < ((8 : Nat) : Int); omega) (by omega) (fun t => by rw [menu_get _ (by omega)]; exact h _ t (menu_ok _ (by omega))) hs
theorem join_oneS {D : Addr} {us : List Value} {cz : List Nat} {t : Tok} (hl : s.heap.IsList D us.toArray) (hi : StrsAre us (cz.map oneS)) (hc : cz.length ≤ 100000) (h : ∀ t' k, Q (.str (Str.mk cz.toArray) t') { s with toks := k }) :
    wpAny (model prog w) A (call (.builtin "str.join") [.str (Str.ofString "") t, .ref D]) Q E s := by
  have z : (Str.ofString "").length = 0 := by decide +kernel
  refine join_list (ys := cz.map oneS) hl (by simpa using hi) (by rw [sum_ones, z]; omega) fun t' k => ?_
  rw [join_nil, flat_ones]
  exact h t' k
end
end Mine

namespace Mine
set_option maxRecDepth 100000
theorem turn_in (elt t1 t2 it1 it2 : Expr) (scope : Scope) (pos : Pos) (it acc : Value) (env : Env) :
    compTurn (.ListComp elt [⟨t1, it1, [], 0⟩, ⟨t2, it2, [], 0⟩] scope pos) 1 it acc env = (standAt it2.pos >>= fun _ => pyNext it >>= fun r => match r with
      | none => pure (.done .next)
      | some v => letOwnedTupleGo t2 it v >>= fun _ => assign t2 env v >>= fun _ =>
        (eval elt env >>= fun x => call (.builtin "list.append") [acc, x] >>= fun _ => pure ()) >>= fun _ =>
          again (.compLoop (.ListComp elt [⟨t1, it1, [], 0⟩, ⟨t2, it2, [], 0⟩] scope pos) 1 it acc env)) := by rfl
theorem turn_out (elt t1 t2 it1 it2 : Expr) (scope : Scope) (pos : Pos) (it acc : Value) (env : Env) :
    compTurn (.ListComp elt [⟨t1, it1, [], 0⟩, ⟨t2, it2, [], 0⟩] scope pos) 0 it acc env = (standAt it1.pos >>= fun _ => pyNext it >>= fun r => match r with
      | none => pure (.done .next)
      | some v => letOwnedTupleGo t1 it v >>= fun _ => assign t1 env v >>= fun _ =>
        eval it2 env >>= fun x => standAt it2.pos >>= fun _ => foldedSetIterable it2 env x >>= fun x => holding [x] (pyIter x) >>= fun j =>
          runOwn (.compStart (.ListComp elt [⟨t1, it1, [], 0⟩, ⟨t2, it2, [], 0⟩] scope pos) 1 j acc env) env >>= fun _ =>
          again (.compLoop (.ListComp elt [⟨t1, it1, [], 0⟩, ⟨t2, it2, [], 0⟩] scope pos) 0 it acc env)) := by rfl

section
variable {prog : Program} {w : World} {A : Around} {R : Result → Shared → Prop} {s : Shared}
theorem start_in {elt t1 t2 it1 it2 : Expr} {scope : Scope} {pos : Pos} {it acc : Value} {env : Env}
    (h0 : codeAny (model prog w) A (.compLoop (.ListComp elt [⟨t1, it1, [], 0⟩, ⟨t2, it2, [], 0⟩] scope pos) 1 it acc env) R s)
    (h : wpAny (model prog w) A (pyIter it) (fun it' s' => codeAny (model prog w) A (.compLoop (.ListComp elt [⟨t1, it1, [], 0⟩, ⟨t2, it2, [], 0⟩] scope pos) 1 it' acc env) R s')
      (notedBy (model prog w) A env fun x s' => R (.error x) s') s) :
    codeAny (model prog w) A (.compStart (.ListComp elt [⟨t1, it1, [], 0⟩, ⟨t2, it2, [], 0⟩] scope pos) 1 it acc env) R s := by
  refine codeAny_of_tree ?_
  show wpAny _ _ ((ask >>= fun wd => if wd.params.followText "comprehension-iter-twice" then _ else _ : Sem Fin).onRaise (fun x => do noteFrame x env; standAt theWindowsPlace)) _ _ s
  refine wpAny_notedAt (wpAny_bind (wpAny_askSetting ?_))
  split
  · exact wpAny_bind (wpAny_pure (wpAny_pure ⟨rfl, h0⟩))
  · refine wpAny_bind (wpAny_rule ?_)
    show wpAny _ _ (standAt it2.pos >>= _) _ _ s
    exact wpAny_bind (wpAny_standAt (wpAny_bind (wpAny_mono h (fun it' s' h' => wpAny_pure ⟨rfl, h'⟩) fun _ _ x => x)))
end

section
variable {prog : Program} {w : World} {A : Around} {s : Shared} {h₀ : Heap} {L : Addr} {m : Str → Option Value}
/-- what an inner clause's source leaves: a list of its own upon the ledger -/
def SrcStep (h₀ : Heap) (L : Addr) (m : Str → Option Value) (led : List (Addr × Obj)) (G : List Value → Prop) (s₁ : Shared) (xv : Value) (s' : Shared) : Prop :=
  ∃ (r : Addr) (us : List Value) (nn : Nat) (h' : Heap) (tk' : Nat), xv = .ref r ∧ s' = { s₁ with heap := h', toks := tk' } ∧ Fr h₀ L h' m ∧ News h₀ L h' ((r, PySem.W.listOf us.toArray nn) :: led) ∧ (∀ p ∈ led, p.1 ≠ r) ∧ G us
theorem SrcStep.mk' {led news' : List (Addr × Obj)} {G : List Value → Prop} {s₁ : Shared} {r : Addr} {us : List Value} {nn : Nat} {h' : Heap} {tk' : Nat} (F : Fr h₀ L h' m) (N : News h₀ L h' news') (hs : ∀ p ∈ (r, PySem.W.listOf us.toArray nn) :: led, p ∈ news') (hne : ∀ p ∈ led, p.1 ≠ r) (g : G us) :
    SrcStep h₀ L m led G s₁ (.ref r) { s₁ with heap := h', toks := tk' } := ⟨r, us, nn, h', tk', rfl, rfl, F, fun p hp => N p (hs p hp), hne, g⟩

/-- a comprehension of two clauses: what it wants of its first iterator -/
structure Two (prog : Program) (w : World) (A : Around) (env : Env) (scope : Scope) (cl : List (Str × Addr)) (x x2 : Str) (elt it2 : Expr) (h₀ : Heap) (L : Addr) (m : Str → Option Value) (s₂ : Shared) (nx : List (Addr × Obj)) (n : Nat) (P : Nat → Value → Prop)
    (R : Nat → List Value → Prop) (G : Nat → List Value → Prop) (S : Nat → List Value → Nat → List Value → Prop) : Prop where
  nil : R 0 []
  small : ∀ i ys, R i ys → ys.length ≤ 1000000
  few : ∀ i us, G i us → us.length ≤ 1000000
  first : ∀ i us ys, R i ys → G i us → S i us 0 ys
  last : ∀ i us ys, i < n → G i us → S i us us.length ys → R (i + 1) ys
  src : ∀ i v own C oC mC h tk, i < n → P i v → (∀ p ∈ nx, p.1 < C) → OwnOff own (nx.map (·.1)) → NsObj oC mC → mC x = some v → Fr h₀ L h m → News h₀ L h ((C, oC) :: (nx ++ own)) →
    wpAny (model prog w) A (eval it2 (compEnvC scope cl C env)) (SrcStep h₀ L m ((C, oC) :: (nx ++ own)) (G i) { s₂ with heap := h, toks := tk }) (fun _ _ => False) { s₂ with heap := h, toks := tk }
  inner : ∀ i us j v2 ys own C oC mC h tk, i < n → G i us → us[j]? = some v2 → S i us j ys → (∀ p ∈ nx, p.1 < C) → OwnOff own (nx.map (·.1)) → NsObj oC mC → mC x2 = some v2 → Fr h₀ L h m → News h₀ L h ((C, oC) :: (nx ++ own)) →
    wpAny (model prog w) A (eval elt (compEnvC scope cl C env)) (QuietStep h₀ L m ((C, oC) :: (nx ++ own)) (S i us (j + 1)) ys { s₂ with heap := h, toks := tk }) (fun _ _ => False) { s₂ with heap := h, toks := tk }

theorem engine2 {elt it1 it2 : Expr} {x x2 : Str} {px px2 : Pos} {scope : Scope} {pos : Pos} {cl : List (Str × Addr)} {env : Env} {s₂ : Shared} {C D I : Addr} {n : Nat} {P : Nat → Value → Prop} {St : Nat → Heap → Prop} {nx : List (Addr × Obj)}
    {Rr : Nat → List Value → Prop} {G : Nat → List Value → Prop} {S : Nat → List Value → Nat → List Value → Prop} {R : Result → Shared → Prop}
    (T : Two prog w A env scope cl x x2 elt it2 h₀ L m s₂ nx n P Rr G S) (hh : A.handled = none)
    (hx : (compEnvC scope cl C env).kindOf x = some .local) (hx2 : (compEnvC scope cl C env).kindOf x2 = some .local)
    (hp : ((compEnvC scope cl C env).scope.kind == .class || ((compEnvC scope cl C env).scope.kind == .module && (compEnvC scope cl C env).locals != (compEnvC scope cl C env).globals)) = false)
    (hs2 : ∀ v, foldedSetIterable it2 (compEnvC scope cl C env) v = pure v)
    (W : Walks prog w A I [I] [I] n P St) (hsz : n ≤ 1000000) (d : CD h₀ L C D I (nx.map (·.1))) (hCn : ∀ p ∈ nx, p.1 < C)
    {h : Heap} {tk : Nat} (hst : St 0 h) (S0 : CS h₀ L C D m h [] nx)
    (done : ∀ ys h tk, Rr n ys → CS h₀ L C D m h ys nx → R (.ok .next) { s₂ with heap := h, toks := tk }) :
    codeAny (model prog w) A (.compLoop (.ListComp elt [⟨.Name x px, it1, [], 0⟩, ⟨.Name x2 px2, it2, [], 0⟩] scope pos) 0 (.ref I) (.ref D) (compEnvC scope cl C env)) R { s₂ with heap := h, toks := tk } := by
  refine codeAny_loop rfl (fun k s' => ∃ i h tk ys, s' = { s₂ with heap := h, toks := tk } ∧ i ≤ n ∧ k = n + 1 - i ∧ St i h ∧ CS h₀ L C D m h ys nx ∧ Rr i ys) ?_ (n + 1)
    ⟨0, h, tk, [], rfl, Nat.zero_le _, rfl, hst, S0, T.nil⟩
  rintro k s' ⟨i, h, tk, ys, rfl, hi, rfl, hst', S', hR⟩
  show wpAny _ _ ((compTurn (.ListComp elt [⟨.Name x px, it1, [], 0⟩, ⟨.Name x2 px2, it2, [], 0⟩] scope pos) 0 (.ref I) (.ref D) (compEnvC scope cl C env)).onRaise (fun x => do noteFrame x (compEnvC scope cl C env); theTreesLotGoes x)) _ _ _
  refine wpAny_noted ?_
  rw [turn_out]
  have keepI : ∀ {h h' : Heap}, (∀ b o, b ∉ [I] → h.get? b = some o → h'.get? b = some o) → ∀ b o, b ≠ I → h.get? b = some o → h'.get? b = some o := fun hk b o hb e => hk b o (fun hm => hb (List.mem_singleton.mp hm)) e
  refine wpAny_bind (wpAny_standAt (wpAny_bind ?_))
  by_cases hlt : i < n
  · refine W.item i _ _ _ hlt hst' fun v h₁ tk₁ hPv hst₁ hk₁ => ?_
    have S₁ := S'.but d.iL d.i0 d.iC.symm d.iD.symm d.iA (keepI hk₁)
    obtain ⟨mC, hn₁⟩ := S₁.ns
    refine wpAny_bind (wpAny_of_eq rfl (wpAny_bind (wpAny_assign_Name (wpAny_storeName_local hx hn₁ (fun h₂ hn₂ hs₂ => ?_) hp))))
    have hn₂ : h₂.Ns C (fun y => if y = x then some v else mC y) := hn₂
    have hs₂ : Heap.SameBut C h₁ h₂ := hs₂
    have F₂ : Fr h₀ L h₂ m := S₁.F.change hs₂ d.cL d.c0
    have N₂ : News h₀ L h₂ nx := fun p hp => ⟨but_same hs₂ _ _ (fun e => d.cA (List.mem_map.mpr ⟨p, hp, e⟩)) (S₁.N p hp).1, (S₁.N p hp).2⟩
    have acc₂ := S₁.acc.at fun o e => but_same hs₂ D o d.dC e
    have hst₂ : St (i + 1) h₂ := W.frame _ _ _ hst₁ fun b hb o e => but_same hs₂ b o (fun x => d.iC ((List.mem_singleton.mp hb).symm.trans x)) e
    obtain ⟨oC, hoC, hNs⟩ := NsObj.of hn₂
    obtain ⟨kD, hoD⟩ := id acc₂
    let ownI : List (Addr × Obj) := match h₂.get? I with | some o => [(I, o)] | none => []
    have hoI : ∀ p ∈ ownI, p.1 = I ∧ h₂.get? I = some p.2 := by
      intro p hp
      show p.1 = I ∧ _
      revert hp
      show p ∈ (match h₂.get? I with | some o => [(I, o)] | none => []) → _
      cases h₂.get? I with
      | none => intro hp; cases hp
      | some o => intro hp; cases List.mem_singleton.mp hp; exact ⟨rfl, rfl⟩
    have hoI' : ∀ o, h₂.get? I = some o → (I, o) ∈ ownI := by
      intro o e
      show (I, o) ∈ (match h₂.get? I with | some o => [(I, o)] | none => [])
      rw [e]; exact List.mem_singleton.mpr rfl
    let own : List (Addr × Obj) := (D, { cls := .type "list", data := .seq ys.toArray kD }) :: ownI
    have hoff : OwnOff own (nx.map (·.1)) := by
      intro p hp b hb e
      rcases List.mem_cons.mp hp with rfl | hp
      · exact d.dA (by rw [show D = b from e]; exact hb)
      · exact d.iA (by rw [← (hoI p hp).1, e]; exact hb)
    have Nown : News h₀ L h₂ ((C, oC) :: (nx ++ own)) := by
      intro p hp
      rcases List.mem_cons.mp hp with rfl | hp
      · exact ⟨hoC, d.cL, d.c0⟩
      · rcases List.mem_append.mp hp with hp | hp
        · exact N₂ p hp
        · rcases List.mem_cons.mp hp with rfl | hp
          · exact ⟨hoD, d.dL, d.d0⟩
          · obtain ⟨e1, e2⟩ := hoI p hp
            exact ⟨by rw [e1]; exact e2, by rw [e1]; exact d.iL, by rw [e1]; exact d.i0⟩
    refine wpAny_bind (wpAny_mono (T.src i v own C oC _ h₂ _ hlt hPv hCn hoff hNs (by simp) F₂ Nown) (fun xv s₃ hy => ?_) fun _ _ x => x.elim)
    obtain ⟨r, us, nn, h₃, tk₃, rfl, rfl, F₃, N₃, hne, hG⟩ := hy
    refine wpAny_bind (wpAny_standAt (wpAny_bind (wpAny_of_eq (hs2 _) (wpAny_bind (wpAny_holding ?_)))))
    have hol : h₃.get? r = some (PySem.W.listOf us.toArray nn) := (N₃ _ (List.mem_cons_self ..)).1
    have hls : h₃.IsList r us.toArray := ⟨_, hol, rfl, nn, rfl⟩
    refine wpAny_pyIter_list hls ?_
    show wpAny _ _ _ _ _ _
    refine wpAny_bind (wpAny_runOwn ?_)
    have hlen : us.toArray.size = us.length := by simp
    have hJr : r ≠ h₃.objs.size := Nat.ne_of_lt (Heap.lt_size hol)
    have W2 := Walks.list (prog := prog) (w := w) hh h₃.objs.size r hJr us.toArray
    rw [hlen] at W2
    generalize hH4 : h₃.push { cls := .type "list_iterator", data := .fields #[.ref r, .int 0 0] } = h₄
    have old : ∀ b o, h₃.get? b = some o → h₄.get? b = some o := fun b o e => hH4 ▸ Heap.get?_push_of_some _ e
    have hstJ : h₄.IsListIter h₃.objs.size r 0 ∧ h₄.IsList r us.toArray := ⟨hH4 ▸ ⟨_, Heap.get?_push_size _ rfl, rfl, rfl⟩, hls.at fun o e => old _ _ e⟩
    have hget : ∀ p ∈ (C, oC) :: (nx ++ own), h₃.get? p.1 = some p.2 := fun p hp => (N₃ p (List.mem_cons_of_mem _ hp)).1
    have hJold : ∀ b, (∃ o, h₃.get? b = some o) → h₃.objs.size ≠ b := fun b ⟨o, e⟩ x => Nat.lt_irrefl _ (x ▸ Heap.lt_size e)
    have mC' : (C, oC) ∈ (C, oC) :: (nx ++ own) := List.mem_cons_self ..
    have mN : ∀ p ∈ nx, p ∈ (C, oC) :: (nx ++ own) := fun p hp => List.mem_cons_of_mem _ (List.mem_append.mpr (.inl hp))
    have mD : (D, ({ cls := .type "list", data := .seq ys.toArray kD } : Obj)) ∈ (C, oC) :: (nx ++ own) := List.mem_cons_of_mem _ (List.mem_append.mpr (.inr (List.mem_cons_self ..)))
    have mI : ∀ p ∈ ownI, p ∈ (C, oC) :: (nx ++ own) := fun p hp => List.mem_cons_of_mem _ (List.mem_append.mpr (.inr (List.mem_cons_of_mem _ hp)))
    let nx2 : List (Addr × Obj) := (r, PySem.W.listOf us.toArray nn) :: (nx ++ ownI)
    have hnx2 : ∀ p ∈ nx2, p ∈ (r, PySem.W.listOf us.toArray nn) :: ((C, oC) :: (nx ++ own)) := by
      intro p hp
      rcases List.mem_cons.mp hp with rfl | hp
      · exact List.mem_cons_self ..
      · rcases List.mem_append.mp hp with hp | hp
        · exact List.mem_cons_of_mem _ (mN p hp)
        · exact List.mem_cons_of_mem _ (mI p hp)
    have hJ2 : ∀ p ∈ nx2, h₃.objs.size ≠ p.1 := fun p hp => hJold p.1 ⟨_, (N₃ p (hnx2 p hp)).1⟩
    have hrC : C ≠ r := hne _ mC'
    have hrD : D ≠ r := hne _ mD
    have d2 : CD h₀ L C D h₃.objs.size (nx2.map (·.1)) :=
      { iL := (Nat.ne_of_lt F₃.ns.lt).symm, cL := d.cL, dL := d.dL, iC := hJold C ⟨_, hget _ mC'⟩, iD := hJold D ⟨_, hget _ mD⟩, dC := d.dC, i0 := next_is_new F₃, c0 := d.c0, d0 := d.d0,
        iA := fun hm => by obtain ⟨p, hp, e⟩ := List.mem_map.mp hm; exact hJ2 p hp e.symm
        cA := fun hm => by
          obtain ⟨p, hp, e⟩ := List.mem_map.mp hm
          rcases List.mem_cons.mp hp with rfl | hp
          · exact hrC e.symm
          · rcases List.mem_append.mp hp with hp | hp
            · exact d.cA (List.mem_map.mpr ⟨p, hp, e⟩)
            · exact d.iC ((hoI p hp).1.symm.trans e)
        dA := fun hm => by
          obtain ⟨p, hp, e⟩ := List.mem_map.mp hm
          rcases List.mem_cons.mp hp with rfl | hp
          · exact hrD e.symm
          · rcases List.mem_append.mp hp with hp | hp
            · exact d.dA (List.mem_map.mpr ⟨p, hp, e⟩)
            · exact d.iD ((hoI p hp).1.symm.trans e) }
    have SS : CS h₀ L C D m h₄ ys nx2 := ⟨F₃.keeps old, fun p hp => ⟨old _ _ (N₃ p (hnx2 p hp)).1, (N₃ p (hnx2 p hp)).2⟩, ⟨kD, old _ _ (hget _ mD)⟩, ⟨_, (hNs.ns (old _ _ (hget _ mC')))⟩⟩
    have hys := T.small i ys hR
    have hne2 : ∀ own2 : List (Addr × Obj), OwnOff own2 (nx2.map (·.1)) → OwnOff (own2 ++ ((r, PySem.W.listOf us.toArray nn) :: ownI)) (nx.map (·.1)) := by
      intro own2 h2 p hp b hb e
      rcases List.mem_append.mp hp with hp | hp
      · refine h2 p hp b ?_ e
        obtain ⟨q, hq, rfl⟩ := List.mem_map.mp hb
        exact List.mem_map.mpr ⟨q, List.mem_cons_of_mem _ (List.mem_append.mpr (.inl hq)), rfl⟩
      · rcases List.mem_cons.mp hp with rfl | hp
        · obtain ⟨q, hq, rfl⟩ := List.mem_map.mp hb
          exact hne q (mN q hq) e.symm
        · exact d.iA (by rw [← (hoI p hp).1, e]; exact hb)
    have loop : codeAny (model prog w) A (.compLoop (.ListComp elt [⟨.Name x px, it1, [], 0⟩, ⟨.Name x2 px2, it2, [], 0⟩] scope pos) 1 (.ref h₃.objs.size) (.ref D) (compEnvC scope cl C env))
        (fun r s' => match r with
          | .ok _ => ∃ mm, mm < n + 1 - i ∧ ∃ i' h tk ys, s' = { s₂ with heap := h, toks := tk } ∧ i' ≤ n ∧ mm = n + 1 - i' ∧ St i' h ∧ CS h₀ L C D m h ys nx ∧ Rr i' ys
          | .error _ => False) { s₂ with heap := h₄, toks := tk₃ } := by
      refine engine1 (cenv := compEnvC scope cl C env) (C := C) (x := x2) (fx := [(r, PySem.W.listOf us.toArray nn)]) (fun j ys nx' => nx' = nx2 ∧ S i us j ys) (turn_in _ _ _ _ _ _ _ _ _ _) hx2 hp rfl W2 (T.few i us hG) hys d2 ?_ hstJ SS rfl ⟨rfl, T.first i us ys hR hG⟩ ?_ ?_
      · rintro j ys' nx' ⟨rfl, _⟩ p hp
        rw [List.mem_singleton.mp hp]; exact List.mem_cons_self ..
      · rintro j v2 ys' nx' own2 oC2 mC2 h5 tk5 hj hv2 ⟨rfl, hS⟩ _ hoff2 hown2 hNs2 hm2 F5 N5
        have hv2' : us[j]? = some v2 := by simpa using hv2
        have N6 : News h₀ L h5 ((C, oC2) :: (nx ++ (own2 ++ ((r, PySem.W.listOf us.toArray nn) :: ownI)))) := by
          intro p hp
          refine N5 p ?_
          rcases List.mem_cons.mp hp with rfl | hp
          · exact List.mem_append.mpr (.inr hown2)
          · rcases List.mem_append.mp hp with hp | hp
            · exact List.mem_append.mpr (.inl (List.mem_cons_of_mem _ (List.mem_append.mpr (.inl hp))))
            · rcases List.mem_append.mp hp with hp | hp
              · exact List.mem_append.mpr (.inr hp)
              · rcases List.mem_cons.mp hp with rfl | hp
                · exact List.mem_append.mpr (.inl (List.mem_cons_self ..))
                · exact List.mem_append.mpr (.inl (List.mem_cons_of_mem _ (List.mem_append.mpr (.inr hp))))
        refine wpAny_mono (T.inner i us j v2 ys' _ C oC2 mC2 h5 tk5 hlt hG hv2' hS hCn (hne2 own2 hoff2) hNs2 hm2 F5 N6) (fun y s6 hy => ?_) fun _ _ x => x
        obtain ⟨h', tk', news', rfl, F', N', hs, hr⟩ := hy
        refine ⟨h', tk', nx2, news', rfl, F', N', fun p hp => hs p ?_, fun p hp => hs p ?_, rfl, rfl, hr⟩
        · rcases List.mem_cons.mp hp with rfl | hp
          · exact List.mem_cons_of_mem _ (List.mem_append.mpr (.inr (List.mem_append.mpr (.inr (List.mem_cons_self ..)))))
          · rcases List.mem_append.mp hp with hp | hp
            · exact List.mem_cons_of_mem _ (List.mem_append.mpr (.inl hp))
            · exact List.mem_cons_of_mem _ (List.mem_append.mpr (.inr (List.mem_append.mpr (.inr (List.mem_cons_of_mem _ hp)))))
        · exact List.mem_cons_of_mem _ (List.mem_append.mpr (.inr (List.mem_append.mpr (.inl hp))))
      · rintro ys' nx' h5 tk5 ⟨rfl, hS⟩ _ S5
        refine ⟨n + 1 - (i + 1), by omega, i + 1, h5, tk5, ys', rfl, hlt, rfl, ?_, ⟨S5.F, fun p hp => S5.N p (List.mem_cons_of_mem _ (List.mem_append.mpr (.inl hp))), S5.acc, S5.ns⟩, T.last i us ys' hlt hG hS⟩
        refine W.frame _ _ _ hst₂ fun b hb o e => ?_
        rw [List.mem_singleton.mp hb] at e ⊢
        exact (S5.N (I, o) (List.mem_cons_of_mem _ (List.mem_append.mpr (.inr (hoI' o e))))).1
    refine start_in (codeAny_mono loop ?_) (W2.self 0 _ _ _ hstJ (codeAny_mono loop ?_))
    · intro r' s' hr
      cases r' with
      | ok f => exact wpAny_pure ⟨rfl, hr⟩
      | error e => exact hr.elim
    · intro r' s' hr
      cases r' with
      | ok f => exact wpAny_pure ⟨rfl, hr⟩
      | error e => exact hr.elim
  · have hin : i = n := by omega
    subst hin
    refine W.done _ _ _ hst' fun h₁ tk₁ hk₁ => wpAny_pure ?_
    exact done ys h₁ tk₁ hR (S'.but d.iL d.i0 d.iC.symm d.iD.symm d.iA (keepI hk₁))

/-- what a named comprehension of two clauses wants of the text that it goes over -/
def Text2 (prog : Program) (w : World) (A : Around) (env : Env) (scope : Scope) (cl : List (Str × Addr)) (x x2 y : Str) (elt it2 : Expr) (Q : Flow → Shared → Prop) (xv : Value) (s : Shared) : Prop :=
  ∃ (xt : Str) (tx : Tok) (h₀ : Heap) (m : Str → Option Value) (nx : List (Addr × Obj)) (R G : Nat → List Value → Prop) (S : Nat → List Value → Nat → List Value → Prop),
    xv = .str xt tx ∧ A.handled = none ∧ xt.length ≤ 1000000 ∧ Fr h₀ env.locals s.heap m ∧ News h₀ env.locals s.heap nx ∧ Two prog w A env scope cl x x2 elt it2 h₀ env.locals m s nx xt.length (fun i v => ∃ c t, xt.cps[i]? = some c ∧ v = .str ⟨#[c]⟩ t) R G S ∧
    ∀ (D k : Nat) ys h tk, R xt.length ys → (∀ p ∈ nx, p.1 < D) → Fr h₀ env.locals h (fun z => if z = y then some (.ref D) else m z) → News h₀ env.locals h ((D, PySem.W.listOf ys.toArray k) :: nx) → Q .next { s with heap := h, toks := tk }
theorem Text2.mk' {env : Env} {scope : Scope} {cl : List (Str × Addr)} {x x2 y : Str} {elt it2 : Expr} {Q : Flow → Shared → Prop} {xt : Str} {tx : Tok} {nx : List (Addr × Obj)} {m : Str → Option Value} (R G : Nat → List Value → Prop) (S : Nat → List Value → Nat → List Value → Prop)
    (hh : A.handled = none) (hl : xt.length ≤ 1000000) (F : Fr h₀ env.locals s.heap m) (N : News h₀ env.locals s.heap nx) (T : Two prog w A env scope cl x x2 elt it2 h₀ env.locals m s nx xt.length (fun i v => ∃ c t, xt.cps[i]? = some c ∧ v = .str ⟨#[c]⟩ t) R G S)
    (done : ∀ (D k : Nat) ys h tk, R xt.length ys → (∀ p ∈ nx, p.1 < D) → Fr h₀ env.locals h (fun z => if z = y then some (.ref D) else m z) → News h₀ env.locals h ((D, PySem.W.listOf ys.toArray k) :: nx) → Q .next { s with heap := h, toks := tk }) :
    Text2 prog w A env scope cl x x2 y elt it2 Q (.str xt tx) s := ⟨xt, tx, h₀, m, nx, R, G, S, rfl, hh, hl, F, N, T, done⟩
/-- y = [elt for x in text for x2 in it2]; the ledger stays as it was -/
theorem comp_two {env : Env} {E : Value → Shared → Prop} {elt it1 it2 : Expr} {x x2 y : Str} {px px2 py spos : Pos} {scope : Scope} {cl : List (Str × Addr)} {pos : Pos} {Q : Flow → Shared → Prop}
    (hsw : swapsWith (.ListComp elt [⟨.Name x px, it1, [], 0⟩, ⟨.Name x2 px2, it2, [], 0⟩] scope pos) (some (.Name y py)) spos.line env = pure true)
    (hclos : closureFor scope env = pure cl) (hcell : ∀ y ∈ scope.names, y.2 ≠ .cell) (hkind : scope.kind = .function)
    (hnames : ∀ y ∈ scope.names, y.2 = .local → scope.names.lookup y.1 = some .local) (hx : scope.names.lookup x = some .local) (hx2 : scope.names.lookup x2 = some .local)
    (hy : env.kindOf y = some .local) (hp : (env.scope.kind == .class || (env.scope.kind == .module && env.locals != env.globals)) = false)
    (h : wpAny (model prog w) A (eval it1 env) (fun xv s₁ => Stop (Text2 prog w A env scope cl x x2 y elt it2 Q xv s₁)) E s)
    (hs : ∀ x, foldedSetIterable it1 env x = pure x := by intro _; rfl) (hs2 : ∀ C v, foldedSetIterable it2 (compEnvC scope cl C env) v = pure v := by intro _ _; rfl) :
    wpAny (model prog w) A (exec (.Assign [.Name y py] (.ListComp elt [⟨.Name x px, it1, [], 0⟩, ⟨.Name x2 px2, it2, [], 0⟩] scope pos) spos) env) Q E s := by
  rw [exec_Assign_Name_used _ _ _ _ hsw]
  refine wpAny_bind (wpAny_standAt (wpAny_bind ?_))
  show wpAny _ A (do let _ ← comprehension (.ListComp elt [⟨.Name x px, it1, [], 0⟩, ⟨.Name x2 px2, it2, [], 0⟩] scope pos) scope env _ (newList []) false (eval it1 env) (some (assign (.Name y py) env))) _ _ s
  refine wpAny_bind (wpAny_mono (wpAny_comprehension_free (use := some (assign (.Name y py) env)) (Q := fun _ s' => Q .next s') rfl hs hclos hkind hnames
    (wpAny_mono h (fun xv s₁ h₁ => ?_) fun _ _ e => e)) (fun _ s' hq => wpAny_pure (wpAny_pure hq)) fun _ _ e => e)
  obtain ⟨xt, tx, h₀, m, nx, Rr, G, S, rfl, hh, hn, F, N, T, hQ⟩ := h₁
  generalize hL : env.locals = L at F N T hQ
  refine wpAny_pyIter_str fun o St hW hst => ?_
  have W := hW A hh
  have hI0 := next_is_new F
  have hIL : s₁.heap.objs.size ≠ L := Nat.ne_of_gt F.ns.lt
  have hIA : s₁.heap.objs.size ∉ nx.map (·.1) := fun hm => by
    obtain ⟨p, hp, e⟩ := List.mem_map.mp hm
    exact absurd (Heap.lt_size (N p hp).1) (by rw [e]; exact Nat.lt_irrefl _)
  have F := F.push o
  have N : News h₀ L (s₁.heap.push o) nx := fun p hp => ⟨Heap.get?_push_of_some _ (N p hp).1, (N p hp).2⟩
  have hIlt : s₁.heap.objs.size < (s₁.heap.push o).objs.size := by rw [Heap.size_push]; exact Nat.lt_succ_self _
  generalize s₁.heap.objs.size = I at W hI0 hIL hIA hIlt ⊢
  generalize s₁.heap.push o = hq at hst F N hIlt ⊢
  refine wpAny_newObj_type (wpAny_newFunctionEnv hcell (by intro y hy; simp at hy) (fun h₁ hns₁ hsb₁ => ?_) hkind)
  dsimp only at hns₁ hsb₁ ⊢
  generalize hH2 : hq.push { cls := .type "list", dict := none, data := .seq ([] : List Value).toArray } = H2 at hns₁ hsb₁ ⊢
  have hC : H2.objs.size = hq.objs.size + 1 := by rw [← hH2, Heap.size_push]
  have below : ∀ b, b < hq.objs.size → b ≠ H2.objs.size ∧ b ≠ hq.objs.size := fun b hb => ⟨by rw [hC]; exact Nat.ne_of_lt (Nat.lt_succ_of_lt hb), Nat.ne_of_lt hb⟩
  have old : ∀ b o, hq.get? b = some o → h₁.get? b = some o := fun b o e => hsb₁.extBut b o (below b (Heap.lt_size e)).1 (Heap.get?_push_of_some _ (hH2 ▸ Heap.get?_push_of_some _ e))
  have hDC : hq.objs.size ≠ H2.objs.size := by rw [hC]; exact Nat.ne_of_lt (Nat.lt_succ_self _)
  have hacc : h₁.PlainList hq.objs.size #[] := ⟨_, hsb₁.extBut _ _ hDC (Heap.get?_push_of_some _ (hH2 ▸ Heap.get?_push_size _ rfl))⟩
  have fresh : ∀ a, hq.objs.size ≤ a → h₀.get? a = none := fun a ha => by
    cases e : h₀.get? a with
    | none => rfl
    | some o' => exact absurd (Heap.lt_size (F.keep _ _ e)) (Nat.not_lt.mpr ha)
  have hLlt : L < hq.objs.size := F.ns.lt
  have hAlt : ∀ p ∈ nx, p.1 < hq.objs.size := fun p hp => Heap.lt_size (N p hp).1
  have d : CD h₀ L H2.objs.size hq.objs.size I (nx.map (·.1)) :=
    { iL := hIL, cL := (below L hLlt).1.symm, dL := (below L hLlt).2.symm, iC := (below I hIlt).1, iD := (below I hIlt).2, dC := hDC, i0 := hI0,
      c0 := fresh _ (by rw [hC]; exact Nat.le_succ _), d0 := fresh _ (Nat.le_refl _), iA := hIA,
      cA := fun hm => by obtain ⟨p, hp, e⟩ := List.mem_map.mp hm; exact (below _ (hAlt p hp)).1 e
      dA := fun hm => by obtain ⟨p, hp, e⟩ := List.mem_map.mp hm; exact (below _ (hAlt p hp)).2 e }
  have hst₁ : St 0 h₁ := W.frame _ _ _ hst fun b _ o e => old b o e
  have S0 : CS h₀ L H2.objs.size hq.objs.size m h₁ [] nx := ⟨F.keeps old, N.grown old, hacc, ⟨_, hns₁⟩⟩
  have loop : ∀ s₃ : Shared, s₃ = { s₁ with heap := h₁, toks := s₁.toks + ([] : List (Str × Value)).length } →
      codeAny (model prog w) A (.compLoop (.ListComp elt [⟨.Name x px, it1, [], 0⟩, ⟨.Name x2 px2, it2, [], 0⟩] scope pos) 0 (.ref I) (.ref hq.objs.size) (compEnvC scope cl H2.objs.size env))
        (compPost (model prog w) A E (some (assign (.Name y py) env)) (fun _ s' => Q .next s') (.ref hq.objs.size) H2.objs.size) s₃ := by
    rintro s₃ rfl
    refine engine2 T hh (lookup_relabel_local hx) (lookup_relabel_local hx2) (by simp [compEnvC, relabel, hkind]) (hs2 _) W hn d (fun p hp => by rw [hC]; exact Nat.lt_succ_of_lt (hAlt p hp)) hst₁ S0 ?_
    intro ys h tk hR S₁
    obtain ⟨mC, hm⟩ := S₁.ns
    obtain ⟨kD, hoD⟩ := S₁.acc
    have hnL : h.Ns env.locals m := hL ▸ S₁.F.ns
    show wpAny _ A (assign (.Name y py) env (.ref hq.objs.size)) _ _ _
    refine wpAny_assign_Name (wpAny_storeName_local hy hnL (fun h₂ hn₂ hs₂ => ?_) hp)
    have hn₂ : h₂.Ns env.locals (fun z => if z = y then some (.ref hq.objs.size) else m z) := hn₂
    have hs₂ : Heap.SameBut env.locals h h₂ := hs₂
    rw [hL] at hn₂ hs₂
    refine ⟨mC, hm.sameBut hs₂ d.cL, fun h' hs' => ?_⟩
    have F₂ : Fr h₀ L h₂ (fun z => if z = y then some (.ref hq.objs.size) else m z) := S₁.F.set hn₂ hs₂
    refine hQ _ kD ys h' (tk + 1) hR hAlt (F₂.change hs' d.cL d.c0) fun p hp => ?_
    rcases List.mem_cons.mp hp with rfl | hp
    · exact ⟨but_same hs' _ _ d.dC (but_same hs₂ _ _ d.dL hoD), d.dL, d.d0⟩
    · exact ⟨but_same hs' _ _ (fun e => d.cA (List.mem_map.mpr ⟨p, hp, e⟩)) (but_same hs₂ _ _ (S₁.N p hp).2.1 (S₁.N p hp).1), (S₁.N p hp).2⟩
  exact codeAny_compStart_list (loop _ rfl) (W.self 0 _ _ _ hst₁ (loop _ rfl))
end
end Mine

namespace Mine
/-- the pot upon the ledger's head -/
def PotIn (p c : Addr) (rest : List (Addr × Obj)) (pl : Int) (news : List (Addr × Obj)) : Prop :=
  ∃ (st : Int) (t1 t2 : MTok) (k1 k2 : Nat) (vs : List MVal) (ns : List Int), news = (p, PySem.W.listOf #[.ref c, .int st t1, .int pl t2] k1) :: (c, PySem.W.listOf vs.toArray k2) :: rest ∧
    IntsAre vs ns ∧ ns.length ≤ 40 ∧ (∀ n ∈ ns, 0 ≤ n) ∧ 0 ≤ st ∧ st < 2147483647
theorem nn_set {ns : List Int} {j : Nat} {x : Int} (h : ∀ n ∈ ns, 0 ≤ n) (hx : 0 ≤ x) : ∀ n ∈ ns.set j x, 0 ≤ n := fun n hn => by
  rcases List.mem_or_eq_of_mem_set hn with h1 | h1
  · exact h n h1
  · omega
theorem nn_getD {ns : List Int} {j : Nat} (h : ∀ n ∈ ns, 0 ≤ n) : 0 ≤ ns.getD j 0 := by
  rw [List.getD_eq_getElem?_getD]
  cases e : ns[j]? with
  | none => exact Int.le_refl 0
  | some x => exact h x (List.mem_of_getElem? e)
set_option maxRecDepth 100000 in
set_option maxHeartbeats 8000000 in
theorem draw_spec (w : World) (pa c : Nat) (lim : Int) (lt : MTok) (st pl : Int) (t1 t2 : MTok) (k1 k2 : Nat) (vs : List MVal) (ns : List Int) (rest : MLed) (hpc : pa < c ∨ c < pa) (hoff : OwnOff rest [pa, c])
    (hi : IntsAre vs ns) (hlen : ns.length ≤ 40) (hnn : ∀ n ∈ ns, 0 ≤ n) (hst : 0 ≤ st) (hst2 : st < 2147483647) (hpl : 0 ≤ pl) (hpl2 : pl < 1000000) (hl : 0 < lim) (hl2 : lim < 1000) :
    Spec w 1 138 [.ref pa, .int lim lt] ((pa, PySem.W.listOf #[.ref c, .int st t1, .int pl t2] k1) :: (c, PySem.W.listOf vs.toArray k2) :: rest)
      (fun v news' => PotIn pa c rest (pl + 1) news' ∧ ∃ r t, v = .int r t ∧ 0 ≤ r ∧ r < lim) := by
  w_top off
  unfold Spec
  k_fill
  intro p loose mean mg mb dp un gd cn cs a ccd cl outer A₀ base h₀ L m s Q E B F X N T hk hdp hun hret
  have hmk := kstMark
  refine wpAny_call ?_
  k_dflt cell_enter
  k_steps
  all_goals (
    refine hret _ _ _ _ (by k_asm) (by k_asm) ⟨⟨_, _, _, _, _, _, _, rfl, by assumption, ?_, ?_, ?_, ?_⟩, _, _, rfl, ?_, ?_⟩
    · first | exact hlen | (rw [List.length_set]; exact hlen)
    · first | exact hnn | exact nn_set hnn (Int.fdiv_nonneg (nn_getD hnn) (Int.le_of_lt hl))
    · first | exact hst | exact fmod_lo _ (by decide)
    · first | exact hst2 | exact fmod_hi _ (by decide)
    · exact fmod_lo _ hl
    · exact fmod_hi _ hl)
end Mine

namespace Mine
section
variable {w : World} {pa c : Nat} {lim : Int} {lt : MTok} {st pl : Int} {t1 t2 : MTok} {k1 k2 : Nat} {vs : List MVal} {ns : List Int} {rest : MLed} {p : Program} {loose : List Str} {mean : ExcName → Option Value} {mg mb : Str → Option Value}
    {dp un : Nat} {gd : Option (List Code)} {cn : Str} {cs : Scope} {a : Addr} {ccd : Value} {cl : List (Str × Addr)} {outer : List Env} {A₀ : Around} {base h₀ : Heap} {L : Addr} {m : Str → Option Value} {s : Shared} {Q E : Value → Shared → Prop}
theorem draw_use
    (B : Below A₀ base outer h₀) (F : Fr h₀ L s.heap m) (X : (hd.heap_39 w.params).In h₀) (N : News h₀ L s.heap ((pa, PySem.W.listOf #[.ref c, .int st t1, .int pl t2] k1) :: (c, PySem.W.listOf vs.toArray k2) :: rest)) (T : Top p loose mean mg mb h₀) (hk : cs.kind = .function) (hdp : dp + 1 < recursionLimit) (hu : un + 80 * 1 < cLine)
    (hpc : pa < c ∨ c < pa) (hoff : OwnOff rest [pa, c])
    (hi : IntsAre vs ns) (hlen : ns.length ≤ 40) (hnn : ∀ n ∈ ns, 0 ≤ n) (hst : 0 ≤ st) (hst2 : st < 2147483647) (hpl : 0 ≤ pl) (hpl2 : pl < 1000000) (hl : 0 < lim) (hl2 : lim < 1000)
    (ret : ∀ (st' : Int) (t1' t2' : MTok) (k1' k2' : Nat) (vs' : List MVal) (ns' : List Int) (r : Int) (t : MTok) (h' : Heap) (tk' : Nat), IntsAre vs' ns' → ns'.length ≤ 40 → (∀ n ∈ ns', 0 ≤ n) → 0 ≤ st' → st' < 2147483647 → 0 ≤ r → r < lim →
      Fr h₀ L h' m → News h₀ L h' ((pa, PySem.W.listOf #[.ref c, .int st' t1', .int (pl + 1) t2'] k1') :: (c, PySem.W.listOf vs'.toArray k2') :: rest) → Q (.int r t) { s with heap := h', toks := tk' }) :
    wpAny (model PySem.Challenge.rw_nz0277_01.row.prog w) (ktrTop dp un gd cn cs L a ccd cl outer) (call (.ref 138) [.ref pa, .int lim lt]) Q E s := by
  refine Spec.use (draw_spec w pa c lim lt st pl t1 t2 k1 k2 vs ns rest hpc hoff hi hlen hnn hst hst2 hpl hpl2 hl hl2) B F X N T hk hdp hu ?_
  rintro v' n' h' tk' F' N' ⟨⟨st', t1', t2', k1', k2', vs', ns', e1, hi', hl', hn', hs', hs2'⟩, r', t', e2, hr0', hr1'⟩
  subst e1 e2
  exact ret _ _ _ _ _ _ _ _ _ _ _ hi' hl' hn' hs' hs2' hr0' hr1' F' N'
end
end Mine

namespace Mine
local macro_rules | `(tactic| walk_at $s:str) => `(tactic| k_extra $s)
section

def utf8L (c : Int) : List Int :=
  if c < 128 then [c] else if c < 2048 then [192 + c.fdiv 64, 128 + c.fmod 64]
  else if c < 65536 then [224 + c.fdiv 4096, 128 + (c.fdiv 64).fmod 64, 128 + c.fmod 64]
  else [240 + c.fdiv 262144, 128 + (c.fdiv 4096).fmod 64, 128 + (c.fdiv 64).fmod 64, 128 + c.fmod 64]
theorem utf8L_1 {c : Int} (h : c < 128) : utf8L c = [c] := by unfold utf8L; rw [if_pos h]
theorem utf8L_2 {c : Int} (h : ¬ c < 128) (h2 : c < 2048) : utf8L c = [192 + c.fdiv 64, 128 + c.fmod 64] := by unfold utf8L; rw [if_neg h, if_pos h2]
theorem utf8L_3 {c : Int} (h : ¬ c < 128) (h2 : ¬ c < 2048) (h3 : c < 65536) : utf8L c = [224 + c.fdiv 4096, 128 + (c.fdiv 64).fmod 64, 128 + c.fmod 64] := by unfold utf8L; rw [if_neg h, if_neg h2, if_pos h3]
theorem utf8L_4 {c : Int} (h : ¬ c < 128) (h2 : ¬ c < 2048) (h3 : ¬ c < 65536) : utf8L c = [240 + c.fdiv 262144, 128 + (c.fdiv 4096).fmod 64, 128 + (c.fdiv 64).fmod 64, 128 + c.fmod 64] := by unfold utf8L; rw [if_neg h, if_neg h2, if_neg h3]
set_option maxRecDepth 100000 in
set_option maxHeartbeats 8000000 in
theorem lawutf8_spec (w : World) (code : Int) (tk : MTok) (news : MLed) : Spec w 1 152 [.int code tk] news (NewL news fun vs => IntsAre vs (utf8L code)) := by
  k_with_none
  k_with "eval ListComp" => refine Stop.of ?_
  k_with "exec Assign cons ListComp" => refine Stop.of ?_
  k_with "eval Name" => ((with_reducible show wpAny _ _ (eval _ (compEnvC _ _ _ _)) _ _ _); k_here; k_dflt (refine ldC (by k_asm) (by k_mem) (by assumption) (by assumption) ?_; k_whole))
  k_with "call type:bytes" => (k_here; (with_reducible show wpAny _ _ (call (Value.type "bytes") [Value.ref _]) _ _ _); k_dflt (refine KBa.make_K (by k_asm) (by k_asm) rfl (by is_list) (by assumption) (by assumption) (by first | assumption | omega) ?_; k_whole); intro hZ tZ kZ FZ NZ _)
  w_top off
  unfold Spec
  k_fill
  intro p loose mean mg mb dp un gd cn cs a ccd cl outer A₀ base h₀ L m s Q E B F X N T hk hdp hun hret
  have hmk := kstMark
  refine wpAny_call ?_
  k_dflt cell_enter
  k_steps
  all_goals (
    refine ret_new hret (by k_asm) (by k_asm) (fun _ hq => hq) ?_ (by assumption)
    first
    | (rw [utf8L_1 (by assumption)]; exact .cons _ _ .nil)
    | (rw [utf8L_2 (by assumption) (by assumption)]; exact .cons _ _ (.cons _ _ .nil))
    | (rw [utf8L_3 (by assumption) (by assumption) (by assumption)]; exact .cons _ _ (.cons _ _ (.cons _ _ .nil)))
    | (rw [utf8L_4 (by assumption) (by assumption) (by assumption)]; exact .cons _ _ (.cons _ _ (.cons _ _ (.cons _ _ .nil)))))
end
section

theorem ints_next {x : Str} {i c : Nat} {ys : List Value} {t : Tok} (hc : x.cps[i]? = some c) (h : IntsAre ys ((KStt.codes x).take i)) : IntsAre (ys ++ [.int (c : Int) t]) ((KStt.codes x).take (i + 1)) := by
  have hn' := KStt.code_at hc
  have hs : (KStt.codes x).take (i + 1) = (KStt.codes x).take i ++ [(c : Int)] := by simp [List.take_add_one, hn']
  rw [hs]
  exact h.append (.cons _ _ .nil)
theorem ints_all {x : Str} {ys : List Value} (h : IntsAre ys ((KStt.codes x).take x.length)) : IntsAre ys (KStt.codes x) := by
  rw [← KStt.codes_length x, List.take_length] at h
  exact h
/-- the figures of a number -/
def decL (n : Nat) : List Nat := (Nat.toDigits 10 n).map Char.toNat
theorem dec_codes {n : Int} (h0 : 0 ≤ n) : KStt.codes (Str.ofString (toString n)) = (decL n.toNat).map fun (c : Nat) => (c : Int) := by
  obtain ⟨k, rfl⟩ := Int.eq_ofNat_of_zero_le h0
  show ((Str.ofString (toString (k : Int))).cps.toList.map _) = _
  rw [KIN.signs_num]; rfl
theorem dec_range {n c : Nat} (h : c ∈ decL n) : 48 ≤ c ∧ c ≤ 57 := by
  obtain ⟨ch, hch, rfl⟩ := List.mem_map.mp h
  exact PyProof.Rows.digit_range (Nat.isDigit_of_mem_toDigits (by decide) (by decide) hch)
theorem dec_in (n : Nat) : KBa.In ((decL n).map fun (c : Nat) => (c : Int)) := fun k hk => by
  obtain ⟨c, hc, rfl⟩ := List.mem_map.mp hk
  have := dec_range hc
  omega
theorem dec_len {n : Nat} (h : n < 1000) : (decL n).length ≤ 4 := by
  have e := KIN.signs_num n
  have e2 := congrArg List.length e
  have e3 : (Str.ofString (toString (n : Int))).length ≤ 4 := by
    have h1 := int_text_length_le10 (a := (n : Int)) (k := 3) (by decide) (by omega)
    have h2 : (Str.ofString (toString (n : Int))).length = (toString (n : Int)).length := PySem.ofString_length _
    omega
  show ((Nat.toDigits 10 n).map Char.toNat).length ≤ 4
  rw [← e]
  simpa [PySem.Str.length] using e3
set_option maxRecDepth 100000 in
set_option maxHeartbeats 8000000 in
theorem number_spec (w : World) (n : Int) (tk : MTok) (news : MLed) (h0 : 0 ≤ n) (h1 : n < 1000) :
    Spec w 1 126 [.int n tk] news (fun v news' => news' = news ∧ ∃ t, v = .bytes (byteArr ((decL n.toNat).map fun (c : Nat) => (c : Int))) t) := by
  k_with_none
  k_with "eval ListComp" => refine Stop.of ?_
  k_with "exec Assign cons ListComp" => refine Stop.of ?_
  k_with "eval Name" => ((with_reducible show wpAny _ _ (eval _ (compEnvC _ _ _ _)) _ _ _); k_here; k_dflt (refine ldC (by k_asm) (by k_mem) (by assumption) (by assumption) ?_; k_whole))
  k_with "call type:bytes" => (k_here; (with_reducible show wpAny _ _ (call (Value.type "bytes") [Value.ref _]) _ _ _); k_dflt (refine KBa.make_K (by k_asm) (by k_asm) rfl (by is_list) (by assumption) (by assumption) (by first | assumption | omega) ?_; k_whole); intro hZ tZ kZ FZ NZ _)
  w_top off
  unfold Spec
  k_fill
  intro p loose mean mg mb dp un gd cn cs a ccd cl outer A₀ base h₀ L m s Q E B F X N T hk hdp hun hret
  have hmk := kstMark
  have hlen := dec_len (n := n.toNat) (by omega)
  refine wpAny_call ?_
  k_dflt cell_enter
  k_steps
  refine Stop.to ?_
  refine comp1 (cl := []) (by with_unfolding_all rfl) (by decide) (by with_unfolding_all rfl) (by decide) (by with_unfolding_all rfl) ?_
  k_steps
  refine quiet_str (fun i ys => IntsAre ys ((KStt.codes (Str.ofString (toString n))).take i)) rfl ?_ (by k_asm) (by k_asm) .nil ?_ ?_
  · rw [← KStt.codes_length, dec_codes h0, List.length_map]; omega
  · intro i c t h₁ hc ys own C oC mC h tk' hR hoff hC hNs hm F₁ N₁
    k_steps
    exact QuietStep.mk' (by k_asm) (by k_asm) (fun _ hp => hp) (ints_next hc hR)
  · intro h₁ D k ys h tk' hR hD F₁ N₁
    have hR := ints_all hR
    rw [dec_codes h0] at hR
    have hIn := dec_in n.toNat
    have hl2 : ((decL n.toNat).map fun (c : Nat) => (c : Int)).length ≤ 16777216 := by rw [List.length_map]; omega
    k_steps
    exact hret _ news _ _ (by k_asm) (news_sub (by k_asm) (fun p hp => List.mem_cons_of_mem _ hp)) ⟨rfl, _, rfl⟩
end
section

def tokB (c : Int) : Bool := decide (32 < c) && (decide (c < 127) && !((#[40, 41, 60, 62, 64, 44, 59, 58, 92, 34, 47, 91, 93, 63, 61] : Array UInt8).contains c.toNat.toUInt8))
theorem tokB_1 {c : Int} (h : 32 < c) (h2 : c < 127) : (!((#[40, 41, 60, 62, 64, 44, 59, 58, 92, 34, 47, 91, 93, 63, 61] : Array UInt8).contains c.toNat.toUInt8)) = tokB c := by
  unfold tokB; rw [decide_eq_true h, decide_eq_true h2, Bool.true_and, Bool.true_and]
theorem tokB_2 {c : Int} (h : 32 < c) (h2 : ¬ c < 127) : decide (c < 127) = tokB c := by
  unfold tokB; rw [decide_eq_true h, decide_eq_false h2, Bool.true_and, Bool.false_and]
theorem tokB_3 {c : Int} (h : ¬ 32 < c) : decide (32 < c) = tokB c := by
  unfold tokB; rw [decide_eq_false h, Bool.false_and]
set_option maxRecDepth 100000 in
set_option maxHeartbeats 8000000 in
theorem tok_spec (w : World) (code : Int) (tk : MTok) (news : MLed) (h0 : 0 ≤ code) (h1 : code < 256) : Spec w 1 102 [.int code tk] news (fun v news' => news' = news ∧ v = .bool (tokB code)) := by
  k_with_none
  k_with "eval ListComp" => refine Stop.of ?_
  k_with "exec Assign cons ListComp" => refine Stop.of ?_
  k_with "eval Name" => ((with_reducible show wpAny _ _ (eval _ (compEnvC _ _ _ _)) _ _ _); k_here; k_dflt (refine ldC (by k_asm) (by k_mem) (by assumption) (by assumption) ?_; k_whole))
  k_with "call type:bytes" => (k_here; (with_reducible show wpAny _ _ (call (Value.type "bytes") [Value.ref _]) _ _ _); k_dflt (refine KBa.make_K (by k_asm) (by k_asm) rfl (by is_list) (by assumption) (by assumption) (by first | assumption | omega) ?_; k_whole); intro hZ tZ kZ FZ NZ _)
  k_with "compareOp NotIn int bytes" => (k_here; (with_reducible show wpAny _ _ (compareOp CmpOp.NotIn (Value.int _ _) (Value.bytes _ _)) _ _ _); k_dflt (refine notin_bytes_int (by omega) (by omega) ?_; k_whole))
  k_with "compareOp NotIn str ref" => (k_here; (with_reducible show wpAny _ _ (compareOp CmpOp.NotIn (Value.str _ _) (Value.ref _)) _ _ _); k_dflt (refine notin_tuple_strs (tup_of_K (by k_in) (by k_is)) (by repeat constructor) ?_; k_whole))
  w_top off
  unfold Spec
  k_fill
  intro p loose mean mg mb dp un gd cn cs a ccd cl outer A₀ base h₀ L m s Q E B F X N T hk hdp hun hret
  have hmk := kstMark
  refine wpAny_call ?_
  k_dflt cell_enter
  k_steps
  all_goals (exact hret _ _ _ _ (by k_asm) (by k_asm) ⟨rfl, congrArg Value.bool (by first | exact tokB_1 (by assumption) (by assumption) | exact tokB_2 (by assumption) (by assumption) | exact tokB_3 (by assumption))⟩)
end
section
set_option maxRecDepth 100000 in
set_option maxHeartbeats 8000000 in
theorem need_spec (w : World) (t1 : MTok) (news : MLed) : Spec w 1 69 [.str (Str.mk #[117, 116, 102, 45, 56]) t1] news (fun v news' => news' = news ∧ v = .none) := by
  k_with_none
  k_with "eval ListComp" => refine Stop.of ?_
  k_with "exec Assign cons ListComp" => refine Stop.of ?_
  k_with "eval Name" => ((with_reducible show wpAny _ _ (eval _ (compEnvC _ _ _ _)) _ _ _); k_here; k_dflt (refine ldC (by k_asm) (by k_mem) (by assumption) (by assumption) ?_; k_whole))
  k_with "call type:bytes" => (k_here; (with_reducible show wpAny _ _ (call (Value.type "bytes") [Value.ref _]) _ _ _); k_dflt (refine KBa.make_K (by k_asm) (by k_asm) rfl (by is_list) (by assumption) (by assumption) (by first | assumption | omega) ?_; k_whole); intro hZ tZ kZ FZ NZ _)
  k_with "compareOp NotIn int bytes" => (k_here; (with_reducible show wpAny _ _ (compareOp CmpOp.NotIn (Value.int _ _) (Value.bytes _ _)) _ _ _); k_dflt (refine notin_bytes_int (by omega) (by omega) ?_; k_whole))
  k_with "compareOp NotIn str ref" => (k_here; (with_reducible show wpAny _ _ (compareOp CmpOp.NotIn (Value.str _ _) (Value.ref _)) _ _ _); k_dflt (refine notin_tuple_strs (tup_of_K (by k_in) (by k_is)) (by repeat constructor) ?_; k_whole))
  w_top off
  unfold Spec
  k_fill
  intro p loose mean mg mb dp un gd cn cs a ccd cl outer A₀ base h₀ L m s Q E B F X N T hk hdp hun hret
  have hmk := kstMark
  refine wpAny_call ?_
  k_dflt cell_enter
  k_steps
  all_goals exact hret _ _ _ _ (by k_asm) (by k_asm) ⟨rfl, rfl⟩
end
section

def len8 (c : Int) : Int := if c < 128 then 1 else if c < 2048 then 2 else if c < 65536 then 3 else 4
def gtB (c : Int) : MVal → Bool
  | .int k _ => decide (c > k)
  | _ => false
theorem gt_len {c : Int} (a b d : MTok) : ([Value.int 127 a, Value.int 2047 b, Value.int 65535 d].filter (gtB c)).length = (len8 c).toNat - 1 := by
  unfold len8
  by_cases h1 : c < 128
  · have e1 : ¬ 127 < c := by omega
    have e2 : ¬ 2047 < c := by omega
    have e3 : ¬ 65535 < c := by omega
    simp [gtB, h1, e1, e2, e3, List.filter_cons]
  · have e1 : 127 < c := by omega
    by_cases h2 : c < 2048
    · have e2 : ¬ 2047 < c := by omega
      have e3 : ¬ 65535 < c := by omega
      simp [gtB, h1, h2, e1, e2, e3, List.filter_cons]
    · have e2 : 2047 < c := by omega
      by_cases h3 : c < 65536
      · have e3 : ¬ 65535 < c := by omega
        simp [gtB, h1, h2, h3, e1, e2, e3, List.filter_cons]
      · have e3 : 65535 < c := by omega
        simp [gtB, h1, h2, h3, e1, e2, e3, List.filter_cons]
theorem len8_b (c : Int) : 1 ≤ len8 c ∧ len8 c ≤ 4 := by unfold len8; (repeat' split) <;> omega
set_option maxRecDepth 100000 in
set_option maxHeartbeats 8000000 in
theorem len8_spec (w : World) (code : Int) (tk : MTok) (news : MLed) (h0 : 0 ≤ code) (h1 : code < 1114112) (h2 : code < 55296 ∨ 57343 < code) : Spec w 1 74 [.int code tk] news (fun v news' => news' = news ∧ ∃ t, v = .int (len8 code) t) := by
  k_with_none
  k_with "eval ListComp" => refine Stop.of ?_
  k_with "exec Assign cons ListComp" => refine Stop.of ?_
  k_with "eval Name" => ((with_reducible show wpAny _ _ (eval _ (compEnvC _ _ _ _)) _ _ _); k_here; k_dflt (refine ldC (by k_asm) (by k_mem) (by assumption) (by assumption) ?_; k_whole))
  k_with "call type:bytes" => (k_here; (with_reducible show wpAny _ _ (call (Value.type "bytes") [Value.ref _]) _ _ _); k_dflt (refine KBa.make_K (by k_asm) (by k_asm) rfl (by is_list) (by assumption) (by assumption) (by first | assumption | omega) ?_; k_whole); intro hZ tZ kZ FZ NZ _)
  k_with "compareOp NotIn int bytes" => (k_here; (with_reducible show wpAny _ _ (compareOp CmpOp.NotIn (Value.int _ _) (Value.bytes _ _)) _ _ _); k_dflt (refine notin_bytes_int (by omega) (by omega) ?_; k_whole))
  k_with "compareOp NotIn str ref" => (k_here; (with_reducible show wpAny _ _ (compareOp CmpOp.NotIn (Value.str _ _) (Value.ref _)) _ _ _); k_dflt (refine notin_tuple_strs (tup_of_K (by k_in) (by k_is)) (by repeat constructor) ?_; k_whole))
  w_top off
  unfold Spec
  k_fill
  intro p loose mean mg mb dp un gd cn cs a ccd cl outer A₀ base h₀ L m s Q E B F X N T hk hdp hun hret
  have hmk := kstMark
  have hb8 := len8_b code
  refine wpAny_call ?_
  (refine' code_defC ?k1 ?k2 ?k3 ?k4 ?k5 ?kA ?kF ?kK ?k6 ?k7 ?k8 ?k9 ?kB ?kD ?_ ?c2 ?c3 ?c4; (case kA => exact rfl); (case kF => exact rfl); (case kK => first | exact rfl | assumption); (case k1 => k_asm); (case k2 => k_asm); (case k3 => k_asm); (case k4 => k_asm); (case k5 => k_asm); (case k6 => k_is); (case k7 => k_is); (case k8 => ktr_room); (case k9 => first | exact BindsTo.of_eq rfl | exact binds_K (by k_in) rfl (by k_is) rfl rfl rfl); (case kB => exact rfl); (case kD => decide +kernel); (case c2 => exact rfl); (case c3 => exact rfl); (case c4 => exact rfl); k_whole; intro g' L' h' tk' cells' FG' F' N' Y' B' X' T' l1; (try k_lt l1); k_cells Y'; (try simp only [List.cons_append, List.nil_append] at N'); (try dsimp only); (try k_lift B'); (try k_fold))
  k_steps
  all_goals (
    refine Stop.to ?_
    refine filt_tup (gtB code) (by with_unfolding_all rfl) (by decide) (by with_unfolding_all rfl) (by decide) (by with_unfolding_all rfl) (by decide) rfl ?_
    k_steps
    show FiltAt _
    refine ⟨_, _, _, _, _, _, _, rfl, ?_, List.mem_cons_self .., by k_asm, by k_asm, ?_, ?_⟩
    · exact Nat.le_of_ble_eq_true rfl
    · intro C v s₃ m₃ hv F₃ N₃ hn hm
      have hv' : v ∈ [_, _, _] := hv
      simp only [List.mem_cons, List.not_mem_nil, or_false] at hv'
      rcases hv' with rfl | rfl | rfl
      all_goals k_steps
      all_goals exact ⟨_, _, rfl, fun _ _ e => e⟩
    · intro D' k h' tk hD F₁ N₁
      k_steps
      refine kst_len N₁ (List.mem_cons_self ..) (gt_len _ _ _) (by omega) ?_
      k_steps
      refine hret _ news _ _ (by k_asm) (news_sub (by k_asm) (fun p hp => List.mem_cons_of_mem _ (List.mem_cons_of_mem _ (List.mem_cons_of_mem _ hp)))) ⟨rfl, _, int_eq (by omega)⟩)
end
section
theorem in3 (a b : UInt8) : KBa.In [37, (a.toNat : Int), (b.toNat : Int)] := by
  intro n hn
  have h1 := a.toNat_lt
  have h2 := b.toNat_lt
  simp only [List.mem_cons, List.not_mem_nil, or_false] at hn
  rcases hn with rfl | rfl | rfl <;> omega
/-- values that are bytes -/
inductive BytesAre : List Value → List (List Int) → Prop
  | nil : BytesAre [] []
  | cons {ns : List Int} {t : Tok} {vs : List Value} {nss : List (List Int)} (h : BytesAre vs nss) : BytesAre (.bytes (byteArr ns) t :: vs) (ns :: nss)
theorem BytesAre.length : ∀ {vs : List Value} {nss : List (List Int)}, BytesAre vs nss → vs.length = nss.length
  | _, _, .nil => rfl
  | _, _, .cons h => congrArg (· + 1) h.length
theorem BytesAre.append {vs ws : List Value} {nss mss : List (List Int)} (h : BytesAre vs nss) (k : BytesAre ws mss) : BytesAre (vs ++ ws) (nss ++ mss) := by
  induction h with
  | nil => exact k
  | cons _ ih => exact .cons ih
theorem BytesAre.get {vs : List Value} {nss : List (List Int)} (h : BytesAre vs nss) : ∀ (i : Nat) {v : Value}, vs[i]? = some v → ∃ ns t, nss[i]? = some ns ∧ v = .bytes (byteArr ns) t := by
  induction h with
  | nil => intro i v h; cases h
  | cons h ih =>
    intro i v hv
    cases i with
    | zero => cases hv; exact ⟨_, _, rfl, rfl⟩
    | succ i => exact ih i hv
def hexU (k : Int) : UInt8 := ([48, 49, 50, 51, 52, 53, 54, 55, 56, 57, 65, 66, 67, 68, 69, 70] : List UInt8).getD k.toNat 0
def safeB (k : Int) : Bool := tokB k && !((#[42, 39, 37] : Array UInt8).contains k.toNat.toUInt8)
/-- an octet's piece -/
def pieceI (k : Int) : List Int := if safeB k = true then [k] else [37, ((hexU (k.fdiv 16)).toNat : Int), ((hexU (k.fmod 16)).toNat : Int)]
theorem piece_1 {k : Int} (h : tokB k = true) (h2 : (!((#[42, 39, 37] : Array UInt8).contains k.toNat.toUInt8)) = true) : pieceI k = [k] := by
  unfold pieceI safeB; rw [h, h2]; rfl
theorem piece_2 {k : Int} (h : tokB k = false) : pieceI k = [37, ((hexU (k.fdiv 16)).toNat : Int), ((hexU (k.fmod 16)).toNat : Int)] := by
  unfold pieceI safeB; rw [h]; rfl
theorem piece_3 {k : Int} (h2 : (!((#[42, 39, 37] : Array UInt8).contains k.toNat.toUInt8)) = false) : pieceI k = [37, ((hexU (k.fdiv 16)).toNat : Int), ((hexU (k.fmod 16)).toNat : Int)] := by
  unfold pieceI safeB; rw [h2, Bool.and_false]; rfl
theorem bytes_next {ks : List Int} {i : Nat} {k : Int} {us : List Value} {t : Tok} {v : List Int} (h : BytesAre us ((ks.take i).map pieceI)) (hi : ks[i]? = some k) (e : pieceI k = v) : BytesAre (us ++ [.bytes (byteArr v) t]) ((ks.take (i + 1)).map pieceI) := by
  rw [List.take_add_one, hi, List.map_append]
  show BytesAre _ (_ ++ [pieceI k])
  rw [e]
  exact h.append (.cons .nil)
set_option maxRecDepth 100000 in
set_option maxHeartbeats 8000000 in
theorem perc_spec (w : World) (b : Array UInt8) (ks : List Int) (ct : MTok) (news : MLed) (hks : KBw.bInts b = ks) (hlen : ks.length ≤ 10000) : Spec w 2 109 [.bytes b ct] news (NewL news fun vs => BytesAre vs (ks.map pieceI)) := by
  k_with_none
  k_with "eval ListComp" => refine Stop.of ?_
  k_with "exec Assign cons ListComp" => refine Stop.of ?_
  k_with "eval Name" => ((with_reducible show wpAny _ _ (eval _ (compEnvC _ _ _ _)) _ _ _); k_here; k_dflt (refine ldC (by k_asm) (by k_mem) (by assumption) (by assumption) ?_; k_whole))
  k_with "call type:bytes" => (k_here; (with_reducible show wpAny _ _ (call (Value.type "bytes") [Value.ref _]) _ _ _); k_dflt (refine KBa.make_K (by k_asm) (by k_asm) rfl (by is_list) (by assumption) (by assumption) (by first | assumption | omega) ?_; k_whole); intro hZ tZ kZ FZ NZ _)
  k_with "compareOp NotIn int bytes" => (k_here; (with_reducible show wpAny _ _ (compareOp CmpOp.NotIn (Value.int _ _) (Value.bytes _ _)) _ _ _); k_dflt (refine notin_bytes_int (by omega) (by omega) ?_; k_whole))
  k_with "compareOp NotIn str ref" => (k_here; (with_reducible show wpAny _ _ (compareOp CmpOp.NotIn (Value.str _ _) (Value.ref _)) _ _ _); k_dflt (refine notin_tuple_strs (tup_of_K (by k_in) (by k_is)) (by repeat constructor) ?_; k_whole))
  k_with "exec For Name Name cons nil" => (k_here; (rename Fr _ _ _ _ => lFZ); (with_unfolding_all refine For_stop lFZ (by exact rfl) (by exact rfl) ?_; k_whole))
  k_with "exec For Name Call cons nil" => (k_here; (rename Fr _ _ _ _ => lFZ); (with_unfolding_all refine For_stop lFZ (by exact rfl) (by exact rfl) ?_; k_whole))
  k_with "exec For Name BinOp cons nil" => (k_here; (rename Fr _ _ _ _ => lFZ); (with_unfolding_all refine For_stop lFZ (by exact rfl) (by exact rfl) ?_; k_whole))
  k_with "call ref" => (k_here; (with_reducible show wpAny _ _ (call (Value.ref 102) [Value.int _ _]) _ _ _); k_dflt (refine Spec.useC (by k_asm) (by k_asm) (by k_asm) (by k_asm) (by k_asm) (by first | exact rfl | assumption) (by ktr_room) (by ktr_units) (tok_spec _ _ _ _ (by with_reducible assumption) (by with_reducible assumption)) ?_; k_whole); intro hZ tkZ FZ NZ; (try dsimp only); (try k_fold))
  k_with "call type:bytes" => (k_here; (with_reducible show wpAny _ _ (call (Value.type "bytes") [Value.ref _]) _ _ _); (refine KBa.make_K (by k_asm) (by k_asm) rfl (by is_list) (by l_ints) (by exact in3 _ _) (by exact Nat.le_of_ble_eq_true rfl) ?_; k_whole); intro hZ tZ kZ FZ NZ _)
  w_top off
  unfold Spec
  k_fill
  intro p loose mean mg mb dp un gd cn cs a ccd cl outer A₀ base h₀ L m s Q E B F X N T hk hdp hun hret
  have hmk := kstMark
  refine wpAny_call ?_
  k_dflt cell_enter
  k_steps
  obtain ⟨fa, ea⟩ := name_1 (by k_asm)
  subst ea
  have l1n : ∀ p ∈ news, p.1 < fa := by assumption
  refine Stop.to ?_
  refine l_bytes (fun c : List MVal × Nat × Unit => [(fa, PySem.W.listOf c.1.toArray c.2.1)]) (fun _ => []) [] news (fun i c => BytesAre c.1 ((ks.take i).map pieceI)) ([], 0, ()) (fa :: news.map (·.1)) (fun _ => rfl) hks rfl (by k_asm) (by k_asm) ?_ ?_ (by rw [List.take_zero]; exact .nil) ?_ ?_
  · exact fun p hp => hp
  · exact fun _ hp => nomatch hp
  · rintro i k t hi hk0 hk1 ⟨us, kk, _⟩ own u h tk' hR hoff F₁ N₁
    simp only [List.cons_append, List.nil_append] at N₁
    dsimp only at N₁ F₁ hR
    have hoff' : OwnOff (news ++ own) [fa] := off_one l1n hoff
    have hul : us.length ≤ 10000 := by
      rw [hR.length, List.length_map, List.length_take]; omega
    k_steps
    all_goals (
      rename News _ _ _ _ => nE'
      (try simp only [List.push_toArray] at nE')
      refine LEnd1a (c := ()) (by k_asm) nE' (fun _ hp => nomatch hp) (by intro z h1 h2 h3; simp only [List.forall_mem_cons, List.not_mem_nil, false_implies, implies_true, and_true, ne_eq] at h2; simp [kstB, h1, h2]) ?_
      first
      | exact bytes_next hR hi (piece_1 (by assumption) (by rename (Array.contains _ _ = false) => hc9; rw [hc9]; rfl))
      | exact bytes_next hR hi (piece_2 (by assumption))
      | exact bytes_next hR hi (piece_3 (by rename (Array.contains _ _ = true) => hc9; rw [hc9]; rfl)))
  · rintro ⟨us, kk, _⟩ u h tk' hR F₁ N₁
    simp only [List.cons_append, List.nil_append] at N₁
    dsimp only at N₁ F₁ hR
    rw [List.take_length] at hR
    k_steps
    exact ret_new hret (by k_asm) (by k_asm) (fun _ hq => hq) hR l1n
end
section
set_option maxRecDepth 100000 in
set_option maxHeartbeats 8000000 in
theorem has_spec (w : World) (code : Int) (t1 ct : MTok) (news : MLed) (h0 : 0 ≤ code) (h1 : code < 1114112) (h2 : code < 55296 ∨ 57343 < code) : Spec w 2 88 [Value.str (Str.mk #[117, 116, 102, 45, 56]) t1, .int code ct] news (fun v news' => news' = news ∧ v = .bool true) := by
  k_with_none
  k_with "eval ListComp" => refine Stop.of ?_
  k_with "exec Assign cons ListComp" => refine Stop.of ?_
  k_with "eval Name" => ((with_reducible show wpAny _ _ (eval _ (compEnvC _ _ _ _)) _ _ _); k_here; k_dflt (refine ldC (by k_asm) (by k_mem) (by assumption) (by assumption) ?_; k_whole))
  k_with "call type:bytes" => (k_here; (with_reducible show wpAny _ _ (call (Value.type "bytes") [Value.ref _]) _ _ _); k_dflt (refine KBa.make_K (by k_asm) (by k_asm) rfl (by is_list) (by assumption) (by assumption) (by first | assumption | omega) ?_; k_whole); intro hZ tZ kZ FZ NZ _)
  k_with "compareOp NotIn int bytes" => (k_here; (with_reducible show wpAny _ _ (compareOp CmpOp.NotIn (Value.int _ _) (Value.bytes _ _)) _ _ _); k_dflt (refine notin_bytes_int (by omega) (by omega) ?_; k_whole))
  k_with "compareOp NotIn str ref" => (k_here; (with_reducible show wpAny _ _ (compareOp CmpOp.NotIn (Value.str _ _) (Value.ref _)) _ _ _); k_dflt (refine notin_tuple_strs (tup_of_K (by k_in) (by k_is)) (by repeat constructor) ?_; k_whole))
  k_with "exec For Name Name cons nil" => (k_here; (rename Fr _ _ _ _ => lFZ); (with_unfolding_all refine For_stop lFZ (by exact rfl) (by exact rfl) ?_; k_whole))
  k_with "exec For Name Call cons nil" => (k_here; (rename Fr _ _ _ _ => lFZ); (with_unfolding_all refine For_stop lFZ (by exact rfl) (by exact rfl) ?_; k_whole))
  k_with "exec For Name BinOp cons nil" => (k_here; (rename Fr _ _ _ _ => lFZ); (with_unfolding_all refine For_stop lFZ (by exact rfl) (by exact rfl) ?_; k_whole))
  k_with "call ref" => (k_here; (with_reducible show wpAny _ _ (call (Value.ref 74) [Value.int _ _]) _ _ _); k_dflt (refine Spec.useV (by k_asm) (by k_asm) (by k_asm) (by k_asm) (by k_asm) (by first | exact rfl | assumption) (by ktr_room) (by ktr_units) (len8_spec _ _ _ _ (by assumption) (by assumption) (by assumption)) ?_; k_whole); intro tZ hZ tkZ FZ NZ; (try dsimp only); (try k_fold))
  w_top off
  unfold Spec
  k_fill
  intro p loose mean mg mb dp un gd cn cs a ccd cl outer A₀ base h₀ L m s Q E B F X N T hk hdp hun hret
  have hmk := kstMark
  have hb8 := len8_b code
  refine wpAny_call ?_
  k_dflt cell_enter
  k_steps
  all_goals exact hret _ _ _ _ (by k_asm) (by k_asm) ⟨rfl, congrArg Value.bool (decide_eq_true (by omega))⟩
end
section

theorem len8_use (w : World) (code : Int) (tk : MTok) (news : MLed) {k : Int} (h0 : 0 ≤ code) (h1 : code < 1114112) (h2 : code < 55296 ∨ 57343 < code) (he : len8 code = k) : Spec w 1 74 [.int code tk] news (fun v news' => news' = news ∧ ∃ t, v = .int k t) := by
  subst he; exact len8_spec w code tk news h0 h1 h2
theorem len8_cases (c : Int) : (len8 c = 1 ∧ c < 128) ∨ (len8 c = 2 ∧ ¬ c < 128 ∧ c < 2048) ∨ (len8 c = 3 ∧ ¬ c < 128 ∧ ¬ c < 2048 ∧ c < 65536) ∨ (len8 c = 4 ∧ ¬ c < 128 ∧ ¬ c < 2048 ∧ ¬ c < 65536) := by
  unfold len8
  by_cases h1 : c < 128
  · left; rw [if_pos h1]; exact ⟨rfl, h1⟩
  · by_cases h2 : c < 2048
    · right; left; rw [if_neg h1, if_pos h2]; exact ⟨rfl, h1, h2⟩
    · by_cases h3 : c < 65536
      · right; right; left; rw [if_neg h1, if_neg h2, if_pos h3]; exact ⟨rfl, h1, h2, h3⟩
      · right; right; right; rw [if_neg h1, if_neg h2, if_neg h3]; exact ⟨rfl, h1, h2, h3⟩
/-- what the loop of utf8_octets holds after i turns -/
def octSt (c : Int) : Nat → Int × List Int
  | 0 => (c, [])
  | i + 1 => ((octSt c i).1.fdiv 64, (128 + (octSt c i).1.fmod 64) :: (octSt c i).2)
theorem octSt_len {c : Int} : ∀ {i : Nat} {left : Int} {f : List Int}, (left, f) = octSt c i → f.length = i
  | 0, _, _, h => by cases h; rfl
  | i + 1, _, _, h => by
    cases h
    show (octSt c i).2.length + 1 = i + 1
    rw [octSt_len (c := c) (i := i) (left := (octSt c i).1) (f := (octSt c i).2) rfl]
section
variable {prog : Program} {w : World} {A : Around} {E : Value → Shared → Prop} {s : Shared} {h₀ : Heap} {L D : Addr} {m : Str → Option Value} {news news' : List (Addr × Obj)} {vs : List Value} {n : Nat} {u : Tok} {y : Value}
theorem ins0 {Q : Value → Shared → Prop} (F : Fr h₀ L s.heap m) (N : News h₀ L s.heap news) (U : Upd D (PySem.W.listOf vs.toArray n) (PySem.W.listOf (y :: vs).toArray (n + 1)) news news') (hz : vs.length ≤ 1000)
    (h : ∀ h', Fr h₀ L h' m → News h₀ L h' news' → Q .none { s with heap := h' }) : wpAny (model prog w) A (call (.builtin "list.insert") [.ref D, .int 0 u, y]) Q E s :=
  kl_insert F N rfl (by show kl_ins vs 0 y = y :: vs; simp [kl_ins]) U (by rw [sizeLine_eq]; show vs.length ≤ _; omega) h
end
theorem div64 {c : Int} (h : 0 ≤ c) : (c.fdiv 64).fdiv 64 = c.fdiv 4096 := by
  rw [Int.fdiv_eq_ediv_of_nonneg _ (by decide), Int.fdiv_eq_ediv_of_nonneg _ (by decide), Int.fdiv_eq_ediv_of_nonneg _ (by decide)]; omega
theorem div64' {c : Int} (h : 0 ≤ c) : (c.fdiv 4096).fdiv 64 = c.fdiv 262144 := by
  rw [Int.fdiv_eq_ediv_of_nonneg _ (by decide), Int.fdiv_eq_ediv_of_nonneg _ (by decide), Int.fdiv_eq_ediv_of_nonneg _ (by decide)]; omega
theorem oct_2 {c left : Int} {f : List Int} (h : (left, f) = octSt c 1) (h1 : ¬ c < 128) (h2 : c < 2048) : [256 - Int.fdiv 256 (2 ^ Int.toNat 2) + left] ++ f = utf8L c := by
  cases h; rw [utf8L_2 h1 h2]; rfl
theorem oct_3 {c left : Int} {f : List Int} (h0 : 0 ≤ c) (h : (left, f) = octSt c 2) (h1 : ¬ c < 128) (h2 : ¬ c < 2048) (h3 : c < 65536) : [256 - Int.fdiv 256 (2 ^ Int.toNat 3) + left] ++ f = utf8L c := by
  cases h; rw [utf8L_3 h1 h2 h3, ← div64 h0]; rfl
theorem oct_4 {c left : Int} {f : List Int} (h0 : 0 ≤ c) (h : (left, f) = octSt c 3) (h1 : ¬ c < 128) (h2 : ¬ c < 2048) (h3 : ¬ c < 65536) : [256 - Int.fdiv 256 (2 ^ Int.toNat 4) + left] ++ f = utf8L c := by
  cases h; rw [utf8L_4 h1 h2 h3, ← div64' h0, ← div64 h0]; rfl
set_option maxRecDepth 100000 in
set_option maxHeartbeats 8000000 in
theorem oct8_spec (w : World) (code : Int) (ct : MTok) (news : MLed) (h0 : 0 ≤ code) (h1 : code < 1114112) (h2 : code < 55296 ∨ 57343 < code) : Spec w 2 81 [.int code ct] news (NewL news fun vs => IntsAre vs (utf8L code)) := by
  k_with_none
  k_with "eval ListComp" => refine Stop.of ?_
  k_with "exec Assign cons ListComp" => refine Stop.of ?_
  k_with "eval Name" => ((with_reducible show wpAny _ _ (eval _ (compEnvC _ _ _ _)) _ _ _); k_here; k_dflt (refine ldC (by k_asm) (by k_mem) (by assumption) (by assumption) ?_; k_whole))
  k_with "call type:bytes" => (k_here; (with_reducible show wpAny _ _ (call (Value.type "bytes") [Value.ref _]) _ _ _); k_dflt (refine KBa.make_K (by k_asm) (by k_asm) rfl (by is_list) (by assumption) (by assumption) (by first | assumption | omega) ?_; k_whole); intro hZ tZ kZ FZ NZ _)
  k_with "compareOp NotIn int bytes" => (k_here; (with_reducible show wpAny _ _ (compareOp CmpOp.NotIn (Value.int _ _) (Value.bytes _ _)) _ _ _); k_dflt (refine notin_bytes_int (by omega) (by omega) ?_; k_whole))
  k_with "compareOp NotIn str ref" => (k_here; (with_reducible show wpAny _ _ (compareOp CmpOp.NotIn (Value.str _ _) (Value.ref _)) _ _ _); k_dflt (refine notin_tuple_strs (tup_of_K (by k_in) (by k_is)) (by repeat constructor) ?_; k_whole))
  k_with "exec For Name Name cons nil" => (k_here; (rename Fr _ _ _ _ => lFZ); (with_unfolding_all refine For_stop lFZ (by exact rfl) (by exact rfl) ?_; k_whole))
  k_with "exec For Name Call cons nil" => (k_here; (rename Fr _ _ _ _ => lFZ); (with_unfolding_all refine For_stop lFZ (by exact rfl) (by exact rfl) ?_; k_whole))
  k_with "exec For Name BinOp cons nil" => (k_here; (rename Fr _ _ _ _ => lFZ); (with_unfolding_all refine For_stop lFZ (by exact rfl) (by exact rfl) ?_; k_whole))
  k_with "call ref" => (k_here; (with_reducible show wpAny _ _ (call (Value.ref 74) [Value.int _ _]) _ _ _); k_dflt (refine Spec.useV (by k_asm) (by k_asm) (by k_asm) (by k_asm) (by k_asm) (by first | exact rfl | assumption) (by ktr_room) (by ktr_units) (len8_use _ _ _ _ (by assumption) (by assumption) (by assumption) (by assumption)) ?_; k_whole); intro tZ hZ tkZ FZ NZ; (try dsimp only); (try k_fold))
  k_with "call builtin:list.insert" => (k_here; (with_reducible show wpAny _ _ (call (Value.builtin _) [Value.ref _, Value.int 0 _, _]) _ _ _); k_dflt (refine ins0 (by k_asm) (by k_asm) (by k_upd) (by omega) ?_); intro hZ FZ NZ)
  w_top off
  unfold Spec
  k_fill
  intro p loose mean mg mb dp un gd cn cs a ccd cl outer A₀ base h₀ L m s Q E B F X N T hk hdp hun hret
  have hmk := kstMark
  rcases len8_cases code with ⟨e8, c1⟩ | ⟨e8, c1, c2⟩ | ⟨e8, c1, c2, c3⟩ | ⟨e8, c1, c2, c3⟩
  · refine wpAny_call ?_
    k_dflt cell_enter
    k_steps
    refine ret_new hret (by k_asm) (by k_asm) (fun _ hq => List.mem_cons_of_mem _ hq) ?_ (by rename (_ ∧ AllLt _ _) => hl9; exact kst_ltOf hl9.2)
    rw [utf8L_1 c1]
    assumption
  · refine wpAny_call ?_
    k_dflt cell_enter
    k_steps
    obtain ⟨fa, ea⟩ := name_1 (by k_asm)
    subst ea
    have l1n : ∀ p ∈ news, p.1 < fa := by assumption
    refine Stop.to ?_
    refine l_range (fun c : List MVal × Nat × Int × MTok => [(fa, PySem.W.listOf c.1.toArray c.2.1)]) (fun c => [(Str.ofString "left", Value.int c.2.2.1 c.2.2.2)]) [] news (fun i c => ∃ f, IntsAre c.1 f ∧ (c.2.2.1, f) = octSt code i) ([], 0, code, ct) (fa :: news.map (·.1)) (fun _ => rfl) rfl (by assumption) (by decide) (by rfl) (by k_asm) (by k_asm) ?_ ?_ ⟨[], .nil, rfl⟩ ?_ ?_
    · exact fun p hp => hp
    · kst_all
    · rintro i t hi ⟨us, k, left, lt⟩ own u h tk' ⟨f, hf, hst⟩ hoff F₁ N₁
      have hi : i < 3 := Nat.lt_of_lt_of_le hi (by decide)
      have hlf := octSt_len hst
      have hul : us.length ≤ 3 := by rw [hf.length]; omega
      simp only [List.cons_append, List.nil_append] at N₁
      dsimp only at N₁ F₁ hf
      have hoff' : OwnOff (news ++ own) [fa] := off_one l1n hoff
      k_steps
      refine LEnd1 (c := (_, _)) (by k_asm) (by k_asm) (by kst_all) (by intro z h1 h2 h3; simp only [List.forall_mem_cons, List.not_mem_nil, false_implies, implies_true, and_true, ne_eq] at h2; simp [kstB, h1, h2]) ⟨_, .cons _ _ hf, ?_⟩
      show _ = ((octSt code i).1.fdiv 64, (128 + (octSt code i).1.fmod 64) :: (octSt code i).2)
      rw [← hst]
    · rintro ⟨us, k, left, lt⟩ u h tk' ⟨f, hf, hst⟩ F₁ N₁
      have hlf := octSt_len hst
      have hlf : f.length ≤ 3 := by rw [hlf]; decide
      simp only [List.cons_append, List.nil_append] at N₁
      dsimp only at N₁ F₁ hf
      k_steps
      refine ret_new hret (by k_asm) (by k_asm) (fun _ hq => List.mem_cons_of_mem _ (List.mem_cons_of_mem _ hq)) ?_ (by rename (_ ∧ _ ∧ AllLt _ _) => hl9; exact kst_ltOf hl9.2.2)
      rename (IntsAre _ ([_] ++ _)) => hI9
      first
      | (rw [oct_2 hst c1 c2] at hI9; exact hI9)
      | (rw [oct_3 h0 hst c1 c2 c3] at hI9; exact hI9)
      | (rw [oct_4 h0 hst c1 c2 c3] at hI9; exact hI9)
  · refine wpAny_call ?_
    k_dflt cell_enter
    k_steps
    obtain ⟨fa, ea⟩ := name_1 (by k_asm)
    subst ea
    have l1n : ∀ p ∈ news, p.1 < fa := by assumption
    refine Stop.to ?_
    refine l_range (fun c : List MVal × Nat × Int × MTok => [(fa, PySem.W.listOf c.1.toArray c.2.1)]) (fun c => [(Str.ofString "left", Value.int c.2.2.1 c.2.2.2)]) [] news (fun i c => ∃ f, IntsAre c.1 f ∧ (c.2.2.1, f) = octSt code i) ([], 0, code, ct) (fa :: news.map (·.1)) (fun _ => rfl) rfl (by assumption) (by decide) (by rfl) (by k_asm) (by k_asm) ?_ ?_ ⟨[], .nil, rfl⟩ ?_ ?_
    · exact fun p hp => hp
    · kst_all
    · rintro i t hi ⟨us, k, left, lt⟩ own u h tk' ⟨f, hf, hst⟩ hoff F₁ N₁
      have hi : i < 3 := Nat.lt_of_lt_of_le hi (by decide)
      have hlf := octSt_len hst
      have hul : us.length ≤ 3 := by rw [hf.length]; omega
      simp only [List.cons_append, List.nil_append] at N₁
      dsimp only at N₁ F₁ hf
      have hoff' : OwnOff (news ++ own) [fa] := off_one l1n hoff
      k_steps
      refine LEnd1 (c := (_, _)) (by k_asm) (by k_asm) (by kst_all) (by intro z h1 h2 h3; simp only [List.forall_mem_cons, List.not_mem_nil, false_implies, implies_true, and_true, ne_eq] at h2; simp [kstB, h1, h2]) ⟨_, .cons _ _ hf, ?_⟩
      show _ = ((octSt code i).1.fdiv 64, (128 + (octSt code i).1.fmod 64) :: (octSt code i).2)
      rw [← hst]
    · rintro ⟨us, k, left, lt⟩ u h tk' ⟨f, hf, hst⟩ F₁ N₁
      have hlf := octSt_len hst
      have hlf : f.length ≤ 3 := by rw [hlf]; decide
      simp only [List.cons_append, List.nil_append] at N₁
      dsimp only at N₁ F₁ hf
      k_steps
      refine ret_new hret (by k_asm) (by k_asm) (fun _ hq => List.mem_cons_of_mem _ (List.mem_cons_of_mem _ hq)) ?_ (by rename (_ ∧ _ ∧ AllLt _ _) => hl9; exact kst_ltOf hl9.2.2)
      rename (IntsAre _ ([_] ++ _)) => hI9
      first
      | (rw [oct_2 hst c1 c2] at hI9; exact hI9)
      | (rw [oct_3 h0 hst c1 c2 c3] at hI9; exact hI9)
      | (rw [oct_4 h0 hst c1 c2 c3] at hI9; exact hI9)
  · refine wpAny_call ?_
    k_dflt cell_enter
    k_steps
    obtain ⟨fa, ea⟩ := name_1 (by k_asm)
    subst ea
    have l1n : ∀ p ∈ news, p.1 < fa := by assumption
    refine Stop.to ?_
    refine l_range (fun c : List MVal × Nat × Int × MTok => [(fa, PySem.W.listOf c.1.toArray c.2.1)]) (fun c => [(Str.ofString "left", Value.int c.2.2.1 c.2.2.2)]) [] news (fun i c => ∃ f, IntsAre c.1 f ∧ (c.2.2.1, f) = octSt code i) ([], 0, code, ct) (fa :: news.map (·.1)) (fun _ => rfl) rfl (by assumption) (by decide) (by rfl) (by k_asm) (by k_asm) ?_ ?_ ⟨[], .nil, rfl⟩ ?_ ?_
    · exact fun p hp => hp
    · kst_all
    · rintro i t hi ⟨us, k, left, lt⟩ own u h tk' ⟨f, hf, hst⟩ hoff F₁ N₁
      have hi : i < 3 := Nat.lt_of_lt_of_le hi (by decide)
      have hlf := octSt_len hst
      have hul : us.length ≤ 3 := by rw [hf.length]; omega
      simp only [List.cons_append, List.nil_append] at N₁
      dsimp only at N₁ F₁ hf
      have hoff' : OwnOff (news ++ own) [fa] := off_one l1n hoff
      k_steps
      refine LEnd1 (c := (_, _)) (by k_asm) (by k_asm) (by kst_all) (by intro z h1 h2 h3; simp only [List.forall_mem_cons, List.not_mem_nil, false_implies, implies_true, and_true, ne_eq] at h2; simp [kstB, h1, h2]) ⟨_, .cons _ _ hf, ?_⟩
      show _ = ((octSt code i).1.fdiv 64, (128 + (octSt code i).1.fmod 64) :: (octSt code i).2)
      rw [← hst]
    · rintro ⟨us, k, left, lt⟩ u h tk' ⟨f, hf, hst⟩ F₁ N₁
      have hlf := octSt_len hst
      have hlf : f.length ≤ 3 := by rw [hlf]; decide
      simp only [List.cons_append, List.nil_append] at N₁
      dsimp only at N₁ F₁ hf
      k_steps
      refine ret_new hret (by k_asm) (by k_asm) (fun _ hq => List.mem_cons_of_mem _ (List.mem_cons_of_mem _ hq)) ?_ (by rename (_ ∧ _ ∧ AllLt _ _) => hl9; exact kst_ltOf hl9.2.2)
      rename (IntsAre _ ([_] ++ _)) => hI9
      first
      | (rw [oct_2 hst c1 c2] at hI9; exact hI9)
      | (rw [oct_3 h0 hst c1 c2 c3] at hI9; exact hI9)
      | (rw [oct_4 h0 hst c1 c2 c3] at hI9; exact hI9)
end
section

/-- a code that utf-8 has -/
def OkC (c : Nat) : Prop := c < 1114112 ∧ (c < 55296 ∨ 57343 < c)
/-- the octets of a row of codes -/
def octsL (cs : List Nat) : List Int := cs.flatMap fun (c : Nat) => utf8L (c : Int)
theorem utf8L_len (c : Int) : (utf8L c).length ≤ 4 := by unfold utf8L; (repeat' split) <;> simp
theorem octsL_len (cs : List Nat) : (octsL cs).length ≤ 4 * cs.length := by
  induction cs with
  | nil => exact Nat.le_refl _
  | cons c r ih =>
    show (utf8L c ++ octsL r).length ≤ _
    have := utf8L_len (c : Int)
    rw [List.length_append, List.length_cons]; omega
theorem utf8L_ne (c : Int) : utf8L c ≠ [] := by unfold utf8L; (repeat' split) <;> simp
section
variable {prog : Program} {w : World} {A : Around} {E : Value → Shared → Prop} {s : Shared} {h₀ : Heap} {L D b : Addr} {m : Str → Option Value} {news news' : List (Addr × Obj)} {vs us : List Value} {ns : List Int} {n n2 : Nat}
theorem ext_ints {Q : Value → Shared → Prop} (F : Fr h₀ L s.heap m) (N : News h₀ L s.heap news) (hb : (b, PySem.W.listOf us.toArray n2) ∈ news) (hi : IntsAre us ns) (hne : ns ≠ []) (hn : ns.length ≤ 4) (hv : vs.length ≤ 10000)
    (U : Upd D (PySem.W.listOf vs.toArray n) (PySem.W.listOf (vs ++ us).toArray (n + 1)) news news')
    (h : ∀ h', Fr h₀ L h' m → News h₀ L h' news' → Q .none { s with heap := h' }) : wpAny (model prog w) A (call (.builtin "list.extend") [.ref D, .ref b]) Q E s := by
  have e1 : us.length = ns.length := hi.length
  have e2 : ns.length ≠ 0 := fun e => hne (List.length_eq_zero_iff.mp e)
  refine kl_extend F N hb rfl ?_ U ?_ ?_ ?_ h
  · show us.length ≠ 0; omega
  · have : Builtin.List.listTooLong (vs.toArray.size + us.toArray.size) = false := by
      unfold Builtin.List.listTooLong
      refine decide_eq_false ?_
      rw [List.size_toArray, List.size_toArray, sizeLine_eq]
      omega
    rw [this, Bool.and_false]
    exact Bool.false_ne_true
  · rw [sizeLine_eq]; show vs.length ≤ _; omega
  · rw [sizeLine_eq, List.size_toArray, List.size_toArray]; omega
end
theorem txt_item {x : Str} {i c : Nat} (h : x.cps.toList[i]? = some c) : (Txt.item x (0 + (i : Int))).cps.getD 0 0 = c := by
  have hlt : i < x.cps.toList.length := (List.getElem?_eq_some_iff.mp h).1
  have hl : x.cps.toList.length = x.length := by simp [PySem.Str.length]
  rw [PySem.W.item_meets (by omega)]
  have e : (0 + (i : Int)).toNat = i := by omega
  rw [e]
  show x.cps.getD i 0 = c
  rw [Array.getElem?_toList] at h
  simp [Array.getD_eq_getD_getElem?, h]
theorem octsL_snoc {cs : List Nat} {i c : Nat} (h : cs[i]? = some c) : octsL (cs.take (i + 1)) = octsL (cs.take i) ++ utf8L (c : Int) := by
  rw [List.take_add_one, h]; unfold octsL; rw [List.flatMap_append]; simp
theorem octsL_in {cs : List Nat} (h : ∀ c ∈ cs, OkC c) : KBa.In (octsL cs) := by
  intro k hk
  obtain ⟨c, hc, hk⟩ := List.mem_flatMap.mp hk
  have h1 := h c hc
  unfold OkC at h1
  have b1 := fmod_lo (c : Int) (n := 64) (by decide)
  have b2 := fmod_hi (c : Int) (n := 64) (by decide)
  unfold utf8L at hk
  split at hk
  · rw [List.mem_singleton.mp hk]; omega
  · split at hk
    · simp only [List.mem_cons, List.not_mem_nil, or_false] at hk
      have b3 : (c : Int).fdiv 64 = (c : Int) / 64 := Int.fdiv_eq_ediv_of_nonneg _ (by decide)
      rcases hk with rfl | rfl
      · rw [b3]; omega
      · omega
    · have b4 := fmod_lo ((c : Int).fdiv 64) (n := 64) (by decide)
      have b5 := fmod_hi ((c : Int).fdiv 64) (n := 64) (by decide)
      split at hk
      · simp only [List.mem_cons, List.not_mem_nil, or_false] at hk
        have b3 : (c : Int).fdiv 4096 = (c : Int) / 4096 := Int.fdiv_eq_ediv_of_nonneg _ (by decide)
        rcases hk with rfl | rfl | rfl
        · rw [b3]; omega
        · omega
        · omega
      · simp only [List.mem_cons, List.not_mem_nil, or_false] at hk
        have b6 := fmod_lo ((c : Int).fdiv 4096) (n := 64) (by decide)
        have b7 := fmod_hi ((c : Int).fdiv 4096) (n := 64) (by decide)
        have b3 : (c : Int).fdiv 262144 = (c : Int) / 262144 := Int.fdiv_eq_ediv_of_nonneg _ (by decide)
        rcases hk with rfl | rfl | rfl | rfl
        · rw [b3]; omega
        · omega
        · omega
        · omega
set_option maxRecDepth 100000 in
set_option maxHeartbeats 8000000 in
theorem octin_spec (w : World) (text : MStr) (t1 ct : MTok) (news : MLed) (hok : ∀ c ∈ text.cps.toList, OkC c) (hlen : text.length ≤ 1000) : Spec w 3 95 [Value.str (Str.mk #[117, 116, 102, 45, 56]) t1, .str text ct] news (fun v news' => news' = news ∧ ∃ t, v = .bytes (byteArr (octsL text.cps.toList)) t) := by
  k_with_none
  k_with "eval ListComp" => refine Stop.of ?_
  k_with "exec Assign cons ListComp" => refine Stop.of ?_
  k_with "eval Name" => ((with_reducible show wpAny _ _ (eval _ (compEnvC _ _ _ _)) _ _ _); k_here; k_dflt (refine ldC (by k_asm) (by k_mem) (by assumption) (by assumption) ?_; k_whole))
  k_with "call type:bytes" => (k_here; (with_reducible show wpAny _ _ (call (Value.type "bytes") [Value.ref _]) _ _ _); k_dflt (refine KBa.make_K (by k_asm) (by k_asm) rfl (by is_list) (by assumption) (by assumption) (by first | assumption | omega) ?_; k_whole); intro hZ tZ kZ FZ NZ _)
  k_with "compareOp NotIn int bytes" => (k_here; (with_reducible show wpAny _ _ (compareOp CmpOp.NotIn (Value.int _ _) (Value.bytes _ _)) _ _ _); k_dflt (refine notin_bytes_int (by omega) (by omega) ?_; k_whole))
  k_with "compareOp NotIn str ref" => (k_here; (with_reducible show wpAny _ _ (compareOp CmpOp.NotIn (Value.str _ _) (Value.ref _)) _ _ _); k_dflt (refine notin_tuple_strs (tup_of_K (by k_in) (by k_is)) (by repeat constructor) ?_; k_whole))
  k_with "exec For Name Name cons nil" => (k_here; (rename Fr _ _ _ _ => lFZ); (with_unfolding_all refine For_stop lFZ (by exact rfl) (by exact rfl) ?_; k_whole))
  k_with "exec For Name Call cons nil" => (k_here; (rename Fr _ _ _ _ => lFZ); (with_unfolding_all refine For_stop lFZ (by exact rfl) (by exact rfl) ?_; k_whole))
  k_with "exec For Name BinOp cons nil" => (k_here; (rename Fr _ _ _ _ => lFZ); (with_unfolding_all refine For_stop lFZ (by exact rfl) (by exact rfl) ?_; k_whole))
  k_with "call ref" => (k_here; (with_reducible show wpAny _ _ (call (Value.ref 88) [Value.str _ _, Value.int _ _]) _ _ _); k_dflt (refine Spec.useC (by k_asm) (by k_asm) (by k_asm) (by k_asm) (by k_asm) (by first | exact rfl | assumption) (by ktr_room) (by ktr_units) (has_spec _ _ _ _ _ (by with_reducible assumption) (by with_reducible assumption) (by with_reducible assumption)) ?_; k_whole); intro hZ tkZ FZ NZ; (try dsimp only); (try k_fold))
  k_with "call ref" => (k_here; (with_reducible show wpAny _ _ (call (Value.ref 69) [Value.str _ _]) _ _ _); k_dflt (refine Spec.useC (by k_asm) (by k_asm) (by k_asm) (by k_asm) (by k_asm) (by first | exact rfl | assumption) (by ktr_room) (by ktr_units) (need_spec _ _ _) ?_; k_whole); intro hZ tkZ FZ NZ; (try dsimp only); (try k_fold))
  k_with "call ref" => (k_here; (with_reducible show wpAny _ _ (call (Value.ref 81) [Value.int _ _]) _ _ _); k_dflt (refine Spec.useN (by k_asm) (by k_asm) (by k_asm) (by k_asm) (by k_asm) (by first | exact rfl | assumption) (by ktr_room) (by ktr_units) (oct8_spec _ _ _ _ (by with_reducible assumption) (by with_reducible assumption) (by with_reducible assumption)) ?_; k_whole); intro rZ vsZ nnZ hZ tkZ hGZ l1Z FZ NZ; (try k_lt l1Z); (try dsimp only); (try k_fold))
  k_with "call builtin:list.extend" => (k_here; (with_reducible show wpAny _ _ (call (Value.builtin _) [Value.ref _, Value.ref _]) _ _ _); k_dflt (refine ext_ints (by k_asm) (by k_asm) (by k_mem) (by with_reducible assumption) (by exact utf8L_ne _) (by exact utf8L_len _) (by assumption) (by k_upd) ?_); intro hZ FZ NZ)
  w_top off
  unfold Spec
  k_fill
  intro p loose mean mg mb dp un gd cn cs a ccd cl outer A₀ base h₀ L m s Q E B F X N T hk hdp hun hret
  have hmk := kstMark
  refine wpAny_call ?_
  k_dflt cell_enter
  k_steps
  obtain ⟨fa, ea⟩ := name_1 (by k_asm)
  subst ea
  have l1n : ∀ p ∈ news, p.1 < fa := by assumption
  refine Stop.to ?_
  have hsz : text.cps.toList.length = text.length := by simp [PySem.Str.length]
  refine l_range (n := text.length) (fun c : List MVal × Nat × Unit => [(fa, PySem.W.listOf c.1.toArray c.2.1)]) (fun _ => []) [Str.ofString "code"] news (fun i c => IntsAre c.1 (octsL (text.cps.toList.take i))) ([], 0, ()) (fa :: news.map (·.1)) (fun _ => rfl) rfl (by assumption) (small_one (by omega) (by omega) (by omega) (by omega)) (by rw [rangeSize_nat]; omega) (by k_asm) (by k_asm) ?_ ?_ .nil ?_ ?_
  · exact fun p hp => hp
  · kst_all
  · rintro i t hi ⟨us, k, _⟩ own u h tk' hR hoff F₁ N₁
    simp only [List.cons_append, List.nil_append] at N₁
    dsimp only at N₁ F₁ hR
    have hoff' : OwnOff (news ++ own) [fa] := off_one l1n hoff
    obtain ⟨cv, hcv⟩ : ∃ cv, text.cps.toList[i]? = some cv := ⟨_, List.getElem?_eq_getElem (by rw [hsz]; exact hi)⟩
    have hmem := hok cv (List.mem_of_getElem? hcv)
    have hit := txt_item hcv
    unfold OkC at hmem
    have hq0 : (0 : Int) ≤ ((Txt.item text (0 + (i : Int))).cps.getD 0 0 : Nat) := by omega
    have hq1 : (((Txt.item text (0 + (i : Int))).cps.getD 0 0 : Nat) : Int) < 1114112 := by omega
    have hq2 : (((Txt.item text (0 + (i : Int))).cps.getD 0 0 : Nat) : Int) < 55296 ∨ 57343 < (((Txt.item text (0 + (i : Int))).cps.getD 0 0 : Nat) : Int) := by omega
    have hul : us.length ≤ 10000 := by
      have := octsL_len (text.cps.toList.take i)
      rw [hR.length]; rw [List.length_take] at this; omega
    k_steps
    refine LEnd1a (c := ()) (by k_asm) (by k_asm) (fun _ hp => nomatch hp) (by intro z h1 h2 h3; (try simp only [List.forall_mem_cons, List.not_mem_nil, false_implies, implies_true, and_true, ne_eq] at h2); simp only [List.contains_cons, List.contains_nil, Bool.or_false, Bool.or_eq_false_iff, beq_eq_false_iff_ne, ne_eq] at h3; simp [kstB, h1, h2, h3]) ?_
    rename (IntsAre _ (utf8L _)) => hG9
    rw [hit] at hG9
    show IntsAre _ _
    rw [octsL_snoc hcv]
    exact hR.append hG9
  · rintro ⟨us, k, _⟩ u h tk' hR F₁ N₁
    simp only [List.cons_append, List.nil_append] at N₁
    have hR : IntsAre us (octsL text.cps.toList) := by
      have h9 : text.cps.toList.take text.length = text.cps.toList := by rw [← hsz]; exact List.take_length
      rw [← h9]; exact hR
    have hin := octsL_in hok
    have hl : (octsL text.cps.toList).length ≤ 16777216 := by have := octsL_len text.cps.toList; omega
    k_steps
    exact hret _ news _ _ (by k_asm) (news_sub (by k_asm) (fun p hp => List.mem_cons_of_mem _ hp)) ⟨rfl, _, rfl⟩
end
section

/-- a piece goes to the last row, or opens the next -/
def rowStep (room : Int) (st : List (List Int) × List Int) (p : List Int) : List (List Int) × List Int := if (st.2.length : Int) + (p.length : Int) > room then (st.1 ++ [st.2], p) else (st.1, st.2 ++ p)
def rowsI (room : Int) (ps : List (List Int)) : List (List Int) := (ps.foldl (rowStep room) ([], [])).1 ++ [(ps.foldl (rowStep room) ([], [])).2]
theorem name_tok {h₀ h : Heap} {L a : Addr} {b : Array UInt8} {t : Tok} {k : Nat} {r : List (Addr × Obj)} (_N : News h₀ L h ((a, PySem.W.listOf #[.bytes b t] k) :: r)) : ∃ t' : Nat, t' = t := ⟨t, rfl⟩
section
variable {prog : Program} {w : World} {A : Around} {E : Value → Shared → Prop} {s : Shared} {h₀ : Heap} {L D : Addr} {m : Str → Option Value} {news news' : List (Addr × Obj)} {us : List Value} {v v' : Value} {n : Nat} {u t : Tok} {a b : List Int}
theorem last_at (us : List Value) (v : Value) : (us ++ [v]).toArray[((-1 : Int) + ((us ++ [v]).toArray.size : Nat)).toNat]? = some v := by
  have e : ((-1 : Int) + ((us ++ [v]).toArray.size : Nat)).toNat = us.length := by rw [List.size_toArray, List.length_append, List.length_singleton]; omega
  rw [e]; simp
theorem sub_last {value slice : PySem.Expr} {Q : Value → Shared → Prop} (N : News h₀ L s.heap news) (hm : (D, PySem.W.listOf (us ++ [v]).toArray n) ∈ news) (h : Q v s)
    (hs : subscripted slice false (.ref D) (.int (-1) u) = operate [.ref D, .int (-1) u] (getItem (.ref D) (.int (-1) u)) := by with_unfolding_all rfl) (hg : ∀ r, letTemporaryGo value (.ref D) r = pure () := by intro _; with_unfolding_all rfl) :
    wpAny (model prog w) A (subscriptTail value slice (.ref D) (.int (-1) u)) Q E s := by
  have hl : s.heap.IsList D (us ++ [v]).toArray := PySem.IsL.isList (n := n) (N _ hm).1
  exact subscriptTail_builtin hl.typeIs slot_list_getitem.lookup (wpAny_getItem_list_neg hl (by decide) (by rw [List.size_toArray, List.length_append, List.length_singleton]; omega) (by decide) (last_at us v) h) hs hg
theorem set_last {Q : Unit → Shared → Prop} (F : Fr h₀ L s.heap m) (N : News h₀ L s.heap news) (U : Upd D (PySem.W.listOf (us ++ [v]).toArray n) (PySem.W.listOf (us ++ [v']).toArray n) news news')
    (h : ∀ h', Fr h₀ L h' m → News h₀ L h' news' → Q () { s with heap := h' }) : wpAny (model prog w) A (setItem (.ref D) (.int (-1) t) v') Q E s := by
  obtain ⟨pre, post, rfl, rfl, a, b⟩ := U.split
  have z := N (D, PySem.W.listOf (us ++ [v]).toArray n) (List.mem_append.mpr (.inr (.head _)))
  refine ki_setBack z.1 (by decide) (by rw [List.size_toArray, List.length_append, List.length_singleton]; omega) (by decide) (h _ (F.change (Heap.SameBut.update ..) z.2.1 z.2.2) (ki_turn _ N a b ?_ ?_))
  · have e : ((-1 : Int) + ((us ++ [v]).toArray.size : Nat)).toNat = us.length := by rw [List.size_toArray, List.length_append, List.length_singleton]; omega
    rw [e]
    apply Array.toList_inj.mp
    simp
  · simp
theorem app_snoc {vs : List Value} {Q : Value → Shared → Prop} (F : Fr h₀ L s.heap m) (N : News h₀ L s.heap news) (U : Upd D (PySem.W.listOf vs.toArray n) (PySem.W.listOf (vs ++ [v]).toArray (n + 1)) news news') (hz : vs.length ≤ 100000)
    (h : ∀ h', Fr h₀ L h' m → News h₀ L h' news' → Q .none { s with heap := h' }) : wpAny (model prog w) A (call (.builtin "list.append") [.ref D, v]) Q E s :=
  append_K (its := vs.toArray) F N (by rw [List.push_toArray]; exact U) h (by rw [List.size_toArray, sizeLine_eq]; omega)
theorem len_byteArr {Q : Value → Shared → Prop} (hfit : a.length ≤ 100000) (h : Q (.int (a.length : Nat) (s.toks + 1)) { s with toks := s.toks + 1 + 1 }) : wpAny (model prog w) A (call (.builtin "len") [.bytes (byteArr a) t]) Q E s :=
  len_bytes (by rw [byteArr_size]; omega) (by rw [byteArr_size]; exact h)
theorem byteArr_app (a b : List Int) : byteArr a ++ byteArr b = byteArr (a ++ b) := by
  apply Array.toList_inj.mp; simp [byteArr]
theorem add_byteArr {Q : Value → Shared → Prop} (hsz : a.length + b.length ≤ 100000) (h : ∀ t' k, Q (.bytes (byteArr (a ++ b)) t') { s with toks := k }) : wpAny (model prog w) A (binaryOp .Add (.bytes (byteArr a) t) (.bytes (byteArr b) u)) Q E s :=
  KBy.add_bytes (by rw [byteArr_size, byteArr_size]; omega) fun t' k => by rw [byteArr_app]; exact h t' k
theorem add_noneArr {Q : Value → Shared → Prop} (hsz : b.length ≤ 100000) (h : ∀ t' k, Q (.bytes (byteArr b) t') { s with toks := k }) : wpAny (model prog w) A (binaryOp .Add (.bytes #[] t) (.bytes (byteArr b) u)) Q E s :=
  add_byteArr (a := []) (by rw [List.length_nil]; omega) h
end
theorem LEndR {x : Str} {h₀ : Heap} {m₀ : Str → Option Value} {L fa : Addr} {R : List Value × List Int × Tok × Nat → Prop} {rest : List (Addr × Obj)} {s₁ : Shared} {h' : Heap} {tk : Nat} {m' : Str → Option Value} {pre : List Value} {cur : List Int} {bt : Tok} {kk : Nat}
    (F : Fr h₀ L h' m') (N : News h₀ L h' ((fa, PySem.W.listOf (pre ++ [Value.bytes (byteArr cur) bt]).toArray kk) :: rest)) (hs : ∀ z, z ≠ x → m' z = m₀ z) (hR : R (pre, cur, bt, kk)) :
    LEnd h₀ L x [] m₀ (fun c : List Value × List Int × Tok × Nat => [(fa, PySem.W.listOf (c.1 ++ [Value.bytes (byteArr c.2.1) c.2.2.1]).toArray c.2.2.2)]) (fun _ => []) R rest s₁ .next { s₁ with heap := h', toks := tk } :=
  LEnd.mk' (pre, cur, bt, kk) F N (fun p hp => by rw [List.mem_singleton.mp hp]; exact List.mem_cons_self ..) (fun p hp => List.mem_cons_of_mem _ hp) (fun _ hp => nomatch hp) (fun z hz _ _ => hs z hz) hR
theorem rows_next {room : Int} {nss : List (List Int)} {i : Nat} {pc cur : List Int} {dn : List (List Int)} (h : nss[i]? = some pc) (hst : (dn, cur) = (nss.take i).foldl (rowStep room) ([], [])) :
    (nss.take (i + 1)).foldl (rowStep room) ([], []) = rowStep room (dn, cur) pc := by
  rw [List.take_add_one, h, List.foldl_append, ← hst]; rfl
set_option maxRecDepth 100000 in
set_option maxHeartbeats 8000000 in
theorem inrows_spec (w : World) (pa : Nat) (vs : List MVal) (nn : Nat) (nss : List (List Int)) (room : Int) (ct : MTok) (news : MLed) (hp : (pa, PySem.W.listOf vs.toArray nn) ∈ news) (hb : BytesAre vs nss) (hlen : nss.length ≤ 10000) (hr0 : 0 ≤ room) (hr1 : room ≤ 100) (h7 : ∀ p ∈ nss, p.length ≤ 7) :
    Spec w 1 116 [.ref pa, .int room ct] news (NewL news fun ws => BytesAre ws (rowsI room nss)) := by
  k_with_none
  k_with "eval ListComp" => refine Stop.of ?_
  k_with "exec Assign cons ListComp" => refine Stop.of ?_
  k_with "eval Name" => ((with_reducible show wpAny _ _ (eval _ (compEnvC _ _ _ _)) _ _ _); k_here; k_dflt (refine ldC (by k_asm) (by k_mem) (by assumption) (by assumption) ?_; k_whole))
  k_with "call type:bytes" => (k_here; (with_reducible show wpAny _ _ (call (Value.type "bytes") [Value.ref _]) _ _ _); k_dflt (refine KBa.make_K (by k_asm) (by k_asm) rfl (by is_list) (by assumption) (by assumption) (by first | assumption | omega) ?_; k_whole); intro hZ tZ kZ FZ NZ _)
  k_with "compareOp NotIn int bytes" => (k_here; (with_reducible show wpAny _ _ (compareOp CmpOp.NotIn (Value.int _ _) (Value.bytes _ _)) _ _ _); k_dflt (refine notin_bytes_int (by omega) (by omega) ?_; k_whole))
  k_with "compareOp NotIn str ref" => (k_here; (with_reducible show wpAny _ _ (compareOp CmpOp.NotIn (Value.str _ _) (Value.ref _)) _ _ _); k_dflt (refine notin_tuple_strs (tup_of_K (by k_in) (by k_is)) (by repeat constructor) ?_; k_whole))
  k_with "exec For Name Name cons nil" => (k_here; (rename Fr _ _ _ _ => lFZ); (with_unfolding_all refine For_stop lFZ (by exact rfl) (by exact rfl) ?_; k_whole))
  k_with "exec For Name Call cons nil" => (k_here; (rename Fr _ _ _ _ => lFZ); (with_unfolding_all refine For_stop lFZ (by exact rfl) (by exact rfl) ?_; k_whole))
  k_with "exec For Name BinOp cons nil" => (k_here; (rename Fr _ _ _ _ => lFZ); (with_unfolding_all refine For_stop lFZ (by exact rfl) (by exact rfl) ?_; k_whole))
  k_with "subscriptTail Name UnaryOp ref int" => (k_here; (with_reducible show wpAny _ _ (subscriptTail _ _ (Value.ref _) (Value.int _ _)) _ _ _); k_dflt (refine sub_last (by k_asm) (by k_mem) ?_ (by with_unfolding_all rfl) (by intro _; with_unfolding_all rfl); k_whole))
  k_with "setItem ref int" => (k_here; (with_reducible show wpAny _ _ (setItem (Value.ref _) (Value.int _ _) _) _ _ _); k_dflt (refine set_last (by k_asm) (by k_asm) (by k_upd) ?_; k_whole); intro hZ FZ NZ)
  k_with "call builtin:list.append" => (k_here; (with_reducible show wpAny _ _ (call (Value.builtin _) [Value.ref _, _]) _ _ _); k_dflt (refine app_snoc (by k_asm) (by k_asm) (by k_upd) (by first | (simp only [List.length_append, List.length_cons, List.length_nil]; omega) | omega) ?_; k_whole); intro hZ FZ NZ)
  k_with "call builtin:len" => (k_here; (with_reducible show wpAny _ _ (call (Value.builtin "len") [Value.bytes (byteArr _) _]) _ _ _); (refine len_byteArr (by omega) ?_; k_whole))
  k_with "binaryOp Add bytes bytes" => (k_here; first | ((with_reducible refine add_byteArr (by omega) ?_); intro tZ kZ) | ((with_reducible refine add_noneArr (by omega) ?_); intro tZ kZ))
  w_top off
  unfold Spec
  k_fill
  intro p loose mean mg mb dp un gd cn cs a ccd cl outer A₀ base h₀ L m s Q E B F X N T hk hdp hun hret
  have hmk := kstMark
  refine wpAny_call ?_
  k_dflt cell_enter
  k_steps
  obtain ⟨fa, ea⟩ := name_1 (by k_asm)
  subst ea
  have l1n : ∀ p ∈ news, p.1 < fa := by assumption
  obtain ⟨ctok, hct⟩ := name_tok (by k_asm)
  subst hct
  refine Stop.to ?_
  refine l_list (fun c : List MVal × List Int × MTok × Nat => [(fa, PySem.W.listOf (c.1 ++ [Value.bytes (byteArr c.2.1) c.2.2.1]).toArray c.2.2.2)]) (fun _ => []) [] news (fun i c => c.2.1.length ≤ 107 ∧ ∃ dn, BytesAre c.1 dn ∧ dn.length ≤ i ∧ (dn, c.2.1) = (nss.take i).foldl (rowStep room) ([], [])) ([], [], ctok, 0) (fa :: news.map (·.1)) (fun _ => rfl) hp rfl (by k_asm) (by k_asm) ?hsub ?hps ?hR ?turn ?done
  case hsub => exact fun p hp => hp
  case hps => exact fun _ hp => nomatch hp
  case hR => exact ⟨Nat.zero_le _, [], .nil, Nat.le_refl _, rfl⟩
  case turn =>
    rintro i v hv ⟨pre, cur, bt, kk⟩ own u h tk' ⟨hcl, dn, hpre, hdl, hst⟩ hoff F₁ N₁
    obtain ⟨pc, pt, hpc, rfl⟩ := hb.get i hv
    have hp7 := h7 pc (List.mem_of_getElem? hpc)
    simp only [List.cons_append, List.nil_append] at N₁
    dsimp only at N₁ F₁ hcl hpre hst
    have hoff' : OwnOff (news ++ own) [fa] := off_one l1n hoff
    have hil : i < nss.length := (List.getElem?_eq_some_iff.mp hpc).1
    have hpl : pre.length ≤ 10000 := by rw [hpre.length]; omega
    k_steps
    · refine LEndR (by k_asm) (by k_asm) (by intro z h1; simp [kstB, h1]) ⟨?_, dn ++ [cur], ?_, ?_, ?_⟩
      · show pc.length ≤ 107; omega
      · exact hpre.append (.cons .nil)
      · rw [List.length_append, List.length_singleton]; omega
      · rw [rows_next hpc hst]; unfold rowStep; rw [if_pos (by assumption)]
    · refine LEndR (by k_asm) (by k_asm) (by intro z h1; simp [kstB, h1]) ⟨?_, dn, ?_, ?_, ?_⟩
      · show (cur ++ pc).length ≤ 107; rw [List.length_append]; omega
      · exact hpre
      · omega
      · rw [rows_next hpc hst]; unfold rowStep; rw [if_neg (by assumption)]
  case done =>
    rintro ⟨pre, cur, bt, kk⟩ u h tk' ⟨hcl, dn, hpre, hdl, hst⟩ F₁ N₁
    simp only [List.cons_append, List.nil_append] at N₁
    dsimp only at N₁ F₁ hcl hpre hst
    rw [hb.length, List.take_length] at hst
    k_steps
    refine ret_new hret (by k_asm) (by k_asm) (fun _ hq => hq) ?_ l1n
    show BytesAre _ (rowsI room nss)
    unfold rowsI
    rw [← hst]
    exact hpre.append (.cons .nil)
end
section

theorem BytesAre.arr {vs : List Value} {nss : List (List Int)} (h : BytesAre vs nss) : ArrAre vs (nss.map byteArr) := by
  induction h with
  | nil => exact .nil
  | cons _ ih => exact .cons ih
theorem joinA_bytes (nss : List (List Int)) : joinA (nss.map byteArr) = byteArr nss.flatten := by
  unfold joinA
  have key : ∀ (l : List (List Int)) (a : List Int), (l.map byteArr).foldl (· ++ ·) (byteArr a) = byteArr (a ++ l.flatten) := by
    intro l
    induction l with
    | nil => intro a; simp
    | cons x r ih => intro a; rw [List.map_cons, List.foldl_cons, byteArr_app, ih, List.flatten_cons, List.append_assoc]
  exact key nss []
theorem sizes_bytes (nss : List (List Int)) : ((nss.map byteArr).map (·.size)).sum = nss.flatten.length := by
  induction nss with
  | nil => rfl
  | cons x r ih => rw [List.map_cons, List.map_cons, List.sum_cons, ih, byteArr_size, List.flatten_cons, List.length_append]
/-- utf-8'' -/
def leadI : List Int := [117, 116, 102, 45, 56, 39, 39]
section
variable {prog : Program} {w : World} {A : Around} {E : Value → Shared → Prop} {s : Shared} {t u : Tok} {a : List Int} {Q : Value → Shared → Prop}
theorem add_c1 (hsz : a.length ≤ 90000) (h : ∀ t' k, Q (.bytes (byteArr (a ++ [42, 61])) t') { s with toks := k }) : wpAny (model prog w) A (binaryOp .Add (.bytes (byteArr a) t) (.bytes #[42, 61] u)) Q E s :=
  add_byteArr (b := [42, 61]) (by show _ + 2 ≤ _; omega) h
theorem add_c2 (hsz : a.length ≤ 90000) (h : ∀ t' k, Q (.bytes (byteArr (a ++ leadI)) t') { s with toks := k }) : wpAny (model prog w) A (binaryOp .Add (.bytes (byteArr a) t) (.bytes #[117, 116, 102, 45, 56, 39, 39] u)) Q E s :=
  add_byteArr (b := leadI) (by show _ + 7 ≤ _; omega) h
theorem add_c3 (hsz : a.length ≤ 90000) (h : ∀ t' k, Q (.bytes (byteArr (a ++ [42])) t') { s with toks := k }) : wpAny (model prog w) A (binaryOp .Add (.bytes (byteArr a) t) (.bytes #[42] u)) Q E s :=
  add_byteArr (b := [42]) (by show _ + 1 ≤ _; omega) h
end
theorem bytes_lead {vs : List Value} {nss : List (List Int)} {t : Tok} (h : BytesAre vs nss) : BytesAre ([Value.bytes #[117, 116, 102, 45, 56, 39, 39] t] ++ vs) (leadI :: nss) := .cons (ns := leadI) h
section
variable {prog : Program} {w : World} {A : Around} {E : Value → Shared → Prop} {s : Shared} {h₀ : Heap} {L : Addr} {m : Str → Option Value} {news : List (Addr × Obj)} {vs ws : List Value} {a b : Addr} {k1 k2 : Nat} {Q : Value → Shared → Prop}
theorem add_lst (F : Fr h₀ L s.heap m) (N : News h₀ L s.heap news) (ha : (a, PySem.W.listOf vs.toArray k1) ∈ news) (hb : (b, PySem.W.listOf ws.toArray k2) ∈ news) (hz : vs.length + ws.length ≤ 100000)
    (h : ∀ (D : Nat) h', Fr h₀ L h' m → News h₀ L h' ((D, PySem.W.listOf (vs ++ ws).toArray 0) :: news) → (∀ p ∈ news, p.1 < D) → Q (.ref D) { s with heap := h' }) : wpAny (model prog w) A (binaryOp .Add (.ref a) (.ref b)) Q E s :=
  add_lists F N (News.isList N ha) (News.isList N hb) (fun h' F' N' => h _ h' F' N' fun p hp => Heap.lt_size (N p hp).1) (by rw [sizeLine_eq]; omega)
end
section
variable {prog : Program} {w : World} {A : Around} {E : Value → Shared → Prop} {s : Shared} {h₀ : Heap} {L D : Addr} {m : Str → Option Value} {news : List (Addr × Obj)} {vs : List Value} {nss : List (List Int)} {n : Nat} {k : Int} {u : Tok}
theorem sub_at {value slice : PySem.Expr} {Q : Value → Shared → Prop} (N : News h₀ L s.heap news) (hm : (D, PySem.W.listOf vs.toArray n) ∈ news) (hb : BytesAre vs nss) (h0 : 0 ≤ k) (h1 : k < (nss.length : Nat)) (h2 : nss.length ≤ 100000) (h : ∀ t, Q (.bytes (byteArr (nss.getD k.toNat [])) t) s)
    (hs : subscripted slice false (.ref D) (.int k u) = operate [.ref D, .int k u] (getItem (.ref D) (.int k u)) := by with_unfolding_all rfl) (hg : ∀ r, letTemporaryGo value (.ref D) r = pure () := by intro _; with_unfolding_all rfl) :
    wpAny (model prog w) A (subscriptTail value slice (.ref D) (.int k u)) Q E s := by
  have hl : s.heap.IsList D vs.toArray := News.isList N hm
  have hlt : k.toNat < vs.length := by rw [hb.length]; omega
  obtain ⟨ns, t, e1, e2⟩ := hb.get k.toNat (List.getElem?_eq_getElem hlt)
  have e3 : nss.getD k.toNat [] = ns := by simp [List.getD, e1]
  have h9 := h t
  rw [e3] at h9
  exact subscriptTail_builtin hl.typeIs slot_list_getitem.lookup (wpAny_getItem_list hl h0 (by omega) (by simp [List.getElem?_eq_getElem hlt]; exact e2) h9) hs hg
theorem len_bytesL {Q : Value → Shared → Prop} (N : News h₀ L s.heap news) (hm : (D, PySem.W.listOf vs.toArray n) ∈ news) (hb : BytesAre vs nss) (hfit : nss.length ≤ 100000)
    (h : Q (.int (nss.length : Nat) (s.toks + 1)) { s with toks := s.toks + 1 + 1 }) : wpAny (model prog w) A (call (.builtin "len") [.ref D]) Q E s := kst_len N hm hb.length (by omega) h
end
theorem rowsI_len (room : Int) (ps : List (List Int)) : (rowsI room ps).length ≤ ps.length + 1 := by
  have key : ∀ (l : List (List Int)) (st : List (List Int) × List Int), (l.foldl (rowStep room) st).1.length ≤ st.1.length + l.length := by
    intro l
    induction l with
    | nil => intro st; exact Nat.le_refl _
    | cons x r ih =>
      intro st
      have h1 := ih (rowStep room st x)
      have h2 : (rowStep room st x).1.length ≤ st.1.length + 1 := by unfold rowStep; split <;> simp
      rw [List.foldl_cons, List.length_cons]; omega
  have := key ps ([], [])
  unfold rowsI
  rw [List.length_append, List.length_singleton]
  simp only [List.length_nil] at this
  omega
/-- a row of the answer -/
def encRow (nm : List Int) (rows : List (List Int)) (j : Nat) : List Int := nm ++ [42] ++ ((decL j).map fun (c : Nat) => (c : Int)) ++ [42, 61] ++ rows.getD j []
/-- what encoded_rows gives back -/
def encI (nm : List Int) (cs : List Nat) : List (List Int) :=
  if (((nm ++ [42, 61] ++ leadI ++ ((octsL cs).map pieceI).flatten).length : Nat) : Int) + 2 ≤ 78 then [nm ++ [42, 61] ++ leadI ++ ((octsL cs).map pieceI).flatten]
  else (List.range (rowsI (66 - (nm.length : Int)) (leadI :: (octsL cs).map pieceI)).length).map (encRow nm (rowsI (66 - (nm.length : Int)) (leadI :: (octsL cs).map pieceI)))
theorem rows_snoc {nm : List Int} {rows : List (List Int)} {i : Nat} {ys : List Value} {t : Tok} {v : List Int} (h : BytesAre ys ((List.range i).map (encRow nm rows))) (e : encRow nm rows i = v) : BytesAre (ys ++ [.bytes (byteArr v) t]) ((List.range (i + 1)).map (encRow nm rows)) := by
  rw [List.range_succ, List.map_append, List.map_singleton, e]
  exact h.append (.cons .nil)
theorem rows_flat (room : Int) (ps : List (List Int)) : (rowsI room ps).flatten = ps.flatten := by
  have key : ∀ (l : List (List Int)) (st : List (List Int) × List Int), (l.foldl (rowStep room) st).1.flatten ++ (l.foldl (rowStep room) st).2 = st.1.flatten ++ st.2 ++ l.flatten := by
    intro l
    induction l with
    | nil => intro st; simp
    | cons x r ih =>
      intro st
      rw [List.foldl_cons, ih]
      have h2 : (rowStep room st x).1.flatten ++ (rowStep room st x).2 = st.1.flatten ++ st.2 ++ x := by unfold rowStep; split <;> simp
      rw [h2, List.flatten_cons]; simp
  have := key ps ([], [])
  unfold rowsI
  rw [List.flatten_append, List.flatten_singleton, this]; simp
theorem getD_len (l : List (List Int)) : ∀ j : Nat, (l.getD j []).length ≤ l.flatten.length := by
  induction l with
  | nil => intro j; simp
  | cons x r ih =>
    intro j
    cases j with
    | zero => simp
    | succ j => have := ih j; simp only [List.getD_cons_succ, List.flatten_cons, List.length_append]; omega
theorem pieceI_len (k : Int) : (pieceI k).length ≤ 3 := by unfold pieceI; split <;> simp
theorem pieces_len (ks : List Int) : ((ks.map pieceI).flatten).length ≤ 3 * ks.length := by
  induction ks with
  | nil => exact Nat.le_refl _
  | cons x r ih =>
    have := pieceI_len x
    rw [List.map_cons, List.flatten_cons, List.length_append, List.length_cons]; omega
set_option maxRecDepth 100000 in
set_option maxHeartbeats 8000000 in
theorem enc_spec (w : World) (nm : List Int) (text : MStr) (nt ct : MTok) (news : MLed) (hok : ∀ c ∈ text.cps.toList, OkC c) (hlen : text.length ≤ 200) (hnl : nm.length ≤ 30) : Spec w 4 121 [.bytes (byteArr nm) nt, .str text ct] news (NewL news fun vs => BytesAre vs (encI nm text.cps.toList)) := by
  k_with_none
  k_with "eval ListComp" => refine Stop.of ?_
  k_with "exec Assign cons ListComp" => refine Stop.of ?_
  k_with "eval Name" => ((with_reducible show wpAny _ _ (eval _ (compEnvC _ _ _ _)) _ _ _); k_here; k_dflt (refine ldC (by k_asm) (by k_mem) (by assumption) (by assumption) ?_; k_whole))
  k_with "call type:bytes" => (k_here; (with_reducible show wpAny _ _ (call (Value.type "bytes") [Value.ref _]) _ _ _); k_dflt (refine KBa.make_K (by k_asm) (by k_asm) rfl (by is_list) (by assumption) (by assumption) (by first | assumption | omega) ?_; k_whole); intro hZ tZ kZ FZ NZ _)
  k_with "compareOp NotIn int bytes" => (k_here; (with_reducible show wpAny _ _ (compareOp CmpOp.NotIn (Value.int _ _) (Value.bytes _ _)) _ _ _); k_dflt (refine notin_bytes_int (by omega) (by omega) ?_; k_whole))
  k_with "compareOp NotIn str ref" => (k_here; (with_reducible show wpAny _ _ (compareOp CmpOp.NotIn (Value.str _ _) (Value.ref _)) _ _ _); k_dflt (refine notin_tuple_strs (tup_of_K (by k_in) (by k_is)) (by repeat constructor) ?_; k_whole))
  k_with "exec For Name Name cons nil" => (k_here; (rename Fr _ _ _ _ => lFZ); (with_unfolding_all refine For_stop lFZ (by exact rfl) (by exact rfl) ?_; k_whole))
  k_with "exec For Name Call cons nil" => (k_here; (rename Fr _ _ _ _ => lFZ); (with_unfolding_all refine For_stop lFZ (by exact rfl) (by exact rfl) ?_; k_whole))
  k_with "exec For Name BinOp cons nil" => (k_here; (rename Fr _ _ _ _ => lFZ); (with_unfolding_all refine For_stop lFZ (by exact rfl) (by exact rfl) ?_; k_whole))
  k_with "binaryOp Add ref ref" => (k_here; (with_reducible show wpAny _ _ (binaryOp _ (Value.ref _) (Value.ref _)) _ _ _); k_dflt (refine add_lst (by k_asm) (by k_asm) (by k_mem) (by k_mem) (by (have hl9Z := BytesAre.length (by with_reducible assumption); rw [List.length_map] at hl9Z; simp only [List.length_cons, List.length_nil]; omega)) ?_; k_whole); intro DZ hZ FZ NZ l1Z; (try k_lt l1Z))
  k_with "call ref" => (k_here; (with_reducible show wpAny _ _ (call (Value.ref 95) [Value.str _ _, Value.str _ _]) _ _ _); k_dflt (refine Spec.useV (by k_asm) (by k_asm) (by k_asm) (by k_asm) (by k_asm) (by first | exact rfl | assumption) (by ktr_room) (by ktr_units) (octin_spec _ _ _ _ _ (by with_reducible assumption) (by omega)) ?_; k_whole); intro tZ hZ tkZ FZ NZ; (try dsimp only); (try k_unmd); (try k_fold))
  k_with "call ref" => (k_here; (with_reducible show wpAny _ _ (call (Value.ref 109) [Value.bytes _ _]) _ _ _); k_dflt (refine Spec.useN (by k_asm) (by k_asm) (by k_asm) (by k_asm) (by k_asm) (by first | exact rfl | assumption) (by ktr_room) (by ktr_units) (perc_spec _ _ _ _ _ (by with_reducible assumption) (by omega)) ?_; k_whole); intro rZ vsZ nnZ hZ tkZ hGZ l1Z FZ NZ; (try k_lt l1Z); (try dsimp only); (try k_unmd); (try k_fold))
  k_with "call ref" => (k_here; (with_reducible show wpAny _ _ (call (Value.ref 116) [Value.ref _, Value.int _ _]) _ _ _); k_dflt (refine Spec.useN (by k_asm) (by k_asm) (by k_asm) (by k_asm) (by k_asm) (by first | exact rfl | assumption) (by ktr_room) (by ktr_units) (inrows_spec _ _ _ _ _ _ _ _ (by k_mem) (by exact bytes_lead (by with_reducible assumption)) (by (simp only [List.length_cons, List.length_map]; omega)) (by omega) (by omega) (by with_reducible assumption)) ?_; k_whole); intro rZ vsZ nnZ hZ tkZ hGZ l1Z FZ NZ; (try k_lt l1Z); (try dsimp only); (try k_unmd); (try k_fold))
  k_with "call ref" => (k_here; (with_reducible show wpAny _ _ (call (Value.ref 126) [Value.int _ _]) _ _ _); k_dflt (refine Spec.useV (by k_asm) (by k_asm) (by k_asm) (by k_asm) (by k_asm) (by first | exact rfl | assumption) (by ktr_room) (by ktr_units) (number_spec _ _ _ _ (by omega) (by omega)) ?_; k_whole); intro tZ hZ tkZ FZ NZ; (try dsimp only); (try k_unmd); (try k_fold))
  k_with "call builtin:list.append" => (k_here; (with_reducible show wpAny _ _ (call (Value.builtin _) [Value.ref _, _]) _ _ _); k_dflt (refine app_snoc (by k_asm) (by k_asm) (by k_upd) (by first | (simp only [List.length_append, List.length_cons, List.length_nil]; omega) | omega) ?_; k_whole); intro hZ FZ NZ)
  k_with "call builtin:len" => (k_here; (with_reducible show wpAny _ _ (call (Value.builtin "len") [Value.bytes (byteArr _) _]) _ _ _); (refine len_byteArr (by (try simp only [List.length_append, List.length_cons, List.length_nil, List.length_map]); omega) ?_; k_whole))
  k_with "binaryOp Add bytes bytes" => (k_here; first | ((with_reducible refine add_byteArr (by (try simp only [List.length_append, List.length_cons, List.length_nil, List.length_map]); omega) ?_); intro tZ kZ) | ((with_reducible refine add_noneArr (by omega) ?_); intro tZ kZ))
  k_with "binaryOp Add bytes bytes" => (k_here; first | ((with_reducible refine add_c1 (by (try simp only [List.length_append, List.length_cons, List.length_nil, List.length_map]); omega) ?_); intro tZ kZ) | ((with_reducible refine add_c2 (by (try simp only [List.length_append, List.length_cons, List.length_nil, List.length_map]); omega) ?_); intro tZ kZ) | ((with_reducible refine add_c3 (by (try simp only [List.length_append, List.length_cons, List.length_nil, List.length_map]); omega) ?_); intro tZ kZ))
  k_with "call builtin:len" => (k_here; (with_reducible show wpAny _ _ (call (Value.builtin "len") [Value.ref _]) _ _ _); k_dflt (refine len_bytesL (by k_asm) (by k_mem) (by with_reducible assumption) (by omega) ?_; k_whole))
  k_with "subscriptTail Name Name ref int" => (k_here; (with_reducible show wpAny _ _ (subscriptTail _ _ (Value.ref _) (Value.int _ _)) _ _ _); k_dflt (refine sub_at (by k_asm) (by k_mem) (by with_reducible assumption) (by omega) (by omega) (by omega) ?_ (by with_unfolding_all rfl) (by intro _; with_unfolding_all rfl); k_whole); intro tZ)
  k_with "getMethod bytes" => (k_here; (with_reducible show wpAny _ _ (getMethod (Value.bytes _ _) (PySem.Str.ofString "join") _) _ _ _); refine meth_join ?_)
  k_with "call builtin:bytes.join" => (k_here; (with_reducible show wpAny _ _ (call (Value.builtin "bytes.join") [Value.bytes _ _, Value.ref _]) _ _ _); (refine call_join (by is_list) (by exact BytesAre.arr (by with_reducible assumption)) (by refine Nat.le_trans (Nat.le_of_eq (BytesAre.length (by with_reducible assumption))) (by rw [List.length_map]; omega)) (by assumption) ?_); intro tZ kZ; (try rw [joinA_bytes]))
  w_top off
  unfold Spec
  k_fill
  intro p loose mean mg mb dp un gd cn cs a ccd cl outer A₀ base h₀ L m s Q E B F X N T hk hdp hun hret
  have hmk := kstMark
  have hos := octsL_len text.cps.toList
  have hsz : text.cps.toList.length = text.length := by simp [PySem.Str.length]
  have hol : (octsL text.cps.toList).length ≤ 800 := by omega
  have hoin := octsL_in hok
  have hbi : KBw.bInts (byteArr (octsL text.cps.toList)) = octsL text.cps.toList := KBa.ints_make hoin
  have hpl := pieces_len (octsL text.cps.toList)
  have hj1 : ((((octsL text.cps.toList).map pieceI).map byteArr).map (·.size)).sum ≤ 16777216 := by rw [sizes_bytes]; omega
  have h7 : ∀ p ∈ leadI :: (octsL text.cps.toList).map pieceI, p.length ≤ 7 := by
    intro p hp
    rcases List.mem_cons.mp hp with rfl | hp
    · exact Nat.le_refl _
    · obtain ⟨k, _, rfl⟩ := List.mem_map.mp hp
      have := pieceI_len k
      omega
  have hrl := rowsI_len (66 - (nm.length : Int)) (leadI :: (octsL text.cps.toList).map pieceI)
  rw [List.length_cons, List.length_map] at hrl
  have hld : leadI.length = 7 := rfl
  refine wpAny_call ?_
  (refine' code_defC ?k1 ?k2 ?k3 ?k4 ?k5 ?kA ?kF ?kK ?k6 ?k7 ?k8 ?k9 ?kB ?kD ?_ ?c2 ?c3 ?c4; (case kA => exact rfl); (case kF => exact rfl); (case kK => first | exact rfl | assumption); (case k1 => k_asm); (case k2 => k_asm); (case k3 => k_asm); (case k4 => k_asm); (case k5 => k_asm); (case k6 => k_is); (case k7 => k_is); (case k8 => ktr_room); (case k9 => first | exact BindsTo.of_eq rfl | exact binds_K (by k_in) rfl (by k_is) rfl rfl rfl); (case kB => exact rfl); (case kD => decide +kernel); (case c2 => exact rfl); (case c3 => exact rfl); (case c4 => exact rfl); k_whole; intro g' L' h' tk' cells' FG' F' N' Y' B' X' T' l1; (try k_lt l1); k_cells Y'; (try simp only [List.cons_append, List.nil_append] at N'); (try dsimp only); (try k_lift B'); (try k_fold))
  have hn1 : ∀ p ∈ news, p.1 < L' + 1 := fun p hp => Nat.lt_succ_of_lt (l1 p hp)
  have hn2 : ∀ p ∈ news, p.1 < L' + 1 + 1 := fun p hp => Nat.lt_succ_of_lt (hn1 p hp)
  k_steps
  · refine ret_new hret (by k_asm) (by k_asm) (fun _ hq => List.mem_cons_of_mem _ (List.mem_cons_of_mem _ (List.mem_cons_of_mem _ hq))) ?_ (by rename (_ < _ ∧ _ ∧ _ ∧ AllLt _ _) => hl9; exact kst_ltOf hl9.2.2.2)
    unfold encI
    rw [if_pos (by assumption)]
    exact .cons .nil
  · refine Stop.to ?_
    refine comp_stop (cl := ?cl) ?hclos (by decide) (by with_unfolding_all rfl) (by decide) (by with_unfolding_all rfl) ?_
    case hclos => with_unfolding_all rfl
    k_steps
    refine Stop.to ?_
    refine quiet_range (n := (rowsI (66 - (nm.length : Int)) (leadI :: (octsL text.cps.toList).map pieceI)).length) (fun i ys => BytesAre ys ((List.range i).map (encRow nm (rowsI (66 - (nm.length : Int)) (leadI :: (octsL text.cps.toList).map pieceI))))) rfl (by assumption) (small_one (by omega) (by omega) (by omega) (by omega)) (by rw [rangeSize_nat]; omega) (by omega) (by k_asm) (by k_asm) .nil ?_ ?_
    · intro i t h₁ hi ys own C oC mC h tk' hR hoff hC hNs hm F₁ N₁
      simp only [List.cons_append, List.nil_append] at N₁
      have hdl := dec_len (n := (0 + (i : Int)).toNat) (by omega)
      have hrow := getD_len (rowsI (66 - (nm.length : Int)) (leadI :: (octsL text.cps.toList).map pieceI)) (0 + (i : Int)).toNat
      rw [rows_flat, List.flatten_cons, List.length_append] at hrow
      have e0 : (0 + (i : Int)).toNat = i := by omega
      k_steps
      refine QuietStep.mk' (by k_asm) (by k_asm) (fun _ hp => hp) (rows_snoc hR ?_)
      rw [e0]; rfl
    · intro h₁ D k ys h tk' hR hD F₁ N₁
      k_steps
      refine ret_new hret (by k_asm) (by k_asm) (fun _ hq => List.mem_cons_of_mem _ (List.mem_cons_of_mem _ (List.mem_cons_of_mem _ (List.mem_cons_of_mem _ (List.mem_cons_of_mem _ (List.mem_cons_of_mem _ hq)))))) ?_ (fun q hq => hD q (List.mem_cons_of_mem _ (List.mem_cons_of_mem _ (List.mem_cons_of_mem _ (List.mem_cons_of_mem _ (List.mem_cons_of_mem _ (List.mem_cons_of_mem _ hq)))))))
      unfold encI
      rw [if_neg (by assumption)]
      exact hR
end
section

theorem str_eq {a b : Str} {t : Tok} (h : a = b) : Value.str a t = Value.str b t := by rw [h]
def signsS : MStr := Str.mk #[33, 35, 36, 38, 43, 45, 46, 94, 95, 96, 123, 124, 125, 126]
theorem signs_eq : Str.ofString "!#$&+-.^_`{|}~" = signsS := by decide +kernel
def hexS : MStr := Str.mk #[48, 49, 50, 51, 52, 53, 54, 55, 56, 57, 65, 66, 67, 68, 69, 70]
theorem hex_eq : Str.ofString "0123456789ABCDEF" = hexS := by decide +kernel
def occE (k : Nat) : Bool := (Builtin.Str.occurrences (Str.ofString "!#$&+-.^_`{|}~") { cps := #[k] } 0 (Str.ofString "!#$&+-.^_`{|}~").length 1).isEmpty
def occE' (k : Nat) : Bool := (Builtin.Str.occurrences signsS { cps := #[k] } 0 signsS.length 1).isEmpty
theorem occE_eq (k : Nat) : occE k = occE' k := by unfold occE occE'; rw [signs_eq]
theorem f2 : ∀ k : Fin 256, occE' k.val = false → safeB (k.val : Int) = true := by decide +kernel
theorem f3a : ∀ k : Fin 256, 128 ≤ k.val → safeB (k.val : Int) = false := by decide +kernel
def alnB (k : Nat) : Bool := inR 48 57 ⟨#[k]⟩ || (inR 65 90 ⟨#[k]⟩ || inR 97 122 ⟨#[k]⟩)
theorem f1' : ∀ k : Fin 128, alnB k.val = true → safeB (k.val : Int) = true := by decide +kernel
theorem f1 (k : Fin 128) (h : Txt.isalnum { cps := #[k.val] } = true) : safeB (k.val : Int) = true := f1' k ((one_isalnum k.val k.isLt).symm.trans h)
theorem f3b' : ∀ k : Fin 128, occE' k.val = true → alnB k.val = false → safeB (k.val : Int) = false := by decide +kernel
theorem f3b (k : Fin 128) (h : occE' k.val = true) (g : Txt.isalnum { cps := #[k.val] } = false) : safeB (k.val : Int) = false := f3b' k h ((one_isalnum k.val k.isLt).symm.trans g)
theorem f4 : ∀ j : Fin 16, Txt.item hexS (j.val : Int) = { cps := #[(hexU (j.val : Int)).toNat] } := by decide +kernel
theorem safe_val {n : Int} (h : safeB n = true) : KStt.txt (pieceI n) = { cps := #[n.toNat] } := by unfold pieceI; rw [if_pos h]; rfl
theorem hex_at {j : Int} (h0 : 0 ≤ j) (h1 : j < 16) : Txt.item (Str.ofString "0123456789ABCDEF") j = { cps := #[(hexU j).toNat] } := by
  rw [hex_eq]
  have := f4 ⟨j.toNat, by omega⟩
  rw [show ((⟨j.toNat, by omega⟩ : Fin 16).val : Int) = j from Int.toNat_of_nonneg h0] at this
  exact this
theorem bad_val {n : Int} (h0 : 0 ≤ n) (h1 : n < 256) (h : safeB n = false) : Str.ofString "%" ++ Txt.item (Str.ofString "0123456789ABCDEF") (n.fdiv 16) ++ Txt.item (Str.ofString "0123456789ABCDEF") (n.fmod 16) = KStt.txt (pieceI n) := by
  have b1 := fmod_lo n (n := 16) (by decide)
  have b2 := fmod_hi n (n := 16) (by decide)
  have b3 : n.fdiv 16 = n / 16 := Int.fdiv_eq_ediv_of_nonneg _ (by decide)
  rw [hex_at (j := n.fdiv 16) (by rw [b3]; omega) (by rw [b3]; omega), hex_at b1 b2]
  unfold pieceI
  rw [h, if_neg Bool.false_ne_true]
  refine PySem.Str.ext' (Array.toList_inj.mp ?_)
  rw [PySem.Str.cps_append, PySem.Str.cps_append, Array.toList_append, Array.toList_append]
  rw [show (Str.ofString "%").cps.toList = [37] from by decide +kernel]
  simp [KStt.txt]
theorem piece_a {n : Int} (h0 : 0 ≤ n) (ha : Txt.isalnum { cps := #[n.toNat] } = true) (h : n < 128) : ({ cps := #[n.toNat] } : MStr) = KStt.txt (pieceI n) := by
  have := f1 ⟨n.toNat, by omega⟩ ha
  rw [show ((⟨n.toNat, by omega⟩ : Fin 128).val : Int) = n from Int.toNat_of_nonneg h0] at this
  exact (safe_val this).symm
theorem piece_b {n : Int} (h0 : 0 ≤ n) (h1 : n < 256) (ho : (Builtin.Str.occurrences (Str.ofString "!#$&+-.^_`{|}~") { cps := #[n.toNat] } 0 (Str.ofString "!#$&+-.^_`{|}~").length 1).isEmpty = false) : ({ cps := #[n.toNat] } : MStr) = KStt.txt (pieceI n) := by
  have h9 : occE n.toNat = false := ho
  rw [occE_eq] at h9
  have := f2 ⟨n.toNat, by omega⟩ h9
  rw [show ((⟨n.toNat, by omega⟩ : Fin 256).val : Int) = n from Int.toNat_of_nonneg h0] at this
  exact (safe_val this).symm
theorem piece_c {n : Int} (h0 : 0 ≤ n) (h1 : n < 256) (h : ¬ n < 128) : Str.ofString "%" ++ Txt.item (Str.ofString "0123456789ABCDEF") (n.fdiv 16) ++ Txt.item (Str.ofString "0123456789ABCDEF") (n.fmod 16) = KStt.txt (pieceI n) := by
  have := f3a ⟨n.toNat, by omega⟩ (by show 128 ≤ n.toNat; omega)
  rw [show ((⟨n.toNat, by omega⟩ : Fin 256).val : Int) = n from Int.toNat_of_nonneg h0] at this
  exact bad_val h0 h1 this
theorem piece_d {n : Int} (h0 : 0 ≤ n) (h1 : n < 256) (ha : Txt.isalnum { cps := #[n.toNat] } = false) (ho : (Builtin.Str.occurrences (Str.ofString "!#$&+-.^_`{|}~") { cps := #[n.toNat] } 0 (Str.ofString "!#$&+-.^_`{|}~").length 1).isEmpty = true) : Str.ofString "%" ++ Txt.item (Str.ofString "0123456789ABCDEF") (n.fdiv 16) ++ Txt.item (Str.ofString "0123456789ABCDEF") (n.fmod 16) = KStt.txt (pieceI n) := by
  by_cases h : n < 128
  · have h9 : occE n.toNat = true := ho
    rw [occE_eq] at h9
    have := f3b ⟨n.toNat, by omega⟩ h9 ha
    rw [show ((⟨n.toNat, by omega⟩ : Fin 128).val : Int) = n from Int.toNat_of_nonneg h0] at this
    exact bad_val h0 h1 this
  · exact piece_c h0 h1 h
theorem hex_len {j : Int} (h0 : 0 ≤ j) (h1 : j < 16) : (Txt.item (Str.ofString "0123456789ABCDEF") j).length = 1 := by rw [hex_at h0 h1]; rfl
theorem div16 {n : Int} (h0 : 0 ≤ n) (h1 : n < 256) : 0 ≤ n.fdiv 16 ∧ n.fdiv 16 < 16 := by
  rw [Int.fdiv_eq_ediv_of_nonneg _ (by decide)]; omega
section
variable {prog : Program} {w : World} {A : Around} {E : Value → Shared → Prop} {s : Shared} {Q : Value → Shared → Prop} {n : Int} {t u : Tok}
theorem add_pc1 (h0 : 0 ≤ n) (h1 : n < 256) (h : ∀ t' k, Q (.str (Str.ofString "%" ++ Txt.item (Str.ofString "0123456789ABCDEF") (n.fdiv 16)) t') { s with toks := k }) :
    wpAny (model prog w) A (binaryOp .Add (.str (Str.ofString "%") t) (.str (Txt.item (Str.ofString "0123456789ABCDEF") (n.fdiv 16)) u)) Q E s := by
  have z : (Str.ofString "%").length = 1 := by decide +kernel
  exact PyProof.Rows.add_str h (by rw [hex_len (div16 h0 h1).1 (div16 h0 h1).2, z, sizeLine_eq]; decide)
theorem add_pc2 (h0 : 0 ≤ n) (h1 : n < 256) (h : ∀ t' k, Q (.str (Str.ofString "%" ++ Txt.item (Str.ofString "0123456789ABCDEF") (n.fdiv 16) ++ Txt.item (Str.ofString "0123456789ABCDEF") (n.fmod 16)) t') { s with toks := k }) :
    wpAny (model prog w) A (binaryOp .Add (.str (Str.ofString "%" ++ Txt.item (Str.ofString "0123456789ABCDEF") (n.fdiv 16)) t) (.str (Txt.item (Str.ofString "0123456789ABCDEF") (n.fmod 16)) u)) Q E s := by
  have z : (Str.ofString "%").length = 1 := by decide +kernel
  exact PyProof.Rows.add_str h (by rw [PySem.Str.length_append, hex_len (div16 h0 h1).1 (div16 h0 h1).2, hex_len (fmod_lo n (by decide)) (fmod_hi n (by decide)), z, sizeLine_eq]; decide)
end
set_option maxRecDepth 100000 in
set_option maxHeartbeats 8000000 in
theorem lawpiece_spec (w : World) (n : Int) (ct : MTok) (news : MLed) (h0 : 0 ≤ n) (h1 : n < 256) : Spec w 1 159 [.int n ct] news (fun v news' => news' = news ∧ ∃ t, v = .str (KStt.txt (pieceI n)) t) := by
  k_with_none
  k_with "eval ListComp" => refine Stop.of ?_
  k_with "exec Assign cons ListComp" => refine Stop.of ?_
  k_with "eval Name" => ((with_reducible show wpAny _ _ (eval _ (compEnvC _ _ _ _)) _ _ _); k_here; k_dflt (refine ldC (by k_asm) (by k_mem) (by assumption) (by assumption) ?_; k_whole))
  k_with "call type:bytes" => (k_here; (with_reducible show wpAny _ _ (call (Value.type "bytes") [Value.ref _]) _ _ _); k_dflt (refine KBa.make_K (by k_asm) (by k_asm) rfl (by is_list) (by assumption) (by assumption) (by first | assumption | omega) ?_; k_whole); intro hZ tZ kZ FZ NZ _)
  k_with "compareOp NotIn int bytes" => (k_here; (with_reducible show wpAny _ _ (compareOp CmpOp.NotIn (Value.int _ _) (Value.bytes _ _)) _ _ _); k_dflt (refine notin_bytes_int (by omega) (by omega) ?_; k_whole))
  k_with "compareOp NotIn str ref" => (k_here; (with_reducible show wpAny _ _ (compareOp CmpOp.NotIn (Value.str _ _) (Value.ref _)) _ _ _); k_dflt (refine notin_tuple_strs (tup_of_K (by k_in) (by k_is)) (by repeat constructor) ?_; k_whole))
  k_with "exec For Name Name cons nil" => (k_here; (rename Fr _ _ _ _ => lFZ); (with_unfolding_all refine For_stop lFZ (by exact rfl) (by exact rfl) ?_; k_whole))
  k_with "exec For Name Call cons nil" => (k_here; (rename Fr _ _ _ _ => lFZ); (with_unfolding_all refine For_stop lFZ (by exact rfl) (by exact rfl) ?_; k_whole))
  k_with "exec For Name BinOp cons nil" => (k_here; (rename Fr _ _ _ _ => lFZ); (with_unfolding_all refine For_stop lFZ (by exact rfl) (by exact rfl) ?_; k_whole))
  k_with "binaryOp Add str str" => (k_here; first | ((with_reducible refine add_pc1 (by with_reducible assumption) (by with_reducible assumption) ?_); intro tZ kZ) | ((with_reducible refine add_pc2 (by with_reducible assumption) (by with_reducible assumption) ?_); intro tZ kZ))
  w_top off
  unfold Spec
  k_fill
  intro p loose mean mg mb dp un gd cn cs a ccd cl outer A₀ base h₀ L m s Q E B F X N T hk hdp hun hret
  have hmk := kstMark
  refine wpAny_call ?_
  k_dflt cell_enter
  k_steps
  all_goals (
    refine hret _ _ _ _ (by k_asm) (by k_asm) ⟨rfl, _, str_eq ?_⟩
    first
    | exact piece_a h0 (by with_reducible assumption) (by with_reducible assumption)
    | exact piece_b h0 h1 (by with_reducible assumption)
    | exact piece_c h0 h1 (by with_reducible assumption)
    | exact piece_d h0 h1 (by with_reducible assumption) (by with_reducible assumption))
end
section

/-- the pot beneath one list -/
def PotIn2 (p c : Addr) (x : Addr × Obj) (rest : List (Addr × Obj)) (pl : Int) (news : List (Addr × Obj)) : Prop :=
  ∃ (st : Int) (t1 t2 : MTok) (k1 k2 : Nat) (vs : List MVal) (ns : List Int), news = x :: (p, PySem.W.listOf #[.ref c, .int st t1, .int pl t2] k1) :: (c, PySem.W.listOf vs.toArray k2) :: rest ∧
    IntsAre vs ns ∧ ns.length ≤ 40 ∧ (∀ n ∈ ns, 0 ≤ n) ∧ 0 ≤ st ∧ st < 2147483647
theorem len_of {h : Heap} {r : Addr} {a b c : Int} {t u v : MTok} (_hR : IsRange h r 0 (a + b.fdiv 2 * c) 1 t u v) (a0 : 0 ≤ a) (a1 : a < 12) (b0 : 0 ≤ b) (b1 : b < 3) (c0 : 0 ≤ c) (c1 : c < 100) : ∃ n : Nat, a + b.fdiv 2 * c = (n : Int) ∧ n ≤ 110 := by
  have e : b.fdiv 2 = b / 2 := Int.fdiv_eq_ediv_of_nonneg _ (by decide)
  rw [e]
  rcases (show b / 2 = 0 ∨ b / 2 = 1 by omega) with h0 | h0
  · rw [h0]; exact ⟨a.toNat, by omega, by omega⟩
  · rw [h0]; exact ⟨(a + c).toNat, by omega, by omega⟩
theorem perm3 {a b s : Addr × Obj} {rest : List (Addr × Obj)} : ∀ p ∈ [a, b, s] ++ rest, p ∈ s :: a :: b :: rest := fun p hp => by
  simp only [List.mem_append, List.mem_cons, List.not_mem_nil, or_false] at hp ⊢
  rcases hp with (h | h | h) | h
  · exact .inr (.inl h)
  · exact .inr (.inr (.inl h))
  · exact .inl h
  · exact .inr (.inr (.inr h))
theorem off3 {pa c sg : Nat} {os : Obj} {rest own : List (Addr × Obj)} {oa oc : Obj} (hoff : OwnOff rest [pa, c]) (h1 : pa < sg) (h2 : c < sg) (ho : OwnOff own (([(pa, oa), (c, oc), (sg, os)] ++ rest).map (·.1))) : OwnOff ((sg, os) :: (rest ++ own)) [pa, c] := by
  intro p hp b hb e
  have hb' : b = pa ∨ b = c := by simpa using hb
  rcases List.mem_cons.mp hp with rfl | hp
  · have e' : sg = b := e
    rcases hb' with h | h
    · rw [h] at e'; exact Nat.ne_of_gt h1 e'
    · rw [h] at e'; exact Nat.ne_of_gt h2 e'
  · rcases List.mem_append.mp hp with hp | hp
    · exact hoff p hp b hb e
    · exact ho p hp b (by rcases hb' with rfl | rfl <;> simp) e
/-- the draw beneath a list that lies ahead of the pot -/
theorem draw_spec2 (w : World) (pa c lx : Nat) (ox : MObj) (lim : Int) (lt : MTok) (st pl : Int) (t1 t2 : MTok) (k1 k2 : Nat) (vs : List MVal) (ns : List Int) (rest : MLed) {G : Prop} (hx : pa < lx ∧ c < lx ∧ G) (hpc : pa < c ∨ c < pa) (hoff : OwnOff rest [pa, c])
    (hi : IntsAre vs ns) (hlen : ns.length ≤ 40) (hnn : ∀ n ∈ ns, 0 ≤ n) (hst : 0 ≤ st) (hst2 : st < 2147483647) (hpl : 0 ≤ pl) (hpl2 : pl < 1000000) (hl : 0 < lim) (hl2 : lim < 1000) :
    Spec w 1 138 [.ref pa, .int lim lt] ((lx, ox) :: (pa, PySem.W.listOf #[.ref c, .int st t1, .int pl t2] k1) :: (c, PySem.W.listOf vs.toArray k2) :: rest)
      (fun v news' => PotIn2 pa c (lx, ox) rest (pl + 1) news' ∧ ∃ r t, v = .int r t ∧ 0 ≤ r ∧ r < lim) := by
  intro p loose mean mg mb dp un gd cn cs a ccd cl outer A₀ base h₀ L m s Q E B F X N T hk hdp hun hret
  have hoff' : OwnOff ((lx, ox) :: rest) [pa, c] := by
    intro q hq b hb e
    have hb' : b = pa ∨ b = c := by simpa using hb
    rcases List.mem_cons.mp hq with rfl | hq
    · have e' : lx = b := e
      rcases hb' with h | h
      · rw [h] at e'; exact Nat.ne_of_gt hx.1 e'
      · rw [h] at e'; exact Nat.ne_of_gt hx.2.1 e'
    · exact hoff q hq b hb e
  refine Spec.use (draw_spec w pa c lim lt st pl t1 t2 k1 k2 vs ns ((lx, ox) :: rest) hpc hoff' hi hlen hnn hst hst2 hpl hpl2 hl hl2) B F X (news_sub N ?_) T hk hdp hun ?_
  · intro q hq
    simp only [List.mem_cons] at hq ⊢
    rcases hq with h | h | h | h
    · exact .inr (.inl h)
    · exact .inr (.inr (.inl h))
    · exact .inl h
    · exact .inr (.inr (.inr h))
  · rintro v news' h' tk' F' N' ⟨⟨st', t1', t2', k1', k2', vs', ns', e1, r⟩, hv⟩
    subst e1
    refine hret _ _ _ _ F' (news_sub N' ?_) ⟨⟨st', t1', t2', k1', k2', vs', ns', rfl, r⟩, hv⟩
    intro q hq
    simp only [List.mem_cons] at hq ⊢
    rcases hq with h | h | h | h
    · exact .inr (.inr (.inl h))
    · exact .inl h
    · exact .inr (.inl h)
    · exact .inr (.inr (.inr h))
section
variable {w : World} {pa c lx : Nat} {ox : MObj} {lim : Int} {lt : MTok} {st pl : Int} {t1 t2 : MTok} {k1 k2 : Nat} {vs : List MVal} {ns : List Int} {rest : MLed} {p : Program} {loose : List Str} {mean : ExcName → Option Value} {mg mb : Str → Option Value}
    {dp un : Nat} {gd : Option (List Code)} {cn : Str} {cs : Scope} {a : Addr} {ccd : Value} {cl : List (Str × Addr)} {outer : List Env} {A₀ : Around} {base h₀ : Heap} {L : Addr} {m : Str → Option Value} {s : Shared} {Q E : Value → Shared → Prop}
theorem draw_use2 {G : Prop}
    (B : Below A₀ base outer h₀) (F : Fr h₀ L s.heap m) (X : (hd.heap_39 w.params).In h₀) (N : News h₀ L s.heap ((lx, ox) :: (pa, PySem.W.listOf #[.ref c, .int st t1, .int pl t2] k1) :: (c, PySem.W.listOf vs.toArray k2) :: rest)) (T : Top p loose mean mg mb h₀) (hk : cs.kind = .function) (hdp : dp + 1 < recursionLimit) (hu : un + 80 * 1 < cLine)
    (hx : pa < lx ∧ c < lx ∧ G) (hpc : pa < c ∨ c < pa) (hoff : OwnOff rest [pa, c])
    (hi : IntsAre vs ns) (hlen : ns.length ≤ 40) (hnn : ∀ n ∈ ns, 0 ≤ n) (hst : 0 ≤ st) (hst2 : st < 2147483647) (hpl : 0 ≤ pl) (hpl2 : pl < 1000000) (hl : 0 < lim) (hl2 : lim < 1000)
    (ret : ∀ (st' : Int) (t1' t2' : MTok) (k1' k2' : Nat) (vs' : List MVal) (ns' : List Int) (r : Int) (t : MTok) (h' : Heap) (tk' : Nat), IntsAre vs' ns' → ns'.length ≤ 40 → (∀ n ∈ ns', 0 ≤ n) → 0 ≤ st' → st' < 2147483647 → 0 ≤ r → r < lim →
      Fr h₀ L h' m → News h₀ L h' ((lx, ox) :: (pa, PySem.W.listOf #[.ref c, .int st' t1', .int (pl + 1) t2'] k1') :: (c, PySem.W.listOf vs'.toArray k2') :: rest) → Q (.int r t) { s with heap := h', toks := tk' }) :
    wpAny (model PySem.Challenge.rw_nz0277_01.row.prog w) (ktrTop dp un gd cn cs L a ccd cl outer) (call (.ref 138) [.ref pa, .int lim lt]) Q E s := by
  refine Spec.use (draw_spec2 w pa c lx ox lim lt st pl t1 t2 k1 k2 vs ns rest hx hpc hoff hi hlen hnn hst hst2 hpl hpl2 hl hl2) B F X N T hk hdp hu ?_
  rintro v' n' h' tk' F' N' ⟨⟨st', t1', t2', k1', k2', vs', ns', e1, hi', hl', hn', hs', hs2'⟩, r', t', e2, hr0', hr1'⟩
  subst e1 e2
  exact ret _ _ _ _ _ _ _ _ _ _ _ hi' hl' hn' hs' hs2' hr0' hr1' F' N'
end
theorem strs_snoc {vs : List MVal} {cz : List Nat} (h : StrsAre vs (cz.map oneS)) (k : Nat) (t : MTok) : StrsAre (vs ++ [.str (Str.mk #[k]) t]) ((cz ++ [k]).map oneS) := by
  rw [List.map_append]; exact strsAre_append h (.cons _ _ .nil)
theorem ok_snoc {cz : List Nat} {k : Nat} (h : ∀ x ∈ cz, OkS x) (hk : OkS k) : ∀ x ∈ cz ++ [k], OkS x := fun x hx => (List.mem_append.mp hx).elim (h x) fun e => by rw [List.mem_singleton.mp e]; exact hk
theorem ok_az (i : Nat) (way : Int) : OkS (97 + (0 + (i : Int) * 7 + way).fmod 26).toNat ∧ OkS (97 + ((0 + (i : Int)) * 7 + way).fmod 26).toNat := by
  have h1 := fmod_lo (0 + (i : Int) * 7 + way) (n := 26) (by decide)
  have h2 := fmod_hi (0 + (i : Int) * 7 + way) (n := 26) (by decide)
  have h3 := fmod_lo ((0 + (i : Int)) * 7 + way) (n := 26) (by decide)
  have h4 := fmod_hi ((0 + (i : Int)) * 7 + way) (n := 26) (by decide)
  constructor <;> (refine ⟨?_, ?_, .inl ?_⟩ <;> omega)
theorem ok_low {r : Int} (h0 : 0 ≤ r) (h1 : r < 126) : OkS (1 + r).toNat := ⟨by omega, by omega, .inl (by omega)⟩
/-- a turn of the text's loop at its end -/
theorem LEndT {h₀ : Heap} {m₀ : Str → Option Value} {x : Str} {L pa c sg : Nat} {stored : List Str} {R : (Int × MTok × Int × MTok × Nat) × (List MVal × Nat) × (List MVal × Nat) → Prop} {rest news' : MLed} {s₁ : Shared} {h' : Heap} {tk : Nat} {m' : Str → Option Value} {st : Int} {t1 : MTok} {pl : Int} {t2 : MTok} {k1 : Nat} {vs : List MVal} {k2 : Nat} {us : List MVal} {kk : Nat}
    (F : Fr h₀ L h' m') (N : News h₀ L h' news') (hin : ∀ p ∈ (pa, PySem.W.listOf #[.ref c, .int st t1, .int pl t2] k1) :: (c, PySem.W.listOf vs.toArray k2) :: (sg, PySem.W.listOf us.toArray kk) :: rest, p ∈ news') (hs : ∀ z, z ≠ x → m' z = m₀ z) (hR : R ((st, t1, pl, t2, k1), (vs, k2), (us, kk))) :
    LEnd h₀ L x stored m₀ (fun x : (Int × MTok × Int × MTok × Nat) × (List MVal × Nat) × (List MVal × Nat) => [(pa, PySem.W.listOf #[.ref c, .int x.1.1 x.1.2.1, .int x.1.2.2.1 x.1.2.2.2.1] x.1.2.2.2.2), (c, PySem.W.listOf x.2.1.1.toArray x.2.1.2), (sg, PySem.W.listOf x.2.2.1.toArray x.2.2.2)]) (fun _ => []) R rest s₁ .next { s₁ with heap := h', toks := tk } :=
  LEnd.mk' ((st, t1, pl, t2, k1), (vs, k2), (us, kk)) F N (fun p hp => hin p (by simp only [List.mem_cons, List.not_mem_nil, or_false] at hp ⊢; rcases hp with h | h | h; exact .inl h; exact .inr (.inl h); exact .inr (.inr (.inl h)))) (fun p hp => hin p (List.mem_cons_of_mem _ (List.mem_cons_of_mem _ (List.mem_cons_of_mem _ hp)))) (fun _ hp => nomatch hp) (fun z hz _ _ => hs z hz) hR
set_option maxRecDepth 100000 in
set_option maxHeartbeats 2000000 in
theorem lawtext_spec (w : World) (pa c : Nat) (st pl : Int) (t1 t2 : MTok) (k1 k2 : Nat) (vs : List MVal) (ns : List Int) (rest : MLed) (hpc : pa < c ∨ c < pa) (hoff : OwnOff rest [pa, c])
    (hi : IntsAre vs ns) (hlen : ns.length ≤ 40) (hnn : ∀ n ∈ ns, 0 ≤ n) (hst : 0 ≤ st) (hst2 : st < 2147483647) (hpl : 0 ≤ pl) (hpl2 : pl < 10000) :
    Spec w 2 145 [.ref pa] ((pa, PySem.W.listOf #[.ref c, .int st t1, .int pl t2] k1) :: (c, PySem.W.listOf vs.toArray k2) :: rest) (fun v news' => ∃ (x : MStr) (xt : MTok), v = .str x xt ∧ (∀ k ∈ x.cps.toList, OkS k) ∧ x.length ≤ 110 ∧ ∃ pl' : Int, 0 ≤ pl' ∧ pl' < 20000 ∧ PotIn pa c rest pl' news') := by
  k_with_none
  k_with "eval ListComp" => refine Stop.of ?_
  k_with "exec Assign cons ListComp" => refine Stop.of ?_
  k_with "eval Name" => ((with_reducible show wpAny _ _ (eval _ (compEnvC _ _ _ _)) _ _ _); k_here; k_dflt (refine ldC (by k_asm) (by k_mem) (by assumption) (by assumption) ?_; k_whole))
  k_with "call type:bytes" => (k_here; (with_reducible show wpAny _ _ (call (Value.type "bytes") [Value.ref _]) _ _ _); k_dflt (refine KBa.make_K (by k_asm) (by k_asm) rfl (by is_list) (by assumption) (by assumption) (by first | assumption | omega) ?_; k_whole); intro hZ tZ kZ FZ NZ _)
  k_with "compareOp NotIn int bytes" => (k_here; (with_reducible show wpAny _ _ (compareOp CmpOp.NotIn (Value.int _ _) (Value.bytes _ _)) _ _ _); k_dflt (refine notin_bytes_int (by omega) (by omega) ?_; k_whole))
  k_with "compareOp NotIn str ref" => (k_here; (with_reducible show wpAny _ _ (compareOp CmpOp.NotIn (Value.str _ _) (Value.ref _)) _ _ _); k_dflt (refine notin_tuple_strs (tup_of_K (by k_in) (by k_is)) (by repeat constructor) ?_; k_whole))
  k_with "exec For Name Name cons nil" => (k_here; (rename Fr _ _ _ _ => lFZ); (with_unfolding_all refine For_stop lFZ (by exact rfl) (by exact rfl) ?_; k_whole))
  k_with "exec For Name Call cons nil" => (k_here; (rename Fr _ _ _ _ => lFZ); (with_unfolding_all refine For_stop lFZ (by exact rfl) (by exact rfl) ?_; k_whole))
  k_with "exec For Name BinOp cons nil" => (k_here; (rename Fr _ _ _ _ => lFZ); (with_unfolding_all refine For_stop lFZ (by exact rfl) (by exact rfl) ?_; k_whole))
  k_with "subscriptTail" => (k_here; (with_reducible show wpAny _ _ (subscriptTail _ _ (Value.ref _) (Value.int _ _)) _ _ _); k_dflt (refine menu_item (by is_list) (menu_are _ _ _ _ _ _ _ _) (by with_reducible assumption) (by with_reducible assumption) ?_ (by with_unfolding_all rfl); k_whole); intro mcZ mtZ mokZ)
  k_with "call builtin:str.join" => (k_here; (with_reducible show wpAny _ _ (call (Value.builtin _) [Value.str _ _, Value.ref _]) _ _ _); k_dflt (refine join_oneS (by is_list) (by assumption) (by omega) ?_; k_whole); intro t9Z k9Z)
  k_with "callWith" => ((with_reducible show wpAny _ _ (callWith _ (Value.builtin "list.append") _ _ _) _ _ _); refine callWith_method1 ?_ (by with_unfolding_all rfl) (by with_unfolding_all rfl))
  k_with "call builtin:list.append" => (k_here; (with_reducible show wpAny _ _ (call (Value.builtin _) [Value.ref _, _]) _ _ _); k_dflt (refine app_snoc (by k_asm) (by k_asm) (by k_upd) (by first | (simp only [List.length_append, List.length_cons, List.length_nil]; omega) | omega) ?_; k_whole); intro hZ FZ NZ)
  k_with "call ref" => (k_here; (with_reducible show wpAny _ _ (call (Value.ref 138) [Value.ref _, Value.int _ _]) _ _ _); k_dflt (refine draw_use2 (by k_asm) (by k_asm) (by k_asm) (by k_asm) (by k_asm) (by first | exact rfl | assumption) (by ktr_room) (by ktr_units) (by with_reducible assumption) (by with_reducible assumption) (by with_reducible assumption) (by with_reducible assumption) (by with_reducible assumption) (by with_reducible assumption) (by omega) (by omega) (by omega) (by omega) (by omega) (by omega) ?_; k_whole); intro stZ t1Z t2Z k1Z k2Z vsZ nsZ rZ tZ hZ tkZ hiZ hlZ hnZ hsZ hs2Z hr0Z hr1Z FZ NZ; (try dsimp only); (try k_unmd); (try k_fold))
  k_with "call ref" => (k_here; (with_reducible show wpAny _ _ (call (Value.ref 138) [Value.ref _, Value.int _ _]) _ _ _); k_dflt (refine draw_use (by k_asm) (by k_asm) (by k_asm) (by k_asm) (by k_asm) (by first | exact rfl | assumption) (by ktr_room) (by ktr_units) (by with_reducible assumption) (by with_reducible assumption) (by with_reducible assumption) (by with_reducible assumption) (by with_reducible assumption) (by omega) (by omega) (by omega) (by omega) (by omega) (by omega) ?_; k_whole); intro stZ t1Z t2Z k1Z k2Z vsZ nsZ rZ tZ hZ tkZ hiZ hlZ hnZ hsZ hs2Z hr0Z hr1Z FZ NZ; (try dsimp only); (try k_unmd); (try k_fold))
  w_top off
  unfold Spec
  k_fill
  intro p loose mean mg mb dp un gd cn cs a ccd cl outer A₀ base h₀ L m s Q E B F X N T hk hdp hun hret
  have hmk := kstMark
  refine wpAny_call ?_
  k_dflt cell_enter
  k_steps
  obtain ⟨sg, esg⟩ := name_1 (by k_asm)
  subst esg
  rename IsRange _ _ _ _ _ _ _ _ => hRg
  have hlb := len_of hRg (by with_reducible assumption) (by with_reducible assumption) (by with_reducible assumption) (by with_reducible assumption) (by with_reducible assumption) (by with_reducible assumption)
  obtain ⟨n, en, hn⟩ := hlb
  rw [en] at hRg
  have l1n : pa < sg ∧ c < sg ∧ AllLt sg rest := by assumption
  refine Stop.to ?_
  refine l_range (n := n) (fun x : (Int × MTok × Int × MTok × Nat) × (List MVal × Nat) × (List MVal × Nat) => [(pa, PySem.W.listOf #[.ref c, .int x.1.1 x.1.2.1, .int x.1.2.2.1 x.1.2.2.2.1] x.1.2.2.2.2), (c, PySem.W.listOf x.2.1.1.toArray x.2.1.2), (sg, PySem.W.listOf x.2.2.1.toArray x.2.2.2)]) (fun _ => []) [] rest
    (fun i x => 0 ≤ x.1.1 ∧ x.1.1 < 2147483647 ∧ pl ≤ x.1.2.2.1 ∧ x.1.2.2.1 ≤ pl + 4 + i ∧ (∃ ns, IntsAre x.2.1.1 ns ∧ ns.length ≤ 40 ∧ ∀ n ∈ ns, 0 ≤ n) ∧ ∃ cs : List Nat, StrsAre x.2.2.1 (cs.map oneS) ∧ cs.length = i ∧ ∀ k ∈ cs, OkS k)
    ((?s1, ?s2, ?s3, ?s4, ?s5), (?s6, ?s7), ([], 0)) (pa :: c :: sg :: rest.map (·.1)) (fun _ => rfl) rfl hRg (small_one (by omega) (by omega) (by omega) (by omega)) (by rw [rangeSize_nat]; omega) (by k_asm) (by k_asm) ?hsub ?hps ?hR ?turn ?done
  case hsub => exact perm3
  case hps => exact fun _ hp => nomatch hp
  case hR => exact ⟨by assumption, by assumption, by show pl ≤ pl + 1 + 1 + 1 + 1; omega, by show pl + 1 + 1 + 1 + 1 ≤ pl + 4 + ((0 : Nat) : Int); omega, ⟨_, by with_reducible assumption, by with_reducible assumption, by with_reducible assumption⟩, [], .nil, rfl, fun _ h => nomatch h⟩
  case turn =>
    intro i t hi
    refine sp9 ?_
    intro st9 u1 pl9 u2 j1 vs9 j2 us kk own u h tk' hg
    dsimp only at hg
    refine cpsG hg ?_
    clear hg
    intro g0 g1 g2 g3 ns9 gi gl gn cz gss gcl gok hoff9 F₁ N₁
    have hoffT := off3 hoff l1n.1 l1n.2.1 hoff9
    dsimp only at N₁ F₁ g0 g1 g2 g3 gi gss hoffT
    simp only [List.cons_append, List.nil_append] at N₁
    have gul : us.length ≤ 110 := by rw [gss.len_eq, List.length_map, gcl]; omega
    k_steps
    all_goals (
      refine' LEndT ?f1 ?f2 ?hin ?hs ?hR9
      case f1 => k_asm
      case f2 => k_asm
      case hin => first | exact fun _ hp => hp | exact fun _ hp => List.mem_cons_of_mem _ hp
      case hs => intro z h1; simp [kstB, h1]
      case hR9 =>
       refine' ⟨?r0, ?r1, ?r2, ?r3, ⟨_, ?i1, ?i2, ?i3⟩, cz ++ [_], strs_snoc gss _ _, ?r4, ok_snoc gok ?r5⟩
       case i1 => with_reducible assumption
       case i2 => with_reducible assumption
       case i3 => with_reducible assumption
       case r0 => with_reducible assumption
       case r1 => with_reducible assumption
       case r2 => dsimp only; omega
       case r3 => dsimp only; omega
       case r4 => rw [List.length_append, gcl]; rfl
       case r5 => first | exact (ok_az _ _).1 | exact (ok_az _ _).2 | exact ok_low (by assumption) (by assumption) | assumption)
  case done =>
    refine sp9 ?_
    intro st9 u1 pl9 u2 j1 vs9 j2 us kk u h tk' hg
    dsimp only at hg
    refine cpsG hg ?_
    clear hg
    intro g0 g1 g2 g3 ns9 gi gl gn cz gss gcl gok F₁ N₁
    dsimp only at N₁ F₁ g0 g1 g2 g3 gi gss
    simp only [List.cons_append, List.nil_append] at N₁
    have gcl' : cz.length ≤ 100000 := by omega
    k_steps
    refine' hret _ ((pa, PySem.W.listOf #[.ref c, .int st9 u1, .int pl9 u2] j1) :: (c, PySem.W.listOf vs9.toArray j2) :: rest) _ _ ?f9 (news_sub ?n9 ?sub) ?post
    case f9 => k_asm
    case n9 => k_asm
    case sub =>
      intro q hq
      simp only [List.mem_cons] at hq ⊢
      rcases hq with h | h | h
      · exact .inl h
      · exact .inr (.inl h)
      · exact .inr (.inr (.inr h))
    case post => exact ⟨_, _, rfl, gok, by show cz.toArray.size ≤ 110; rw [List.size_toArray]; omega, pl9, by omega, by omega, st9, u1, u2, j1, j2, vs9, ns9, rfl, gi, gl, gn, g0, g1⟩
end
section
set_option maxRecDepth 100000
section
variable {prog : Program} {w : World} {A : Around} {E : Value → Shared → Prop} {s : Shared}
theorem eq_bytesL {a b : Addr} {vs us : List Value} {nss : List (List Int)} {Q : Value → Shared → Prop} (hl : s.heap.IsList a vs.toArray) (hi : BytesAre vs nss) (hl' : s.heap.IsList b us.toArray) (hi' : BytesAre us nss) (hu : A.units < cLine)
    (h : Q (.bool true) s) : wpAny (model prog w) A (compareOp .Eq (.ref a) (.ref b)) Q E s := by
  refine PySem.SeqAt.eq_listAt (e := fun _ => true) hl hl' ?_ hu ?_ ?_
  · rw [List.size_toArray, List.size_toArray, hi.length, hi'.length]
  · intro j h1 h2 prog w E Q hq
    rw [List.size_toArray] at h1 h2
    obtain ⟨ns, t, e1, e2⟩ := hi.get j (List.getElem?_eq_getElem h1)
    obtain ⟨ns', t', e1', e2'⟩ := hi'.get j (List.getElem?_eq_getElem h2)
    have e3 : ns = ns' := Option.some.inj (e1.symm.trans e1')
    subst e3
    simp only [List.getElem_toArray]
    rw [e2, e2']
    exact eqBool_bytes (by simpa using hq)
  · rw [show (List.range vs.toArray.size).all (fun _ => true) = true from by simp]
    exact h
end
end
section
theorem fold_in : ∀ (l : List Int) (a : Int), 0 ≤ a → a < 2147483647 → 0 ≤ l.foldl (fun a' n' => (a' * 48271 + n'.fmod 2147483647 + 12345).fmod 2147483647) a ∧ l.foldl (fun a' n' => (a' * 48271 + n'.fmod 2147483647 + 12345).fmod 2147483647) a < 2147483647
  | [], _, h0, h1 => ⟨h0, h1⟩
  | n :: l, _, _, _ => by rw [List.foldl_cons]; exact fold_in l _ (fmod_lo _ (by decide)) (fmod_hi _ (by decide))
theorem pot_facts {h₀ h : Heap} {L : Addr} {l' D' : Addr} {ns0 : List Int} {t t2 : MTok} {ys : List MVal} {r1 r2 r3 : Addr × Obj}
    (N : News h₀ L h [(l', PySem.W.listOf #[.ref D', .int (List.foldl (fun a' n' => (a' * 48271 + n'.fmod 2147483647 + 12345).fmod 2147483647) 1 (List.map (fun k' => k') (List.take 40 ns0))) t, .int 0 t2] 0), (D', LCg.lst ys), r1, r2, r3])
    (hI : IntsAre ys (List.map (fun k' => (if k' < 0 then -k' else k').fmod (10 ^ Int.toNat 400)) (List.map (fun k' => k') (List.take 40 ns0)))) :
    ∃ (pa c : Nat) (st : Int) (ns : List Int) (k2 : Nat), pa = l' ∧ c = D' ∧ 0 ≤ st ∧ st < 2147483647 ∧ IntsAre ys ns ∧ ns.length ≤ 40 ∧ (∀ n ∈ ns, 0 ≤ n) ∧ News h₀ L h [(pa, PySem.W.listOf #[.ref c, .int st t, .int 0 t2] 0), (c, PySem.W.listOf ys.toArray k2), r1, r2, r3] := by
  have hf := fold_in (List.map (fun k' => k') (List.take 40 ns0)) 1 (by decide) (by decide)
  refine ⟨l', D', _, _, _, rfl, rfl, hf.1, hf.2, hI, ?_, ?_, N⟩
  · rw [List.length_map, List.length_map, List.length_take]; omega
  · intro n hn
    obtain ⟨k, _, rfl⟩ := List.mem_map.mp hn
    exact fmod_lo _ (Int.pow_pos (by decide))
theorem off5 {h₀ h' : Heap} {L : Addr} {x y : Obj} {pa c : Nat} {a1 a2 a3 : Nat} {o1 o2 o3 : Obj} (_N : News h₀ L h' [(pa, x), (c, y), (a1, o1), (a2, o2), (a3, o3)]) (h : c < pa ∧ a1 < pa ∧ a2 < pa ∧ a3 < pa) (g : a1 ≠ c ∧ a2 ≠ c ∧ a3 ≠ c) : OwnOff [(a1, o1), (a2, o2), (a3, o3)] [pa, c] := by
  intro p hp b hb e
  have hp' : p.1 = a1 ∨ p.1 = a2 ∨ p.1 = a3 := by
    simp only [List.mem_cons, List.not_mem_nil, or_false] at hp
    rcases hp with rfl | rfl | rfl
    · exact .inl rfl
    · exact .inr (.inl rfl)
    · exact .inr (.inr rfl)
  have hb' : b = pa ∨ b = c := by simpa using hb
  rcases hp' with h1 | h1 | h1 <;> rcases hb' with h2 | h2 <;> rw [h1, h2] at e <;> first | exact absurd e (Nat.ne_of_lt h.2.1) | exact absurd e (Nat.ne_of_lt h.2.2.1) | exact absurd e (Nat.ne_of_lt h.2.2.2) | exact absurd e g.1 | exact absurd e g.2.1 | exact absurd e g.2.2
theorem len_name {h : Heap} {r : Addr} {a b : Int} {t u v : MTok} (_hR : IsRange h r 0 (1 + a * b) 1 t u v) (a0 : 0 ≤ a) (a1 : a < 3) (b0 : 0 ≤ b) (b1 : b < 14) : ∃ n : Nat, 1 + a * b = (n : Int) ∧ n ≤ 27 ∧ 1 ≤ n := by
  rcases (show a = 0 ∨ a = 1 ∨ a = 2 by omega) with h0 | h0 | h0 <;> rw [h0] <;> exact ⟨_, (Int.toNat_of_nonneg (by omega)).symm, by omega, by omega⟩

section
variable {w : World} {pa c : Nat} {lim : Int} {lt : MTok} {st pl : Int} {t1 t2 : MTok} {k1 k2 : Nat} {vs : List MVal} {ns : List Int} {rest : MLed} {p : Program} {loose : List Str} {mean : ExcName → Option Value} {mg mb : Str → Option Value}
    {dp un : Nat} {gd : Option (List Code)} {cn : Str} {cs : Scope} {a : Addr} {ccd : Value} {cl : List (Str × Addr)} {outer : List Env} {A₀ : Around} {base h₀ : Heap} {L : Addr} {m : Str → Option Value} {s : Shared} {Q E : Value → Shared → Prop}
theorem text_use
    (B : Below A₀ base outer h₀) (F : Fr h₀ L s.heap m) (X : (hd.heap_39 w.params).In h₀) (N : News h₀ L s.heap ((pa, PySem.W.listOf #[.ref c, .int st t1, .int pl t2] k1) :: (c, PySem.W.listOf vs.toArray k2) :: rest)) (T : Top p loose mean mg mb h₀) (hk : cs.kind = .function) (hdp : dp + 2 < recursionLimit) (hu : un + 80 * 2 < cLine)
    (hpc : pa < c ∨ c < pa) (hoff : OwnOff rest [pa, c])
    (hi : IntsAre vs ns) (hlen : ns.length ≤ 40) (hnn : ∀ n ∈ ns, 0 ≤ n) (hst : 0 ≤ st) (hst2 : st < 2147483647) (hpl : 0 ≤ pl) (hpl2 : pl < 10000)
    (ret : ∀ (x : MStr) (xt : MTok) (h' : Heap) (tk' : Nat), (∀ k ∈ x.cps.toList, OkS k) → x.length ≤ 110 →
      Fr h₀ L h' m → News h₀ L h' rest → Q (.str x xt) { s with heap := h', toks := tk' }) :
    wpAny (model PySem.Challenge.rw_nz0277_01.row.prog w) (ktrTop dp un gd cn cs L a ccd cl outer) (call (.ref 145) [.ref pa]) Q E s := by
  refine Spec.use (lawtext_spec w pa c st pl t1 t2 k1 k2 vs ns rest hpc hoff hi hlen hnn hst hst2 hpl hpl2) B F X N T hk hdp hu ?_
  rintro v' n' h' tk' F' N' ⟨x, xt, e2, hok, hl, pl', _, _, st', t1', t2', k1', k2', vs', ns', e1, _⟩
  subst e1 e2
  exact ret _ _ _ _ hok hl F' (news_sub N' fun _ hp => List.mem_cons_of_mem _ (List.mem_cons_of_mem _ hp))
theorem piece_use {n : Int} {ct : MTok} {news : MLed}
    (B : Below A₀ base outer h₀) (F : Fr h₀ L s.heap m) (X : (hd.heap_39 w.params).In h₀) (N : News h₀ L s.heap news) (T : Top p loose mean mg mb h₀) (hk : cs.kind = .function) (hdp : dp + 1 < recursionLimit) (hu : un + 80 * 1 < cLine)
    (h0 : 0 ≤ n) (h1 : n < 256)
    (ret : ∀ (t : MTok) (h' : Heap) (tk' : Nat), Fr h₀ L h' m → News h₀ L h' news → Q (.str (KStt.txt (pieceI n)) t) { s with heap := h', toks := tk' }) :
    wpAny (model PySem.Challenge.rw_nz0277_01.row.prog w) (ktrTop dp un gd cn cs L a ccd cl outer) (call (.ref 159) [.int n ct]) Q E s := by
  refine Spec.use (lawpiece_spec w n ct news h0 h1) B F X N T hk hdp hu ?_
  rintro v' n' h' tk' F' N' ⟨e1, t, e2⟩
  subst e1 e2
  exact ret _ _ _ F' N'
theorem utf8_use {n : Int} {ct : MTok} {news : MLed}
    (B : Below A₀ base outer h₀) (F : Fr h₀ L s.heap m) (X : (hd.heap_39 w.params).In h₀) (N : News h₀ L s.heap news) (T : Top p loose mean mg mb h₀) (hk : cs.kind = .function) (hdp : dp + 1 < recursionLimit) (hu : un + 80 * 1 < cLine)
    (ret : ∀ (r : Nat) (us : List MVal) (nn : Nat) (h' : Heap) (tk' : Nat), IntsAre us (utf8L n) → (∀ q ∈ news, q.1 < r) → Fr h₀ L h' m → News h₀ L h' ((r, PySem.W.listOf us.toArray nn) :: news) → Q (.ref r) { s with heap := h', toks := tk' }) :
    wpAny (model PySem.Challenge.rw_nz0277_01.row.prog w) (ktrTop dp un gd cn cs L a ccd cl outer) (call (.ref 152) [.int n ct]) Q E s := by
  refine Spec.use (lawutf8_spec w n ct news) B F X N T hk hdp hu ?_
  rintro v' n' h' tk' F' N' ⟨r, us, nn, e2, e1, hG, l1⟩
  subst e1 e2
  exact ret _ _ _ _ _ hG l1 F' N'
theorem enc_use {nm : List Int} {text : MStr} {nt ct : MTok} {news : MLed}
    (B : Below A₀ base outer h₀) (F : Fr h₀ L s.heap m) (X : (hd.heap_39 w.params).In h₀) (N : News h₀ L s.heap news) (T : Top p loose mean mg mb h₀) (hk : cs.kind = .function) (hdp : dp + 4 < recursionLimit) (hu : un + 80 * 4 < cLine)
    (hok : ∀ c ∈ text.cps.toList, OkC c) (hlen : text.length ≤ 200) (hnl : nm.length ≤ 30)
    (ret : ∀ (r : Nat) (us : List MVal) (nn : Nat) (h' : Heap) (tk' : Nat), BytesAre us (encI nm text.cps.toList) → (∀ q ∈ news, q.1 < r) → Fr h₀ L h' m → News h₀ L h' ((r, PySem.W.listOf us.toArray nn) :: news) → Q (.ref r) { s with heap := h', toks := tk' }) :
    wpAny (model PySem.Challenge.rw_nz0277_01.row.prog w) (ktrTop dp un gd cn cs L a ccd cl outer) (call (.ref 121) [.bytes (byteArr nm) nt, .str text ct]) Q E s := by
  refine Spec.use (enc_spec w nm text nt ct news hok hlen hnl) B F X N T hk hdp hu ?_
  rintro v' n' h' tk' F' N' ⟨r, us, nn, e2, e1, hG, l1⟩
  subst e1 e2
  exact ret _ _ _ _ _ hG l1 F' N'
end
end
section
set_option maxRecDepth 100000
theorem txt_app (a b : List Int) : KStt.txt a ++ KStt.txt b = KStt.txt (a ++ b) := by
  refine PySem.Str.ext' (Array.toList_inj.mp ?_)
  rw [PySem.Str.cps_append]
  simp [KStt.txt]
theorem lit_star : Str.ofString "*" = KStt.txt [42] := by decide +kernel
theorem lit_eq : Str.ofString "*=" = KStt.txt [42, 61] := by decide +kernel
theorem lit_lead : Str.ofString "utf-8''" = KStt.txt leadI := by decide +kernel
theorem lit_whole : Str.ofString "*=utf-8''" = KStt.txt ([42, 61] ++ leadI) := by decide +kernel
theorem lit_nil : Str.ofString "" = KStt.txt [] := by decide +kernel
theorem num_txt {n : Int} (h0 : 0 ≤ n) : Str.ofString (toString n) = KStt.txt ((decL n.toNat).map fun (c : Nat) => (c : Int)) := by
  rw [← dec_codes h0, KStt.txt_codes]
theorem codes_txt {l : List Int} (h : ∀ k ∈ l, 0 ≤ k) : KStt.codes (KStt.txt l) = l := by
  induction l with
  | nil => rfl
  | cons a r ih =>
    have h1 := ih fun k hk => h k (List.mem_cons_of_mem _ hk)
    have h2 := h a (List.mem_cons_self ..)
    simp only [KStt.codes, KStt.txt, List.map_cons, List.map_map] at h1 ⊢
    rw [h1, Int.toNat_of_nonneg h2]
theorem flat_txt : ∀ nss : List (List Int), (nss.map KStt.txt).flatMap (fun y => y.cps.toList) = nss.flatten.map Int.toNat
  | [] => rfl
  | a :: r => by
    rw [List.map_cons, List.flatMap_cons, flat_txt r, List.flatten_cons, List.map_append]
    simp [KStt.txt]
theorem sum_txt : ∀ nss : List (List Int), ((nss.map KStt.txt).map (·.length)).sum = nss.flatten.length
  | [] => rfl
  | a :: r => by
    rw [List.map_cons, List.map_cons, List.sum_cons, sum_txt r, List.flatten_cons, List.length_append, KStt.txt_length]
section
variable {prog : Program} {w : World} {A : Around} {E : Value → Shared → Prop} {s : Shared} {Q : Value → Shared → Prop} {a b : List Int} {t u : Tok}
theorem add_t (hsz : a.length + b.length ≤ 100000) (h : ∀ t' k, Q (.str (KStt.txt (a ++ b)) t') { s with toks := k }) : wpAny (model prog w) A (binaryOp .Add (.str (KStt.txt a) t) (.str (KStt.txt b) u)) Q E s :=
  PyProof.Rows.add_str (fun t' k => by rw [txt_app]; exact h t' k) (by rw [KStt.txt_length, KStt.txt_length, sizeLine_eq]; omega)
theorem add_t1 (hsz : a.length ≤ 90000) (h : ∀ t' k, Q (.str (KStt.txt (a ++ [42])) t') { s with toks := k }) : wpAny (model prog w) A (binaryOp .Add (.str (KStt.txt a) t) (.str (Str.ofString "*") u)) Q E s := by
  rw [lit_star]; exact add_t (by simp only [List.length_cons, List.length_nil]; omega) h
theorem add_t2 (hsz : a.length ≤ 90000) (h : ∀ t' k, Q (.str (KStt.txt (a ++ [42, 61])) t') { s with toks := k }) : wpAny (model prog w) A (binaryOp .Add (.str (KStt.txt a) t) (.str (Str.ofString "*=") u)) Q E s := by
  rw [lit_eq]; exact add_t (by simp only [List.length_cons, List.length_nil]; omega) h
theorem add_t3 (hsz : a.length ≤ 90000) (h : ∀ t' k, Q (.str (KStt.txt (a ++ [42, 61] ++ leadI)) t') { s with toks := k }) : wpAny (model prog w) A (binaryOp .Add (.str (KStt.txt a) t) (.str (Str.ofString "*=utf-8''") u)) Q E s := by
  rw [lit_whole]; exact add_t (by simp only [leadI, List.length_append, List.length_cons, List.length_nil]; omega) (fun t' k => by rw [← List.append_assoc]; exact h t' k)
theorem add_tn {n : Int} (h0 : 0 ≤ n) (h1 : n < 1000) (hsz : a.length ≤ 90000) (h : ∀ t' k, Q (.str (KStt.txt (a ++ (decL n.toNat).map fun (c : Nat) => (c : Int))) t') { s with toks := k }) : wpAny (model prog w) A (binaryOp .Add (.str (KStt.txt a) t) (.str (Str.ofString (toString n)) u)) Q E s := by
  have := dec_len (n := n.toNat) (by omega)
  rw [num_txt h0]; exact add_t (by rw [List.length_map]; omega) h
theorem add_0t (hsz : b.length ≤ 90000) (h : ∀ t' k, Q (.str (KStt.txt b) t') { s with toks := k }) : wpAny (model prog w) A (binaryOp .Add (.str (Str.ofString "") t) (.str (KStt.txt b) u)) Q E s := by
  rw [lit_nil]; exact add_t (a := []) (by simp only [List.length_nil]; omega) h
theorem add_00 (h : ∀ t' k, Q (.str (KStt.txt []) t') { s with toks := k }) : wpAny (model prog w) A (binaryOp .Add (.str (Str.ofString "") t) (.str (Str.ofString "") u)) Q E s := by
  rw [lit_nil]; exact add_t (a := []) (b := []) (by simp only [List.length_nil]; omega) h
theorem len_t (hfit : a.length ≤ 100000) (h : Q (.int (a.length : Nat) (s.toks + 1)) { s with toks := s.toks + 1 + 1 }) : wpAny (model prog w) A (call (.builtin "len") [.str (KStt.txt a) t]) Q E s :=
  PyProof.Rows.len_str (by rw [KStt.txt_length]; omega) (by rw [KStt.txt_length]; exact h)
theorem len_0 (h : Q (.int 0 (s.toks + 1)) { s with toks := s.toks + 1 + 1 }) : wpAny (model prog w) A (call (.builtin "len") [.str (Str.ofString "") t]) Q E s := by
  rw [lit_nil]; exact len_t (a := []) (by simp only [List.length_nil]; omega) h
theorem eq_t0 (hne : a ≠ []) (h : Q (.bool false) s) : wpAny (model prog w) A (compareOp .Eq (.str (KStt.txt a) t) (.str (Str.ofString "") u)) Q E s := by
  refine PyProof.Rows.eq_str ?_
  have e : (KStt.txt a == Str.ofString "") = false := by
    refine beq_eq_false_iff_ne.mpr fun x => hne ?_
    rw [lit_nil] at x
    have := congrArg (·.length) x
    simp only [KStt.txt_length, List.length_nil] at this
    exact List.length_eq_zero_iff.mp this
  rw [e]; exact h
theorem eq_00 (h : Q (.bool true) s) : wpAny (model prog w) A (compareOp .Eq (.str (Str.ofString "") t) (.str (Str.ofString "") u)) Q E s := by
  refine PyProof.Rows.eq_str ?_
  rw [beq_self_eq_true]; exact h
theorem join_txt {D : Addr} {us : List Value} {nss : List (List Int)} {ns : List Int} (hl : s.heap.IsList D us.toArray) (hi : StrsAre us (nss.map KStt.txt)) (he : nss.flatten = ns) (hz : ns.length ≤ 100000) (h : ∀ t' k, Q (.str (KStt.txt ns) t') { s with toks := k }) :
    wpAny (model prog w) A (call (.builtin "str.join") [.str (Str.ofString "") t, .ref D]) Q E s := by
  have z : (Str.ofString "").length = 0 := by decide +kernel
  subst he
  refine join_list (ys := nss.map KStt.txt) hl (by simpa using hi) (by rw [sum_txt, z]; omega) fun t' k => ?_
  rw [join_nil, flat_txt]
  exact h t' k
end
section
variable {prog : Program} {w : World} {A : Around} {E : Value → Shared → Prop} {s : Shared} {h₀ : Heap} {L D : Addr} {news : List (Addr × Obj)} {vs : List Value} {nss : List (List Int)} {n : Nat}
theorem len_strL {Q : Value → Shared → Prop} (N : News h₀ L s.heap news) (hm : (D, PySem.W.listOf vs.toArray n) ∈ news) (hb : StrsAre vs (nss.map KStt.txt)) (hfit : nss.length ≤ 100000)
    (h : Q (.int (nss.length : Nat) (s.toks + 1)) { s with toks := s.toks + 1 + 1 }) : wpAny (model prog w) A (call (.builtin "len") [.ref D]) Q E s := kst_len N hm (by rw [hb.len_eq, List.length_map]) (by omega) h
end
theorem strs_get {vs : List Value} {nss : List (List Int)} {t : Tok} (h : StrsAre vs (nss.map KStt.txt)) {i : Nat} {v : Value} (hv : (vs ++ [Value.str (Str.ofString "") t])[i]? = some v) :
    (∃ pc t', nss[i]? = some pc ∧ v = .str (KStt.txt pc) t') ∨ (i = nss.length ∧ v = .str (Str.ofString "") t) := by
  induction nss generalizing vs i with
  | nil =>
    cases h
    cases i with
    | zero => right; exact ⟨rfl, (Option.some.inj hv).symm⟩
    | succ i => simp at hv
  | cons p r ih =>
    cases h with
    | cons x t' hr =>
      cases i with
      | zero => left; exact ⟨p, t', rfl, (Option.some.inj hv).symm⟩
      | succ i =>
        rcases ih hr (i := i) hv with ⟨pc, t2, e1, e2⟩ | ⟨e1, e2⟩
        · left; exact ⟨pc, t2, e1, e2⟩
        · right; exact ⟨by rw [e1]; rfl, e2⟩
end
section
set_option maxRecDepth 100000
theorem rows_lead {room : Int} (h : 7 ≤ room) (pcs : List (List Int)) : rowsI room (leadI :: pcs) = (pcs.foldl (rowStep room) ([], leadI)).1 ++ [(pcs.foldl (rowStep room) ([], leadI)).2] := by
  have e : rowStep room ([], []) leadI = ([], leadI) := by
    unfold rowStep
    rw [if_neg]
    · rfl
    · show ¬ (((([] : List Int).length : Nat) : Int) + ((leadI.length : Nat) : Int) > room)
      have : leadI.length = 7 := rfl
      rw [this]
      simp only [List.length_nil]
      omega
  unfold rowsI
  rw [List.foldl_cons, e]
/-- the rows with their heads -/
def dueL (nm : List Int) (rows : List (List Int)) : List (List Int) := (List.range rows.length).map (encRow nm rows)
theorem dueL_len (nm : List Int) (rows : List (List Int)) : (dueL nm rows).length = rows.length := by unfold dueL; rw [List.length_map, List.length_range]
theorem dueL_snoc (nm : List Int) (rows : List (List Int)) (r : List Int) : dueL nm (rows ++ [r]) = dueL nm rows ++ [nm ++ [42] ++ ((decL rows.length).map fun (c : Nat) => (c : Int)) ++ [42, 61] ++ r] := by
  unfold dueL
  rw [List.length_append, List.length_singleton, List.range_succ, List.map_append, List.map_singleton]
  congr 1
  · refine List.map_congr_left fun j hj => ?_
    have hj' : j < rows.length := List.mem_range.mp hj
    unfold encRow
    congr 1
    simp [List.getD, List.getElem?_append_left hj']
  · unfold encRow
    congr 1
    simp [List.getD]
theorem strs_due {us : List Value} {nm : List Int} {dn : List (List Int)} {cur v : List Int} {t : Tok} (h : StrsAre us ((dueL nm dn).map KStt.txt)) (e : nm ++ [42] ++ ((decL dn.length).map fun (c : Nat) => (c : Int)) ++ [42, 61] ++ cur = v) :
    StrsAre (us ++ [.str (KStt.txt v) t]) ((dueL nm (dn ++ [cur])).map KStt.txt) := by
  rw [dueL_snoc, List.map_append, e]
  exact strsAre_append h (.cons _ _ .nil)
/-- the whole row -/
def wholeI (nm : List Int) (cs : List Nat) : List Int := nm ++ [42, 61] ++ leadI ++ ((octsL cs).map pieceI).flatten
theorem enc_small {nm : List Int} {cs : List Nat} (h : ¬ ((wholeI nm cs).length : Int) > 76) : encI nm cs = [wholeI nm cs] := by
  unfold wholeI at h
  unfold encI wholeI
  rw [if_pos (by omega)]
theorem enc_big {nm : List Int} {cs : List Nat} (h : ((wholeI nm cs).length : Int) > 76) : encI nm cs = dueL nm (rowsI (66 - (nm.length : Int)) (leadI :: (octsL cs).map pieceI)) := by
  unfold wholeI at h
  unfold encI dueL
  rw [if_neg (by omega)]
theorem piece_in {k : Int} (h0 : 0 ≤ k) (h1 : k < 256) : KBa.In (pieceI k) := by
  unfold pieceI
  split
  · intro j hj; rw [List.mem_singleton.mp hj]; exact ⟨h0, h1⟩
  · intro j hj
    simp only [List.mem_cons, List.not_mem_nil, or_false] at hj
    have b1 : (hexU (k.fdiv 16)).toNat < 256 := UInt8.toNat_lt _
    have b2 : (hexU (k.fmod 16)).toNat < 256 := UInt8.toNat_lt _
    rcases hj with rfl | rfl | rfl <;> omega
theorem pieces_in {ks : List Int} (h : KBa.In ks) : KBa.In ((ks.map pieceI).flatten) := by
  intro j hj
  obtain ⟨p, hp, hj⟩ := List.mem_flatten.mp hj
  obtain ⟨k, hk, rfl⟩ := List.mem_map.mp hp
  exact piece_in (h k hk).1 (h k hk).2 j hj
theorem lead_in : KBa.In leadI := by
  intro j hj
  simp only [leadI, List.mem_cons, List.not_mem_nil, or_false] at hj
  rcases hj with rfl | rfl | rfl | rfl | rfl | rfl | rfl <;> omega
theorem in_app {a b : List Int} (h : KBa.In a) (g : KBa.In b) : KBa.In (a ++ b) := fun k hk => (List.mem_append.mp hk).elim (h k) (g k)
theorem whole_in {nm : List Int} {cs : List Nat} (hn : KBa.In nm) (hc : ∀ c ∈ cs, OkC c) : KBa.In (wholeI nm cs) := by
  unfold wholeI
  refine in_app (in_app (in_app hn ?_) lead_in) (pieces_in (octsL_in hc))
  intro j hj
  simp only [List.mem_cons, List.not_mem_nil, or_false] at hj
  rcases hj with rfl | rfl <;> omega
theorem getD_in {l : List (List Int)} {j : Nat} : ∀ k ∈ l.getD j [], k ∈ l.flatten := by
  intro k hk
  rw [List.getD_eq_getElem?_getD] at hk
  cases e : l[j]? with
  | none => rw [e] at hk; cases hk
  | some r => rw [e] at hk; exact List.mem_flatten.mpr ⟨r, List.mem_of_getElem? e, hk⟩
theorem enc_in {nm : List Int} {cs : List Nat} (hn : KBa.In nm) (hc : ∀ c ∈ cs, OkC c) : ∀ r ∈ encI nm cs, KBa.In r := by
  intro r hr
  by_cases h : ((wholeI nm cs).length : Int) > 76
  · rw [enc_big h] at hr
    obtain ⟨j, _, rfl⟩ := List.mem_map.mp hr
    unfold encRow
    refine in_app (in_app (in_app (in_app hn ?_) (dec_in j)) ?_) ?_
    · intro k hk; rw [List.mem_singleton.mp hk]; omega
    · intro k hk
      simp only [List.mem_cons, List.not_mem_nil, or_false] at hk
      rcases hk with rfl | rfl <;> omega
    · intro k hk
      have := getD_in k hk
      rw [rows_flat, List.flatten_cons] at this
      exact in_app lead_in (pieces_in (octsL_in hc)) k this
  · rw [enc_small h] at hr
    rw [List.mem_singleton.mp hr]
    exact whole_in hn hc
theorem whole_len {nm : List Int} {cs : List Nat} (hn : nm.length ≤ 27) (hc : cs.length ≤ 110) : (wholeI nm cs).length ≤ 1400 := by
  have h1 := pieces_len (octsL cs)
  have h2 := octsL_len cs
  have h3 : leadI.length = 7 := rfl
  unfold wholeI
  simp only [List.length_append, List.length_cons, List.length_nil]
  omega
theorem rows_few {nm : List Int} {cs : List Nat} (hc : cs.length ≤ 110) : (rowsI (66 - (nm.length : Int)) (leadI :: (octsL cs).map pieceI)).length ≤ 442 := by
  have h1 := rowsI_len (66 - (nm.length : Int)) (leadI :: (octsL cs).map pieceI)
  have h2 := octsL_len cs
  rw [List.length_cons, List.length_map] at h1
  omega
theorem enc_len {nm : List Int} {cs : List Nat} (hn : nm.length ≤ 27) (hc : cs.length ≤ 110) : ∀ r ∈ encI nm cs, r.length ≤ 1500 := by
  intro r hr
  by_cases h : ((wholeI nm cs).length : Int) > 76
  · rw [enc_big h] at hr
    obtain ⟨j, hj, rfl⟩ := List.mem_map.mp hr
    have h0 := rows_few (nm := nm) hc
    have hj' := List.mem_range.mp hj
    have h1 := pieces_len (octsL cs)
    have h2 := octsL_len cs
    have h3 : leadI.length = 7 := rfl
    have h4 := getD_len (rowsI (66 - (nm.length : Int)) (leadI :: (octsL cs).map pieceI)) j
    rw [rows_flat, List.flatten_cons, List.length_append] at h4
    have h5 := dec_len (n := j) (by omega)
    unfold encRow
    simp only [List.length_append, List.length_cons, List.length_nil, List.length_map]
    omega
  · rw [enc_small h] at hr
    rw [List.mem_singleton.mp hr]
    have := whole_len hn hc
    omega
theorem enc_few {nm : List Int} {cs : List Nat} (hc : cs.length ≤ 110) : (encI nm cs).length ≤ 500 := by
  by_cases h : ((wholeI nm cs).length : Int) > 76
  · rw [enc_big h, dueL_len]; have := rows_few (nm := nm) hc; omega
  · rw [enc_small h]; simp
theorem piece_ne (k : Int) : pieceI k ≠ [] := by unfold pieceI; split <;> simp
/-- the state of the law's loop -/
theorem due_next {room : Int} {pcs : List (List Int)} {i : Nat} {pc cur : List Int} {dn : List (List Int)} (h : pcs[i]? = some pc) (hst : (dn, cur) = (pcs.take i).foldl (rowStep room) ([], leadI)) :
    (pcs.take (i + 1)).foldl (rowStep room) ([], leadI) = rowStep room (dn, cur) pc := by
  rw [List.take_add_one, h, List.foldl_append, ← hst]; rfl
end
section
set_option maxRecDepth 100000
theorem sub_self {l : MLed} : ∀ p ∈ l, p ∈ l := fun _ hp => hp
theorem offC {pa c : Nat} {rest own : MLed} {adr : List Addr} (h1 : OwnOff rest [pa, c]) (h2 : OwnOff own (pa :: c :: adr)) : OwnOff (rest ++ own) [pa, c] := by
  intro p hp b hb e
  rcases List.mem_append.mp hp with hp | hp
  · exact h1 p hp b hb e
  · have hb' : b = pa ∨ b = c := by simpa using hb
    exact h2 p hp b (by rcases hb' with rfl | rfl <;> simp) e
theorem one_snoc {ys : List MVal} {nm : List Int} (h : StrsAre ys ((nm.map fun k => [k]).map KStt.txt)) (k : Int) (t : MTok) : StrsAre (ys ++ [.str { cps := #[k.toNat] } t]) (((nm ++ [k]).map fun k => [k]).map KStt.txt) := by
  rw [List.map_append, List.map_append]
  exact strsAre_append h (.cons (KStt.txt [k]) _ .nil)
theorem az_snoc {nm : List Int} {r : Int} (h : ∀ k ∈ nm, 97 ≤ k ∧ k ≤ 122) (h0 : 0 ≤ r) (h1 : r < 26) : ∀ k ∈ nm ++ [97 + r], 97 ≤ k ∧ k ≤ 122 := fun k hk => by
  rcases List.mem_append.mp hk with hk | hk
  · exact h k hk
  · rw [List.mem_singleton.mp hk]; omega
theorem flat_one : ∀ nm : List Int, (nm.map fun k => [k]).flatten = nm
  | [] => rfl
  | a :: r => by rw [List.map_cons, List.flatten_cons, flat_one r]; rfl
def RT (cs : List Nat) (i : Nat) (ys : List MVal) : Prop := StrsAre ys (((octsL (cs.take i)).map pieceI).map KStt.txt)
def GT (cs : List Nat) (i : Nat) (us : List MVal) : Prop := ∃ c : Nat, cs[i]? = some c ∧ IntsAre us (utf8L (c : Int))
def ST (cs : List Nat) (i : Nat) (us : List MVal) (j : Nat) (ys : List MVal) : Prop := ∃ c : Nat, cs[i]? = some c ∧ IntsAre us (utf8L (c : Int)) ∧ StrsAre ys (((octsL (cs.take i) ++ (utf8L (c : Int)).take j).map pieceI).map KStt.txt)
theorem rt_nil (cs : List Nat) : RT cs 0 [] := by unfold RT; rw [List.take_zero]; exact .nil
theorem rt_small {cs : List Nat} (h : cs.length ≤ 110) : ∀ i ys, RT cs i ys → ys.length ≤ 1000000 := fun i ys hR => by
  have h1 := octsL_len (cs.take i)
  have h2 : (cs.take i).length ≤ cs.length := List.length_take_le' ..
  rw [hR.len_eq, List.length_map, List.length_map]; omega
theorem gt_few {cs : List Nat} : ∀ i us, GT cs i us → us.length ≤ 1000000 := fun i us ⟨c, _, h⟩ => by
  have := utf8L_len (c : Int)
  rw [h.length]; omega
theorem st_first {cs : List Nat} : ∀ i us ys, RT cs i ys → GT cs i us → ST cs i us 0 ys := fun i us ys hR ⟨c, hc, hu⟩ => ⟨c, hc, hu, by rw [List.take_zero, List.append_nil]; exact hR⟩
theorem st_last {cs : List Nat} (n : Nat) : ∀ i us ys, i < n → GT cs i us → ST cs i us us.length ys → RT cs (i + 1) ys := fun i us ys _ _ ⟨c, hc, hu, h⟩ => by
  unfold RT
  rw [octsL_snoc hc]
  rw [hu.length, List.take_length] at h
  exact h
theorem st_item {cs : List Nat} {i : Nat} {us ys : List MVal} {j : Nat} {v : MVal} (hok : ∀ c ∈ cs, OkC c) (hv : us[j]? = some v) (hS : ST cs i us j ys) : ∃ (n : Int) (t : MTok), v = .int n t ∧ 0 ≤ n ∧ n < 256 ∧ ∀ t', ST cs i us (j + 1) (ys ++ [.str (KStt.txt (pieceI n)) t']) := by
  obtain ⟨c, hc, hu, h⟩ := hS
  have get : ∀ {us : List MVal} {ns : List Int}, IntsAre us ns → ∀ {j : Nat}, us[j]? = some v → ∃ n t, v = .int n t ∧ ns[j]? = some n := by
    intro us ns hi
    induction hi with
    | nil => intro j h; cases h
    | cons n t r ih =>
      intro j h
      cases j with
      | zero => exact ⟨n, t, (Option.some.inj h).symm, rfl⟩
      | succ j => exact ih h
  obtain ⟨n, t, e1, e2⟩ := get hu hv
  have hin : KBa.In (octsL [c]) := octsL_in fun k hk => by rw [List.mem_singleton.mp hk]; exact hok c (List.mem_of_getElem? hc)
  have e3 : octsL [c] = utf8L (c : Int) := by simp [octsL]
  rw [e3] at hin
  have hn := hin n (List.mem_of_getElem? e2)
  refine ⟨n, t, e1, hn.1, hn.2, fun t' => ⟨c, hc, hu, ?_⟩⟩
  rw [List.take_add_one, e2, ← List.append_assoc, List.map_append, List.map_append]
  exact strsAre_append h (.cons _ _ .nil)
theorem ok_c {cs : List Nat} (h : ∀ k ∈ cs, OkS k) : ∀ c ∈ cs, OkC c := fun c hc => ⟨(h c hc).2.1, (h c hc).2.2⟩
theorem ne_lt {led : MLed} {r : Nat} (h : ∀ q ∈ led, q.1 < r) : ∀ q ∈ led, q.1 ≠ r := fun q hq => Nat.ne_of_lt (h q hq)
theorem cps_at {x : MStr} {i c : Nat} (h : x.cps[i]? = some c) : x.cps.toList[i]? = some c := by simpa using h
theorem name_txt {h₀ h : Heap} {L : Addr} {m : Str → Option MVal} {x : MStr} {t : MTok} (_F : Fr h₀ L h (fun z => if z = "text" then some (.str x t) else m z)) : ∃ y : MStr, y = x := ⟨x, rfl⟩
end
section
set_option maxRecDepth 100000
/-- what the law's loop holds ahead of its turn i -/
def RD (nm : List Int) (pcs : List (List Int)) (i : Nat) (us : List MVal) (cur : List Int) : Prop :=
  (i ≤ pcs.length → ∃ dn, StrsAre us ((dueL nm dn).map KStt.txt) ∧ dn.length ≤ i ∧ (dn, cur) = (pcs.take i).foldl (rowStep (66 - (nm.length : Int))) ([], leadI) ∧ cur.length ≤ 107) ∧
  (pcs.length < i → StrsAre us ((dueL nm (rowsI (66 - (nm.length : Int)) (leadI :: pcs))).map KStt.txt))
theorem rd_zero (nm : List Int) (pcs : List (List Int)) : RD nm pcs 0 [] leadI :=
  ⟨fun _ => ⟨[], .nil, Nat.le_refl _, rfl, by decide⟩, fun h => absurd h (Nat.not_lt_zero _)⟩
theorem rd_break {nm : List Int} {pcs : List (List Int)} {i : Nat} {us : List MVal} {cur pc v : List Int} {dn : List (List Int)} {t : MTok} (hpc : pcs[i]? = some pc) (hus : StrsAre us ((dueL nm dn).map KStt.txt)) (hdn : dn.length ≤ i) (hst : (dn, cur) = (pcs.take i).foldl (rowStep (66 - (nm.length : Int))) ([], leadI))
    (h : 66 - (nm.length : Int) < (cur.length : Int) + (pc.length : Int)) (hp : pc.length ≤ 3) (e : nm ++ [42] ++ ((decL dn.length).map fun (c : Nat) => (c : Int)) ++ [42, 61] ++ cur = v) : RD nm pcs (i + 1) (us ++ [.str (KStt.txt v) t]) pc := by
  have hi : i < pcs.length := (List.getElem?_eq_some_iff.mp hpc).1
  refine ⟨fun _ => ⟨dn ++ [cur], strs_due hus e, ?_, ?_, by omega⟩, fun h => by omega⟩
  · rw [List.length_append, List.length_singleton]; omega
  · rw [due_next hpc hst]; unfold rowStep; rw [if_pos (by show _ > _; exact h)]
theorem rd_join {nm : List Int} {pcs : List (List Int)} {i : Nat} {us : List MVal} {cur pc : List Int} {dn : List (List Int)} (hpc : pcs[i]? = some pc) (hus : StrsAre us ((dueL nm dn).map KStt.txt)) (hdn : dn.length ≤ i) (hst : (dn, cur) = (pcs.take i).foldl (rowStep (66 - (nm.length : Int))) ([], leadI))
    (h : ¬ 66 - (nm.length : Int) < (cur.length : Int) + (pc.length : Int)) : RD nm pcs (i + 1) us (cur ++ pc) := by
  have hi : i < pcs.length := (List.getElem?_eq_some_iff.mp hpc).1
  refine ⟨fun _ => ⟨dn, hus, by omega, ?_, by rw [List.length_append]; omega⟩, fun h => by omega⟩
  rw [due_next hpc hst]; unfold rowStep; rw [if_neg (by show ¬ _ > _; exact h)]
theorem rd_last {nm : List Int} {pcs : List (List Int)} {i : Nat} {us : List MVal} {cur cur' v : List Int} {dn : List (List Int)} {t : MTok} (hi : i = pcs.length) (hn : nm.length ≤ 27) (hus : StrsAre us ((dueL nm dn).map KStt.txt)) (hst : (dn, cur) = (pcs.take i).foldl (rowStep (66 - (nm.length : Int))) ([], leadI))
    (e : nm ++ [42] ++ ((decL dn.length).map fun (c : Nat) => (c : Int)) ++ [42, 61] ++ cur = v) : RD nm pcs (i + 1) (us ++ [.str (KStt.txt v) t]) cur' := by
  subst hi
  refine ⟨fun h => by omega, fun _ => ?_⟩
  rw [List.take_length] at hst
  rw [rows_lead (by omega), ← hst]
  exact strs_due hus e
theorem rd_open {nm : List Int} {pcs : List (List Int)} {i : Nat} {us : List MVal} {cur : List Int} (h : RD nm pcs i us cur) (hi : i ≤ pcs.length) : ∃ dn, StrsAre us ((dueL nm dn).map KStt.txt) ∧ dn.length ≤ i ∧ (dn, cur) = (pcs.take i).foldl (rowStep (66 - (nm.length : Int))) ([], leadI) ∧ cur.length ≤ 107 ∧ (dueL nm dn).length = dn.length ∧ us.length = dn.length := by
  obtain ⟨dn, h1, h2, h3, h4⟩ := h.1 hi
  exact ⟨dn, h1, h2, h3, h4, dueL_len .., by rw [h1.len_eq, List.length_map, dueL_len]⟩
theorem rd_done {nm : List Int} {cs : List Nat} {us ys : List MVal} {cur : List Int} {v : MVal} (hR : StrsAre ys (((octsL cs).map pieceI).map KStt.txt)) (hb : 76 < ((wholeI nm cs).length : Int)) (h : RD nm ((octsL cs).map pieceI) (ys ++ [v]).length us cur) : StrsAre us ((encI nm cs).map KStt.txt) := by
  rw [enc_big hb]
  refine h.2 ?_
  rw [List.length_append, List.length_singleton, hR.len_eq]
  simp only [List.length_map]
  omega
theorem due_led {h₀ h : Heap} {L : Addr} {r d l : Addr} {o : Obj} {rest : MLed} {ys : List MVal} {t : MTok} {k : Nat} (N : News h₀ L h ((r, PySem.W.listOf (ys ++ [Value.str (Str.ofString "") t]).toArray 0) :: (d, o) :: (l, PySem.W.listOf #[] k) :: rest)) :
    ∃ (fa ra : Nat) (et : MTok), fa = l ∧ ra = r ∧ et = t ∧ fa ≠ ra ∧ News h₀ L h [(fa, PySem.W.listOf ([] : List MVal).toArray k), (ra, PySem.W.listOf (ys ++ [Value.str (Str.ofString "") et]).toArray 0)] := by
  refine ⟨l, r, t, rfl, rfl, rfl, fun e => ?_, fun p hp => N p ?_⟩
  · have h1 := (N _ (List.mem_cons_self ..)).1
    have h2 := (N (l, PySem.W.listOf #[] k) (List.mem_cons_of_mem _ (List.mem_cons_of_mem _ (List.mem_cons_self ..)))).1
    rw [show l = r from e] at h2
    have h3 := Option.some.inj (h1.symm.trans h2)
    have h4 := congrArg Obj.data h3
    injection h4 with h5 h6
    have h7 := congrArg Array.size h5
    simp at h7
  · simp only [List.mem_cons, List.not_mem_nil, or_false] at hp ⊢
    rcases hp with rfl | rfl
    · exact .inr (.inr (.inl rfl))
    · exact .inl rfl
theorem fr_row {h₀ h : Heap} {L : Addr} {m : Str → Option MVal} {t : MTok} (_F : Fr h₀ L h m) (hr : m (Str.ofString "row") = some (.str (Str.ofString "utf-8''") t)) : ∃ rt : MTok, m (Str.ofString "row") = some (.str (KStt.txt leadI) rt) := ⟨t, by rw [hr, lit_lead]⟩
theorem off_two {fa ra : Nat} {o1 o2 : Obj} {own : MLed} (hne : fa ≠ ra) (h : OwnOff own (([(fa, o1)] ++ [(ra, o2)]).map (·.1))) : OwnOff ((ra, o2) :: own) [fa] := by
  intro p hp b hb e
  rw [List.mem_singleton.mp hb] at e
  rcases List.mem_cons.mp hp with rfl | hp
  · exact hne e.symm
  · exact h p hp fa (List.mem_cons_self ..) e
end
section
set_option maxRecDepth 100000
section
variable {prog : Program} {w : World} {A : Around} {E : Value → Shared → Prop} {s : Shared} {h₀ h : Heap} {L : Addr} {m : Str → Option Value} {news : MLed}
/-- what the law holds behind its if: the rows that are due -/
def IfEnd (s : Shared) (h₀ : Heap) (L : Addr) (nm : List Int) (x : MStr) (f : Flow) (s' : Shared) : Prop :=
  f = .next ∧ ∃ (fa : Nat) (us : List MVal) (kk : Nat) (h : Heap) (tk : Nat) (u : Str → Option Value) (t1 t2 : MTok), s' = { s with heap := h, toks := tk } ∧
    Fr h₀ L h (fun y => if y = Str.ofString "due" then some (.ref fa) else if y = Str.ofString "name" then some (.str (KStt.txt nm) t1) else if y = Str.ofString "text" then some (.str x t2) else u y) ∧ News h₀ L h [(fa, PySem.W.listOf us.toArray kk)] ∧ StrsAre us ((encI nm x.cps.toList).map KStt.txt)
theorem IfEnd.mk' {nm : List Int} {x : MStr} {fa : Nat} {us : List MVal} {kk tk : Nat} {t1 t2 : MTok} (F : Fr h₀ L h m) (N : News h₀ L h news) (ha : ∀ p ∈ [(Str.ofString "due", Value.ref fa), (Str.ofString "name", .str (KStt.txt nm) t1), (Str.ofString "text", .str x t2)], m p.1 = some p.2)
    (hm : (fa, PySem.W.listOf us.toArray kk) ∈ news) (hd : StrsAre us ((encI nm x.cps.toList).map KStt.txt)) : IfEnd s h₀ L nm x .next { s with heap := h, toks := tk } := by
  have e : kstB m [(Str.ofString "due", Value.ref fa), (Str.ofString "name", .str (KStt.txt nm) t1), (Str.ofString "text", .str x t2)] = m := funext fun z => kstB_eq ha fun _ => rfl
  have F' : Fr h₀ L h (kstB m [(Str.ofString "due", Value.ref fa), (Str.ofString "name", .str (KStt.txt nm) t1), (Str.ofString "text", .str x t2)]) := e.symm ▸ F
  exact ⟨rfl, fa, us, kk, h, tk, m, t1, t2, rfl, F', fun p hp => by rw [List.mem_singleton.mp hp]; exact N _ hm, hd⟩
theorem if_due {test : Expr} {body : List Stmt} {pos : Pos} {env : Env} {Q : Flow → Shared → Prop} (nm : List Int) (x : MStr) (_F : Fr h₀ L s.heap m)
    (hb : wpAny (model prog w) A (exec (.If test body [] pos) env) (IfEnd s h₀ L nm x) E s)
    (hr : ∀ (fa : Nat) (us : List MVal) (kk : Nat) (h : Heap) (tk : Nat) (u : Str → Option Value) (t1 t2 : MTok), Fr h₀ L h (fun y => if y = Str.ofString "due" then some (.ref fa) else if y = Str.ofString "name" then some (.str (KStt.txt nm) t1) else if y = Str.ofString "text" then some (.str x t2) else u y) → News h₀ L h [(fa, PySem.W.listOf us.toArray kk)] →
      StrsAre us ((encI nm x.cps.toList).map KStt.txt) → Q .next { s with heap := h, toks := tk }) : wpAny (model prog w) A (exec (.If test body [] pos) env) Q E s := by
  refine wpAny_mono hb (fun f s' he => ?_) fun _ _ e => e
  obtain ⟨rfl, fa, us, kk, h, tk, u, t1, t2, rfl, F, N, hd⟩ := he
  exact hr fa us kk h tk u t1 t2 F N hd
end
section
variable {prog : Program} {w : World} {A : Around} {E : Value → Shared → Prop} {s : Shared} {h₀ : Heap} {L : Addr} {m : Str → Option Value} {news : MLed} {Q : Value → Shared → Prop}
theorem list_bytes {l : Addr} {vs : List Value} {nss : List (List Int)} {nn : Nat} (F : Fr h₀ L s.heap m) (N : News h₀ L s.heap news) (hm : (l, PySem.W.listOf vs.toArray nn) ∈ news) (hb : BytesAre vs nss) (hz : nss.length ≤ 100000)
    (h : ∀ (D c : Nat) h', Fr h₀ L h' m → News h₀ L h' ((D, PySem.W.listOf vs.toArray c) :: news) → (∀ q ∈ news, q.1 < D) → Q (.ref D) { s with heap := h' }) : wpAny (model prog w) A (call (.type "list") [.ref l]) Q E s :=
  list_copyK F N (News.isList N hm) h (by rw [List.size_toArray, sizeLine_eq, hb.length]; omega)
end
theorem strs_at {vs : List MVal} {nss : List (List Int)} (h : StrsAre vs (nss.map KStt.txt)) {i : Nat} {v : MVal} (hv : vs[i]? = some v) : ∃ ns t, nss[i]? = some ns ∧ v = .str (KStt.txt ns) t := by
  induction nss generalizing vs i with
  | nil => cases h; cases hv
  | cons p r ih =>
    cases h with
    | cons x t' hr =>
      cases i with
      | zero => exact ⟨p, t', rfl, (Option.some.inj hv).symm⟩
      | succ i => exact ih hr (i := i) hv
theorem due_take {ys : List MVal} {nss : List (List Int)} {i : Nat} {ns : List Int} {t : MTok} (hn : nss[i]? = some ns) (h : BytesAre ys (nss.take i)) : BytesAre (ys ++ [.bytes (byteArr ns) t]) (nss.take (i + 1)) := by
  rw [List.take_add_one, hn]
  exact h.append (.cons .nil)
theorem az_in {nm : List Int} (h : ∀ k ∈ nm, 97 ≤ k ∧ k ≤ 122) : KBa.In nm := fun k hk => by have := h k hk; omega
theorem in_nn {l : List Int} (h : KBa.In l) : ∀ k ∈ l, 0 ≤ k := fun k hk => (h k hk).1
theorem due_all {us ys : List MVal} {nss : List (List Int)} (hd : StrsAre us (nss.map KStt.txt)) (h : BytesAre ys (nss.take us.length)) : BytesAre ys nss := by
  rw [hd.len_eq, List.length_map, List.take_length] at h; exact h
end
section

theorem pot_first {h₀ h : Heap} {L : Addr} {a b d : Addr × Obj} {r : MLed} (N : News h₀ L h (d :: a :: b :: r)) : News h₀ L h (a :: b :: d :: r) := fun p hp => N p (by
  simp only [List.mem_cons] at hp ⊢
  rcases hp with h | h | h | h
  · exact .inr (.inl h)
  · exact .inr (.inr (.inl h))
  · exact .inl h
  · exact .inr (.inr (.inr h)))
theorem off_D {pa c D : Nat} {oa oc o : Obj} {rest : MLed} (h1 : OwnOff rest [pa, c]) (h2 : ∀ p ∈ [(pa, oa), (c, oc)] ++ rest, p.1 < D) : OwnOff ((D, o) :: rest) [pa, c] := by
  intro p hp b hb e
  rcases List.mem_cons.mp hp with rfl | hp
  · have hb' : b = pa ∨ b = c := by simpa using hb
    have e' : D = b := e
    rcases hb' with rfl | rfl
    · exact Nat.ne_of_gt (h2 (b, oa) (by simp)) e'
    · exact Nat.ne_of_gt (h2 (b, oc) (by simp)) e'
  · exact h1 p hp b hb e

theorem the_text {x : MStr} (_ : ∀ k ∈ x.cps.toList, OkS k) : ∃ y : MStr, y = x := ⟨x, rfl⟩
theorem cs_len {x : MStr} (h : x.length ≤ 110) : x.cps.toList.length ≤ 110 := by simpa [PySem.Str.length] using h

theorem take_all {x : MStr} : x.cps.toList.take x.length = x.cps.toList := by
  rw [List.take_of_length_le]; simp [PySem.Str.length]

theorem pc_le {ks : List Int} {i : Nat} {pc : List Int} (h : (ks.map pieceI)[i]? = some pc) : pc.length ≤ 3 := by
  obtain ⟨k, _, rfl⟩ := List.mem_map.mp (List.mem_of_getElem? h)
  exact pieceI_len k
theorem pc_ne {ks : List Int} {i : Nat} {pc : List Int} (h : (ks.map pieceI)[i]? = some pc) : pc ≠ [] := by
  obtain ⟨k, _, rfl⟩ := List.mem_map.mp (List.mem_of_getElem? h)
  exact piece_ne k
theorem strs_getC {vs : List Value} {nss : List (List Int)} {t : Tok} {i : Nat} {v : Value} {G : Prop} (h : StrsAre vs (nss.map KStt.txt)) (hv : (vs ++ [Value.str (Str.ofString "") t])[i]? = some v)
    (h1 : ∀ pc t', nss[i]? = some pc → v = .str (KStt.txt pc) t' → G) (h2 : i = nss.length → v = .str (Str.ofString "") t → G) : G := by
  rcases strs_get h hv with ⟨pc, t', hpc, e⟩ | ⟨hi, e⟩
  · exact h1 pc t' hpc e
  · exact h2 hi e
set_option maxRecDepth 100000 in
set_option maxHeartbeats 8000000 in
theorem m1 : PySem.Challenge.rw_nz0277_01.Holds := hd (by
 k_with_none
 k_with "eval ListComp" => ((with_reducible show wpAny _ _ (eval _ (envOfC _ _ _ _ _)) _ _ _); refine Stop.of ?_)
 k_with "exec Assign cons ListComp" => ((with_reducible show wpAny _ _ (exec _ (envOfC _ _ _ _ _)) _ _ _); refine Stop.of ?_)
 k_with "eval Name" => ((with_reducible show wpAny _ _ (eval _ (compEnvC _ _ _ _)) _ _ _); k_here; k_dflt (refine ldC (by k_asm) (by k_mem) (by assumption) (by assumption) ?_; k_whole))
 k_with "call type:bytes" => (k_here; (with_reducible show wpAny _ _ (call (Value.type "bytes") [Value.ref _]) _ _ _); k_dflt (refine KBa.make_K (by k_asm) (by k_asm) rfl (by is_list) (by assumption) (by assumption) (by first | assumption | omega) ?_; k_whole); intro hZ tZ kZ FZ NZ _)
 k_with "exec For Name BinOp cons nil" => (k_here; (with_reducible show wpAny _ _ (exec _ (envOfC _ _ _ _ _)) _ _ _); (rename Fr _ _ _ _ => lFZ); (with_unfolding_all refine For_stop lFZ (by exact rfl) (by exact rfl) ?_; k_whole))
 k_with "callWith" => ((with_reducible show wpAny _ _ (callWith _ (Value.builtin "list.append") _ _ _) _ _ _); refine callWith_method1 ?_ (by with_unfolding_all rfl) (by with_unfolding_all rfl))
 k_with "call ref" => (k_here; (with_reducible show wpAny _ _ (call (Value.ref 138) [Value.ref _, Value.int _ _]) _ _ _); k_dflt (refine draw_use (by k_asm) (by k_asm) (by k_asm) (by k_asm) (by k_asm) (by first | exact rfl | assumption) (by ktr_room) (by ktr_units) (by with_reducible assumption) (by with_reducible assumption) (by with_reducible assumption) (by with_reducible assumption) (by with_reducible assumption) (by omega) (by omega) (by omega) (by omega) (by omega) (by omega) ?_; k_whole); intro stZ t1Z t2Z k1Z k2Z vsZ nsZ rZ tZ hZ tkZ hiZ hlZ hnZ hsZ hs2Z hr0Z hr1Z FZ NZ; (try dsimp only); (try k_unmd); (try k_fold))
 k_with "call builtin:str.join" => (k_here; (with_reducible show wpAny _ _ (call (Value.builtin _) [Value.str _ _, Value.ref _]) _ _ _); k_dflt (refine join_txt (by is_list) (by with_reducible assumption) (by first | with_reducible assumption | rfl) (by omega) ?_; k_whole); intro t9Z k9Z)
 k_with "binaryOp Add str str" => (k_here; first | ((with_reducible refine add_t1 (by ((try simp only [List.length_append, List.length_cons, List.length_nil, List.length_map]); omega)) ?_); intro tZ kZ; (try dsimp only)) | ((with_reducible refine add_t2 (by ((try simp only [List.length_append, List.length_cons, List.length_nil, List.length_map]); omega)) ?_); intro tZ kZ; (try dsimp only)) | ((with_reducible refine add_t3 (by ((try simp only [List.length_append, List.length_cons, List.length_nil, List.length_map]); omega)) ?_); intro tZ kZ; (try dsimp only)) | ((with_reducible refine add_tn (by ((try simp only [List.length_append, List.length_cons, List.length_nil, List.length_map]); omega)) (by ((try simp only [List.length_append, List.length_cons, List.length_nil, List.length_map]); omega)) (by ((try simp only [List.length_append, List.length_cons, List.length_nil, List.length_map]); omega)) ?_); intro tZ kZ; (try dsimp only)) | ((with_reducible refine add_00  ?_);  intro tZ kZ; (try dsimp only)) | ((with_reducible refine add_0t (by ((try simp only [List.length_append, List.length_cons, List.length_nil, List.length_map]); omega)) ?_); intro tZ kZ; (try dsimp only)) | ((with_reducible refine add_t (by ((try simp only [List.length_append, List.length_cons, List.length_nil, List.length_map]); omega)) ?_); intro tZ kZ; (try dsimp only)))
 k_with "call builtin:len" => (k_here; (with_reducible show wpAny _ _ (call (Value.builtin "len") [Value.str (KStt.txt _) _]) _ _ _); (refine len_t (by (try simp only [List.length_append, List.length_cons, List.length_nil, List.length_map]); omega) ?_; k_whole))
 k_with "call builtin:len" => (k_here; (with_reducible show wpAny _ _ (call (Value.builtin "len") [Value.str (Str.ofString "") _]) _ _ _); (refine len_0 ?_; k_whole))
 k_with "call builtin:len" => (k_here; (with_reducible show wpAny _ _ (call (Value.builtin "len") [Value.ref _]) _ _ _); k_dflt (refine len_strL (by k_asm) (by k_mem) (by with_reducible assumption) (by omega) ?_; k_whole))
 k_with "call ref" => (k_here; (with_reducible show wpAny _ _ (call (Value.ref 145) [Value.ref _]) _ _ _); k_dflt (refine text_use (by k_asm) (by k_asm) (by k_asm) (by k_asm) (by k_asm) (by first | exact rfl | assumption) (by ktr_room) (by ktr_units) (by with_reducible assumption) (by with_reducible assumption) (by with_reducible assumption) (by with_reducible assumption) (by with_reducible assumption) (by omega) (by omega) (by omega) (by omega) ?_; k_whole); intro xZ xtZ hZ tkZ hokZ hxlZ FZ NZ; (try dsimp only); (try k_unmd); (try k_fold))
 k_with "call ref" => (k_here; (with_reducible show wpAny _ _ (call (Value.ref 152) [Value.int _ _]) _ _ _); k_dflt (refine utf8_use (by k_asm) (by k_asm) (by k_asm) (by k_asm) (by k_asm) (by first | exact rfl | assumption) (by ktr_room) (by ktr_units) ?_; k_whole); intro rZ usZ nnZ hZ tkZ hGZ l1Z FZ NZ; (try dsimp only); (try k_unmd); (try k_fold))
 k_with "call ref" => (k_here; (with_reducible show wpAny _ _ (call (Value.ref 159) [Value.int _ _]) _ _ _); k_dflt (refine piece_use (by k_asm) (by k_asm) (by k_asm) (by k_asm) (by k_asm) (by first | exact rfl | assumption) (by ktr_room) (by ktr_units) (by with_reducible assumption) (by with_reducible assumption) ?_; k_whole); intro tZ hZ tkZ FZ NZ; (try dsimp only); (try k_unmd); (try k_fold))
 k_with "call ref" => (k_here; (with_reducible show wpAny _ _ (call (Value.ref 121) [Value.bytes _ _, Value.str _ _]) _ _ _); k_dflt (refine enc_use (by k_asm) (by k_asm) (by k_asm) (by k_asm) (by k_asm) (by first | exact rfl | assumption) (by ktr_room) (by ktr_units) (by with_reducible assumption) (by omega) (by omega) ?_; k_whole); intro rZ usZ nnZ hZ tkZ hGZ l1Z FZ NZ; (try dsimp only); (try k_unmd); (try k_fold))
 k_with "binaryOp Add ref ref" => (k_here; (with_reducible show wpAny _ _ (binaryOp _ (Value.ref _) (Value.ref _)) _ _ _); k_dflt (refine add_lst (by k_asm) (by k_asm) (by k_mem) (by k_mem) (by (simp only [List.length_cons, List.length_nil]; omega)) ?_; k_whole); intro DZ hZ FZ NZ l1Z)
 k_with "call builtin:list.append" => (k_here; (with_reducible show wpAny _ _ (call (Value.builtin _) [Value.ref _, _]) _ _ _); k_dflt (refine app_snoc (by k_asm) (by k_asm) (by k_upd) (by omega) ?_; k_whole); intro hZ FZ NZ)
 k_with "compareOp Eq str str" => (k_here; first | ((with_reducible refine eq_00 ?_); k_whole) | ((with_reducible refine eq_t0 (by with_reducible assumption) ?_); k_whole))
 k_with "exec If" => ((with_reducible show wpAny _ _ (exec (Stmt.If (Expr.Compare _ _ _ _) _ _ _) (envOfC _ _ _ _ _)) _ _ _); refine Stop.of ?_)
 k_with "eval ListComp" => ((with_reducible show wpAny _ _ (eval _ (compEnvC _ _ _ _)) _ _ _); refine Stop.of ?_)
 k_with "compareOp Eq ref ref" => (k_here; (with_reducible show wpAny _ _ (compareOp CmpOp.Eq (Value.ref _) (Value.ref _)) _ _ _); (with_unfolding_all refine eq_bytesL (by is_list) (by with_reducible assumption) (by is_list) (by with_reducible assumption) (by units_room) ?_; k_whole))
 k_with "call type:list" => (k_here; (with_reducible show wpAny _ _ (call (Value.type "list") [Value.ref _]) _ _ _); k_dflt (refine list_bytes (by k_asm) (by k_asm) (by k_mem) (by with_reducible assumption) (by omega) ?_; k_whole); intro DZ cZ hZ FZ NZ l1Z)
 w_top off
 w_strict (
  k_go0
  (all_goals try k_fold)
  k_steps
  have hmk := kstMark
  rename News _ _ _ _ => Nold
  obtain ⟨pa, c, st, ns, k2, epa, ec, hst0, hst1, hIc, hlc, hnc, N1⟩ := pot_facts Nold (by assumption)
  clear Nold
  subst epa ec
  rename (_ < _ ∧ _ < _ ∧ _ < _ ∧ _ < _) => l1a
  rename (_ ≠ _ ∧ _ ≠ _ ∧ _ ≠ _) => o1a
  have hoff0 := off5 N1 l1a o1a
  have hpc : pa < c ∨ c < pa := .inr l1a.1
  refine Stop.to ?_
  refine comp_stop (cl := ?cl) ?hclos (by decide) (by with_unfolding_all rfl) (by decide) (by with_unfolding_all rfl) ?_
  case hclos => with_unfolding_all rfl

  k_steps
  rename IsRange _ _ _ _ _ _ _ _ => hRg
  obtain ⟨n, en, hn27, hn1⟩ := len_name hRg (by with_reducible assumption) (by with_reducible assumption) (by with_reducible assumption) (by with_reducible assumption)
  rw [en] at hRg
  refine Stop.to ?_
  refine mut_range (n := n) (fun x : (Int × MTok × Int × MTok × Nat) × (List MVal × Nat) => [(pa, PySem.W.listOf #[.ref c, .int x.1.1 x.1.2.1, .int x.1.2.2.1 x.1.2.2.2.1] x.1.2.2.2.2), (c, PySem.W.listOf x.2.1.toArray x.2.2)]) [?r1, ?r2, ?r3]
    (fun i x ys => 0 ≤ x.1.1 ∧ x.1.1 < 2147483647 ∧ 0 ≤ x.1.2.2.1 ∧ x.1.2.2.1 ≤ 2 + i ∧ (∃ ns, IntsAre x.2.1 ns ∧ ns.length ≤ 40 ∧ ∀ n ∈ ns, 0 ≤ n) ∧ ∃ nm : List Int, StrsAre ys ((nm.map fun k => [k]).map KStt.txt) ∧ nm.length = i ∧ ∀ k ∈ nm, 97 ≤ k ∧ k ≤ 122)
    ((?s1, ?s2, ?s3, ?s4, ?s5), (?s6, ?s7)) ([pa, c] ++ [?r1, ?r2, ?r3].map (·.1)) (fun _ => rfl) rfl hRg (small_one (by omega) (by omega) (by omega) (by omega)) (by rw [rangeSize_nat]; omega) (by omega) (by k_asm) (by k_asm) ?hsub ?hR ?turn ?done
  case hsub => (dsimp only [List.cons_append, List.nil_append]; exact sub_self)
  case hR => exact ⟨by with_reducible assumption, by with_reducible assumption, by show (0 : Int) ≤ 0 + 1 + 1; omega, by show (0 : Int) + 1 + 1 ≤ 2 + ((0 : Nat) : Int); omega, ⟨_, by with_reducible assumption, by with_reducible assumption, by with_reducible assumption⟩, [], .nil, rfl, fun _ h => nomatch h⟩
  case turn =>
    intro i t
    refine sp7 ?_
    intro st9 u1 pl9 u2 j1 vs9 j2 ys own C oC mC h tk' hi hg
    dsimp only at hg
    refine cpsG hg ?_
    clear hg
    intro g0 g1 g2 g3 ns9 gi gl gn nm gss gcl gok hoff9 hNs hm F₁ N₁
    have hoffT := offC hoff0 hoff9
    dsimp only at N₁ F₁ g0 g1 g2 g3 gi gss hoffT
    simp only [List.cons_append, List.nil_append] at N₁ hoffT
    k_steps
    refine' MutStep.mk' ((?q1, ?q2, ?q3, ?q4, ?q5), (?q6, ?q7)) ?f1 ?f2 ?hin ?hR9
    case f1 => k_asm
    case f2 => k_asm
    case hin => (dsimp only [List.cons_append, List.nil_append]; exact sub_self)
    case hR9 =>
      refine' ⟨?z0, ?z1, ?z2, ?z3, ⟨_, ?i1, ?i2, ?i3⟩, nm ++ [97 + _], one_snoc gss _ _, ?z4, az_snoc gok ?z5 ?z6⟩
      case i1 => with_reducible assumption
      case i2 => with_reducible assumption
      case i3 => with_reducible assumption
      case z0 => with_reducible assumption
      case z1 => with_reducible assumption
      case z2 => dsimp only; omega
      case z3 => dsimp only; omega
      case z4 => rw [List.length_append, gcl]; rfl
      case z5 => with_reducible assumption
      case z6 => with_reducible assumption
  case done =>
    intro D k
    refine sp7 ?_
    intro st9 u1 pl9 u2 j1 vs9 j2 ys h tk' hg
    dsimp only at hg
    refine cpsG hg ?_
    clear hg
    intro g0 g1 g2 g3 ns9 gi gl gn nm gss gcl gok hlt F₁ N₁
    dsimp only at N₁ F₁ g0 g1 g2 g3 gi gss hlt
    simp only [List.cons_append, List.nil_append] at N₁
    have N₂ := pot_first N₁
    have hoffD := off_D (o := PySem.W.listOf ys.toArray k) hoff0 hlt
    clear N₁
    revert N₂ F₁
    repeat (rename News _ _ _ _ => z9; clear z9)
    repeat (rename Fr _ _ _ _ => z9; clear z9)
    intro N₂ F₁
    have hflat := flat_one nm
    k_steps
    refine Stop.to ?_
    rename (∀ k ∈ _, OkS k) => hok
    rename (Str.length _ ≤ 110) => hxl
    obtain ⟨x, ex⟩ := the_text hok
    subst ex
    have hokc := ok_c hok
    have hcl := cs_len hxl
    refine comp_two (cl := ?cl2) (by with_unfolding_all rfl) ?hclos2 (by decide) (by with_unfolding_all rfl) (by decide) (by with_unfolding_all rfl) (by with_unfolding_all rfl) (by with_unfolding_all rfl) (by with_unfolding_all rfl) ?_
    case hclos2 => with_unfolding_all rfl
    k_steps
    refine Stop.to ?_
    refine Text2.mk' (RT x.cps.toList) (GT x.cps.toList) (ST x.cps.toList) rfl (by omega) (by k_asm) (by k_asm) ?two ?don
    case two =>
      refine { nil := rt_nil _, small := rt_small hcl, few := gt_few, first := st_first, last := st_last _, src := ?src, inner := ?inner }
      case src =>
        rintro i v own C oC mC h tk' hi ⟨c, t, hc, rfl⟩ hC hoff hNs hm F₁ N₁
        simp only [List.cons_append, List.nil_append] at N₁
        have hc' := cps_at hc
        k_steps
        refine SrcStep.mk' (by k_asm) (by k_asm) sub_self (ne_lt (by assumption)) ⟨c, hc', by assumption⟩
      case inner =>
        intro i us j v2 ys own C oC mC h tk' hi hG hv2 hS hC hoff hNs hm F₁ N₁
        simp only [List.cons_append, List.nil_append] at N₁
        obtain ⟨o8, t8, rfl, h80, h81, hnx⟩ := st_item hokc hv2 hS
        k_steps
        refine QuietStep.mk' (by k_asm) (by k_asm) sub_self (hnx _)
    case don =>
      intro D k ys h tk' hR hD F₁ N₁
      have hR : StrsAre _ (((octsL (x.cps.toList.take x.length)).map pieceI).map KStt.txt) := hR
      rw [take_all] at hR
      have hwl := pieces_len (octsL x.cps.toList)
      have hol := octsL_len x.cps.toList
      have hld : leadI.length = 7 := rfl
      have hyl : ys.length ≤ 440 := by rw [hR.len_eq, List.length_map, List.length_map]; omega
      k_steps
      rename Fr _ _ _ _ => FR
      refine Stop.to ?_
      refine if_due nm x FR ?hb6 ?hr6
      case hb6 =>
        refine wpAny_If ?_
        k_steps
        · rename Fr _ _ _ _ => FR
          rename News _ _ _ _ => NR
          obtain ⟨fa, ra, et, efa, era, eet, hne, N3⟩ := due_led NR
          clear NR
          subst efa era
          obtain ⟨rt, hrt⟩ := fr_row FR (by with_unfolding_all rfl)
          refine Stop.to ?_
          refine l_list (fun c : List MVal × Nat × List Int × MTok => [(fa, PySem.W.listOf c.1.toArray c.2.1)]) (fun c => [(Str.ofString "row", Value.str (KStt.txt c.2.2.1) c.2.2.2)]) [] [(ra, PySem.W.listOf (ys ++ [Value.str (Str.ofString "") et]).toArray 0)] (fun i c => RD nm ((octsL x.cps.toList).map pieceI) i c.1 c.2.2.1) ([], 0, leadI, rt) [fa, ra] (fun _ => rfl) (List.mem_singleton.mpr rfl) rfl FR N3 sub_self ?hps ?hR5 ?turn5 ?done5
          case hps => intro p hp; rw [List.mem_singleton.mp hp]; exact hrt
          case hR5 => exact rd_zero _ _
          case turn5 =>
            intro i v hv
            refine sp4 ?_
            intro us kk cur ct own u h5 tk' hRD hoff9 F₁ N₁
            have hoffT := off_two hne hoff9
            dsimp only at N₁ F₁ hRD hoffT
            simp only [List.cons_append, List.nil_append] at N₁
            refine strs_getC hR hv ?_ ?_
            · clear hv
              intro pc pt hpc ev
              subst ev
              have hi : i < ((octsL x.cps.toList).map pieceI).length := (List.getElem?_eq_some_iff.mp hpc).1
              refine cps6 (rd_open hRD (Nat.le_of_lt hi)) ?_
              intro dn hus hdn hst hcur hdl hul
              have hp3 := pc_le hpc
              have hpne := pc_ne hpc
              rw [List.length_map] at hi
              have hdec := dec_len (n := (((dueL nm dn).length : Nat) : Int).toNat) (by omega)
              k_steps
              · rename News _ _ _ _ => nE
                rename Fr _ _ _ _ => fE
                refine LEnd1 (c := (pc, _)) fE nE (by kst_all) (by intro z h1 h2 h3; simp only [List.forall_mem_cons, List.not_mem_nil, false_implies, implies_true, and_true, ne_eq] at h2; simp [kstB, h1, h2]) (rd_break hpc hus hdn hst (by omega) hp3 ?_)
                rw [hdl]; rfl
              · rename News _ _ _ _ => nE
                rename Fr _ _ _ _ => fE
                refine LEnd1 (c := (cur ++ pc, _)) fE nE (by kst_all) (by intro z h1 h2 h3; simp only [List.forall_mem_cons, List.not_mem_nil, false_implies, implies_true, and_true, ne_eq] at h2; simp [kstB, h1, h2]) (rd_join hpc hus hdn hst (by omega))
            · clear hv
              intro hi ev
              subst ev
              refine cps6 (rd_open hRD (Nat.le_of_eq hi)) ?_
              intro dn hus hdn hst hcur hdl hul
              have hi2 := hi
              rw [List.length_map] at hi
              have hdec := dec_len (n := (((dueL nm dn).length : Nat) : Int).toNat) (by omega)
              k_steps
              all_goals (
                rename News _ _ _ _ => nE
                rename Fr _ _ _ _ => fE
                refine LEnd1 (c := ([], _)) fE nE (by kst_all) (by intro z h1 h2 h3; simp only [List.forall_mem_cons, List.not_mem_nil, false_implies, implies_true, and_true, ne_eq] at h2; simp [kstB, h1, h2]) (rd_last hi2 (by omega) hus hst ?_)
                rw [hdl]; rfl)
          case done5 =>
            refine sp4 ?_
            intro us kk cur ct u h5 tk' hRD F₁ N₁
            dsimp only at N₁ F₁ hRD
            simp only [List.cons_append, List.nil_append] at N₁
            have hdue := rd_done (nm := nm) hR (by unfold wholeI; assumption) hRD
            k_steps
            refine' IfEnd.mk' ?f7 ?n7 ?a7 ?m7 hdue
            case f7 => k_asm
            case n7 => k_asm
            case a7 => kst_all
            case m7 => k_mem
        · refine' IfEnd.mk' ?f7 ?n7 ?a7 ?m7 ?d7
          case f7 => k_asm
          case n7 => k_asm
          case a7 => kst_all
          case m7 => k_mem
          case d7 =>
            rw [enc_small (by unfold wholeI; assumption)]
            exact .cons _ _ .nil
      case hr6 =>
        intro fa us kk h tk u t1 t2 F₁ N₁ hdue
        clear FR
        have hencI := enc_in (az_in gok) hokc
        have hencL := enc_len (nm := nm) (cs := x.cps.toList) (by omega) hcl
        have hfew := enc_few (nm := nm) hcl
        have husl : us.length ≤ 500 := by rw [hdue.len_eq, List.length_map]; exact hfew
        k_steps
        refine Stop.to ?_
        refine comp_stop (cl := ?cl8) ?hclos8 (by decide) (by with_unfolding_all rfl) (by decide) (by with_unfolding_all rfl) ?_
        case hclos8 => with_unfolding_all rfl
        k_steps
        refine Stop.to ?_
        refine quiet_str (fun i ys => IntsAre ys ((KStt.codes (KStt.txt nm)).take i)) rfl ?_ (by k_asm) (by k_asm) .nil ?_ ?_
        · rw [KStt.txt_length]; omega
        · intro i c t h₁ hc ys own C oC mC h tk' hR hoff hC hNs hm F₁ N₁
          simp only [List.cons_append, List.nil_append] at N₁
          k_steps
          exact QuietStep.mk' (by k_asm) (by k_asm) sub_self (ints_next hc hR)
        · intro h₁ D k ys h tk' hR hD F₁ N₁
          have hRn := ints_all hR
          rw [codes_txt (in_nn (az_in gok))] at hRn
          have hIn := az_in gok
          have hl2 : nm.length ≤ 16777216 := by omega
          k_steps
          refine Stop.to ?_
          refine comp_stop (cl := ?cl9) ?hclos9 (by decide) (by with_unfolding_all rfl) (by decide) (by with_unfolding_all rfl) ?_
          case hclos9 => with_unfolding_all rfl
          k_steps
          refine Stop.to ?_
          refine quiet_list (l := fa) (vs := us) (nn := kk) (fun i ys => BytesAre ys ((encI nm x.cps.toList).take i)) rfl ?hl9 (by omega) (by k_asm) (by k_asm) .nil ?turn9 ?done9
          case hl9 => k_mem
          case turn9 =>
            intro i v h₁ hv ys own C oC mC h tk' hR hoff hC hNs hm F₁ N₁
            obtain ⟨row, rt, hrow, rfl⟩ := strs_at hdue hv
            have hin := hencI row (List.mem_of_getElem? hrow)
            have hrl := hencL row (List.mem_of_getElem? hrow)
            simp only [List.cons_append, List.nil_append] at N₁
            k_steps
            refine Stop.to ?_
            refine comp_stop (cl := ?cl10) ?hclos10 (by decide) (by with_unfolding_all rfl) (by decide) (by with_unfolding_all rfl) ?_
            case hclos10 => with_unfolding_all rfl
            k_steps
            refine Stop.to ?_
            refine quiet_str (fun i ys => IntsAre ys ((KStt.codes (KStt.txt row)).take i)) rfl ?_ (by k_asm) (by k_asm) .nil ?_ ?_
            · rw [KStt.txt_length]; omega
            · intro i c t h₁ hc ys' own' C' oC' mC' h tk' hR' hoff' hC' hNs' hm' F₂ N₂
              simp only [List.cons_append, List.nil_append] at N₂
              k_steps
              exact QuietStep.mk' (by k_asm) (by k_asm) sub_self (ints_next hc hR')
            · intro h₁ D' k' ys' h tk' hR' hD' F₂ N₂
              have hRn := ints_all hR'
              rw [codes_txt (in_nn hin)] at hRn
              have hl3 : row.length ≤ 16777216 := by omega
              k_steps
              refine QuietStep.mk' (by k_asm) (by k_asm) ?_ (due_take hrow hR)
              exact fun p hp => List.mem_cons_of_mem _ hp
          case done9 =>
            intro h₁ D k ys h tk' hR hD F₁ N₁
            have hRe := due_all hdue hR
            k_steps
      ))
end
end Mine

set_option maxRecDepth 100000 in
set_option maxHeartbeats 8000000 in
theorem PySem.Challenge.cw_nz0277_01_holds : PySem.Challenge.rw_nz0277_01.Holds := by
  exact Mine.m1
