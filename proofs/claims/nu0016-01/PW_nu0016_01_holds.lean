import PyProof.Rows.All
import Wide.All
import OpenK.AllK
import PyProof.TupleKey
import PyProof.DictRoadsH
import Wide.FinOn
import PySem.Challenge.RW_nu0016_01
open PySem PySem.W PyProof.Rows PySem.Spec PySem.Calls
set_option Elab.async false
set_option compiler.extract_closed false
set_option maxRecDepth 100000
set_option linter.unusedVariables false
namespace Mine
section
set_option maxHeartbeats 0
/-- the run over the tree heap, by the library's quick twins -/
noncomputable def topRunT (tb : String → Option Builtin) (p : Program) (w : World) (n₀ : Nat) (ann : Option Value) : Nat → SharedT → Thread → Option SharedT
  | 0, _, _ => none
  | n + 1, s, t => match through t with
    | true => some s
    | false => match PySem.W.Fast.tw6613529449190102663 n₀ ann t with
      | false => none
      | true => match PySem.W.Fast.tw10156331382660048174 (PySem.W.Fast.tw11892475500146522536 tb) p w s t with
        | some (s', t') => topRunT tb p w n₀ ann n s' t'
        | none => none
theorem topRun_of {tb : String → Option Builtin} {p : Program} {w : World} {n₀ : Nat} {ann : Option Value} : ∀ {n : Nat} {s s' : SharedT} {t : Thread}, topRunT tb p w n₀ ann n s t = some s' → topRun tb p w n₀ ann n s.abs t = some s'.abs
  | 0, _, _, _, h => by cases h
  | n + 1, s, s', t, h => by
    unfold topRunT at h
    unfold topRun
    cases ht : through t with
    | true => rw [ht] at h; cases h; rfl
    | false =>
      rw [ht] at h
      cases hk : PySem.W.Fast.tw6613529449190102663 n₀ ann t with
      | false => rw [hk] at h; cases h
      | true =>
        rw [hk] at h
        cases hs : PySem.W.Fast.tw10156331382660048174 (PySem.W.Fast.tw11892475500146522536 tb) p w s t with
        | none => rw [hs] at h; cases h
        | some r =>
          obtain ⟨s₂, t₂⟩ := r
          rw [hs] at h
          have hk' : stepOk n₀ ann t = true := by rw [PySem.W.Fast.te6613529449190102663]; exact hk
          have hs' : stepT (denote tb) p w s t = some (s₂, t₂) := by rw [PySem.W.Fast.te10156331382660048174, PySem.W.Fast.te11892475500146522536]; exact hs
          rw [hk', stepT_spec hs']
          exact topRun_of h
noncomputable def treeOf : Nat → List Obj → BT → BT
  | _, [], t => t
  | i, o :: l, t => treeOf (i + 1) l (t.ins i o)
noncomputable def bootT (w : World) (os : OsState) : SharedT := ⟨treeOf 0 (boot_heap w.params).objs.toList .nil, (boot_heap w.params).objs.size, (boot_heap w.params).life, #[], boot_drawn, boot_toks, os⟩
theorem bootT_abs (w : World) (os : OsState) : (bootT w os).abs = ⟨boot_heap w.params, #[], boot_drawn, boot_toks, os⟩ := by kernel_rfl
noncomputable abbrev pw : Program := PySem.Challenge.pw_nu0016_01
theorem left_of {p q : Program} {loose : List Str} {Xt : Shared → Bool} {α : Type} {Yf : Shared → α} {Ya : World → α} {N : Nat}
    (open_ : ∀ w : World, (fencedOpening treeTable p w N).map (fun s => (s.heap, s.gens, s.drawn, s.toks)) = some (boot_heap w.params, Array.mk [], boot_drawn, boot_toks))
    (size : ∀ w : World, ((boot_heap w.params).isNs mainGlobals && (Array.mk [] : Array GenState).size == 0) = true)
    (run : ∀ (w : World) (os : OsState), (topRunT PySem.W.Fast.tw14364793385576792824 p w (boot_heap w.params).objs.size ((boot_heap w.params).nsMap mainGlobals "__annotations__") N (bootT w os) (topStub p)).map (fun s =>
      (staticsOk (importedModules p.main.body) (boot_heap w.params) s.abs.heap && namesBound p s.abs.heap && gensDone s.abs && laidKept (boot_heap w.params) s.abs.heap, PySem.W.Fast.tw4187177175401517315 q loose (importedModules p.main.body) Xt true s.abs, Yf s.abs)) = some (true, openGood q loose, Ya w)) :
    LeftO p q loose Xt Yf Ya N true := fun w => by
  obtain ⟨⟨h, gs, d, k, os⟩, e, e'⟩ := Option.map_eq_some_iff.mp (open_ w)
  obtain ⟨rfl, rfl, rfl, rfl⟩ : h = boot_heap w.params ∧ gs = Array.mk [] ∧ d = boot_drawn ∧ k = boot_toks := by simpa using e'
  obtain ⟨s, r, x⟩ := Option.map_eq_some_iff.mp (run w os)
  obtain ⟨l1, l2, l3⟩ : _ ∧ _ ∧ _ := by simpa only [Prod.mk.injEq] using x
  have r' := topRun_of r
  rw [← PySem.W.Fast.te14364793385576792824] at r'
  rw [← PySem.W.Fast.te4187177175401517315] at l2
  rw [bootT_abs] at r'
  have t : topFrom treeTable p w N ⟨boot_heap w.params, Array.mk [], boot_drawn, boot_toks, os⟩ = some s.abs := by
    unfold topFrom
    dsimp only
    rw [size w, r']
    show (match staticsOk (importedModules p.main.body) (boot_heap w.params) s.abs.heap && namesBound p s.abs.heap && gensDone s.abs && laidKept (boot_heap w.params) s.abs.heap with | true => _ | false => _) = _
    rw [l1]
  unfold openEnds
  rw [e]
  show (topFrom treeTable p w N _).map _ = _
  rw [t]
  exact congrArg some (Prod.ext l2 l3)
noncomputable def vw : Program := view PySem.Challenge.pw_nu0016_01 [0, 2, 3, 4, 6, 7, 8, 9, 11, 12, 13, 15, 16, 17, 18, 19, 21, 22, 23, 25, 26, 28, 29, 30, 31, 32, 33, 34, 35, 36, 37, 38, 39]
theorem said_tw : PySem.W.Fast.tw9446332074065402090 PySem.Challenge.rw_nu0016_01 = true := by kernel_rfl
theorem said_ok : PySem.Challenge.rw_nu0016_01.wellSaid = true := by rw [PySem.W.Fast.te9446332074065402090]; exact said_tw
section
set_option hygiene false
local macro_rules | `(tactic| o_law) => `(tactic| refine holds_law said_ok fun said => ?_)
local macro_rules | `(tactic| o_head $H) => `(tactic| (
  refine holds_open (q := vw) (loose := []) (Xt := fun s => xlAt vw [] s && recOk [] s) (XP := XL vw []) (Yf := Hook.obs $H) (Ya := Hook.val $H) (YP := Hook.says $H) (N := 5746) ?hl (Hook.of $H) (Hook.keeps $H) (fun s e => xl_of s (Bool.and_eq_true_iff.mp e).1) XL.keeps (by rfl) (by rfl) (by rfl) (fun s e => recFacts_of (Bool.and_eq_true_iff.mp e).2) (by rfl) (by first | assumption | decide +kernel) (by decide +kernel) ⟨rfl, rfl, rfl, rfl, rfl, by decide +kernel⟩ ?hw ?hc
  case hl => exact left_of (boot_open (by kernel_rfl) (by decide) (fun s => by kernel_rfl)) (fun w => by kernel_rfl) (fun w os => by kernel_rfl)))
open_top hd for PySem.Challenge.rw_nu0016_01
end
end
section
noncomputable abbrev Led := List (Addr × Obj)

theorem wpAny_weak {α : Type} {M : Model} {A A' : Around} {t : Sem α} {Q : α → Shared → Prop} {E : Value → Shared → Prop} {s : Shared} (h : wpAny M A' t Q E s) (hh : A.handled = A'.handled) (hd : A.depth ≤ A'.depth)
    (hf : ∀ l, A'.frames = some l → A.frames = some l) (hg : ∀ g, A'.guards = some g → A.guards = some g) (hu : A.units ≤ A'.units) : wpAny M A t Q E s :=
  fun Γ p hΓ => h Γ p ⟨hΓ.1.trans hh, Nat.le_trans hΓ.2.1 hd, fun l hl => hΓ.2.2.1 l (hf l hl), fun g e => hΓ.2.2.2.1 g (hg g e), Nat.le_trans hΓ.2.2.2.2 hu⟩

/-- what a def does: from any frame of the text's, its ledger `news`; at its end the answer and a ledger of which `Post` holds -/
noncomputable def Ct (w : World) (f : Addr) (args : List Value) (D U : Nat) (news : Led) (Post : Value → Led → Prop) : Prop :=
  ∀ (prog : Program) (p : Program) (loose : List Str) (mean : ExcName → Option Value) (mg mb : Str → Option Value) (A A₀ : Around) (env : Env) (outer : List Env) (base h₀ : Heap) (L : Addr) (m : Str → Option Value) (s : Shared) (Q E : Value → Shared → Prop),
    Below A₀ base outer h₀ → Fr h₀ L s.heap m → (hd.heap_1 w.params).In h₀ → News h₀ L s.heap news → Top p loose mean mg mb h₀ →
    A.frames = some (env :: outer) → env.frame = some L → env.scope.kind = .function → A.handled = none → A.depth ≤ D + 300 → A.units ≤ U →
    (∀ v news' h' tk', Post v news' → Fr h₀ L h' m → News h₀ L h' news' → Q v { s with heap := h', toks := tk' }) →
    wpAny (model prog w) A (call (.ref f) args) Q E s

noncomputable abbrev ctA (D U : Nat) (env : Env) (outer : List Env) : Around := { handled := none, depth := D + 300, frames := some (env :: outer), guards := none, units := U }

theorem Ct.of {w : World} {f : Addr} {args : List Value} {D U : Nat} {news : Led} {Post : Value → Led → Prop}
    (h : ∀ (prog : Program) (p : Program) (loose : List Str) (mean : ExcName → Option Value) (mg mb : Str → Option Value) (A₀ : Around) (env : Env) (outer : List Env) (base h₀ : Heap) (L : Addr) (m : Str → Option Value) (s : Shared) (Q E : Value → Shared → Prop),
      Below A₀ base outer h₀ → Fr h₀ L s.heap m → (hd.heap_1 w.params).In h₀ → News h₀ L s.heap news → Top p loose mean mg mb h₀ → env.frame = some L → env.scope.kind = .function →
      (∀ v news' h' tk', Post v news' → Fr h₀ L h' m → News h₀ L h' news' → Q v { s with heap := h', toks := tk' }) →
      wpAny (model prog w) (ctA D U env outer) (call (.ref f) args) Q E s) : Ct w f args D U news Post := by
  intro prog p loose mean mg mb A A₀ env outer base h₀ L m s Q E B F X N T hA hf hk hh hD hU hret
  exact wpAny_weak (h prog p loose mean mg mb A₀ env outer base h₀ L m s Q E B F X N T hf hk hret) hh hD (fun l hl => hA.trans hl) (fun g e => nomatch e) hU


/-- the ledger with one object put anew -/
noncomputable def upd (news : Led) (d : Addr) (o : Obj) : Led := (d, o) :: news.filter fun p => p.1 != d
theorem upd_head {news : Led} {d : Addr} {o : Obj} : (d, o) ∈ upd news d o := .head _
theorem upd_other {news : Led} {d : Addr} {o : Obj} {p : Addr × Obj} (h : p ∈ news) (hn : p.1 ≠ d) : p ∈ upd news d o := List.mem_cons_of_mem _ (List.mem_filter.mpr ⟨h, by simpa using hn⟩)
theorem off_filter {news : Led} {d : Addr} : ∀ p ∈ news.filter (fun p => p.1 != d), p.1 ≠ d := fun p hp => by simpa using (List.mem_filter.mp hp).2
theorem news_same {h₀ h : Heap} {L a : Addr} {news : Led} {o o' : Obj} (N : News h₀ L h news) (h1 : (a, o) ∈ news) (h2 : (a, o') ∈ news) : o = o' := Option.some.inj ((N _ h1).1.symm.trans (N _ h2).1)
theorem news_ne {h₀ h : Heap} {L a b : Addr} {news : Led} {o o' : Obj} (N : News h₀ L h news) (h1 : (a, o) ∈ news) (h2 : (b, o') ∈ news) (hn : o ≠ o') : a ≠ b := fun e => hn (news_same N h1 (e ▸ h2))

/-- a goal that waits -/
noncomputable def Hold (P : Prop) : Prop := P
theorem Hold.of {P : Prop} (h : Hold P) : P := h
theorem Hold.out {P : Prop} (h : P) : Hold P := h

noncomputable abbrev tupOf (vs : List Value) (n : Nat) : Obj := { cls := .type "tuple", data := .seq vs.toArray n }
end
section
/-- an object that is a namespace -/
noncomputable def NsO (o : Obj) (m : Str → Option Value) : Prop := ∃ es ep, o.data = .dict es ep ∧ StrKeys es ∧ ∀ name, nsFind es name = m name
theorem NsO.ns {h : Heap} {a : Addr} {o : Obj} {m : Str → Option Value} (x : NsO o m) (e : h.get? a = some o) : h.Ns a m := let ⟨es, ep, a1, a2, a3⟩ := x; ⟨o, es, ep, e, a1, a2, a3⟩
theorem ns_open {h : Heap} {a : Addr} {m : Str → Option Value} (x : h.Ns a m) : ∃ o, h.get? a = some o ∧ NsO o m := let ⟨o, es, ep, e, a1, a2, a3⟩ := x; ⟨o, e, es, ep, a1, a2, a3⟩

/-- the objects that a loop keeps -/
noncomputable def OwnOk (h₀ h : Heap) (fp : List Addr) (own : Led) : Prop := (∀ p ∈ own, p.1 ∈ fp) ∧ ∀ b ∈ fp, ∀ o, h₀.get? b = none → h.get? b = some o → (b, o) ∈ own
noncomputable def IterO (o : Obj) : Prop := o.cls = .type "list_iterator" ∨ o.cls = .type "range_iterator" ∨ o.cls = .type "tuple_iterator" ∨ o.cls = .type "dict_keyiterator"
noncomputable def WrOk (wr : List Addr) (news own : Led) : Prop := ∀ b ∈ wr, (∀ p ∈ news, p.1 < b) ∧ ∃ o, (b, o) ∈ own ∧ IterO o
noncomputable def Off (C D : Addr) (wr : List Addr) (news : Led) : Prop := ∀ p ∈ news, p.1 ≠ C ∧ p.1 ≠ D ∧ p.1 ∉ wr
noncomputable def CompEnd (h₀ : Heap) (L : Addr) (m : Str → Option Value) (C D : Addr) (wr : List Addr) (own : Led) (J : List Value → Led → Prop) (ys : List Value) (s : Shared) (y : Value) (s₂ : Shared) : Prop :=
  ∃ h' tk news₂, s₂ = { s with heap := h', toks := tk } ∧ Fr h₀ L h' m ∧ News h₀ L h' (own ++ news₂) ∧ Off C D wr news₂ ∧ J (ys ++ [y]) news₂
theorem CompEnd.intro {h₀ : Heap} {L : Addr} {m : Str → Option Value} {C D : Addr} {wr : List Addr} {own : Led} {J : List Value → Led → Prop} {ys : List Value} {s : Shared} {y : Value} {h' : Heap} {tk : Nat} (news₂ : Led)
    (F : Fr h₀ L h' m) (N : News h₀ L h' (own ++ news₂)) (ho : Off C D wr news₂) (hj : J (ys ++ [y]) news₂) : CompEnd h₀ L m C D wr own J ys s y { s with heap := h', toks := tk } := ⟨h', tk, news₂, rfl, F, N, ho, hj⟩

inductive CI (h₀ : Heap) (L : Addr) (m : Str → Option Value) (loc D : Addr) (wr : List Addr) (n : Nat) (St : Nat → Heap → Prop) (J : Nat → List Value → Led → Prop) (s : Shared) (k : Nat) (s' : Shared) : Prop
  | mk (h' : Heap) (tk : Nat) (ys : List Value) (nn : Nat) (oC : Obj) (mC : Str → Option Value) (news' : Led) (i : Nat) (e : s' = { s with heap := h', toks := tk }) (t : St i h') (F : Fr h₀ L h' m) (N : News h₀ L h' ((loc, oC) :: (D, listOf ys.toArray nn) :: news')) (c : NsO oC mC) (o : Off loc D wr news') (l : ys.length = i) (j : J i ys news') (le : i ≤ n) (q : k = n + 1 - i)
section
variable {prog : Program} {w : World} {A : Around} {s : Shared} {h₀ : Heap} {L : Addr} {m : Str → Option Value}

theorem comp_loop {elt iter : Expr} {x : Str} {px : Pos} {scope : Scope} {pos : Pos} {I D : Addr} {fp wr : List Addr} {n : Nat} {P : Nat → Value → Prop} {St : Nat → Heap → Prop} {cenv : Env} {news : Led} {R : Result → Shared → Prop}
    (W : Walks prog w A I fp wr n P St) (hx : cenv.kindOf x = some .local) (hp : (cenv.scope.kind == .class || (cenv.scope.kind == .module && cenv.locals != cenv.globals)) = false)
    (hCD : D ≠ cenv.locals) (hDf : D ∉ fp) (hCf : cenv.locals ∉ fp) (hLf : L ∉ fp) (hLC : L ≠ cenv.locals) (hLD : L ≠ D) (hCn : h₀.get? cenv.locals = none) (hDn : h₀.get? D = none) (hwr : ∀ b ∈ wr, h₀.get? b = none)
    (hoff : Off cenv.locals D wr news) (hst : St 0 s.heap) (hacc : s.heap.PlainList D #[]) (hn : ∃ m₀, s.heap.Ns cenv.locals m₀) (F : Fr h₀ L s.heap m) (N : News h₀ L s.heap news)
    (J : Nat → List Value → Led → Prop) (h0 : J 0 [] news) (hsz : n ≤ sizeLine)
    (step : ∀ i v ys nn oC mC own news₁ h tk, i < n → ys.length = i → P i v → J i ys news₁ → Off cenv.locals D wr news₁ → OwnOk h₀ h fp own → NsO oC mC → mC x = some v → St (i + 1) h → Fr h₀ L h m → News h₀ L h ((cenv.locals, oC) :: (D, listOf ys.toArray nn) :: (own ++ news₁)) →
      wpAny (model prog w) A (eval elt cenv) (CompEnd h₀ L m cenv.locals D wr ((cenv.locals, oC) :: (D, listOf ys.toArray nn) :: own) (J (i + 1)) ys s) (fun _ _ => False) { s with heap := h, toks := tk })
    (hR : ∀ h' tk news' ys nn oC mC, Fr h₀ L h' m → News h₀ L h' ((cenv.locals, oC) :: (D, listOf ys.toArray nn) :: news') → Off cenv.locals D wr news' → NsO oC mC → ys.length = n → J n ys news' → R (.ok .next) { s with heap := h', toks := tk }) :
    codeAny (model prog w) A (.compLoop (.ListComp elt [⟨.Name x px, iter, [], 0⟩] scope pos) 0 (.ref I) (.ref D) cenv) R s := by
  have hLw : L ∉ wr := fun h => hLf (W.sub _ h)
  have hCw : cenv.locals ∉ wr := fun h => hCf (W.sub _ h)
  have hDw : D ∉ wr := fun h => hDf (W.sub _ h)
  have old : ∀ b o, h₀.get? b = some o → b ∉ wr := fun b o e hb => by rw [hwr b hb] at e; cases e
  refine codeAny_compLoop_list
    (CI h₀ L m cenv.locals D wr n St J s) ?_ (n + 1) ?_
  · rintro k s' ⟨h', tk, ys, nn, oC, mC, news', i, rfl, hst', F', N', hC', hoff', hlen, hJ, hi, rfl⟩
    have next : ∀ h₁ : Heap, (∀ b o, b ∉ wr → h'.get? b = some o → h₁.get? b = some o) → Fr h₀ L h₁ m ∧ News h₀ L h₁ ((cenv.locals, oC) :: (D, listOf ys.toArray nn) :: news') := fun h₁ hk₁ =>
      ⟨⟨F'.ns.at' fun o e => hk₁ _ o hLw e, fun b o e => hk₁ b o (old b o e) (F'.keep b o e), F'.above⟩, fun p hp => ⟨hk₁ _ _ (by
        rcases List.mem_cons.mp hp with rfl | hp
        · exact hCw
        · rcases List.mem_cons.mp hp with rfl | hp
          · exact hDw
          · exact (hoff' p hp).2.2) (N' p hp).1, (N' p hp).2⟩⟩
    by_cases hlt : i < n
    · refine W.item i _ _ _ hlt hst' fun v h₁ tk₁ hP hst₁ hk₁ => ?_
      obtain ⟨F₁, N₁⟩ := next h₁ hk₁
      refine wpAny_assign_Name (wpAny_storeName_local hx (hC'.ns (N₁ _ (.head _)).1) (fun h₂ hn₂ hs₂ => ?_) hp)
      have F₂ : Fr h₀ L h₂ m := F₁.change hs₂ hLC.symm hCn
      have hst₂ : St (i + 1) h₂ := W.frame _ _ _ hst₁ fun b hb o e => (hs₂.2 b fun q => hCf (q ▸ hb)).trans e
      obtain ⟨oC', eC', hC₂⟩ := ns_open hn₂
      have Nown : News h₀ L h₂ (ownOf h₀ fp h₂) := news_ownOf hLf
      have N₂ : News h₀ L h₂ ((cenv.locals, oC') :: (D, listOf ys.toArray nn) :: (ownOf h₀ fp h₂ ++ news')) := by
        intro p hp
        rcases List.mem_cons.mp hp with rfl | hp
        · exact ⟨eC', hLC.symm, hCn⟩
        · rcases List.mem_cons.mp hp with rfl | hp
          · have z := N₁ (D, listOf ys.toArray nn) (List.mem_cons_of_mem _ (.head _))
            exact ⟨(hs₂.2 _ hCD).trans z.1, z.2⟩
          · rcases List.mem_append.mp hp with hp | hp
            · exact Nown p hp
            · have z := N₁ p (List.mem_cons_of_mem _ (List.mem_cons_of_mem _ hp))
              exact ⟨(hs₂.2 _ (hoff' p hp).1).trans z.1, z.2⟩
      refine wpAny_mono (step i v ys nn oC' _ (ownOf h₀ fp h₂) news' h₂ _ hlt hlen hP hJ hoff' ⟨ownOf_sub, fun b hb o e q => mem_ownOf hb e q⟩ hC₂ (by simp) hst₂ F₂ N₂) (fun y s₃ h₃ => ?_) fun _ _ e => e.elim
      obtain ⟨h₃, tk₃, news₂, rfl, F₃, N₃, ho₃, hJ₃⟩ := h₃
      have hDp : h₃.PlainList D ys.toArray := ⟨nn, (N₃ (D, listOf ys.toArray nn) (List.mem_cons_of_mem _ (.head _))).1⟩
      refine wpAny_list_append_plain (hsz := by rw [List.size_toArray, hlen]; omega) hDp fun h₄ hl₄ hs₄ => ?_
      obtain ⟨nn', e₄⟩ := hl₄
      refine ⟨n + 1 - (i + 1), by omega, h₄, tk₃, ys ++ [y], nn', oC', _, news₂, i + 1, rfl, ?_, F₃.change hs₄ hLD.symm hDn, ?_, hC₂, ho₃, by simp [hlen], hJ₃, hlt, rfl⟩
      · refine W.frame _ _ _ hst₂ fun b hb o e => ?_
        have e₃ : h₃.get? b = some o := by
          cases hq : h₀.get? b with
          | some o₀ =>
            have : o₀ = o := by have := F₂.keep b o₀ hq; rw [e] at this; exact (Option.some.inj this).symm
            exact this ▸ F₃.keep b o₀ hq
          | none => exact (N₃ (b, o) (List.mem_cons_of_mem _ (List.mem_cons_of_mem _ (List.mem_append_left _ (mem_ownOf hb hq e))))).1
        exact (hs₄.2 b fun q => hDf (q ▸ hb)).trans e₃
      · intro p hp
        rcases List.mem_cons.mp hp with rfl | hp
        · have z := N₃ (cenv.locals, oC') (.head _)
          exact ⟨(hs₄.2 _ hCD.symm).trans z.1, z.2⟩
        · rcases List.mem_cons.mp hp with rfl | hp
          · exact ⟨by rw [e₄]; simp, hLD.symm, hDn⟩
          · have z := N₃ p (List.mem_cons_of_mem _ (List.mem_cons_of_mem _ (List.mem_append_right _ hp)))
            exact ⟨(hs₄.2 _ (ho₃ p hp).2.1).trans z.1, z.2⟩
    · have hin : i = n := by omega
      subst hin
      refine W.done _ _ _ hst' fun h₁ tk₁ hk₁ => ?_
      obtain ⟨F₁, N₁⟩ := next h₁ hk₁
      exact hR h₁ tk₁ news' ys nn oC mC F₁ N₁ hoff' hC' hlen hJ
  · obtain ⟨nn, ea⟩ := hacc
    obtain ⟨m₀, hn⟩ := hn
    obtain ⟨oC, eC, hC⟩ := ns_open hn
    refine ⟨s.heap, s.toks, [], nn, oC, m₀, news, 0, rfl, hst, F, ?_, hC, hoff, rfl, h0, Nat.zero_le _, rfl⟩
    intro p hp
    rcases List.mem_cons.mp hp with rfl | hp
    · exact ⟨eC, hLC.symm, hCn⟩
    · rcases List.mem_cons.mp hp with rfl | hp
      · exact ⟨ea, hLD.symm, hDn⟩
      · exact N p hp
end
end
section
/-- what a comprehension's block asks, from where its iterator stands -/
inductive CompAt (prog : Program) (w : World) (A : Around) (h₀ : Heap) (L : Addr) (env : Env) (scope : Scope) (cl : List (Str × Addr)) (x : Str) (elt : Expr) (up : (Str → Option Value) → Addr → Str → Option Value) (Done : Addr → Shared → Prop) (it : Value) (s₂ : Shared) : Prop
  | mk (I : Addr) (fp wr : List Addr) (n : Nat) (P : Nat → Value → Prop) (St : Nat → Heap → Prop) (m : Str → Option Value) (news : Led) (J : Nat → List Value → Led → Prop) (f0 : it = .ref I) (f1 : Walks prog w A I fp wr n P St) (f2 : n ≤ sizeLine) (f3 : L ∉ fp) (f4 : (∀ b ∈ fp, b < s₂.heap.objs.size)) (f5 : (∀ b ∈ wr, h₀.get? b = none)) (f6 : (∀ p ∈ news, p.1 ∉ wr)) (f7 : St 0 s₂.heap) (f8 : Fr h₀ L s₂.heap m) (f9 : News h₀ L s₂.heap news) (f10 : J 0 [] news) (f11 : (∀ C D i v ys nn oC mC own news₁ h tk, s₂.heap.objs.size ≤ C → s₂.heap.objs.size ≤ D → i < n → ys.length = i → P i v → J i ys news₁ → Off C D wr news₁ → OwnOk h₀ h fp own → NsO oC mC → mC x = some v → St (i + 1) h → Fr h₀ L h m → News h₀ L h ((C, oC) :: (D, listOf ys.toArray nn) :: (own ++ news₁)) →
      wpAny (model prog w) A (eval elt (compEnvC scope cl C env)) (CompEnd h₀ L m C D wr ((C, oC) :: (D, listOf ys.toArray nn) :: own) (J (i + 1)) ys s₂) (fun _ _ => False) { s₂ with heap := h, toks := tk })) (f12 : (∀ D h' tk news' ys nn, (∀ p ∈ news, p.1 < D) → Fr h₀ L h' (up m D) → News h₀ L h' ((D, listOf ys.toArray nn) :: news') → (∀ p ∈ news', p.1 ≠ D) → ys.length = n → J n ys news' → Done D { s₂ with heap := h', toks := tk }))

section
variable {prog : Program} {w : World} {A : Around} {E : Value → Shared → Prop} {s : Shared} {h₀ : Heap} {L : Addr} {env : Env}
theorem comp_block {elt iter : Expr} {x : Str} {px : Pos} {scope : Scope} {cl : List (Str × Addr)} {pos : Pos} {s₂ : Shared} {it : Value} {up : (Str → Option Value) → Addr → Str → Option Value} {Done : Addr → Shared → Prop} {RR : Value → Addr → Result → Shared → Prop}
    (hcell : ∀ y ∈ scope.names, y.2 ≠ .cell) (hkind : scope.kind = .function) (hx : scope.names.lookup x = some .local) (H : CompAt prog w A h₀ L env scope cl x elt up Done it s₂)
    (hRR : ∀ (D C : Addr) (h' : Heap) (tk : Nat) (m : Str → Option Value) (oC oD : Obj) (mC : Str → Option Value) (news' : Led), C ≠ D → Fr h₀ L h' m → News h₀ L h' ((C, oC) :: (D, oD) :: news') → (∀ p ∈ news', p.1 ≠ C) → NsO oC mC →
      (∀ h'' tk', Fr h₀ L h'' (up m D) → News h₀ L h'' ((D, oD) :: news') → Done D { s₂ with heap := h'', toks := tk' }) → RR (.ref D) C (.ok .next) { s₂ with heap := h', toks := tk }) :
    wpAny (model prog w) A (newList []) (fun acc s₃ => wpAny (model prog w) A (newFunctionEnv scope env.globals cl [] env.qual none .none (some env)) (fun cenv s₄ =>
      codeAny (model prog w) A (.compStart (.ListComp elt [⟨.Name x px, iter, [], 0⟩] scope pos) 0 it acc { cenv with scope := relabel scope env }) (RR acc cenv.locals) s₄) E s₃) E s₂ := by
  obtain ⟨I, fp, wr, n, P, St, m, news, J, rfl, W, hsz, hLf, hfp, hwr, hnw, hst, F, N, h0, step, hdone⟩ := H
  refine wpAny_newObj_type (wpAny_newFunctionEnv hcell (by intro y hy; simp at hy) (fun h₁ hns₁ hsb₁ => ?_) hkind)
  dsimp only at hns₁ hsb₁ ⊢
  generalize hH2 : s₂.heap.push { cls := .type "list", dict := none, data := .seq ([] : List Value).toArray } = H2 at hns₁ hsb₁ ⊢
  have hC : H2.objs.size = s₂.heap.objs.size + 1 := by rw [← hH2, Heap.size_push]
  have hDC : s₂.heap.objs.size ≠ H2.objs.size := by rw [hC]; exact Nat.ne_of_lt (Nat.lt_succ_self _)
  have hCle : s₂.heap.objs.size ≤ H2.objs.size := by rw [hC]; exact Nat.le_succ _
  have below : ∀ b, b < s₂.heap.objs.size → b ≠ H2.objs.size ∧ b ≠ s₂.heap.objs.size := fun b hb => ⟨by rw [hC]; exact Nat.ne_of_lt (Nat.lt_succ_of_lt hb), Nat.ne_of_lt hb⟩
  have hDf : s₂.heap.objs.size ∉ fp := fun hm => Nat.lt_irrefl _ (hfp _ hm)
  have hCf : H2.objs.size ∉ fp := fun hm => by have := hfp _ hm; rw [hC] at this; exact Nat.lt_irrefl _ (Nat.lt_of_succ_lt this)
  have old : ∀ b o, s₂.heap.get? b = some o → h₁.get? b = some o := fun b o e => hsb₁.extBut b o (below b (Heap.lt_size e)).1 (Heap.get?_push_of_some _ (hH2 ▸ Heap.get?_push_of_some _ e))
  have hacc : h₁.PlainList s₂.heap.objs.size #[] := ⟨_, hsb₁.extBut _ _ hDC (Heap.get?_push_of_some _ (hH2 ▸ Heap.get?_push_size _ rfl))⟩
  have hst₁ : St 0 h₁ := W.frame _ _ _ hst fun b _ o e => old b o e
  have fresh : ∀ a, s₂.heap.objs.size ≤ a → s₂.heap.get? a = none := fun a ha => by
    cases e : s₂.heap.get? a with
    | none => rfl
    | some o' => exact absurd (Heap.lt_size e) (Nat.not_lt.mpr ha)
  have base : ∀ a, s₂.heap.objs.size ≤ a → h₀.get? a = none := fun a ha => by
    cases e : h₀.get? a with
    | none => rfl
    | some o' => have := F.keep _ _ e; rw [fresh a ha] at this; cases this
  have hoff : Off H2.objs.size s₂.heap.objs.size wr news := fun p hp => ⟨(below _ (Heap.lt_size (N p hp).1)).1, (below _ (Heap.lt_size (N p hp).1)).2, hnw p hp⟩
  have loop : ∀ s₃ : Shared, s₃ = { s₂ with heap := h₁, toks := s₂.toks + ([] : List (Str × Value)).length } →
      codeAny (model prog w) A (.compLoop (.ListComp elt [⟨.Name x px, iter, [], 0⟩] scope pos) 0 (.ref I) (.ref s₂.heap.objs.size) (compEnvC scope cl H2.objs.size env))
        (RR (.ref s₂.heap.objs.size) H2.objs.size) s₃ := by
    rintro s₃ rfl
    refine comp_loop (m := m) (L := L) (h₀ := h₀) (cenv := compEnvC scope cl H2.objs.size env) W (lookup_relabel_local hx) (by simp [compEnvC, relabel, hkind]) hDC hDf hCf hLf (below L F.ns.lt).1 (below L F.ns.lt).2 (base _ hCle) (base _ (Nat.le_refl _)) hwr
      hoff hst₁ hacc ⟨_, hns₁⟩ (F.keeps old) (N.grown old) J h0 hsz
      (fun i v ys nn oC mC own news₁ h tk hi hlen hP hJ ho hown hNs hmx hst' F' N' => ?_) fun h' tk news' ys nn oC mC F' N' ho hNs hlen hJ => ?_
    · exact step _ _ i v ys nn oC mC own news₁ h tk hCle (Nat.le_refl _) hi hlen hP hJ ho hown hNs hmx hst' F' N'
    · exact hRR _ _ h' tk m oC _ mC news' hDC.symm F' N' (fun p hp => (ho p hp).1) hNs fun h'' tk' F'' N'' =>
        hdone _ h'' tk' news' ys nn (fun p hp => Heap.lt_size (N p hp).1) F'' N'' (fun p hp => (ho p hp).2.1) hlen hJ
  exact codeAny_compStart_list (loop _ rfl) (W.self 0 _ _ _ hst₁ (loop _ rfl))

theorem ListComp_fr {elt iter : Expr} {x : Str} {px : Pos} {scope : Scope} {cl : List (Str × Addr)} {pos : Pos} {Q : Value → Shared → Prop}
    (hclos : closureFor scope env = pure cl) (hcell : ∀ y ∈ scope.names, y.2 ≠ .cell) (hkind : scope.kind = .function)
    (hnames : ∀ y ∈ scope.names, y.2 = .local → scope.names.lookup y.1 = some .local) (hx : scope.names.lookup x = some .local)
    (h : wpAny (model prog w) A (eval iter env) (fun xv s₁ => wpAny (model prog w) A (pyIter xv) (fun it s₂ => CompAt prog w A h₀ L env scope cl x elt (fun m _ => m) (fun D s' => Q (.ref D) s') it s₂) E s₁) E s)
    (hs : ∀ x, foldedSetIterable iter env x = pure x := by intro _; rfl) :
    wpAny (model prog w) A (eval (.ListComp elt [⟨.Name x px, iter, [], 0⟩] scope pos) env) Q E s := by
  rw [eval_ListComp]
  refine wpAny_comprehension_free (use := none) rfl hs hclos hkind hnames (wpAny_mono h (fun xv s₁ h₁ => wpAny_mono h₁ (fun it s₂ h₂ => ?_) fun _ _ e => e) fun _ _ e => e)
  refine comp_block (RR := fun acc C => compPost (model prog w) A E none Q acc C) hcell hkind hx h₂ ?_
  intro D C h' tk m oC oD mC news' hCD F N hoff hns hd
  have z := N (C, oC) (.head _)
  refine ⟨mC, hns.ns z.1, fun h'' hs' => hd h'' tk (F.change hs' z.2.1 z.2.2) fun p hp => ?_⟩
  have y := N p (List.mem_cons_of_mem _ hp)
  refine ⟨(hs'.2 _ ?_).trans y.1, y.2⟩
  rcases List.mem_cons.mp hp with rfl | hp
  · exact hCD.symm
  · exact hoff p hp

/-- a comprehension that a name of the frame's takes -/
theorem Assign_ListComp_fr {elt iter : Expr} {x y : Str} {px py : Pos} {scope : Scope} {cl : List (Str × Addr)} {pos spos : Pos} {Q : Flow → Shared → Prop}
    (hsw : swapsWith (.ListComp elt [⟨.Name x px, iter, [], 0⟩] scope pos) (some (.Name y py)) spos.line env = pure true)
    (hclos : closureFor scope env = pure cl) (hcell : ∀ z ∈ scope.names, z.2 ≠ .cell) (hkind : scope.kind = .function)
    (hnames : ∀ z ∈ scope.names, z.2 = .local → scope.names.lookup z.1 = some .local) (hx : scope.names.lookup x = some .local)
    (hy : env.kindOf y = some .local) (hp : (env.scope.kind == .class || (env.scope.kind == .module && env.locals != env.globals)) = false)
    (h : wpAny (model prog w) A (eval iter env) (fun xv s₁ => wpAny (model prog w) A (pyIter xv) (fun it s₂ => CompAt prog w A h₀ env.locals env scope cl x elt (fun m D z => if z = y then some (.ref D) else m z) (fun _ s' => Q .next s') it s₂) E s₁) E s)
    (hs : ∀ x, foldedSetIterable iter env x = pure x := by intro _; rfl) :
    wpAny (model prog w) A (exec (.Assign [.Name y py] (.ListComp elt [⟨.Name x px, iter, [], 0⟩] scope pos) spos) env) Q E s := by
  rw [exec_Assign_Name_used _ _ _ _ hsw]
  refine wpAny_bind (wpAny_standAt (wpAny_bind ?_))
  show wpAny _ A (do let _ ← comprehension (.ListComp elt [⟨.Name x px, iter, [], 0⟩] scope pos) scope env _ (newList []) false (eval iter env) (some (assign (.Name y py) env))) _ _ s
  refine wpAny_bind (wpAny_mono (wpAny_comprehension_free (use := some (assign (.Name y py) env)) (Q := fun _ s' => Q .next s') rfl hs hclos hkind hnames
    (wpAny_mono h (fun xv s₁ h₁ => wpAny_mono h₁ (fun it s₂ h₂ => ?_) fun _ _ e => e) fun _ _ e => e)) (fun _ s' hq => wpAny_pure (wpAny_pure hq)) fun _ _ e => e)
  refine comp_block (RR := fun acc C => compPost (model prog w) A E (some (assign (.Name y py) env)) (fun _ s' => Q .next s') acc C) hcell hkind hx h₂ ?_
  intro D C h' tk m oC oD mC news' hCD F N hoff hns hd
  have z := N (C, oC) (.head _)
  show wpAny _ A (assign (.Name y py) env (.ref D)) _ _ _
  refine wpAny_assign_Name (wpAny_storeName_local hy F.ns (fun h₂ hn₂ hs₂ => ?_) hp)
  have F₂ := F.set hn₂ hs₂
  have N₂ := N.set hs₂
  have z₂ := N₂ (C, oC) (.head _)
  refine ⟨mC, hns.ns z₂.1, fun h₃ hs₃ => ?_⟩
  refine hd h₃ _ (F₂.change hs₃ z₂.2.1 z₂.2.2) fun p hp => ?_
  have y := N₂ p (List.mem_cons_of_mem _ hp)
  refine ⟨(hs₃.2 _ ?_).trans y.1, y.2⟩
  rcases List.mem_cons.mp hp with rfl | hp
  · exact hCD.symm
  · exact hoff p hp
end
end
section
noncomputable def ForEnd (h₀ : Heap) (L : Addr) (wr : List Addr) (own : Led) (J : (Str → Option Value) → Led → Prop) (s s₂ : Shared) : Prop :=
  ∃ h' tk m' news₂, s₂ = { s with heap := h', toks := tk } ∧ Fr h₀ L h' m' ∧ News h₀ L h' (own ++ news₂) ∧ (∀ p ∈ news₂, p.1 ∉ wr) ∧ J m' news₂
noncomputable def ForStep (h₀ : Heap) (L : Addr) (wr : List Addr) (own : Led) (J : (Str → Option Value) → Led → Prop) (s : Shared) (Q : Flow → Shared → Prop) (f : Flow) (s₂ : Shared) : Prop :=
  match f with
  | .ret v => Q (.ret v) s₂
  | .brk => Q .next s₂
  | _ => ForEnd h₀ L wr own J s s₂
theorem ForStep.intro {h₀ : Heap} {L : Addr} {wr : List Addr} {own : Led} {J : (Str → Option Value) → Led → Prop} {s : Shared} {Q : Flow → Shared → Prop} {h' : Heap} {tk : Nat} {m' : Str → Option Value} (news₂ : Led)
    (F : Fr h₀ L h' m') (N : News h₀ L h' (own ++ news₂)) (ho : ∀ p ∈ news₂, p.1 ∉ wr) (hj : J m' news₂) : ForStep h₀ L wr own J s Q .next { s with heap := h', toks := tk } := ⟨h', tk, m', news₂, rfl, F, N, ho, hj⟩

inductive ForAt (prog : Program) (w : World) (A : Around) (h₀ : Heap) (L : Addr) (env : Env) (target : Expr) (body : List Stmt) (Q : Flow → Shared → Prop) (it : Value) (s₂ : Shared) : Prop
  | mk (I : Addr) (fp wr : List Addr) (n : Nat) (P : Nat → Value → Prop) (St : Nat → Heap → Prop) (m : Str → Option Value) (news : Led) (J : Nat → (Str → Option Value) → Led → Prop) (f0 : it = .ref I) (f1 : Walks prog w A I fp wr n P St) (f2 : L ∉ fp) (f3 : (∀ b ∈ wr, h₀.get? b = none)) (f4 : (∀ p ∈ news, p.1 ∉ wr)) (f5 : St 0 s₂.heap) (f6 : Fr h₀ L s₂.heap m) (f7 : News h₀ L s₂.heap news) (f8 : J 0 m news) (f9 : (∀ i v (s : Shared) (Q : Unit → Shared → Prop) (E : Value → Shared → Prop), St (i + 1) s.heap → Q () s → wpAny (model prog w) A (letOwnedTupleGo target (.ref I) v) Q E s)) (f10 : (∀ i v m₁ own news₁ h tk, i < n → P i v → J i m₁ news₁ → (∀ p ∈ news₁, p.1 ∉ wr) → OwnOk h₀ h fp own → St (i + 1) h → Fr h₀ L h m₁ → News h₀ L h (own ++ news₁) →
      wpAny (model prog w) A (assign target env v) (fun _ s₃ => wpAny (model prog w) A (execs body env) (ForStep h₀ L wr own (J (i + 1)) s₂ Q) (fun _ _ => False) s₃) (fun _ _ => False) { s₂ with heap := h, toks := tk })) (f11 : (∀ h' tk m' news', Fr h₀ L h' m' → News h₀ L h' news' → (∀ p ∈ news', p.1 ∉ wr) → J n m' news' → Q .next { s₂ with heap := h', toks := tk }))

inductive FI (h₀ : Heap) (L : Addr) (wr : List Addr) (n : Nat) (St : Nat → Heap → Prop) (J : Nat → (Str → Option Value) → Led → Prop) (s₂ : Shared) (k : Nat) (s' : Shared) : Prop
  | mk (h' : Heap) (tk : Nat) (m' : Str → Option Value) (news' : Led) (i : Nat) (e : s' = { s₂ with heap := h', toks := tk }) (t : St i h') (F : Fr h₀ L h' m') (N : News h₀ L h' news') (o : ∀ p ∈ news', p.1 ∉ wr) (j : J i m' news') (le : i ≤ n) (q : k = n + 1 - i)
section
variable {prog : Program} {w : World} {A : Around} {E : Value → Shared → Prop} {s : Shared} {h₀ : Heap} {L : Addr} {env : Env}
theorem For_fr {target iter : Expr} {body : List Stmt} {pos : Pos} {Q : Flow → Shared → Prop}
    (h : wpAny (model prog w) A (eval iter env) (fun xv s₁ => wpAny (model prog w) A (pyIter xv) (fun it s₂ => ForAt prog w A h₀ L env target body Q it s₂) E s₁) E s)
    (hs : ∀ x, foldedSetIterable iter env x = pure x := by intro _; rfl) :
    wpAny (model prog w) A (exec (.For target iter body [] pos) env) Q E s := by
  refine wpAny_For (wpAny_mono h (fun xv s₁ h₁ => wpAny_mono h₁ (fun it s₂ h₂ => ?_) fun _ _ e => e) fun _ _ e => e) hs
  obtain ⟨I, fp, wr, n, P, St, m, news, J, rfl, W, hLf, hwr, hnw, hst, F, N, h0, hlet, step, hQ⟩ := h₂
  have hLw : L ∉ wr := fun h => hLf (W.sub _ h)
  have old : ∀ b o, h₀.get? b = some o → b ∉ wr := fun b o e hb => by rw [hwr b hb] at e; cases e
  refine codeAny_forLoop_any
    (FI h₀ L wr n St J s₂) ?_ (n + 1)
    ⟨s₂.heap, s₂.toks, m, news, 0, rfl, hst, F, N, hnw, h0, Nat.zero_le _, rfl⟩
  rintro k s' ⟨h', tk, m', news', i, rfl, hst', F', N', hnw', hJ, hi, rfl⟩
  have next : ∀ h₁ : Heap, (∀ b o, b ∉ wr → h'.get? b = some o → h₁.get? b = some o) → Fr h₀ L h₁ m' ∧ News h₀ L h₁ news' := fun h₁ hk₁ =>
    ⟨⟨F'.ns.at' fun o e => hk₁ _ o hLw e, fun b o e => hk₁ b o (old b o e) (F'.keep b o e), F'.above⟩, fun p hp => ⟨hk₁ _ _ (hnw' p hp) (N' p hp).1, (N' p hp).2⟩⟩
  by_cases hlt : i < n
  · refine W.item i _ _ _ hlt hst' fun v h₁ tk₁ hP hst₁ hk₁ => ?_
    obtain ⟨F₁, N₁⟩ := next h₁ hk₁
    refine hlet i v _ _ _ hst₁ ?_
    have Nown : News h₀ L h₁ (ownOf h₀ fp h₁) := news_ownOf hLf
    refine wpAny_mono (step i v m' (ownOf h₀ fp h₁) news' h₁ tk₁ hlt hP hJ hnw' ⟨ownOf_sub, fun b hb o e q => mem_ownOf hb e q⟩ hst₁ F₁ (Nown.append N₁)) (fun _ s₃ h₃ => ?_) fun _ _ e => e.elim
    refine wpAny_mono h₃ (fun f s₄ h₄ => ?_) fun _ _ e => e.elim
    have fin : ForEnd h₀ L wr (ownOf h₀ fp h₁) (J (i + 1)) s₂ s₄ → ∃ m_1, m_1 < n + 1 - i ∧ FI h₀ L wr n St J s₂ m_1 s₄ := by
      clear h₄
      rintro ⟨h₅, tk₄, m₂, news₂, rfl, F₄, N₄, ho₄, hJ₄⟩
      refine ⟨n + 1 - (i + 1), by omega, h₅, tk₄, m₂, news₂, i + 1, rfl, ?_, F₄, N₄.right, ho₄, hJ₄, hlt, rfl⟩
      refine W.frame _ _ _ hst₁ fun b hb o e => ?_
      cases hq : h₀.get? b with
      | some o₀ =>
        have : o₀ = o := by have := F₁.keep b o₀ hq; rw [e] at this; exact (Option.some.inj this).symm
        exact this ▸ F₄.keep b o₀ hq
      | none => exact (N₄ (b, o) (List.mem_append_left _ (mem_ownOf hb hq e))).1
    cases f with
    | ret v => exact h₄
    | brk => exact h₄
    | next => exact fin h₄
    | cont => exact fin h₄
  · have hin : i = n := by omega
    subst hin
    refine W.done _ _ _ hst' fun h₁ tk₁ hk₁ => wpAny_execs_nil ?_
    obtain ⟨F₁, N₁⟩ := next h₁ hk₁
    exact hQ h₁ tk₁ m' news' F₁ N₁ hnw' hJ
end
end
section
theorem memR {α : Type} {p : α} {a b : List α} (h : List.Mem p b) : List.Mem p (a ++ b) := List.mem_append_right a h
theorem memL {α : Type} {p : α} {a b : List α} (h : List.Mem p a) : List.Mem p (a ++ b) := List.mem_append_left b h
theorem CellsAre.five {cm : Str → Option Value} {n₁ n₂ n₃ n₄ n₅ : Str} {c₁ c₂ c₃ c₄ c₅ : Addr} {cells : List (Addr × Obj)} (x : PyProof.Rows.CellsAre cm [(n₁, c₁), (n₂, c₂), (n₃, c₃), (n₄, c₄), (n₅, c₅)] cells) :
    ∃ o₁ o₂ o₃ o₄ o₅, cells = [(c₁, o₁), (c₂, o₂), (c₃, o₃), (c₄, o₄), (c₅, o₅)] ∧ o₁.data = .cell (cm n₁) ∧ o₂.data = .cell (cm n₂) ∧ o₃.data = .cell (cm n₃) ∧ o₄.data = .cell (cm n₄) ∧ o₅.data = .cell (cm n₅) := by
  cases x with
  | cons h1 x =>
    obtain ⟨a, b, c, d, rfl, e1, e2, e3, e4⟩ := PyProof.Rows.CellsAre.four x
    exact ⟨_, a, b, c, d, rfl, h1, e1, e2, e3, e4⟩

/-- a tuple, of the ledger or of the text's own -/
noncomputable def VTup (w : World) (news : Led) (a : Addr) (vs : List Value) : Prop := (∃ n, (a, tupOf vs n) ∈ news) ∨ ∃ n, (hd.heap_1 w.params).lookup a = some (tupOf vs n)
theorem VTup.get {w : World} {h₀ h : Heap} {L : Addr} {m : Str → Option Value} {news : Led} {a : Addr} {vs : List Value} (T : VTup w news a vs) (F : Fr h₀ L h m) (X : (hd.heap_1 w.params).In h₀) (N : News h₀ L h news) : ∃ n, h.get? a = some (tupOf vs n) :=
  T.elim (fun ⟨n, e⟩ => ⟨n, (N _ e).1⟩) fun ⟨n, e⟩ => ⟨n, F.keep _ _ (X _ _ e)⟩
theorem VTup.tup {w : World} {h₀ h : Heap} {L : Addr} {m : Str → Option Value} {news : Led} {a : Addr} {vs : List Value} (T : VTup w news a vs) (F : Fr h₀ L h m) (X : (hd.heap_1 w.params).In h₀) (N : News h₀ L h news) : IsTup h a vs.toArray := by
  obtain ⟨n, e⟩ := T.get F X N
  exact ⟨_, e, rfl, n, rfl⟩
theorem VTup.mono {w : World} {news news' : Led} {a : Addr} {vs : List Value} (T : VTup w news a vs) (hs : ∀ p ∈ news, p ∈ news') : VTup w news' a vs := T.imp (fun ⟨n, e⟩ => ⟨n, hs _ e⟩) id

/-- colours -/
structure Col where
  r : Int
  g : Int
  b : Int
  a : Int
  deriving DecidableEq
noncomputable def Col.Ok (c : Col) : Prop := (0 ≤ c.r ∧ c.r ≤ 255) ∧ (0 ≤ c.g ∧ c.g ≤ 255) ∧ (0 ≤ c.b ∧ c.b ≤ 255) ∧ 0 ≤ c.a ∧ c.a ≤ 255
noncomputable def zc : Col := ⟨0, 0, 0, 0⟩
inductive ColIn (w : World) (news : Led) (v : Value) (c : Col) : Prop
  | mk (a : Addr) (t1 t2 t3 t4 : Tok) (e : v = .ref a) (x : VTup w news a [.int c.r t1, .int c.g t2, .int c.b t3, .int c.a t4])
/-- a colour newly made -/
inductive NewCol (news : Led) (r g b a : Int) (v : Value) (n : Led) : Prop
  | mk (x : Addr) (t1 t2 t3 t4 : Tok) (e : v = .ref x) (en : n = (x, tupOf [.int r t1, .int g t2, .int b t3, .int a t4] 0) :: news) (lt : ∀ p ∈ news, p.1 < x)
theorem ColIn.mono {w : World} {news news' : Led} {v : Value} {c : Col} (T : ColIn w news v c) (hs : ∀ p ∈ news, p ∈ news') : ColIn w news' v c := let ⟨a, t1, t2, t3, t4, e, x⟩ := T; ⟨a, t1, t2, t3, t4, e, x.mono hs⟩

theorem Ct.use {prog : Program} {w : World} {f : Addr} {args : List Value} {D U : Nat} {news : Led} {Post : Value → Led → Prop} {p : Program} {loose : List Str} {mean : ExcName → Option Value} {mg mb : Str → Option Value} {A A₀ : Around} {env : Env} {outer : List Env} {base h₀ : Heap} {L : Addr} {m : Str → Option Value} {s : Shared} {Q E : Value → Shared → Prop}
    (C : Ct w f args D U news Post) (B : Below A₀ base outer h₀) (F : Fr h₀ L s.heap m) (X : (hd.heap_1 w.params).In h₀) (N : News h₀ L s.heap news) (T : Top p loose mean mg mb h₀)
    (hA : A.frames = some (env :: outer)) (hf : env.frame = some L) (hk : env.scope.kind = .function) (hh : A.handled = none) (hD : A.depth ≤ D + 300) (hU : A.units ≤ U)
    (hret : ∀ v news' h' tk', Post v news' → Fr h₀ L h' m → News h₀ L h' news' → Q v { s with heap := h', toks := tk' }) : wpAny (model prog w) A (call (.ref f) args) Q E s :=
  C _ _ _ _ _ _ _ _ _ _ _ _ _ _ _ _ _ B F X N T hA hf hk hh hD hU hret

section
variable {M : Model} {A : Around} {E : Value → Shared → Prop} {s : Shared} {h₀ : Heap} {L : Addr} {env : Env} {x : Str} {pos : Pos} {v : Value} {Q : Value → Shared → Prop} {news : Led} {c : Addr} {o : Obj}
theorem nameB_L {mC : Str → Option Value} (N : News h₀ L s.heap news) (hns : NsO o mC) (hl : env.locals = c) (hm : (c, o) ∈ news) (hv : mC x = some v) (hk : env.scope.kind = .function) (hx : env.kindOf x = some .local) (hd : (x == ("__debug__" : Str)) = false) (h : Q v s) :
    wpAny M A (eval (.Name x pos) env) Q E s := by
  subst hl
  exact wpAny_Name (wpAny_loadName_local hk hx (hns.ns (N.get hm)) hv h) hd
theorem nameB_C (N : News h₀ L s.heap news) (hc : env.cells.lookup x = some c) (hm : (c, o) ∈ news) (hd : o.data = .cell (some v)) (hk : env.scope.kind = .function) (hx : env.kindOf x = some .cell) (hb : (x == ("__debug__" : Str)) = false) (h : Q v s) :
    wpAny M A (eval (.Name x pos) env) Q E s := wpAny_Name (wpAny_loadName_cell hk hx hc ⟨o, N.get hm, hd⟩ h) hb
end
/-- a comprehension over a tuple of the heap -/
theorem compAt_tuple {prog : Program} {w : World} {A : Around} {h₀ : Heap} {L : Addr} {env : Env} {scope : Scope} {cl : List (Str × Addr)} {x : Str} {elt : Expr} {up : (Str → Option Value) → Addr → Str → Option Value} {Done : Addr → Shared → Prop} {E : Value → Shared → Prop} {s : Shared} {a : Addr} {vs : List Value} {m : Str → Option Value} {news : Led}
    (hh : A.handled = none) (hT : s.heap.IsTuple a vs.toArray) (hsz : vs.length ≤ sizeLine) (haL : a ≠ L) (F : Fr h₀ L s.heap m) (N : News h₀ L s.heap news) (J : Nat → List Value → Led → Prop) (h0 : J 0 [] news)
    (step : ∀ C D wr i v ys nn oC mC own news₁ h tk, (∀ p ∈ news, p.1 < C) → (∀ p ∈ news, p.1 < D) → WrOk wr news own → vs[i]? = some v → ys.length = i → J i ys news₁ → Off C D wr news₁ → NsO oC mC → mC x = some v → Fr h₀ L h m → News h₀ L h ((C, oC) :: (D, listOf ys.toArray nn) :: (own ++ news₁)) →
      wpAny (model prog w) A (eval elt (compEnvC scope cl C env)) (CompEnd h₀ L m C D wr ((C, oC) :: (D, listOf ys.toArray nn) :: own) (J (i + 1)) ys s) (fun _ _ => False) { s with heap := h, toks := tk })
    (done : ∀ D h' tk news' ys nn, (∀ p ∈ news, p.1 < D) → Fr h₀ L h' (up m D) → News h₀ L h' ((D, listOf ys.toArray nn) :: news') → (∀ p ∈ news', p.1 ≠ D) → ys.length = vs.length → J vs.length ys news' → Done D { s with heap := h', toks := tk }) :
    wpAny (model prog w) A (pyIter (.ref a)) (fun it s₂ => CompAt prog w A h₀ L env scope cl x elt up Done it s₂) E s := by
  obtain ⟨oa, hoa, hrest⟩ := id hT
  have hlt : a < s.heap.objs.size := Heap.lt_size hoa
  refine wpAny_pyIter_tuple hT ?_
  have W := Walks.tuple (prog := prog) (w := w) hh s.heap.objs.size a (Nat.ne_of_lt hlt) vs.toArray
  rw [List.size_toArray] at W
  have up' : ∀ b o, s.heap.get? b = some o → (s.heap.push { cls := .type "tuple_iterator", data := .fields #[.ref a, .int 0 0] }).get? b = some o := fun b o e => Heap.get?_push_of_some _ e
  refine ⟨_, _, _, vs.length, _, _, m, news, J, rfl, W, hsz, ?_, ?_, ?_, ?_, ⟨⟨_, Heap.get?_push_size _ rfl, rfl, rfl⟩, hT.at fun o e => up' _ _ e⟩, F.keeps up', N.grown up', h0, ?_, ?_⟩
  · intro hm
    rcases List.mem_cons.mp hm with e | hm
    · exact absurd F.ns.lt (e ▸ Nat.lt_irrefl _)
    · exact haL (List.mem_singleton.mp hm).symm
  · intro b hb
    show b < (s.heap.push _).objs.size
    rw [Heap.size_push]
    rcases List.mem_cons.mp hb with rfl | hb
    · exact Nat.lt_succ_self _
    · rw [List.mem_singleton.mp hb]; exact Nat.lt_succ_of_lt hlt
  · intro b hb
    rw [List.mem_singleton.mp hb]
    exact next_is_new F
  · intro p hp hI
    exact absurd (Heap.lt_size (N p hp).1) ((List.mem_singleton.mp hI) ▸ Nat.lt_irrefl _)
  · intro C D i v ys nn oC mC own news₁ h tk hC hD hi hlen hP hJ ho hown hNs hmx hst F' N'
    have below : ∀ b, (s.heap.push { cls := .type "tuple_iterator", data := .fields #[.ref a, .int 0 0] }).objs.size ≤ b → ∀ p ∈ news, p.1 < b := fun b hb p hp => Nat.lt_of_lt_of_le (Heap.lt_size (N p hp).1) (Nat.le_trans (by rw [Heap.size_push]; exact Nat.le_succ _) hb)
    exact step C D _ i v ys nn oC mC own news₁ h tk (below C hC) (below D hD) (fun b hb => by obtain ⟨o, e, c, _⟩ := hst.1; rw [List.mem_singleton.mp hb]; exact ⟨fun p hp => Heap.lt_size (N p hp).1, o, hown.2 _ (.head _) _ (next_is_new F) e, .inr (.inr (.inl c))⟩) (by simpa using hP) hlen hJ ho hNs hmx F' N'
  · intro D h' tk news' ys nn hD F' N' ho hlen hJ
    exact done D h' tk news' ys nn hD F' N' ho hlen hJ
/-- a comprehension over a range by ones -/
theorem compAt_range {prog : Program} {w : World} {A : Around} {h₀ : Heap} {L : Addr} {env : Env} {scope : Scope} {cl : List (Str × Addr)} {x : Str} {elt : Expr} {up : (Str → Option Value) → Addr → Str → Option Value} {Done : Addr → Shared → Prop} {E : Value → Shared → Prop} {s : Shared} {r : Addr} {a b : Int} {t₀ u₀ v₀ : Tok} {n : Nat} {m : Str → Option Value} {news : Led}
    (hh : A.handled = none) (hr : IsRange s.heap r a b 1 t₀ u₀ v₀) (hsmall : Builtin.Range.small a b 1 = true) (hn : Builtin.Range.rangeSize a b 1 = (n : Int)) (hsz : n ≤ sizeLine) (F : Fr h₀ L s.heap m) (N : News h₀ L s.heap news) (J : Nat → List Value → Led → Prop) (h0 : J 0 [] news)
    (step : ∀ C D wr i t ys nn oC mC own news₁ h tk, (∀ p ∈ news, p.1 < C) → (∀ p ∈ news, p.1 < D) → WrOk wr news own → i < n → ys.length = i → J i ys news₁ → Off C D wr news₁ → NsO oC mC → mC x = some (.int (a + i) t) → Fr h₀ L h m → News h₀ L h ((C, oC) :: (D, listOf ys.toArray nn) :: (own ++ news₁)) →
      wpAny (model prog w) A (eval elt (compEnvC scope cl C env)) (CompEnd h₀ L m C D wr ((C, oC) :: (D, listOf ys.toArray nn) :: own) (J (i + 1)) ys s) (fun _ _ => False) { s with heap := h, toks := tk })
    (done : ∀ D h' tk news' ys nn, (∀ p ∈ news, p.1 < D) → Fr h₀ L h' (up m D) → News h₀ L h' ((D, listOf ys.toArray nn) :: news') → (∀ p ∈ news', p.1 ≠ D) → ys.length = n → J n ys news' → Done D { s with heap := h', toks := tk }) :
    wpAny (model prog w) A (pyIter (.ref r)) (fun it s₂ => CompAt prog w A h₀ L env scope cl x elt up Done it s₂) E s := by
  refine wpAny_pyIter_range hr hsmall ?_
  have W : Walks prog w A s.heap.objs.size [s.heap.objs.size] [s.heap.objs.size] n (fun i v => ∃ t, v = .int (a + i * 1) t)
      (fun i h => IsRangeIter h s.heap.objs.size (a + (i : Nat) * 1) ((n : Int) - (i : Nat)) 1) := Walks.range hh _ a 1 n
  have up' : ∀ b' o, s.heap.get? b' = some o → (s.heap.push { cls := .type "range_iterator", data := .fields #[rawInt a, rawInt (Builtin.Range.rangeSize a b 1), rawInt 1] }).get? b' = some o := fun b' o e => Heap.get?_push_of_some _ e
  refine ⟨_, _, _, n, _, _, m, news, J, rfl, W, hsz, ?_, ?_, ?_, ?_, (by show IsRangeIter _ _ _ _ _; rw [hn]; simpa using Heap.get?_push_size _ rfl), F.keeps up', N.grown up', h0, ?_, ?_⟩
  · intro hm
    exact absurd F.ns.lt ((List.mem_singleton.mp hm) ▸ Nat.lt_irrefl _)
  · intro b' hb
    show b' < (s.heap.push _).objs.size
    rw [Heap.size_push, List.mem_singleton.mp hb]
    exact Nat.lt_succ_self _
  · intro b' hb
    rw [List.mem_singleton.mp hb]
    exact next_is_new F
  · intro p hp hI
    exact absurd (Heap.lt_size (N p hp).1) ((List.mem_singleton.mp hI) ▸ Nat.lt_irrefl _)
  · intro C D i v ys nn oC mC own news₁ h tk hC hD hi hlen hP hJ ho hown hNs hmx hst F' N'
    have below : ∀ b', (s.heap.push { cls := .type "range_iterator", data := .fields #[rawInt a, rawInt (Builtin.Range.rangeSize a b 1), rawInt 1] }).objs.size ≤ b' → ∀ p ∈ news, p.1 < b' := fun b' hb p hp => Nat.lt_of_lt_of_le (Heap.lt_size (N p hp).1) (Nat.le_trans (by rw [Heap.size_push]; exact Nat.le_succ _) hb)
    obtain ⟨t, rfl⟩ := hP
    rw [Int.mul_one] at hmx
    exact step C D _ i t ys nn oC mC own news₁ h tk (below C hC) (below D hD) (fun b hb => by rw [List.mem_singleton.mp hb]; exact ⟨fun p hp => Heap.lt_size (N p hp).1, _, hown.2 _ (.head _) _ (next_is_new F) hst, .inr (.inl rfl)⟩) hi hlen hJ ho hNs hmx F' N'
  · intro D h' tk news' ys nn hD F' N' ho hlen hJ
    exact done D h' tk news' ys nn hD F' N' ho hlen hJ
noncomputable def Above (news : Led) (L : Addr) : Prop := ∀ p ∈ news, p.1 < L
theorem ne_of_aboveA {news : Led} {L d : Addr} (h : Above news L) (hd : @LE.le Nat _ L d) : ∀ p ∈ news, p.1 ≠ d := fun p hp => Nat.ne_of_lt (Nat.lt_of_lt_of_le (h p hp) hd)
theorem above_lt {news : Led} {L a : Addr} (h : Above news L) (ha : @LE.le Nat _ L a) : ∀ p ∈ news, p.1 < a := fun p hp => Nat.lt_of_lt_of_le (h p hp) ha
theorem ne_of_above {news : Led} {L d : Addr} (h : ∀ p ∈ news, p.1 < L) (hd : L ≤ d) : ∀ p ∈ news, p.1 ≠ d := fun p hp => Nat.ne_of_lt (Nat.lt_of_lt_of_le (h p hp) hd)
theorem of_allLt {d : Addr} : ∀ {l : Led}, AllLt d l → ∀ p ∈ l, p.1 < d
  | [], _, _, h => nomatch h
  | _ :: _, h, p, hp => by
    rcases List.mem_cons.mp hp with rfl | hp
    · exact h.1
    · exact of_allLt h.2 p hp
theorem ints_snoc {vs : List Value} {ns : List Int} {x y : Int} {t : Tok} (h : IntsAre vs ns) (e : x = y) : IntsAre (vs ++ [.int x t]) (ns ++ [y]) := by
  subst e
  induction h with
  | nil => exact .cons _ _ .nil
  | cons n t' _ ih => exact .cons _ _ ih
theorem ints4 {vs : List Value} {a b c d : Int} (h : IntsAre vs [a, b, c, d]) : ∃ t1 t2 t3 t4, vs = [.int a t1, .int b t2, .int c t3, .int d t4] := by
  obtain ⟨t1, v1, rfl, h1⟩ := h.cons_inv
  obtain ⟨t2, v2, rfl, h2⟩ := h1.cons_inv
  obtain ⟨t3, v3, rfl, h3⟩ := h2.cons_inv
  obtain ⟨t4, v4, rfl, h4⟩ := h3.cons_inv
  obtain rfl := h4.nil_inv
  exact ⟨t1, t2, t3, t4, rfl⟩
theorem ints3 {vs : List Value} {a b c : Int} (h : IntsAre vs [a, b, c]) : ∃ t1 t2 t3, vs = [.int a t1, .int b t2, .int c t3] := by
  obtain ⟨t1, v1, rfl, h1⟩ := h.cons_inv
  obtain ⟨t2, v2, rfl, h2⟩ := h1.cons_inv
  obtain ⟨t3, v3, rfl, h3⟩ := h2.cons_inv
  obtain rfl := h3.nil_inv
  exact ⟨t1, t2, t3, rfl⟩
theorem take_next {α : Type} {l : List α} {i : Nat} {x : α} (h : l[i]? = some x) : l.take (i + 1) = l.take i ++ [x] := by rw [List.take_add_one, h]; rfl
theorem VTup.tuple {w : World} {h₀ h : Heap} {L : Addr} {m : Str → Option Value} {news : Led} {a : Addr} {vs : List Value} (T : VTup w news a vs) (F : Fr h₀ L h m) (X : (hd.heap_1 w.params).In h₀) (N : News h₀ L h news) : h.IsTuple a vs.toArray := by
  obtain ⟨n, e⟩ := T.get F X N
  exact ⟨_, e, rfl, n, rfl⟩
theorem VTup.neL {w : World} {h₀ h : Heap} {L : Addr} {m : Str → Option Value} {news : Led} {a : Addr} {vs : List Value} (T : VTup w news a vs) (F : Fr h₀ L h m) (X : (hd.heap_1 w.params).In h₀) (N : News h₀ L h news) : a ≠ L := by
  rcases T with ⟨n, e⟩ | ⟨n, e⟩
  · exact (N _ e).2.1
  · exact Nat.ne_of_lt (Nat.lt_of_lt_of_le (Heap.lt_size (X _ _ e)) F.above)
end
section
section
variable {prog : Program} {w : World} {A : Around} {E : Value → Shared → Prop} {s : Shared}
/-- one draw from an iterator over a tuple -/
theorem nextTup {it t : Addr} {i : Nat} {xs : Array Value} {Q : Value → Shared → Prop} (hh : A.handled = none) (hit : s.heap.IsTupleIter it t i) (ht : s.heap.IsTuple t xs)
    (hQ : ∀ x h', xs[i]? = some x → h'.IsTupleIter it t (i + 1) → Heap.SameBut it s.heap h' → Q x { s with heap := h' })
    (hE : ∀ h' e, xs[i]? = none → Heap.ExtBut it s.heap h' → (∃ o, h'.get? e = some o ∧ o.cls = .type "StopIteration") → E (.ref e) { s with heap := h' }) :
    wpAny (model prog w) A (Builtin.SmallTypes.nextOf (.ref it)) Q E s := by
  have ty := hit.typeIs
  obtain ⟨o, ho, hc, hd⟩ := hit
  obtain ⟨ot, hot, _, nt, hdt⟩ := ht
  unfold Builtin.SmallTypes.nextOf
  refine wpAny_bind (wpAny_callSpecial?_slot (name := Str.ofString "__next__") ty F.slot_tuple_iterator_next
    (wpAny_call_entry F.slot_tuple_iterator_next ty F.entry_tuple_iterator_next ?_ (F.args_tuple_iterator_next_1 _)))
  show wpAny _ _ (field (.ref it) 0 >>= _) _ _ s
  refine wpAny_bind (wpAny_field ho hd (x := .ref t) rfl ?_)
  refine wpAny_bind (m := field (.ref it) 1) (wpAny_field ho hd (x := .int i 0) rfl ?_)
  refine wpAny_bind (m := seqItems? (.ref t)) (wpAny_seqItems hot hdt ?_)
  cases hx : xs[i]? with
  | some x =>
    simp only [Int.toNat_natCast, hx]
    refine wpAny_bind (wpAny_setField ho hd (by simp) (wpAny_pure ⟨x, rfl, wpAny_pure (hQ x _ hx ?_ (Heap.SameBut.update ..))⟩))
    exact ⟨_, Heap.get?_update_self _ ho (Obj.isFreed_of_fields (Obj.data_mapFields hd _)), (Obj.cls_mapFields ..).trans hc, by rw [Obj.data_mapFields hd]; simp [rawInt]⟩
  | none =>
    simp only [Int.toNat_natCast, hx]
    refine wpAny_bind (wpAny_rule (wpAny_bind (wpAny_setField ho hd (by simp) ?_)))
    refine wpAny_bind (m := newExc (.type "StopIteration") []) ?_
    simp only [newExc, newTuple]
    refine wpAny_bind (wpAny_newObj_type ?_ (by size_fits))
    refine wpAny_bind (m := firstArgMember _ _) (wpAny_of_eq (a := Value.none) (by first | rfl | (simp only [firstArgMember]; rfl)) ?_)
    refine wpAny_newObj_type ?_ (by size_fits)
    simp only [raiseNew]
    refine wpAny_bind (wpAny_handled ?_)
    first | rw [show A.in1.handled = none from hh] | rw [hh]
    refine wpAny_bind (wpAny_pure (wpAny_throw ?_))
    exact hE _ _ hx (((Heap.SameBut.update ..).extBut.push _).push _) ⟨_, Heap.get?_push_size _ rfl, rfl⟩
end
theorem drawsTup {prog : Program} {w : World} {A : Around} (hh : A.handled = none) (it t : Addr) (hne : t ≠ it) (xs : Array Value) :
    Draws prog w A it [it, t] xs.size (fun i v => xs[i]? = some v) (fun i h => h.IsTupleIter it t i ∧ h.IsTuple t xs) where
  live := fun _ _ st => let ⟨o, ho, _⟩ := st.1; ⟨o, ho⟩
  frame := fun _ _ _ st hk => ⟨let ⟨o, ho, r⟩ := st.1; ⟨o, hk it (by simp) o ho, r⟩, let ⟨o, ho, r⟩ := st.2; ⟨o, hk t (by simp) o ho, r⟩⟩
  item := fun i s Q E hi st hQ => nextTup hh st.1 st.2 (fun x h' hx hit hs => hQ x h' s.toks hx ⟨hit, st.2.extBut hs.extBut hne⟩ hs) fun h' e hx => absurd hx (by simp [hi])
  done := fun s Q E st hE => nextTup hh st.1 st.2 (fun x h' hx => absurd hx (by simp)) fun h' e _ => hE h' e

section
variable {prog : Program} {w : World} {A : Around} {E : Value → Shared → Prop} {s : Shared}
/-- where a zip of two draws stands -/
noncomputable def ZipSt (z TI TO i1 i2 : Addr) (f0 : Value) (h : Heap) : Prop := IsZip h z TI TO f0 ∧ IsPair h TI (.ref i1) (.ref i2) ∧ ∃ a b, IsPair h TO a b

theorem zip_draws {z TI TO i1 i2 : Addr} {fp1 fp2 : List Addr} {n i : Nat} {P1 P2 : Nat → Value → Prop} {St1 St2 : Nat → Heap → Prop} {Q : Fin → Shared → Prop}
    (D1 : Draws prog w A i1 fp1 n P1 St1) (D2 : Draws prog w A i2 fp2 n P2 St2) (hz : ZipSt z TI TO i1 i2 .none s.heap) (h1 : St1 i s.heap) (h2 : St2 i s.heap) (hi : i ≤ n)
    (d : TI ≠ z ∧ TO ≠ z ∧ TI ≠ TO) (e1 : i1 ≠ z ∧ i1 ≠ TI ∧ i1 ≠ TO ∧ i1 ∉ fp2) (e2 : i2 ≠ z ∧ i2 ≠ TI ∧ i2 ≠ TO ∧ i2 ∉ fp1) (g1 : z ∉ fp1 ∧ TO ∉ fp1) (g2 : z ∉ fp2 ∧ TO ∉ fp2)
    (hQ : ∀ x y h' tk, i < n → P1 i x → P2 i y → ZipSt z TI TO i1 i2 (rawInt s.heap.objs.size) h' → IsPair h' s.heap.objs.size x y → St1 (i + 1) h' → St2 (i + 1) h' →
      (∀ c o, c ≠ z → c ≠ TO → c ≠ i1 → c ≠ i2 → s.heap.get? c = some o → h'.get? c = some o) → Q (.done (.ret (.ref s.heap.objs.size))) { s with heap := h', toks := tk })
    (hE : ∀ h' e tk, i = n → (∀ c o, c ≠ z → c ≠ TO → c ≠ i1 → c ≠ i2 → s.heap.get? c = some o → h'.get? c = some o) → (∃ o, h'.get? e = some o ∧ o.cls = .type "StopIteration") → E (.ref e) { s with heap := h', toks := tk }) :
    wpAny (model prog w) A (Builtin.«zip.__next__» ⟨[.ref z], []⟩) Q E s := by
  obtain ⟨hz, hTI, a, b, hTO⟩ := hz
  refine wpAny_bind (m := field (.ref z) 2) (wpAny_field hz rfl (x := .bool false) rfl ?_)
  refine wpAny_bind (m := field (.ref z) 3) (wpAny_field hz rfl (x := .ref TI) rfl ?_)
  refine wpAny_bind (wpAny_seqItems hTI rfl ?_)
  refine wpAny_bind (m := Builtin.SmallTypes.ownedTupleIsFree (.ref z)) ?_
  unfold Builtin.SmallTypes.ownedTupleIsFree
  refine wpAny_bind (wpAny_field hz rfl (x := .none) rfl (wpAny_pure ?_))
  simp only [if_true]
  refine wpAny_bind (wpAny_rule ?_)
  refine wpAny_bind (wpAny_field hz rfl (x := .ref TO) rfl ?_)
  refine wpAny_bind (wpAny_setField_rec hz (by simp) fun k₁ hz₁ b₁ => ?_)
  simp only [List.zipIdx_cons, List.zipIdx_nil, List.forIn_cons, List.forIn_nil]
  have keep1 : ∀ c o, c ≠ z → s.heap.get? c = some o → k₁.get? c = some o := fun c o q => b₁.extBut c o q
  have s1 : St1 i k₁ := D1.frame _ _ _ h1 fun c hc o => keep1 c o fun q => g1.1 (q ▸ hc)
  have s2 : St2 i k₁ := D2.frame _ _ _ h2 fun c hc o => keep1 c o fun q => g2.1 (q ▸ hc)
  refine wpAny_bind (wpAny_bind (wpAny_bind (wpAny_onRaise ?_)))
  refine wpAny_bind (m := Builtin.SmallTypes.nextOf (.ref i1)) ?_
  by_cases hlt : i < n
  · refine D1.item i _ _ _ hlt s1 fun x k₂ tk₂ px t1 b₂ => wpAny_pure ?_
    have keep2 : ∀ c o, c ≠ z → c ≠ i1 → s.heap.get? c = some o → k₂.get? c = some o := fun c o q r e => b₂.extBut c o r (keep1 c o q e)
    have t2 : St2 i k₂ := D2.frame _ _ _ s2 fun c hc o => b₂.extBut c o fun q => e1.2.2.2 (q ▸ hc)
    have o₂ : IsPair k₂ TO a b := keep2 _ _ d.2.1 e1.2.2.1.symm hTO
    refine wpAny_bind (wpAny_seqItems o₂ rfl (wpAny_bind (wpAny_updateSeq_pair o₂ fun k₃ o₃ b₃ => wpAny_bind (wpAny_letGo (wpAny_pure ?_)))))
    have v1 : St1 (i + 1) k₃ := D1.frame _ _ _ t1 fun c hc o => b₃.extBut c o fun q => g1.2 (q ▸ hc)
    have v2 : St2 i k₃ := D2.frame _ _ _ t2 fun c hc o => b₃.extBut c o fun q => g2.2 (q ▸ hc)
    refine wpAny_bind (wpAny_bind (wpAny_onRaise ?_))
    refine wpAny_bind (m := Builtin.SmallTypes.nextOf (.ref i2)) (D2.item i _ _ _ hlt v2 fun y k₄ tk₄ py u2 b₄ => wpAny_pure ?_)
    have u1 : St1 (i + 1) k₄ := D1.frame _ _ _ v1 fun c hc o => b₄.extBut c o fun q => e2.2.2.2 (q ▸ hc)
    have o₄ : IsPair k₄ TO x b := b₄.extBut _ _ e2.2.2.1.symm o₃
    refine wpAny_bind (wpAny_seqItems o₄ rfl (wpAny_bind (wpAny_updateSeq_pair o₄ fun k₅ o₅ b₅ => wpAny_bind (wpAny_letGo (wpAny_pure (wpAny_pure ?_))))))
    replace o₅ : IsPair k₅ TO x y := o₅
    have w1 : St1 (i + 1) k₅ := D1.frame _ _ _ u1 fun c hc o => b₅.extBut c o fun q => g1.2 (q ▸ hc)
    have w2 : St2 (i + 1) k₅ := D2.frame _ _ _ u2 fun c hc o => b₅.extBut c o fun q => g2.2 (q ▸ hc)
    have all5 : ∀ c o, c ≠ TO → c ≠ i1 → c ≠ i2 → k₁.get? c = some o → k₅.get? c = some o := fun c o q r t e => b₅.extBut c o q (b₄.extBut c o t (b₃.extBut c o q (b₂.extBut c o r e)))
    have z₅ : IsZip k₅ z TI TO .ellipsis := all5 _ _ d.2.1.symm e1.1.symm e2.1.symm hz₁
    have size : k₅.objs.size = s.heap.objs.size := by rw [b₅.1, b₄.1, b₃.1, b₂.1, b₁.1]
    refine wpAny_bind (wpAny_seqItems o₅ rfl (wpAny_bind (wpAny_newTuple ?_)))
    refine wpAny_bind (m := Builtin.SmallTypes.ownedTupleHandOut (.ref z) (.ref k₅.objs.size)) ?_
    unfold Builtin.SmallTypes.ownedTupleHandOut
    have z₆ : IsZip (k₅.push { cls := .type "tuple", data := .seq #[x, y] }) z TI TO .ellipsis := Heap.get?_push_of_some _ z₅
    refine wpAny_bind (wpAny_setField_rec z₆ (by simp) fun k₇ z₇ b₇ => wpAny_setField_rec z₇ (by simp) fun k₈ z₈ b₈ => wpAny_pure ?_)
    have up : ∀ c o, c ≠ z → k₅.get? c = some o → k₈.get? c = some o := fun c o q e => b₈.extBut c o q (b₇.extBut c o q (Heap.get?_push_of_some _ e))
    have new : IsPair k₈ k₅.objs.size x y := b₈.extBut _ _ (Nat.ne_of_gt (Heap.lt_size z₅)) (b₇.extBut _ _ (Nat.ne_of_gt (Heap.lt_size z₅)) (Heap.get?_push_size _ rfl))
    rw [size] at z₈ new
    show Q (.done (.ret (.ref k₅.objs.size))) _
    rw [size]
    refine hQ x y k₈ tk₄ hlt px py ⟨z₈, up _ _ d.1 (all5 _ _ d.2.2 e1.2.1.symm e2.2.1.symm (keep1 _ _ d.1 hTI)), x, y, up _ _ d.2.1 o₅⟩ new (D1.frame _ _ _ w1 fun c hc o => up c o fun q => g1.1 (q ▸ hc))
      (D2.frame _ _ _ w2 fun c hc o => up c o fun q => g2.1 (q ▸ hc)) fun c o q1 q2 q3 q4 e => up c o q1 (all5 c o q2 q3 q4 (keep1 c o q1 e))
  · have hin : i = n := Nat.le_antisymm hi (Nat.not_lt.mp hlt)
    subst hin
    refine D1.done _ _ _ s1 fun k₂ e b₂ he => ?_
    obtain ⟨oe, ge, ce⟩ := he
    have z₂ : IsZip k₂ z TI TO .ellipsis := b₂ _ _ e1.1.symm hz₁
    have ne : e ≠ z := fun q => by subst q; rw [z₂] at ge; cases ge; simp at ce
    exact wpAny_setField_rec z₂ (by simp) fun k₃ _ b₃ => hE k₃ e _ rfl (fun c o q1 _ q3 _ x => b₃.extBut c o q1 (b₂ c o q3 (keep1 c o q1 x))) ⟨oe, b₃.extBut _ _ ne ge, ce⟩
end
end
section
noncomputable abbrev zp1 (h : Heap) (a : Addr) : Heap := h.push { cls := .type "tuple_iterator", data := .fields #[.ref a, .int 0 0] }
noncomputable abbrev zp2 (h : Heap) (a b : Addr) : Heap := zp1 (zp1 h a) b
noncomputable abbrev zp3 (h : Heap) (a b : Addr) : Heap := (zp2 h a b).push { cls := .type "tuple", data := .seq #[.ref h.objs.size, .ref (zp1 h a).objs.size] }
noncomputable abbrev zp4 (h : Heap) (a b : Addr) : Heap := (zp3 h a b).push { cls := .type "tuple", data := .seq #[.none, .none] }
noncomputable abbrev zp5 (h : Heap) (a b : Addr) : Heap := (zp4 h a b).push { cls := .type "zip", data := .fields #[.none, .bool false, .bool false, .ref (zp2 h a b).objs.size, .ref (zp3 h a b).objs.size] }
theorem zipNew (a b : Addr) (xs ys : Array Value) :
    Meets (Builtin.«zip.__new__» ⟨[.type "zip", .ref a, .ref b], []⟩) (fun _ R s => s.heap.IsTuple a xs ∧ s.heap.IsTuple b ys ∧ R (.ok (.ret (.ref (zp4 s.heap a b).objs.size))) { s with heap := zp5 s.heap a b }) :=
  .of_wp fun prog w A R s h => by
    obtain ⟨hp, g, d, tk, os⟩ := s; obtain ⟨ha, hb, h⟩ := h
    have hsub := sub_zip
    have hA : Heap.IsTuple (Shared.heap ⟨hp, g, d, tk, os⟩) a xs := ha
    have hB : Heap.IsTuple (Shared.heap ⟨hp.push { cls := .type "tuple_iterator", data := .fields #[.ref a, .int 0 0] }, g, d, tk, os⟩) b ys := Heap.IsTuple.push hb _
    wp_walk using wpAny_pyIter_tuple hA, wpAny_pyIter_tuple hB
    exact ⟨_, rfl, h⟩
section
variable {prog : Program} {w : World} {A : Around} {E : Value → Shared → Prop} {s : Shared}
theorem call_zipTup {a b : Addr} {xs ys : Array Value} {Q : Value → Shared → Prop} (ha : s.heap.IsTuple a xs) (hb : s.heap.IsTuple b ys)
    (h : ∀ z TI TO i1 i2 h', s.heap.objs.size ≤ i1 → i1 < i2 → i2 < TI → TI < TO → TO < z → z < h'.objs.size → ZipSt z TI TO i1 i2 .none h' → h'.IsTupleIter i1 a 0 → h'.IsTupleIter i2 b 0 →
      (∀ c o, s.heap.get? c = some o → h'.get? c = some o) → Q (.ref z) { s with heap := h' }) :
    wpAny (model prog w) A (call (.type "zip") [.ref a, .ref b]) Q E s := by
  refine callType_new F.called_zip (by decide) (F.typeCall_zip_2 _ _) (F.newCall_zip_2 _ _) (fun obj => F.args_object_init_3 obj _ _) F.entry_zip_new (zipNew a b xs ys) ⟨ha, hb, ?_⟩
  have q {h : Heap} {o : Obj} : h.objs.size < (h.push o).objs.size := by rw [Heap.size_push]; exact Nat.lt_succ_self _
  have k {h : Heap} {o x : Obj} {c : Addr} (e : h.get? c = some x) : (h.push o).get? c = some x := Heap.get?_push_of_some _ e
  have g5 : (zp5 s.heap a b).get? (zp4 s.heap a b).objs.size = some _ := Heap.get?_push_size _ rfl
  refine ⟨⟨_, g5, rfl⟩, h _ (zp2 s.heap a b).objs.size (zp3 s.heap a b).objs.size s.heap.objs.size (zp1 s.heap a).objs.size _ (Nat.le_refl _) q q q q q ⟨g5, k (k (Heap.get?_push_size _ rfl)), .none, .none, k (Heap.get?_push_size _ rfl)⟩
    ⟨_, k (k (k (k (Heap.get?_push_size _ rfl)))), rfl, rfl⟩ ⟨_, k (k (k (Heap.get?_push_size _ rfl))), rfl, rfl⟩ fun c o e => k (k (k (k (k e))))⟩
end
noncomputable abbrev ZSt (z TI TO i1 i2 a b : Addr) (xs ys : Array Value) (i : Nat) (h : Heap) : Prop := ZipSt z TI TO i1 i2 .none h ∧ (h.IsTupleIter i1 a i ∧ h.IsTuple a xs) ∧ h.IsTupleIter i2 b i ∧ h.IsTuple b ys
theorem zipWalks {prog : Program} {w : World} {A : Around} (hh : A.handled = none) {z TI TO i1 i2 a b : Addr} {xs ys : Array Value} (hn : ys.size = xs.size) (d : TI ≠ z ∧ TO ≠ z ∧ TI ≠ TO) (e1 : i1 ≠ z ∧ i1 ≠ TI ∧ i1 ≠ TO) (e2 : i2 ≠ z ∧ i2 ≠ TI ∧ i2 ≠ TO) (e3 : i1 ≠ i2)
    (ga : a ≠ z ∧ a ≠ TO ∧ a ≠ i1 ∧ a ≠ i2) (gb : b ≠ z ∧ b ≠ TO ∧ b ≠ i1 ∧ b ≠ i2) :
    WalksT prog w A z [z, TI, TO, i1, i2, a, b] [z, TO, i1, i2] xs.size (fun i vals => ∃ x y, xs[i]? = some x ∧ ys[i]? = some y ∧ vals = #[x, y]) (ZSt z TI TO i1 i2 a b xs ys)
      (fun i T h => ZipSt z TI TO i1 i2 (rawInt T) h ∧ ((h.IsTupleIter i1 a (i + 1) ∧ h.IsTuple a xs) ∧ h.IsTupleIter i2 b (i + 1) ∧ h.IsTuple b ys) ∧ T ∉ [z, TO, i1, i2]) where
  sub := fun c hc => by simp at hc ⊢; rcases hc with rfl | rfl | rfl | rfl <;> simp
  frame := fun i h h' ⟨⟨q1, q2, u, v, q3⟩, ⟨⟨o1, p1⟩, ⟨o2, p2⟩⟩, ⟨o3, p3⟩, ⟨o4, p4⟩⟩ hk => ⟨⟨hk _ (by simp) _ q1, hk _ (by simp) _ q2, u, v, hk _ (by simp) _ q3⟩, ⟨⟨o1, hk _ (by simp) _ p1.1, p1.2⟩, ⟨o2, hk _ (by simp) _ p2.1, p2.2⟩⟩, ⟨o3, hk _ (by simp) _ p3.1, p3.2⟩, ⟨o4, hk _ (by simp) _ p4.1, p4.2⟩⟩
  item := fun i s Q E hi ⟨hz, h1, h2⟩ hQ => by
    have hT : s.TypeIs (.ref z) "zip" := ⟨_, hz.1, rfl⟩
    have D2 := drawsTup (prog := prog) (w := w) (A := A.in1) hh i2 b gb.2.2.2 ys
    rw [hn] at D2
    refine wpAny_bind (wpAny_attempt (wpAny_callSpecial?_slot (name := Str.ofString "__next__") hT F.slot_zip_next (wpAny_call_entry F.slot_zip_next hT F.entry_zip_next
      (zip_draws (drawsTup (A := A.in1) hh i1 a ga.2.2.1 xs) D2 hz h1 h2 (Nat.le_of_lt hi) d ⟨e1.1, e1.2.1, e1.2.2, by simp [e3, gb.2.2.1.symm]⟩ ⟨e2.1, e2.2.1, e2.2.2, by simp [e3.symm, ga.2.2.2.symm]⟩ (by simp [e1.1.symm, e1.2.2.symm, ga.1.symm, ga.2.1.symm]) (by simp [e2.1.symm, e2.2.2.symm, gb.1.symm, gb.2.1.symm])
        (fun x y h' tk hlt px py zs new t1 t2 hk => ?_) fun h' e tk hin => absurd hin (Nat.ne_of_lt hi)) (F.args_zip_next_1 _))))
    refine ⟨_, rfl, wpAny_pure (hQ s.heap.objs.size #[x, y] h' tk ⟨x, y, px, py, rfl⟩ (Nat.le_refl _) ⟨_, new, rfl, _, rfl⟩ ⟨zs, ⟨t1, t2⟩, ?_⟩ fun c o hc e => ?_)⟩
    · obtain ⟨_, _, _, _, q3⟩ := hz
      obtain ⟨_, p1, _⟩ := h1.1
      obtain ⟨_, p2, _⟩ := h2.1
      have g : ∀ {c o}, s.heap.get? c = some o → s.heap.objs.size ≠ c := fun e => Nat.ne_of_gt (Heap.lt_size e)
      have hz : s.heap.objs.size ≠ z := g (by assumption)
      have hq := g q3
      have h1 := g p1
      have h2 := g p2
      simp only [List.mem_cons, List.not_mem_nil, or_false, not_or]
      exact ⟨hz, hq, h1, h2⟩
    · simp only [List.mem_cons, List.not_mem_nil, or_false, not_or] at hc
      exact hk c o hc.1 hc.2.1 hc.2.2.1 hc.2.2.2 e
  go := fun elts k pos i T s Q E ⟨⟨q1, q2, u, v, q3⟩, ⟨⟨p1, p2⟩, p3, p4⟩, hT⟩ hQ => by
    refine wpAny_letOwnedTupleGo_zip q1 fun h' z' b' => hQ h' ⟨⟨z', b'.extBut _ _ d.1 q2, u, v, b'.extBut _ _ d.2.1 q3⟩, ⟨p1.extBut b'.extBut e1.1, p2.extBut b'.extBut ga.1⟩, p3.extBut b'.extBut e2.1, p4.extBut b'.extBut gb.1⟩ fun c o hc e => ?_
    simp only [List.mem_cons, List.not_mem_nil, or_false, not_or] at hc
    exact b'.extBut _ _ hc.1 e
  apart := fun i T h hm => hm.2.2
  done := fun s Q E ⟨hz, h1, h2⟩ hQ => by
    have hT : s.TypeIs (.ref z) "zip" := ⟨_, hz.1, rfl⟩
    have D2 := drawsTup (prog := prog) (w := w) (A := A.in1) hh i2 b gb.2.2.2 ys
    rw [hn] at D2
    refine wpAny_bind (wpAny_attempt (wpAny_callSpecial?_slot (name := Str.ofString "__next__") hT F.slot_zip_next (wpAny_call_entry F.slot_zip_next hT F.entry_zip_next
      (zip_draws (drawsTup (A := A.in1) hh i1 a ga.2.2.1 xs) D2 hz h1 h2 (Nat.le_refl _) d ⟨e1.1, e1.2.1, e1.2.2, by simp [e3, gb.2.2.1.symm]⟩ ⟨e2.1, e2.2.1, e2.2.2, by simp [e3.symm, ga.2.2.2.symm]⟩ (by simp [e1.1.symm, e1.2.2.symm, ga.1.symm, ga.2.1.symm]) (by simp [e2.1.symm, e2.2.2.symm, gb.1.symm, gb.2.1.symm])
        (fun x y h' tk hlt => absurd hlt (Nat.lt_irrefl _)) fun h' e tk _ hk he => ?_) (F.args_zip_next_1 _))))
    obtain ⟨o, ho, hc⟩ := he
    refine wpAny_bind (wpAny_isInstance (T := "StopIteration") (b := true) ⟨o, ho, hc⟩ isSubtype_stop ?_)
    refine wpAny_pure (hQ _ _ fun c o hc e => ?_)
    simp only [List.mem_cons, List.not_mem_nil, or_false, not_or] at hc
    exact hk c o hc.1 hc.2.1 hc.2.2.1 hc.2.2.2 e
  self := fun i s Q E hst hQ => wpAny_pyIter_zip hst.1.1 hQ
end
section
/-- what a comprehension of pairs asks, from where its iterator stands -/
inductive CompAtT (prog : Program) (w : World) (A : Around) (h₀ : Heap) (L : Addr) (env : Env) (scope : Scope) (cl : List (Str × Addr)) (x x₂ : Str) (elt : Expr) (Done : Addr → Shared → Prop) (it : Value) (s₂ : Shared) : Prop
  | mk (I : Addr) (fp wr : List Addr) (n : Nat) (Pt : Nat → Array Value → Prop) (St : Nat → Heap → Prop) (Mid : Nat → Addr → Heap → Prop) (m : Str → Option Value) (news : Led) (J : Nat → List Value → Led → Prop) (f0 : it = .ref I) (f1 : WalksT prog w A I fp wr n Pt St Mid) (f2 : A.handled = none) (f3 : n ≤ sizeLine) (f4 : L ∉ fp) (f5 : (∀ b ∈ fp, b < s₂.heap.objs.size)) (f6 : (∀ b ∈ wr, h₀.get? b = none)) (f7 : (∀ p ∈ news, p.1 ∉ wr)) (f8 : St 0 s₂.heap) (f9 : Fr h₀ L s₂.heap m) (f10 : News h₀ L s₂.heap news) (f11 : J 0 [] news) (f12 : (∀ C D i vals ys nn oC mC own news₁ h tk, s₂.heap.objs.size ≤ C → s₂.heap.objs.size ≤ D → i < n → ys.length = i → Pt i vals → J i ys news₁ → Off C D wr news₁ → (∀ p ∈ own, p.1 ∈ fp) → NsO oC mC → (∀ v v₂, vals = #[v, v₂] → mC x = some v ∧ mC x₂ = some v₂) → St (i + 1) h → Fr h₀ L h m → News h₀ L h ((C, oC) :: (D, listOf ys.toArray nn) :: (own ++ news₁)) →
      wpAny (model prog w) A (eval elt (compEnvC scope cl C env)) (CompEnd h₀ L m C D wr ((C, oC) :: (D, listOf ys.toArray nn) :: own) (J (i + 1)) ys s₂) (fun _ _ => False) { s₂ with heap := h, toks := tk })) (f13 : (∀ i vals, Pt i vals → vals.size = 2)) (f14 : (∀ D h' tk news' ys nn, (∀ p ∈ news, p.1 < D) → Fr h₀ L h' m → News h₀ L h' ((D, listOf ys.toArray nn) :: news') → (∀ p ∈ news', p.1 ≠ D) → ys.length = n → J n ys news' → Done D { s₂ with heap := h', toks := tk }))
theorem pair_of {vals : Array Value} (h : vals.size = 2) : ∃ v v₂, vals = #[v, v₂] := by
  obtain ⟨l⟩ := vals
  rcases l with _ | ⟨v, _ | ⟨v₂, _ | ⟨x, l⟩⟩⟩
  · exact absurd h (by decide)
  · exact absurd (Nat.succ.inj h) (by decide)
  · exact ⟨v, v₂, rfl⟩
  · exact absurd (Nat.succ.inj (Nat.succ.inj h)) (Nat.succ_ne_zero _)
section
variable {prog : Program} {w : World} {A : Around} {s : Shared} {h₀ : Heap} {L : Addr} {m : Str → Option Value}
theorem comp_loopT {elt iter : Expr} {x x₂ : Str} {px px₂ tp : Pos} {k1 : Nat} {scope : Scope} {pos : Pos} {I D : Addr} {fp wr : List Addr} {n : Nat} {Pt : Nat → Array Value → Prop} {St : Nat → Heap → Prop} {Mid : Nat → Addr → Heap → Prop} {cenv : Env} {news : Led} {R : Result → Shared → Prop}
    (W : WalksT prog w A I fp wr n Pt St Mid) (hh : A.handled = none) (hx : cenv.kindOf x = some .local) (hx₂ : cenv.kindOf x₂ = some .local) (hxx : x ≠ x₂) (hp : (cenv.scope.kind == .class || (cenv.scope.kind == .module && cenv.locals != cenv.globals)) = false)
    (hCD : D ≠ cenv.locals) (hDf : D ∉ fp) (hCf : cenv.locals ∉ fp) (hLf : L ∉ fp) (hLC : L ≠ cenv.locals) (hLD : L ≠ D) (hCn : h₀.get? cenv.locals = none) (hDn : h₀.get? D = none) (hwr : ∀ b ∈ wr, h₀.get? b = none)
    (hoff : Off cenv.locals D wr news) (hst : St 0 s.heap) (hacc : s.heap.PlainList D #[]) (hn : ∃ m₀, s.heap.Ns cenv.locals m₀) (F : Fr h₀ L s.heap m) (N : News h₀ L s.heap news)
    (J : Nat → List Value → Led → Prop) (h0 : J 0 [] news) (hsz : n ≤ sizeLine) (h2 : ∀ i vals, Pt i vals → vals.size = 2)
    (step : ∀ i vals ys nn oC mC own news₁ h tk, i < n → ys.length = i → Pt i vals → J i ys news₁ → Off cenv.locals D wr news₁ → (∀ p ∈ own, p.1 ∈ fp) → NsO oC mC → (∀ v v₂, vals = #[v, v₂] → mC x = some v ∧ mC x₂ = some v₂) → St (i + 1) h → Fr h₀ L h m → News h₀ L h ((cenv.locals, oC) :: (D, listOf ys.toArray nn) :: (own ++ news₁)) →
      wpAny (model prog w) A (eval elt cenv) (CompEnd h₀ L m cenv.locals D wr ((cenv.locals, oC) :: (D, listOf ys.toArray nn) :: own) (J (i + 1)) ys s) (fun _ _ => False) { s with heap := h, toks := tk })
    (hR : ∀ h' tk news' ys nn oC mC, Fr h₀ L h' m → News h₀ L h' ((cenv.locals, oC) :: (D, listOf ys.toArray nn) :: news') → Off cenv.locals D wr news' → NsO oC mC → ys.length = n → J n ys news' → R (.ok .next) { s with heap := h', toks := tk }) :
    codeAny (model prog w) A (.compLoop (.ListComp elt [⟨.Tuple [.Name x px, .Name x₂ px₂] k1 tp, iter, [], 0⟩] scope pos) 0 (.ref I) (.ref D) cenv) R s := by
  have hLw : L ∉ wr := fun h => hLf (W.sub _ h)
  have hCw : cenv.locals ∉ wr := fun h => hCf (W.sub _ h)
  have hDw : D ∉ wr := fun h => hDf (W.sub _ h)
  have old : ∀ b o, h₀.get? b = some o → b ∉ wr := fun b o e hb => by rw [hwr b hb] at e; cases e
  refine LCp.codeAny_compLoop_pair
    (CI h₀ L m cenv.locals D wr n St J s) ?_ (n + 1) ?_
  · rintro k s' ⟨h', tk, ys, nn, oC, mC, news', i, rfl, hst', F', N', hC', hoff', hlen, hJ, hi, rfl⟩
    have next : ∀ h₁ : Heap, (∀ b o, b ∉ wr → h'.get? b = some o → h₁.get? b = some o) → Fr h₀ L h₁ m ∧ News h₀ L h₁ ((cenv.locals, oC) :: (D, listOf ys.toArray nn) :: news') := fun h₁ hk₁ =>
      ⟨⟨F'.ns.at' fun o e => hk₁ _ o hLw e, fun b o e => hk₁ b o (old b o e) (F'.keep b o e), F'.above⟩, fun p hp => ⟨hk₁ _ _ (by
        rcases List.mem_cons.mp hp with rfl | hp
        · exact hCw
        · rcases List.mem_cons.mp hp with rfl | hp
          · exact hDw
          · exact (hoff' p hp).2.2) (N' p hp).1, (N' p hp).2⟩⟩
    by_cases hlt : i < n
    · refine W.item i _ _ _ hlt hst' fun T vals h₁ tk₁ hP hTn hT hM hk₁ => ?_
      refine W.go _ _ _ i T _ _ _ hM fun g₁ hst₁ hk₂ => ?_
      have hT : g₁.IsTuple T vals := let ⟨o, e, r⟩ := hT; ⟨o, hk₂ _ _ (W.apart _ _ _ hM) e, r⟩
      obtain ⟨F₁, N₁⟩ := next g₁ fun b o hb e => hk₂ b o hb (hk₁ b o hb e)
      clear hk₁ hk₂ hM
      obtain ⟨v, v₂, rfl⟩ := pair_of (h2 _ _ hP)
      refine assign_Tuple_tuple hh hT rfl rfl fun g₂ he => ?_
      have he' : ∀ b o, g₁.get? b = some o → g₂.get? b = some o := fun b o e => he b o (Nat.ne_of_lt (Heap.lt_size e)) e
      have F₂ := F₁.keeps he'
      have N₂ := N₁.grown he'
      refine assignInOrder_cons (wpAny_assign_Name (wpAny_storeName_local hx (hC'.ns (N₂ _ (.head _)).1) (fun g₃ hn₃ hs₃ => ?_) hp))
      refine assignInOrder_cons (wpAny_assign_Name (wpAny_storeName_local hx₂ hn₃ (fun h₂ hn₂ hs₂ => assignInOrder_nil ?_) hp))
      have F₃ : Fr h₀ L h₂ m := (F₂.change hs₃ hLC.symm hCn).change hs₂ hLC.symm hCn
      have both : ∀ b, b ≠ cenv.locals → ∀ o, g₂.get? b = some o → h₂.get? b = some o := fun b hb o e => (hs₂.2 b hb).trans ((hs₃.2 b hb).trans e)
      have hst₂ : St (i + 1) h₂ := W.frame _ _ _ hst₁ fun b hb o e => both b (fun q => hCf (q ▸ hb)) o (he' b o e)
      obtain ⟨oC', eC', hC₂⟩ := ns_open hn₂
      have Nown : News h₀ L h₂ (ownOf h₀ fp h₂) := news_ownOf hLf
      have N₃ : News h₀ L h₂ ((cenv.locals, oC') :: (D, listOf ys.toArray nn) :: (ownOf h₀ fp h₂ ++ news')) := by
        intro p hp
        rcases List.mem_cons.mp hp with rfl | hp
        · exact ⟨eC', hLC.symm, hCn⟩
        · rcases List.mem_cons.mp hp with rfl | hp
          · have z := N₂ (D, listOf ys.toArray nn) (List.mem_cons_of_mem _ (.head _))
            exact ⟨both _ hCD _ z.1, z.2⟩
          · rcases List.mem_append.mp hp with hp | hp
            · exact Nown p hp
            · have z := N₂ p (List.mem_cons_of_mem _ (List.mem_cons_of_mem _ hp))
              exact ⟨both _ (hoff' p hp).1 _ z.1, z.2⟩
      refine wpAny_mono (step i _ ys nn oC' _ (ownOf h₀ fp h₂) news' h₂ _ hlt hlen hP hJ hoff' ownOf_sub hC₂ (fun a b e => ?_) hst₂ F₃ N₃) (fun y s₃ h₃ => ?_) fun _ _ e => e.elim
      · injection e with e
        injection e with e1 e
        injection e with e2 e
        subst e1 e2
        simp [hxx]
      obtain ⟨h₃, tk₃, news₂, rfl, F₃, N₃, ho₃, hJ₃⟩ := h₃
      have hDp : h₃.PlainList D ys.toArray := ⟨nn, (N₃ (D, listOf ys.toArray nn) (List.mem_cons_of_mem _ (.head _))).1⟩
      refine wpAny_list_append_plain (hsz := by rw [List.size_toArray, hlen]; omega) hDp fun h₄ hl₄ hs₄ => ?_
      obtain ⟨nn', e₄⟩ := hl₄
      refine ⟨n + 1 - (i + 1), by omega, h₄, tk₃, ys ++ [y], nn', oC', _, news₂, i + 1, rfl, ?_, F₃.change hs₄ hLD.symm hDn, ?_, hC₂, ho₃, by simp [hlen], hJ₃, hlt, rfl⟩
      · refine W.frame _ _ _ hst₂ fun b hb o e => ?_
        have e₃ : h₃.get? b = some o := by
          cases hq : h₀.get? b with
          | some o₀ =>
            have : o₀ = o := by have := ((F₂.change hs₃ hLC.symm hCn).change hs₂ hLC.symm hCn).keep b o₀ hq; rw [e] at this; exact (Option.some.inj this).symm
            exact this ▸ F₃.keep b o₀ hq
          | none => exact (N₃ (b, o) (List.mem_cons_of_mem _ (List.mem_cons_of_mem _ (List.mem_append_left _ (mem_ownOf hb hq e))))).1
        exact (hs₄.2 b fun q => hDf (q ▸ hb)).trans e₃
      · intro p hp
        rcases List.mem_cons.mp hp with rfl | hp
        · have z := N₃ (cenv.locals, oC') (.head _)
          exact ⟨(hs₄.2 _ hCD.symm).trans z.1, z.2⟩
        · rcases List.mem_cons.mp hp with rfl | hp
          · exact ⟨by rw [e₄]; simp, hLD.symm, hDn⟩
          · have z := N₃ p (List.mem_cons_of_mem _ (List.mem_cons_of_mem _ (List.mem_append_right _ hp)))
            exact ⟨(hs₄.2 _ (ho₃ p hp).2.1).trans z.1, z.2⟩
    · have hin : i = n := by omega
      subst hin
      refine W.done _ _ _ hst' fun h₁ tk₁ hk₁ => ?_
      obtain ⟨F₁, N₁⟩ := next h₁ hk₁
      exact hR h₁ tk₁ news' ys nn oC mC F₁ N₁ hoff' hC' hlen hJ
  · obtain ⟨nn, ea⟩ := hacc
    obtain ⟨m₀, hn⟩ := hn
    obtain ⟨oC, eC, hC⟩ := ns_open hn
    refine ⟨s.heap, s.toks, [], nn, oC, m₀, news, 0, rfl, hst, F, ?_, hC, hoff, rfl, h0, Nat.zero_le _, rfl⟩
    intro p hp
    rcases List.mem_cons.mp hp with rfl | hp
    · exact ⟨eC, hLC.symm, hCn⟩
    · rcases List.mem_cons.mp hp with rfl | hp
      · exact ⟨ea, hLD.symm, hDn⟩
      · exact N p hp
end
section
variable {prog : Program} {w : World} {A : Around} {E : Value → Shared → Prop} {s : Shared} {h₀ : Heap} {L : Addr} {env : Env}
theorem ListComp_frT {elt iter : Expr} {x x₂ : Str} {px px₂ tp : Pos} {k1 : Nat} {scope : Scope} {cl : List (Str × Addr)} {pos : Pos} {Q : Value → Shared → Prop}
    (hclos : closureFor scope env = pure cl) (hcell : ∀ y ∈ scope.names, y.2 ≠ .cell) (hkind : scope.kind = .function)
    (hnames : ∀ y ∈ scope.names, y.2 = .local → scope.names.lookup y.1 = some .local) (hx : scope.names.lookup x = some .local) (hx₂ : scope.names.lookup x₂ = some .local) (hxx : x ≠ x₂)
    (h : wpAny (model prog w) A (eval iter env) (fun xv s₁ => wpAny (model prog w) A (pyIter xv) (fun it s₂ => CompAtT prog w A h₀ L env scope cl x x₂ elt (fun D s' => Q (.ref D) s') it s₂) E s₁) E s)
    (hs : ∀ x, foldedSetIterable iter env x = pure x := by intro _; rfl) :
    wpAny (model prog w) A (eval (.ListComp elt [⟨.Tuple [.Name x px, .Name x₂ px₂] k1 tp, iter, [], 0⟩] scope pos) env) Q E s := by
  rw [eval_ListComp]
  refine wpAny_comprehension_free (use := none) rfl hs hclos hkind hnames (wpAny_mono h (fun xv s₁ h₁ => wpAny_mono h₁ (fun it s₂ h₂ => ?_) fun _ _ e => e) fun _ _ e => e)
  clear h
  obtain ⟨I, fp, wr, n, Pt, St, Mid, m, news, J, rfl, W, hh, hsz, hLf, hfp, hwr, hnw, hst, F, N, h0, step, h2, hdone⟩ := h₂
  refine wpAny_newObj_type (wpAny_newFunctionEnv hcell (by intro y hy; simp at hy) (fun h₁ hns₁ hsb₁ => ?_) hkind)
  dsimp only at hns₁ hsb₁ ⊢
  generalize hH2 : s₂.heap.push { cls := .type "list", dict := none, data := .seq ([] : List Value).toArray } = H2 at hns₁ hsb₁ ⊢
  have hC : H2.objs.size = s₂.heap.objs.size + 1 := by rw [← hH2, Heap.size_push]
  have hDC : s₂.heap.objs.size ≠ H2.objs.size := by rw [hC]; exact Nat.ne_of_lt (Nat.lt_succ_self _)
  have hCle : s₂.heap.objs.size ≤ H2.objs.size := by rw [hC]; exact Nat.le_succ _
  have below : ∀ b, b < s₂.heap.objs.size → b ≠ H2.objs.size ∧ b ≠ s₂.heap.objs.size := fun b hb => ⟨by rw [hC]; exact Nat.ne_of_lt (Nat.lt_succ_of_lt hb), Nat.ne_of_lt hb⟩
  have hDf : s₂.heap.objs.size ∉ fp := fun hm => Nat.lt_irrefl _ (hfp _ hm)
  have hCf : H2.objs.size ∉ fp := fun hm => by have := hfp _ hm; rw [hC] at this; exact Nat.lt_irrefl _ (Nat.lt_of_succ_lt this)
  have old : ∀ b o, s₂.heap.get? b = some o → h₁.get? b = some o := fun b o e => hsb₁.extBut b o (below b (Heap.lt_size e)).1 (Heap.get?_push_of_some _ (hH2 ▸ Heap.get?_push_of_some _ e))
  have hacc : h₁.PlainList s₂.heap.objs.size #[] := ⟨_, hsb₁.extBut _ _ hDC (Heap.get?_push_of_some _ (hH2 ▸ Heap.get?_push_size _ rfl))⟩
  have hst₁ : St 0 h₁ := W.frame _ _ _ hst fun b _ o e => old b o e
  have base : ∀ a, s₂.heap.objs.size ≤ a → h₀.get? a = none := fun a ha => by
    cases e : h₀.get? a with
    | none => rfl
    | some o' => exact absurd (Heap.lt_size (F.keep _ _ e)) (Nat.not_lt.mpr ha)
  have hoff : Off H2.objs.size s₂.heap.objs.size wr news := fun p hp => ⟨(below _ (Heap.lt_size (N p hp).1)).1, (below _ (Heap.lt_size (N p hp).1)).2, hnw p hp⟩
  have loop : ∀ s₃ : Shared, s₃ = { s₂ with heap := h₁, toks := s₂.toks + ([] : List (Str × Value)).length } →
      codeAny (model prog w) A (.compLoop (.ListComp elt [⟨.Tuple [.Name x px, .Name x₂ px₂] k1 tp, iter, [], 0⟩] scope pos) 0 (.ref I) (.ref s₂.heap.objs.size) (compEnvC scope cl H2.objs.size env))
        (compPost (model prog w) A E none Q (.ref s₂.heap.objs.size) H2.objs.size) s₃ := by
    rintro s₃ rfl
    refine comp_loopT (m := m) (L := L) (h₀ := h₀) (cenv := compEnvC scope cl H2.objs.size env) W hh (lookup_relabel_local hx) (lookup_relabel_local hx₂) hxx (by simp [compEnvC, relabel, hkind]) hDC hDf hCf hLf (below L F.ns.lt).1 (below L F.ns.lt).2 (base _ hCle) (base _ (Nat.le_refl _)) hwr
      hoff hst₁ hacc ⟨_, hns₁⟩ (F.keeps old) (N.grown old) J h0 hsz h2
      (fun i v ys nn oC mC own news₁ h tk hi hlen hP hJ ho hown hNs hmx hst' F' N' => ?_) fun h' tk news' ys nn oC mC F' N' ho hNs hlen hJ => ?_
    · exact step _ _ i v ys nn oC mC own news₁ h tk hCle (Nat.le_refl _) hi hlen hP hJ ho hown hNs hmx hst' F' N'
    · have z := N' (H2.objs.size, oC) (.head _)
      refine ⟨mC, hNs.ns z.1, fun h'' hs' => hdone _ h'' tk news' ys nn (fun p hp => Heap.lt_size (N p hp).1) (F'.change hs' z.2.1 z.2.2) (fun p hp => ?_) (fun p hp => (ho p hp).2.1) hlen hJ⟩
      have y := N' p (List.mem_cons_of_mem _ hp)
      refine ⟨(hs'.2 _ ?_).trans y.1, y.2⟩
      rcases List.mem_cons.mp hp with rfl | hp
      · exact hDC
      · exact (ho p hp).1
  exact codeAny_compStart_list (loop _ rfl) (W.self 0 _ _ _ hst₁ (loop _ rfl))
end
end
section
theorem memA {α : Type} {p : α} {a : List α} (h : p ∈ a) : List.Mem p a := h
/-- objects that may be changed -/
noncomputable def Chg (o : Obj) : Prop := o.cls = .type "list" ∨ o.cls = .type "dict"
/-- all but what `M` names is as it was -/
noncomputable def Keeps (M : List Addr) (news n' : Led) : Prop := ∀ p ∈ news, (Chg p.2 → p.1 ∉ M) → p ∈ n'
noncomputable def Apart (M M' : List Addr) : Prop := ∀ a ∈ M, a ∉ M'
noncomputable def Fresh (M : List Addr) (news : Led) : Prop := ∀ a ∈ M, ∀ p ∈ news, p.1 ≠ a
noncomputable def Held (M : List Addr) (news : Led) : Prop := ∀ a ∈ M, ∃ o, (a, o) ∈ news
theorem Apart.symm {M M' : List Addr} (h : Apart M M') : Apart M' M := fun a ha hb => h a hb ha
theorem Held.apart {M M' : List Addr} {news : Led} (h : Held M news) (f : Fresh M' news) : Apart M M' := fun a ha hb => let ⟨_, e⟩ := h a ha; f a hb _ e rfl
theorem Keeps.of_sub {M : List Addr} {news n' : Led} (h : ∀ p ∈ news, p ∈ n') : Keeps M news n' := fun p hp _ => h p hp
theorem Keeps.trans {M : List Addr} {a b c : Led} (h : Keeps M a b) (h' : Keeps M b c) : Keeps M a c := fun p hp q => h' p (h p hp q) q
theorem Keeps.more {M M' : List Addr} {a b : Led} (h : Keeps M a b) (hs : ∀ x ∈ M, x ∈ M') : Keeps M' a b := fun p hp q => h p hp fun c hm => q c (hs _ hm)
theorem Keeps.upd {news : Led} {M : List Addr} {d : Addr} {o : Obj} (hd : d ∈ M) (hc : ∀ p ∈ news, p.1 = d → Chg p.2) : Keeps M news (upd news d o) := fun p hp q => upd_other hp fun e => q (hc p hp e) (e ▸ hd)
theorem VTup.keep {w : World} {M : List Addr} {news n' : Led} {a : Addr} {vs : List Value} (T : VTup w news a vs) (k : Keeps M news n') : VTup w n' a vs :=
  T.imp (fun ⟨n, e⟩ => ⟨n, k _ e fun c => by rcases c with c | c <;> exact absurd c (by simp)⟩) id
theorem ColIn.keep {w : World} {M : List Addr} {news n' : Led} {v : Value} {c : Col} (T : ColIn w news v c) (k : Keeps M news n') : ColIn w n' v c :=
  let ⟨a, t1, t2, t3, t4, e, x⟩ := T; ⟨a, t1, t2, t3, t4, e, x.keep k⟩

/-- a rectangle -/
structure Box where
  w : Nat
  h : Nat
  l : Int
  t : Int
noncomputable def Box.Ok (b : Box) : Prop := (1 ≤ b.w ∧ b.w ≤ 4) ∧ (1 ≤ b.h ∧ b.h ≤ 3) ∧ (-2 ≤ b.l ∧ b.l ≤ 2) ∧ -2 ≤ b.t ∧ b.t ≤ 2
noncomputable def Box.Has (b : Box) (x y : Int) : Prop := (b.l ≤ x ∧ x < b.l + b.w) ∧ b.t ≤ y ∧ y < b.t + b.h

noncomputable def LstO (vs : List Value) (o : Obj) : Prop := o.cls = .type "list" ∧ ∃ n, o.data = .seq vs.toArray n
inductive RowIn (w : World) (news : Led) (r : Addr) (n : Nat) (g : Nat → Col) : Prop
  | mk (vs : List Value) (o : Obj) (m : (r, o) ∈ news) (z : LstO vs o) (l : vs.length = n) (x : ∀ i v, vs[i]? = some v → ColIn w news v (g i))
theorem RowIn.keep {w : World} {M : List Addr} {news n' : Led} {r : Addr} {n : Nat} {g : Nat → Col} (T : RowIn w news r n g) (k : Keeps M news n') (hr : r ∉ M) : RowIn w n' r n g :=
  let ⟨vs, m, e, z, l, x⟩ := T; ⟨vs, m, k _ e fun _ => hr, z, l, fun i v q => (x i v q).keep k⟩
inductive canDict (bx : Box) (cl : Addr) (o : Obj) : Prop
  | mk (h1 h2 h3 h4 h5 : Int) (k1 k2 k3 k4 k5 t1 t2 t3 t4 : Tok) (n : Nat) (e : o = dictOf [⟨h1, .str "width" k1, .int bx.w t1⟩, ⟨h2, .str "height" k2, .int bx.h t2⟩, ⟨h3, .str "left" k3, .int bx.l t3⟩, ⟨h4, .str "top" k4, .int bx.t t4⟩, ⟨h5, .str "cells" k5, .ref cl⟩] n)
structure CanAt (w : World) (news : Led) (c d cl : Addr) (rs : List Addr) (bx : Box) (f : Int → Int → Col) : Prop where
  inst : (c, instObj 301 d) ∈ news
  dict : ∃ o, (d, o) ∈ news ∧ canDict bx cl o
  cells : ∃ n, (cl, listOf (rs.map Value.ref).toArray n) ∈ news
  len : rs.length = bx.h
  row : ∀ (j : Nat) r, rs[j]? = some r → RowIn w news r bx.w fun i => f (bx.l + i) (bx.t + j)
  nodup : (d :: cl :: rs).Nodup
/-- a canvas of the ledger; `M` are its parts -/
inductive CanIn (w : World) (news : Led) (v : Value) (M : List Addr) (bx : Box) (f : Int → Int → Col) : Prop
  | mk (c d cl : Addr) (rs : List Addr) (e : v = .ref c) (eM : M = d :: cl :: rs) (T : CanAt w news c d cl rs bx f)
theorem CanAt.keep {w : World} {M : List Addr} {news n' : Led} {c d cl : Addr} {rs : List Addr} {bx : Box} {f : Int → Int → Col} (T : CanAt w news c d cl rs bx f) (k : Keeps M news n') (ha : Apart (d :: cl :: rs) M) : CanAt w n' c d cl rs bx f where
  inst := k _ T.inst fun c => by rcases c with c | c <;> exact absurd c (by simp)
  dict := let ⟨o, e, x⟩ := T.dict; ⟨o, k _ e fun _ => ha _ (.head _), x⟩
  cells := let ⟨n, e⟩ := T.cells; ⟨n, k _ e fun _ => ha _ (.tail _ (.head _))⟩
  len := T.len
  row := fun j r h => (T.row j r h).keep k (ha _ (.tail _ (.tail _ (List.mem_of_getElem? h))))
  nodup := T.nodup
theorem CanIn.keep {w : World} {M M' : List Addr} {news n' : Led} {v : Value} {bx : Box} {f : Int → Int → Col} (T : CanIn w news v M bx f) (k : Keeps M' news n') (ha : Apart M M') : CanIn w n' v M bx f := by
  obtain ⟨c, d, cl, rs, rfl, rfl, T⟩ := T
  exact ⟨c, d, cl, rs, rfl, rfl, T.keep k ha⟩
theorem CanIn.sub {w : World} {M : List Addr} {news n' : Led} {v : Value} {bx : Box} {f : Int → Int → Col} (T : CanIn w news v M bx f) (k : ∀ p ∈ news, p ∈ n') : CanIn w n' v M bx f :=
  T.keep (M' := []) (Keeps.of_sub k) fun _ _ h => nomatch h
theorem CanIn.held {w : World} {M : List Addr} {news : Led} {v : Value} {bx : Box} {f : Int → Int → Col} (T : CanIn w news v M bx f) : Held M news := by
  obtain ⟨c, d, cl, rs, rfl, rfl, T⟩ := T
  intro a ha
  rcases List.mem_cons.mp ha with rfl | ha
  · let ⟨o, e, _⟩ := T.dict; exact ⟨o, e⟩
  rcases List.mem_cons.mp ha with rfl | ha
  · let ⟨n, e⟩ := T.cells; exact ⟨_, e⟩
  obtain ⟨j, hj⟩ := List.mem_iff_getElem?.mp ha
  let ⟨vs, m, e, _, _, _⟩ := T.row j a hj
  exact ⟨_, e⟩
noncomputable def setF (f : Int → Int → Col) (x y : Int) (c : Col) : Int → Int → Col := fun a b => if a = x ∧ b = y then c else f a b
/-- the row and the place in it -/
theorem CanAt.at {w : World} {news : Led} {c d cl : Addr} {rs : List Addr} {bx : Box} {f : Int → Int → Col} {x y : Int} (T : CanAt w news c d cl rs bx f) (hx : bx.Has x y) :
    ∃ (r : Addr) (vs : List Value) (o : Obj) (v : Value), rs[(y - bx.t).toNat]? = some r ∧ (r, o) ∈ news ∧ LstO vs o ∧ vs.length = bx.w ∧ vs[(x - bx.l).toNat]? = some v ∧ ColIn w news v (f x y) ∧ (∀ (i : Nat) v, vs[i]? = some v → ColIn w news v (f (bx.l + i) y)) := by
  obtain ⟨⟨h1, h2⟩, h3, h4⟩ := hx
  have hj : (y - bx.t).toNat < rs.length := by rw [T.len]; omega
  obtain ⟨vs, m, e, z', l, g⟩ := T.row _ _ (List.getElem?_eq_getElem hj)
  have hi : (x - bx.l).toNat < vs.length := by rw [l]; omega
  have ey : bx.t + ((y - bx.t).toNat : Int) = y := by omega
  have ex : bx.l + ((x - bx.l).toNat : Int) = x := by omega
  rw [ey] at g
  have z := g _ _ (List.getElem?_eq_getElem hi)
  simp only [ex] at z
  exact ⟨_, vs, m, _, List.getElem?_eq_getElem hj, e, z', l, List.getElem?_eq_getElem hi, z, g⟩
/-- a dot put -/
theorem CanAt.put {w : World} {h₀ h : Heap} {L : Addr} {news : Led} {c d cl r : Addr} {rs : List Addr} {bx : Box} {f : Int → Int → Col} {x y : Int} {vs : List Value} {o o' : Obj} {v : Value} {cv : Col} (T : CanAt w news c d cl rs bx f) (N : News h₀ L h news) (hx : bx.Has x y)
    (hr : rs[(y - bx.t).toNat]? = some r) (hm : (r, o) ∈ news) (ho : LstO vs o) (ho' : LstO (vs.set (x - bx.l).toNat v) o') (hl : vs.length = bx.w) (hg : ∀ (i : Nat) v, vs[i]? = some v → ColIn w news v (f (bx.l + i) y)) (hv : ColIn w news v cv) :
    CanAt w (upd news r o') c d cl rs bx (setF f x y cv) ∧ Keeps (d :: cl :: rs) news (upd news r o') := by
  have hin : r ∈ rs := List.mem_of_getElem? hr
  obtain ⟨nd1, nd2⟩ := List.nodup_cons.mp T.nodup
  obtain ⟨nd2, nd3⟩ := List.nodup_cons.mp nd2
  have hrd : d ≠ r := fun q => nd1 (q ▸ .tail _ hin)
  have hrc : cl ≠ r := fun q => nd2 (q ▸ hin)
  have K : ∀ p ∈ news, (Chg p.2 → p.1 ≠ r) → p ∈ upd news r o' := fun p hp q => upd_other hp fun e => q (by
    have : p.2 = o := news_same N (a := r) (by rw [← e]; exact hp) hm
    rw [this]; exact Or.inl ho.1) e
  have K' : Keeps [r] news (upd news r o') := fun p hp q => K p hp fun c e => q c (by rw [e]; exact .head _)
  refine ⟨⟨K _ T.inst fun q => by rcases q with q | q <;> exact absurd q (by simp), ?_, ?_, T.len, fun j r' hj => ?_, T.nodup⟩, fun p hp q => K p hp fun c e => q c (by rw [e]; exact .tail _ (.tail _ hin))⟩
  · obtain ⟨o, e, z⟩ := T.dict
    exact ⟨o, K _ e fun _ => hrd, z⟩
  · obtain ⟨n, e⟩ := T.cells
    exact ⟨n, K _ e fun _ => hrc⟩
  · obtain ⟨⟨h1, h2⟩, h3, h4⟩ := hx
    by_cases hjy : j = (y - bx.t).toNat
    · subst hjy
      obtain rfl : r = r' := Option.some.inj (hr.symm.trans hj)
      refine ⟨vs.set (x - bx.l).toNat v, o', upd_head, ho', by simpa using hl, fun i u hu => ?_⟩
      have ey : bx.t + ((y - bx.t).toNat : Int) = y := by omega
      simp only [ey]
      have hi : i < vs.length := by simpa using (List.getElem?_eq_some_iff.mp hu).1
      by_cases hix : i = (x - bx.l).toNat
      · subst hix
        rw [List.getElem?_set_self hi] at hu
        obtain rfl := Option.some.inj hu
        have ex : bx.l + ((x - bx.l).toNat : Int) = x := by omega
        rw [ex]
        unfold setF
        rw [if_pos ⟨rfl, rfl⟩]
        exact hv.keep K'
      · rw [List.getElem?_set_ne (Ne.symm hix)] at hu
        have : ¬ (bx.l + (i : Int) = x ∧ y = y) := fun q => hix (by omega)
        unfold setF
        rw [if_neg this]
        exact (hg i u hu).keep K'
    · have : setF f x y cv = setF f x y cv := rfl
      have hne : r' ≠ r := fun q => by
        subst q
        exact hjy ((List.getElem?_inj (List.getElem?_eq_some_iff.mp hj).1 nd3).mp (hj.trans hr.symm))
      have z := (T.row j r' hj).keep K' (by simpa using hne)
      refine (show (fun i : Nat => setF f x y cv (bx.l + i) (bx.t + j)) = fun i : Nat => f (bx.l + i) (bx.t + j) from ?_) ▸ z
      funext i
      unfold setF
      rw [if_neg]
      intro q
      apply hjy
      omega
section
variable {prog : Program} {w : World} {A : Around} {E : Value → Shared → Prop} {s : Shared} {h₀ : Heap} {L : Addr} {m : Str → Option Value} {news : Led}
theorem LstO.isList {vs : List Value} {o : Obj} {h : Heap} {a : Addr} (x : LstO vs o) (e : h.get? a = some o) : h.IsList a vs.toArray := let ⟨c, n, d⟩ := x; ⟨o, e, c, n, d⟩
theorem news_upd {h h' : Heap} {a : Addr} {o o' : Obj} (N : News h₀ L h news) (hm : (a, o) ∈ news) (e : h'.get? a = some o') (hs : Heap.SameBut a h h') : News h₀ L h' (upd news a o') := by
  intro p hp
  rcases List.mem_cons.mp hp with rfl | hp
  · exact ⟨e, (N _ hm).2⟩
  · obtain ⟨hp, hne⟩ := List.mem_filter.mp hp
    have z := N p hp
    exact ⟨(hs.2 _ (by simpa using hne)).trans z.1, z.2⟩
theorem setItem_led {a : Addr} {o : Obj} {vs : List Value} {k : Int} {t : Tok} {v : Value} {Q : Unit → Shared → Prop} (F : Fr h₀ L s.heap m) (N : News h₀ L s.heap news) (hm : (a, o) ∈ news) (ho : LstO vs o) (h0 : 0 ≤ k) (hfit : k < 2 ^ 63) (hn : k < vs.length)
    (hQ : ∀ h' o', LstO (vs.set k.toNat v) o' → Fr h₀ L h' m → News h₀ L h' (upd news a o') → Q () { s with heap := h' }) : wpAny (model prog w) A (setItem (.ref a) (.int k t) v) Q E s := by
  refine wpAny_setItem_list (ho.isList (N _ hm).1) h0 hfit (by simpa using hn) fun h' hl hs => ?_
  obtain ⟨o', e, c, n, d⟩ := hl
  exact hQ h' o' ⟨c, n, by rw [d]; simp⟩ (F.change hs (N _ hm).2.1 (N _ hm).2.2) (news_upd N hm e hs)
theorem sub_list {value slice : Expr} {a : Addr} {o : Obj} {vs : List Value} {k : Int} {u : Tok} {x : Value} {Q : Value → Shared → Prop} (N : News h₀ L s.heap news) (hm : (a, o) ∈ news) (ho : LstO vs o) (h0 : 0 ≤ k) (hfit : k < 2 ^ 63) (hx : vs[k.toNat]? = some x) (h : Q x s)
    (hs : subscripted slice false (.ref a) (.int k u) = operate [.ref a, .int k u] (getItem (.ref a) (.int k u)) := by with_unfolding_all rfl) :
    wpAny (model prog w) A (subscriptTail value slice (.ref a) (.int k u)) Q E s :=
  tail_any (ho.isList (N _ hm).1).typeIs slot_list_getitem.lookup (wpAny_getItem_list (ho.isList (N _ hm).1) h0 hfit (by simpa using hx) h) hs
end
end
section
section
variable {prog : Program} {w : World} {A : Around} {E : Value → Shared → Prop} {s : Shared} {h₀ : Heap} {L : Addr} {env : Env} {m : Str → Option Value} {news : Led}
noncomputable abbrev itR (h : Heap) (a b : Int) : Heap := h.push { cls := .type "range_iterator", data := .fields #[rawInt a, rawInt (Builtin.Range.rangeSize a b 1), rawInt 1] }
noncomputable abbrev itL (h : Heap) (a : Addr) : Heap := h.push { cls := .type "list_iterator", data := .fields #[.ref a, .int 0 0] }
theorem own_off {I a : Addr} {own : Led} {news : Led} (hown : ∀ p ∈ own, p.1 ∈ [I, a]) (hI : ∀ q ∈ news, q.1 < I) : ∀ p ∈ own, p.1 = a ∨ ∀ q ∈ news, q.1 < p.1 := fun p hp => by
  have := hown p hp
  simp only [List.mem_cons, List.not_mem_nil, or_false] at this
  rcases this with e | e
  · exact Or.inr (e ▸ hI)
  · exact Or.inl e
/-- a for over a range by ones -/
theorem forAt_range {target : Expr} {body : List Stmt} {Q : Flow → Shared → Prop} {r : Addr} {a b : Int} {t₀ u₀ v₀ : Tok} {n : Nat}
    (hh : A.handled = none) (hr : IsRange s.heap r a b 1 t₀ u₀ v₀) (hsmall : Builtin.Range.small a b 1 = true) (hn : Builtin.Range.rangeSize a b 1 = (n : Int)) (F : Fr h₀ L s.heap m) (N : News h₀ L s.heap news) (hlet : ∀ it v, letOwnedTupleGo target it v = pure ()) (J : Nat → (Str → Option Value) → Led → Prop) (h0 : J 0 m news)
    (step : ∀ wr i t m₁ own news₁ h tk, WrOk wr news own → i < n → J i m₁ news₁ → (∀ p ∈ news₁, p.1 ∉ wr) → (∀ p ∈ own, ∀ q ∈ news, q.1 < p.1) → Fr h₀ L h m₁ → News h₀ L h (own ++ news₁) →
      wpAny (model prog w) A (assign target env (.int (a + i) t)) (fun _ s₃ => wpAny (model prog w) A (execs body env) (ForStep h₀ L wr own (J (i + 1)) s Q) (fun _ _ => False) s₃) (fun _ _ => False) { s with heap := h, toks := tk })
    (done : ∀ h' tk m' news', Fr h₀ L h' m' → News h₀ L h' news' → J n m' news' → Q .next { s with heap := h', toks := tk }) :
    wpAny (model prog w) A (pyIter (.ref r)) (fun it s₂ => ForAt prog w A h₀ L env target body Q it s₂) E s := by
  refine wpAny_pyIter_range hr hsmall ?_
  have W : Walks prog w A s.heap.objs.size [s.heap.objs.size] [s.heap.objs.size] n (fun i v => ∃ t, v = .int (a + i * 1) t)
      (fun i h => IsRangeIter h s.heap.objs.size (a + (i : Nat) * 1) ((n : Int) - (i : Nat)) 1) := Walks.range hh _ a 1 n
  have up' : ∀ b' o, s.heap.get? b' = some o → (itR s.heap a b).get? b' = some o := fun b' o e => Heap.get?_push_of_some _ e
  have below : ∀ p ∈ news, p.1 < s.heap.objs.size := fun p hp => Heap.lt_size (N p hp).1
  refine ⟨_, _, _, n, _, _, m, news, J, rfl, W, ?_, ?_, ?_, (by show IsRangeIter _ _ _ _ _; rw [hn]; simpa using Heap.get?_push_size _ rfl), F.keeps up', N.grown up', h0, ?_, ?_, ?_⟩
  · intro hm
    exact absurd F.ns.lt ((List.mem_singleton.mp hm) ▸ Nat.lt_irrefl _)
  · intro b' hb
    rw [List.mem_singleton.mp hb]
    exact next_is_new F
  · intro p hp hI
    exact absurd (Heap.lt_size (N p hp).1) ((List.mem_singleton.mp hI) ▸ Nat.lt_irrefl _)
  · intro i v s Q E _ hq
    exact wpAny_of_eq (hlet _ _) hq
  · intro i v m₁ own news₁ h tk hi hP hJ ho hown hst F' N'
    obtain ⟨t, rfl⟩ := hP
    rw [Int.mul_one]
    exact step _ i t m₁ own news₁ h tk (fun b hb => by rw [List.mem_singleton.mp hb]; exact ⟨below, _, hown.2 _ (.head _) _ (next_is_new F) hst, .inr (.inl rfl)⟩) hi hJ ho (fun p hp q hq => by rw [List.mem_singleton.mp (hown.1 p hp)]; exact below q hq) F' N'
  · intro h' tk m' news' F' N' _ hJ
    exact done h' tk m' news' F' N' hJ
theorem letGo_name {x : Str} {px : Pos} {I v : Value} {Q : Unit → Shared → Prop} (hq : Q () s) : wpAny (model prog w) A (letOwnedTupleGo (.Name x px) I v) Q E s := wpAny_pure hq
theorem letGo_tuple {elts : List Expr} {k : Nat} {pos : Pos} {v : Value} {I l : Addr} {i : Nat} {Q : Unit → Shared → Prop} (hit : s.heap.IsListIter I l i) (hq : Q () s) : wpAny (model prog w) A (letOwnedTupleGo (.Tuple elts k pos) (.ref I) v) Q E s := by
  cases v with
  | ref T => exact wpAny_letOwnedTupleGo_listiter hit hq
  | _ => exact wpAny_pure hq
/-- a for over a list of the ledger -/
theorem forAt_list {target : Expr} {body : List Stmt} {Q : Flow → Shared → Prop} {a : Addr} {o : Obj} {vs : List Value}
    (hh : A.handled = none) (hm : (a, o) ∈ news) (ho : LstO vs o) (F : Fr h₀ L s.heap m) (N : News h₀ L s.heap news)
    (hlet : ∀ v I l k (s : Shared) (Q : Unit → Shared → Prop) (E : Value → Shared → Prop), s.heap.IsListIter I l k → Q () s → wpAny (model prog w) A (letOwnedTupleGo target (.ref I) v) Q E s) (J : Nat → (Str → Option Value) → Led → Prop) (h0 : J 0 m news)
    (step : ∀ wr i v m₁ own news₁ h tk, WrOk wr news own → vs[i]? = some v → J i m₁ news₁ → (∀ p ∈ news₁, p.1 ∉ wr) → (∀ p ∈ own, p.1 = a ∨ ∀ q ∈ news, q.1 < p.1) → Fr h₀ L h m₁ → News h₀ L h (own ++ news₁) →
      wpAny (model prog w) A (assign target env v) (fun _ s₃ => wpAny (model prog w) A (execs body env) (ForStep h₀ L wr own (J (i + 1)) s Q) (fun _ _ => False) s₃) (fun _ _ => False) { s with heap := h, toks := tk })
    (done : ∀ h' tk m' news', Fr h₀ L h' m' → News h₀ L h' news' → J vs.length m' news' → Q .next { s with heap := h', toks := tk }) :
    wpAny (model prog w) A (pyIter (.ref a)) (fun it s₂ => ForAt prog w A h₀ L env target body Q it s₂) E s := by
  have hl : s.heap.IsList a vs.toArray := ho.isList (N _ hm).1
  have hlt : a < s.heap.objs.size := Heap.lt_size (N _ hm).1
  refine wpAny_pyIter_list hl ?_
  have W := Walks.list (prog := prog) (w := w) hh s.heap.objs.size a (Nat.ne_of_lt hlt) vs.toArray
  rw [List.size_toArray] at W
  have up' : ∀ b' o, s.heap.get? b' = some o → (itL s.heap a).get? b' = some o := fun b' o e => Heap.get?_push_of_some _ e
  have below : ∀ p ∈ news, p.1 < s.heap.objs.size := fun p hp => Heap.lt_size (N p hp).1
  refine ⟨_, _, _, vs.length, _, _, m, news, J, rfl, W, ?_, ?_, ?_, ⟨⟨_, Heap.get?_push_size _ rfl, rfl, rfl⟩, hl.at fun o e => up' _ _ e⟩, F.keeps up', N.grown up', h0, ?_, ?_, ?_⟩
  · intro hm'
    rcases List.mem_cons.mp hm' with e | hm'
    · exact absurd F.ns.lt (e ▸ Nat.lt_irrefl _)
    · exact (N _ hm).2.1 (List.mem_singleton.mp hm').symm
  · intro b' hb
    rw [List.mem_singleton.mp hb]
    exact next_is_new F
  · intro p hp hI
    exact absurd (Heap.lt_size (N p hp).1) ((List.mem_singleton.mp hI) ▸ Nat.lt_irrefl _)
  · intro i v s Q E hst hq
    exact hlet v _ _ _ s Q E hst.1 hq
  · intro i v m₁ own news₁ h tk hi hP hJ ho' hown hst F' N'
    exact step _ i v m₁ own news₁ h tk (fun b hb => by obtain ⟨o, e, c, _⟩ := hst.1; rw [List.mem_singleton.mp hb]; exact ⟨below, o, hown.2 _ (.head _) _ (next_is_new F) e, .inl c⟩) (by simpa using hP) hJ ho' (own_off hown.1 below) F' N'
  · intro h' tk m' news' F' N' _ hJ
    exact done h' tk m' news' F' N' hJ
/-- a comprehension over a list of the ledger -/
theorem compAt_list {scope : Scope} {cl : List (Str × Addr)} {x : Str} {elt : Expr} {up : (Str → Option Value) → Addr → Str → Option Value} {Done : Addr → Shared → Prop} {a : Addr} {o : Obj} {vs : List Value}
    (hh : A.handled = none) (hm : (a, o) ∈ news) (ho : LstO vs o) (hsz : vs.length ≤ sizeLine) (F : Fr h₀ L s.heap m) (N : News h₀ L s.heap news) (J : Nat → List Value → Led → Prop) (h0 : J 0 [] news)
    (step : ∀ C D wr i v ys nn oC mC own news₁ h tk, (∀ p ∈ news, p.1 < C) → (∀ p ∈ news, p.1 < D) → WrOk wr news own → vs[i]? = some v → ys.length = i → J i ys news₁ → Off C D wr news₁ → (∀ p ∈ own, p.1 = a ∨ ∀ q ∈ news, q.1 < p.1) → NsO oC mC → mC x = some v → Fr h₀ L h m → News h₀ L h ((C, oC) :: (D, listOf ys.toArray nn) :: (own ++ news₁)) →
      wpAny (model prog w) A (eval elt (compEnvC scope cl C env)) (CompEnd h₀ L m C D wr ((C, oC) :: (D, listOf ys.toArray nn) :: own) (J (i + 1)) ys s) (fun _ _ => False) { s with heap := h, toks := tk })
    (done : ∀ D h' tk news' ys nn, (∀ p ∈ news, p.1 < D) → Fr h₀ L h' (up m D) → News h₀ L h' ((D, listOf ys.toArray nn) :: news') → (∀ p ∈ news', p.1 ≠ D) → ys.length = vs.length → J vs.length ys news' → Done D { s with heap := h', toks := tk }) :
    wpAny (model prog w) A (pyIter (.ref a)) (fun it s₂ => CompAt prog w A h₀ L env scope cl x elt up Done it s₂) E s := by
  have hl : s.heap.IsList a vs.toArray := ho.isList (N _ hm).1
  have hlt : a < s.heap.objs.size := Heap.lt_size (N _ hm).1
  refine wpAny_pyIter_list hl ?_
  have W := Walks.list (prog := prog) (w := w) hh s.heap.objs.size a (Nat.ne_of_lt hlt) vs.toArray
  rw [List.size_toArray] at W
  have up' : ∀ b' o, s.heap.get? b' = some o → (itL s.heap a).get? b' = some o := fun b' o e => Heap.get?_push_of_some _ e
  have below : ∀ p ∈ news, p.1 < s.heap.objs.size := fun p hp => Heap.lt_size (N p hp).1
  refine ⟨_, _, _, vs.length, _, _, m, news, J, rfl, W, hsz, ?_, ?_, ?_, ?_, ⟨⟨_, Heap.get?_push_size _ rfl, rfl, rfl⟩, hl.at fun o e => up' _ _ e⟩, F.keeps up', N.grown up', h0, ?_, ?_⟩
  · intro hm'
    rcases List.mem_cons.mp hm' with e | hm'
    · exact absurd F.ns.lt (e ▸ Nat.lt_irrefl _)
    · exact (N _ hm).2.1 (List.mem_singleton.mp hm').symm
  · intro b hb
    show b < (s.heap.push _).objs.size
    rw [Heap.size_push]
    rcases List.mem_cons.mp hb with rfl | hb
    · exact Nat.lt_succ_self _
    · rw [List.mem_singleton.mp hb]; exact Nat.lt_succ_of_lt hlt
  · intro b' hb
    rw [List.mem_singleton.mp hb]
    exact next_is_new F
  · intro p hp hI
    exact absurd (Heap.lt_size (N p hp).1) ((List.mem_singleton.mp hI) ▸ Nat.lt_irrefl _)
  · intro C D i v ys nn oC mC own news₁ h tk hC hD hi hlen hP hJ ho' hown hNs hmx hst F' N'
    have big : ∀ b, (itL s.heap a).objs.size ≤ b → ∀ p ∈ news, p.1 < b := fun b hb p hp => Nat.lt_of_lt_of_le (below p hp) (Nat.le_trans (by rw [Heap.size_push]; exact Nat.le_succ _) hb)
    exact step C D _ i v ys nn oC mC own news₁ h tk (big C hC) (big D hD) (fun b hb => by obtain ⟨o, e, c, _⟩ := hst.1; rw [List.mem_singleton.mp hb]; exact ⟨below, o, hown.2 _ (.head _) _ (next_is_new F) e, .inl c⟩) (by simpa using hP) hlen hJ ho' (own_off hown.1 below) hNs hmx F' N'
  · intro D h' tk news' ys nn hD F' N' ho' hlen hJ
    exact done D h' tk news' ys nn hD F' N' ho' hlen hJ
end
/-- the places of a rectangle, row by row -/
noncomputable def rowOf (bx : Box) (j : Nat) : List (Int × Int) := (List.range bx.w).map fun i : Nat => (bx.l + (i : Int), bx.t + (j : Int))
noncomputable def placesTo (bx : Box) (n : Nat) : List (Int × Int) := (List.range n).flatMap (rowOf bx)
noncomputable def placesOf (bx : Box) : List (Int × Int) := placesTo bx bx.h
theorem placesTo_succ {bx : Box} {n : Nat} : placesTo bx (n + 1) = placesTo bx n ++ rowOf bx n := by simp [placesTo, List.range_succ, List.flatMap_append]
theorem rowOf_len {bx : Box} {j : Nat} : (rowOf bx j).length = bx.w := by simp [rowOf]
theorem placesTo_len {bx : Box} {n : Nat} : (placesTo bx n).length = n * bx.w := by
  induction n with
  | zero => simp [placesTo]
  | succ n ih => rw [placesTo_succ, List.length_append, ih, rowOf_len, Nat.succ_mul]
inductive PlIn (w : World) (news : Led) (v : Value) (p : Int × Int) : Prop
  | mk (a : Addr) (t1 t2 : Tok) (e : v = .ref a) (x : VTup w news a [.int p.1 t1, .int p.2 t2])
/-- two lists, place by place -/
noncomputable def All2 {α β : Type} (P : α → β → Prop) (vs : List α) (ps : List β) : Prop := vs.length = ps.length ∧ ∀ (i : Nat) v p, vs[i]? = some v → ps[i]? = some p → P v p
theorem All2.nil {α β : Type} {P : α → β → Prop} : All2 P ([] : List α) ([] : List β) := ⟨rfl, fun _ _ _ h => by simp at h⟩
theorem All2.imp {α β : Type} {P P' : α → β → Prop} {vs : List α} {ps : List β} (h : All2 P vs ps) (f : ∀ v p, P v p → P' v p) : All2 P' vs ps := ⟨h.1, fun i v p a b => f _ _ (h.2 i v p a b)⟩
theorem All2.app {α β : Type} {P : α → β → Prop} {vs us : List α} {ps qs : List β} (h : All2 P vs ps) (h' : All2 P us qs) : All2 P (vs ++ us) (ps ++ qs) := by
  refine ⟨by simp [h.1, h'.1], fun i v p a b => ?_⟩
  by_cases hi : i < vs.length
  · rw [List.getElem?_append_left hi] at a
    rw [List.getElem?_append_left (h.1 ▸ hi)] at b
    exact h.2 i v p a b
  · rw [List.getElem?_append_right (Nat.not_lt.mp hi)] at a
    rw [List.getElem?_append_right (h.1 ▸ Nat.not_lt.mp hi), ← h.1] at b
    exact h'.2 _ v p a b
theorem All2.one {α β : Type} {P : α → β → Prop} {v : α} {p : β} (h : P v p) : All2 P [v] [p] := ⟨rfl, fun i v' p' a b => by
  rcases i with _ | i
  · simp at a b; subst a b; exact h
  · simp at a⟩
theorem All2.len {α β : Type} {P : α → β → Prop} {vs : List α} {ps : List β} (h : All2 P vs ps) : vs.length = ps.length := h.1
theorem All2.get {α β : Type} {P : α → β → Prop} {vs : List α} {ps : List β} (h : All2 P vs ps) {i : Nat} {v : α} (e : vs[i]? = some v) : ∃ p, ps[i]? = some p ∧ P v p := by
  have hi : i < ps.length := h.1 ▸ (List.getElem?_eq_some_iff.mp e).1
  exact ⟨_, List.getElem?_eq_getElem hi, h.2 i v _ e (List.getElem?_eq_getElem hi)⟩
theorem has_placesOf {bx : Box} {p : Int × Int} (h : p ∈ placesOf bx) : bx.Has p.1 p.2 := by
  simp only [placesOf, placesTo, rowOf, List.mem_flatMap, List.mem_range, List.mem_map] at h
  obtain ⟨j, hj, i, hi, rfl⟩ := h
  unfold Box.Has
  dsimp only
  omega
theorem range_small {a b : Int} {n : Nat} (h : b = a + n) : Builtin.Range.rangeSize a b 1 = (n : Int) := by
  subst h
  unfold Builtin.Range.rangeSize
  simp
  split <;> omega
theorem small_of {a b : Int} (h1 : -100 ≤ a ∧ a ≤ 100) (h2 : -100 ≤ b ∧ b ≤ 100) : Builtin.Range.small a b 1 = true := by
  exact small_one (by omega) (by omega) (by omega) (by omega)
end
section
noncomputable def filt (C D : Addr) (wr : List Addr) (n : Led) : Led := n.filter fun p => decide (p.1 ≠ C ∧ p.1 ≠ D ∧ p.1 ∉ wr)
noncomputable def filtW (wr : List Addr) (n : Led) : Led := n.filter fun p => decide (p.1 ∉ wr)
theorem filt_off {C D : Addr} {wr : List Addr} {n : Led} : Off C D wr (filt C D wr n) := fun p hp => by simpa using (List.mem_filter.mp hp).2
theorem filt_mem {C D : Addr} {wr : List Addr} {n : Led} {p : Addr × Obj} (h : p ∈ n) (h1 : p.1 ≠ C) (h2 : p.1 ≠ D) (h3 : p.1 ∉ wr) : p ∈ filt C D wr n := List.mem_filter.mpr ⟨h, by simp [h1, h2, h3]⟩
theorem filtW_mem {wr : List Addr} {n : Led} {p : Addr × Obj} (h : p ∈ n) (h3 : p.1 ∉ wr) : p ∈ filtW wr n := List.mem_filter.mpr ⟨h, by simp [h3]⟩
theorem filtW_off {wr : List Addr} {n : Led} : ∀ p ∈ filtW wr n, p.1 ∉ wr := fun p hp => by simpa using (List.mem_filter.mp hp).2
theorem filt_sub {C D : Addr} {wr : List Addr} {n : Led} {p : Addr × Obj} (h : p ∈ filt C D wr n) : p ∈ n := (List.mem_filter.mp h).1
theorem filtW_sub {wr : List Addr} {n : Led} {p : Addr × Obj} (h : p ∈ filtW wr n) : p ∈ n := (List.mem_filter.mp h).1
section
variable {h₀ h : Heap} {L : Addr} {m : Str → Option Value} {news own n : Led} {C D : Addr} {wr : List Addr} {s : Shared}
/-- what is no iterator is not among them -/
theorem WrOk.off (W : WrOk wr news own) (N : News h₀ L h n) (ho : ∀ p ∈ own, p ∈ n) {a : Addr} {o : Obj} (h : (a, o) ∈ n) (hi : ¬ IterO o) : a ∉ wr := fun hw => by
  obtain ⟨_, o', e, i⟩ := W a hw
  exact hi (news_same N h (ho _ e) ▸ i)
theorem WrOk.old (W : WrOk wr news own) {p : Addr × Obj} (h : p ∈ news) : p.1 ∉ wr := fun hw => Nat.lt_irrefl _ ((W _ hw).1 p h)
theorem WrOk.oldA (W : WrOk wr news own) {a : Addr} (o : Obj) (h : (a, o) ∈ news) : a ∉ wr := W.old h
theorem WrOk.ne (W : WrOk wr news own) {a : Addr} (h : ∀ p ∈ own, p.1 ≠ a) : a ∉ wr := fun hw => let ⟨_, _, e, _⟩ := W a hw; h _ e rfl
theorem tup_noIter {vs : List Value} {k : Nat} : ¬ IterO (tupOf vs k) := fun h => by rcases h with h | h | h | h <;> exact absurd h (by simp)
theorem list_noIter {vs : List Value} {o : Obj} (x : LstO vs o) : ¬ IterO o := fun h => by rcases h with h | h | h | h <;> (rw [x.1] at h; exact absurd h (by simp))
theorem ns_noTup {mC : Str → Option Value} {vs : List Value} {k : Nat} (x : NsO (tupOf vs k) mC) : False := by
  obtain ⟨es, ep, e, _⟩ := x
  exact absurd e (by simp)
theorem filt_tup {oC oD : Obj} {mC : Str → Option Value} {a : Addr} {vs us : List Value} {k : Nat} (W : WrOk wr news own) (N : News h₀ L h n) (ho : ∀ p ∈ own, p ∈ n) (hC : (C, oC) ∈ n) (hns : NsO oC mC) (hD : (D, oD) ∈ n) (hl : LstO us oD) (h : (a, tupOf vs k) ∈ n) : (a, tupOf vs k) ∈ filt C D wr n :=
  filt_mem h (fun e => by
    have q : (a, oC) ∈ n := by have e : a = C := e; rw [e]; exact hC
    have := news_same N h q
    rw [← this] at hns
    exact ns_noTup hns) (fun e => by
    have q : (a, oD) ∈ n := by have e : a = D := e; rw [e]; exact hD
    have := news_same N h q
    rw [← this] at hl
    exact absurd hl.1 (by simp)) (W.off N ho h tup_noIter)
theorem VTup.filt {w : World} {oC oD : Obj} {mC : Str → Option Value} {a : Addr} {vs us : List Value} (W : WrOk wr news own) (N : News h₀ L h n) (ho : ∀ p ∈ own, p ∈ n) (hC : (C, oC) ∈ n) (hns : NsO oC mC) (hD : (D, oD) ∈ n) (hl : LstO us oD) (h : VTup w n a vs) : VTup w (filt C D wr n) a vs :=
  h.imp (fun ⟨k, e⟩ => ⟨k, filt_tup W N ho hC hns hD hl e⟩) id
theorem CompEnd.filt {J : List Value → Led → Prop} {ys : List Value} {y : Value} {tk : Nat} (F : Fr h₀ L h m) (N : News h₀ L h n) (ho : ∀ p ∈ own, p ∈ n) (hj : J (ys ++ [y]) (Mine.filt C D wr n)) : CompEnd h₀ L m C D wr own J ys s y { s with heap := h, toks := tk } :=
  ⟨h, tk, Mine.filt C D wr n, rfl, F, fun p hp => N p ((List.mem_append.mp hp).elim (ho p) filt_sub), filt_off, hj⟩
theorem ForStep.filt {J : (Str → Option Value) → Led → Prop} {Q : Flow → Shared → Prop} {tk : Nat} (F : Fr h₀ L h m) (N : News h₀ L h n) (ho : ∀ p ∈ own, p ∈ n) (hj : J m (Mine.filtW wr n)) : ForStep h₀ L wr own J s Q .next { s with heap := h, toks := tk } :=
  ⟨h, tk, m, Mine.filtW wr n, rfl, F, fun p hp => N p ((List.mem_append.mp hp).elim (ho p) filtW_sub), filtW_off, hj⟩
end
section
variable {prog : Program} {w : World} {A : Around} {E : Value → Shared → Prop} {s : Shared} {h₀ : Heap} {L : Addr} {m : Str → Option Value} {news : Led}
theorem news_head {h : Heap} {a : Addr} {o : Obj} (N : News h₀ L h news) (hm : (a, o) ∈ news) : News h₀ L h ((a, o) :: news.filter fun p => p.1 != a) := fun p hp => N p (by
  rcases List.mem_cons.mp hp with rfl | hp
  · assumption
  · exact (List.mem_filter.mp hp).1)
theorem short_ok {n : Nat} (h : n ≤ 1000) : Builtin.List.listTooLong n = false := by
  unfold Builtin.List.listTooLong
  have big : 1000 ≤ sizeLine := by decide
  simp
  omega
theorem extend_led {a b : Addr} {vs us : List Value} {n n2 : Nat} {Q : Value → Shared → Prop} (F : Fr h₀ L s.heap m) (N : News h₀ L s.heap news) (ha : (a, listOf vs.toArray n) ∈ news) (hb : (b, listOf us.toArray n2) ∈ news) (hab : b ≠ a) (hne : us.length ≠ 0) (hsz : vs.length + us.length ≤ 1000)
    (h : ∀ h', Fr h₀ L h' m → News h₀ L h' (upd news a (listOf (vs ++ us).toArray (n + 1))) → Q .none { s with heap := h' }) : wpAny (model prog w) A (call (.builtin "list.extend") [.ref a, .ref b]) Q E s := by
  have big : 1000 ≤ sizeLine := by decide
  refine kl_extend F (news_head N ha) (List.mem_cons_of_mem _ (List.mem_filter.mpr ⟨hb, by simpa using hab⟩)) (l := vs ++ us) rfl (by simpa using hne) (.head off_filter) ?_ ?_ ?_ h
  · rw [show vs.toArray.size + us.toArray.size = vs.length + us.length by simp, short_ok hsz]
    simp
  · show vs.toArray.toList.length ≤ _
    rw [List.toList_toArray]; omega
  · show vs.toArray.size + us.toArray.size ≤ _
    simp only [List.size_toArray]; omega
end
section
variable {prog : Program} {w : World} {A : Around} {E : Value → Shared → Prop} {s : Shared} {h₀ : Heap} {L : Addr} {m : Str → Option Value} {news : Led}
theorem append_led {a : Addr} {vs : List Value} {y : Value} {n : Nat} {Q : Value → Shared → Prop} (F : Fr h₀ L s.heap m) (N : News h₀ L s.heap news) (ha : (a, listOf vs.toArray n) ∈ news) (hsz : vs.length ≤ 1000)
    (h : ∀ h' n', Fr h₀ L h' m → News h₀ L h' (upd news a (listOf (vs ++ [y]).toArray n')) → Q .none { s with heap := h' }) : wpAny (model prog w) A (call (.builtin "list.append") [.ref a, y]) Q E s := by
  have big : 1000 ≤ sizeLine := by decide
  refine wpAny_list_append_plain (hsz := by rw [List.size_toArray]; omega) ⟨n, (N _ ha).1⟩ fun h' hl hs => ?_
  obtain ⟨n', e⟩ := hl
  exact h h' n' (F.change hs (N _ ha).2.1 (N _ ha).2.2) (news_upd N ha (by rw [e]; simp) hs)
theorem sub_back {value slice : Expr} {a : Addr} {o : Obj} {vs : List Value} {k : Int} {u : Tok} {x : Value} {Q : Value → Shared → Prop} (N : News h₀ L s.heap news) (hm : (a, o) ∈ news) (ho : LstO vs o) (h0 : k < 0) (h1 : -(vs.length : Int) ≤ k) (hfit : -(2 ^ 63) ≤ k) (hx : vs[(k + (vs.length : Int)).toNat]? = some x) (h : Q x s)
    (hs : subscripted slice false (.ref a) (.int k u) = operate [.ref a, .int k u] (getItem (.ref a) (.int k u)) := by with_unfolding_all rfl) :
    wpAny (model prog w) A (subscriptTail value slice (.ref a) (.int k u)) Q E s :=
  tail_any (ho.isList (N _ hm).1).typeIs slot_list_getitem.lookup (wpAny_getItem_list_neg (ho.isList (N _ hm).1) h0 (by rw [List.size_toArray]; exact h1) hfit (by rw [List.size_toArray]; simpa using hx) h) hs
theorem len_led {a : Addr} {o : Obj} {vs : List Value} {Q : Value → Shared → Prop} (N : News h₀ L s.heap news) (hm : (a, o) ∈ news) (ho : LstO vs o) (hsz : vs.length ≤ 1000) (h : Q (.int vs.length (s.toks + 1)) { s with toks := s.toks + 1 + 1 }) : wpAny (model prog w) A (call (.builtin "len") [.ref a]) Q E s :=
  PyProof.Rows.len_list (ho.isList (N _ hm).1) (by rw [List.size_toArray]; omega) (by rw [List.size_toArray]; exact h)
theorem last_at {α : Type} {l : List α} {x : α} : (l ++ [x])[(-1 + ((l ++ [x]).length : Int)).toNat]? = some x := by
  have : (-1 + ((l ++ [x]).length : Int)).toNat = l.length := by simp; omega
  rw [this]; simp
end
/-- the tuples are kept -/
noncomputable def TK (n n' : Led) : Prop := ∀ a vs k, (a, tupOf vs k) ∈ n → (a, tupOf vs k) ∈ n'
theorem TK.of_sub {n n' : Led} (h : ∀ p ∈ n, p ∈ n') : TK n n' := fun _ _ _ e => h _ e
theorem TK.trans {a b c : Led} (h : TK a b) (h' : TK b c) : TK a c := fun _ _ _ e => h' _ _ _ (h _ _ _ e)
theorem TK.of_keeps {M : List Addr} {a b : Led} (h : Keeps M a b) : TK a b := fun _ _ _ e => h _ e fun c => by rcases c with c | c <;> exact absurd c (by simp)
theorem VTup.tk {w : World} {n n' : Led} {a : Addr} {vs : List Value} (T : VTup w n a vs) (k : TK n n') : VTup w n' a vs := T.imp (fun ⟨n, e⟩ => ⟨n, k _ _ _ e⟩) id
theorem ColIn.tk {w : World} {n n' : Led} {v : Value} {c : Col} (T : ColIn w n v c) (k : TK n n') : ColIn w n' v c := let ⟨a, t1, t2, t3, t4, e, x⟩ := T; ⟨a, t1, t2, t3, t4, e, x.tk k⟩
theorem PlIn.tk {w : World} {n n' : Led} {v : Value} {p : Int × Int} (T : PlIn w n v p) (k : TK n n') : PlIn w n' v p := let ⟨a, t1, t2, e, x⟩ := T; ⟨a, t1, t2, e, x.tk k⟩
theorem tup_ne_list {us : List Value} {k n : Nat} {xs : Array Value} : tupOf us k ≠ listOf xs n := fun q => absurd (congrArg Obj.cls q) (by simp)
theorem tup_ne_dict {us : List Value} {k n : Nat} {xs : List DictEntry} : tupOf us k ≠ dictOf xs n := fun q => absurd (congrArg Obj.cls q) (by simp)
theorem tup_ne_inst {us : List Value} {k : Nat} {a b : Addr} : tupOf us k ≠ instObj a b := fun q => absurd (congrArg Obj.cls q) (by simp)
theorem tup_ne_lst {us vs : List Value} {k : Nat} {o : Obj} (h : LstO vs o) : tupOf us k ≠ o := fun q => absurd ((congrArg Obj.cls q).trans h.1) (by simp)
theorem tup_ne_cell {us : List Value} {k : Nat} {o : Obj} {v : Option Value} (h : o.data = .cell v) : tupOf us k ≠ o := fun q => by
  have := (congrArg Obj.data q).trans h
  simp at this
theorem TK.filtW {h₀ h : Heap} {L : Addr} {news own n : Led} {wr : List Addr} (W : WrOk wr news own) (N : News h₀ L h n) (ho : ∀ p ∈ own, p ∈ n) : TK n (Mine.filtW wr n) := fun _ _ _ e => filtW_mem e (W.off N ho e tup_noIter)
theorem TK.filt {h₀ h : Heap} {L C D : Addr} {oC oD : Obj} {mC : Str → Option Value} {us : List Value} {news own n : Led} {wr : List Addr} (W : WrOk wr news own) (N : News h₀ L h n) (ho : ∀ p ∈ own, p ∈ n) (hC : (C, oC) ∈ n) (hns : NsO oC mC) (hD : (D, oD) ∈ n) (hl : LstO us oD) : TK n (Mine.filt C D wr n) := fun _ _ _ e => filt_tup W N ho hC hns hD hl e
theorem TK.upd {h₀ h : Heap} {L a : Addr} {n : Led} {o o' : Obj} (N : News h₀ L h n) (ha : (a, o) ∈ n) (hne : ∀ us k, tupOf us k ≠ o) : TK n (upd n a o') := fun _ _ _ e => upd_other e (news_ne N e ha (hne _ _))
end
section
theorem kl_last_app {y : Value} : ∀ (vs : List Value), kl_last (vs ++ [y]) = some (vs, y)
  | [] => rfl
  | v :: vs => by
    have := kl_last_app (y := y) vs
    cases vs with
    | nil => rfl
    | cons a l => simp only [List.cons_append] at this ⊢; unfold kl_last; rw [this]
section
variable {prog : Program} {w : World} {A : Around} {E : Value → Shared → Prop} {s : Shared} {h₀ : Heap} {L : Addr} {m : Str → Option Value} {news : Led}
theorem pop_led {a : Addr} {vs : List Value} {y : Value} {n : Nat} {Q : Value → Shared → Prop} (F : Fr h₀ L s.heap m) (N : News h₀ L s.heap news) (ha : (a, listOf (vs ++ [y]).toArray n) ∈ news) (hsz : vs.length ≤ 100)
    (h : ∀ h', Fr h₀ L h' m → News h₀ L h' (upd news a (listOf vs.toArray (n + 1))) → Q y { s with heap := h' }) : wpAny (model prog w) A (call (.builtin "list.pop") [.ref a]) Q E s := by
  have big : 1000 ≤ sizeLine := by decide
  exact kl_pop F (news_head N ha) (p := vs) (y := y) (kl_last_app vs) (.head off_filter) (by show (vs ++ [y]).toArray.toList.length ≤ _; rw [List.toList_toArray, List.length_append, List.length_singleton]; omega) h
end
noncomputable abbrev bnd3 (m₀ : Str → Option Value) (a b c : Str) (va vb vc : Option Value) : Str → Option Value := fun z => if z = a then va else if z = b then vb else if z = c then vc else m₀ z
theorem bnd3_again {m₀ : Str → Option Value} {a b c : Str} {u v x u' v' x' : Option Value} : bnd3 (bnd3 m₀ a b c u v x) a b c u' v' x' = bnd3 m₀ a b c u' v' x' := by
  funext z
  unfold bnd3
  split
  · rfl
  split
  · rfl
  split
  · rfl
  simp_all
theorem bnd3_none {m₀ : Str → Option Value} {a b c : Str} (h1 : m₀ a = none) (h2 : m₀ b = none) (h3 : m₀ c = none) : m₀ = bnd3 m₀ a b c none none none := by
  funext z
  unfold bnd3
  split
  · next h => rw [h, h1]
  split
  · next h => rw [h, h2]
  split
  · next h => rw [h, h3]
  rfl
noncomputable abbrev bnd2 (m₀ : Str → Option Value) (a b : Str) (va vb : Option Value) : Str → Option Value := fun z => if z = a then va else if z = b then vb else m₀ z
theorem bnd2_again {m₀ : Str → Option Value} {a b : Str} {u v u' v' : Option Value} : bnd2 (bnd2 m₀ a b u v) a b u' v' = bnd2 m₀ a b u' v' := by
  funext z
  unfold bnd2
  split
  · rfl
  split
  · rfl
  simp_all
theorem bnd2_none {m₀ : Str → Option Value} {a b : Str} (h1 : m₀ a = none) (h2 : m₀ b = none) : m₀ = bnd2 m₀ a b none none := by
  funext z
  unfold bnd2
  split
  · next h => rw [h, h1]
  split
  · next h => rw [h, h2]
  rfl
theorem rowOf_nodup {bx : Box} {j : Nat} : (rowOf bx j).Nodup := by
  unfold rowOf
  rw [List.nodup_iff_pairwise_ne, List.pairwise_map]
  exact (List.nodup_iff_pairwise_ne.mp List.nodup_range).imp fun h q => h (by injection q with q1 _; omega)
theorem placesTo_nodup {bx : Box} : ∀ n, (placesTo bx n).Nodup
  | 0 => by simp [placesTo]
  | n + 1 => by
    rw [placesTo_succ, List.nodup_append]
    refine ⟨placesTo_nodup n, rowOf_nodup, fun a ha b hb q => ?_⟩
    subst q
    simp only [placesTo, rowOf, List.mem_flatMap, List.mem_range, List.mem_map] at ha hb
    obtain ⟨j, hj, i, hi, rfl⟩ := ha
    obtain ⟨i', hi', e⟩ := hb
    injection e with _ e
    omega
theorem placesOf_nodup {bx : Box} : (placesOf bx).Nodup := placesTo_nodup _
theorem take_get_notin {α : Type} {l : List α} (h : l.Nodup) {i : Nat} {x : α} (e : l[i]? = some x) : x ∉ l.take i := fun hm => by
  obtain ⟨j, hj, e'⟩ := List.mem_iff_getElem.mp hm
  have hi := (List.getElem?_eq_some_iff.mp e).1
  have hj' : j < i := by rw [List.length_take] at hj; omega
  have : l[j]? = l[i]? := by rw [e, List.getElem?_eq_getElem (by omega)]; rw [List.getElem_take] at e'; rw [e']
  exact absurd ((List.getElem?_inj (by omega) h).mp this) (by omega)
/-- all that is no iterator is kept -/
noncomputable def KN (n n' : Led) : Prop := ∀ p ∈ n, ¬ IterO p.2 → p ∈ n'
theorem KN.filtW {h₀ h : Heap} {L : Addr} {news own n : Led} {wr : List Addr} (W : WrOk wr news own) (N : News h₀ L h n) (ho : ∀ p ∈ own, p ∈ n) : KN n (Mine.filtW wr n) := fun _ hp hi => filtW_mem hp (W.off N ho hp hi)
theorem no_iter_ref {o : Obj} {a : Addr} (h : o.cls = .ref a) : ¬ IterO o := fun q => by rcases q with q | q | q | q <;> (rw [h] at q; cases q)
theorem no_iter_dict {o : Obj} (h : o.cls = .type "dict") : ¬ IterO o := fun q => by rcases q with q | q | q | q <;> (rw [h] at q; exact absurd q (by simp))
theorem no_iter_list {o : Obj} (h : o.cls = .type "list") : ¬ IterO o := fun q => by rcases q with q | q | q | q <;> (rw [h] at q; exact absurd q (by simp))
theorem TK.of_kn {n n' : Led} (h : KN n n') : TK n n' := fun _ _ _ e => h _ e tup_noIter
theorem CanIn.kn {w : World} {M : List Addr} {news n' : Led} {v : Value} {bx : Box} {f : Int → Int → Col} (T : CanIn w news v M bx f) (k : KN news n') : CanIn w n' v M bx f := by
  obtain ⟨c, d, cl, rs, rfl, rfl, T⟩ := T
  refine ⟨c, d, cl, rs, rfl, rfl, k _ T.inst (no_iter_ref rfl), ?_, ?_, T.len, fun j r hr => ?_, T.nodup⟩
  · obtain ⟨o, e, x⟩ := T.dict
    refine ⟨o, k _ e ?_, x⟩
    obtain ⟨_, _, _, _, _, _, _, _, _, _, _, _, _, _, _, rfl⟩ := x
    exact no_iter_dict rfl
  · obtain ⟨n, e⟩ := T.cells
    exact ⟨n, k _ e (no_iter_list rfl)⟩
  · obtain ⟨vs, m, e, z, l, x⟩ := T.row j r hr
    exact ⟨vs, m, k _ e (no_iter_list z.1), z, l, fun i v q => (x i v q).tk (TK.of_kn k)⟩
end
section
theorem compAt_rangeO {prog : Program} {w : World} {A : Around} {h₀ : Heap} {L : Addr} {env : Env} {scope : Scope} {cl : List (Str × Addr)} {x : Str} {elt : Expr} {up : (Str → Option Value) → Addr → Str → Option Value} {Done : Addr → Shared → Prop} {E : Value → Shared → Prop} {s : Shared} {r : Addr} {a b : Int} {t₀ u₀ v₀ : Tok} {n : Nat} {m : Str → Option Value} {news : Led}
    (hh : A.handled = none) (hr : IsRange s.heap r a b 1 t₀ u₀ v₀) (hsmall : Builtin.Range.small a b 1 = true) (hn : Builtin.Range.rangeSize a b 1 = (n : Int)) (hsz : n ≤ sizeLine) (F : Fr h₀ L s.heap m) (N : News h₀ L s.heap news) (J : Nat → List Value → Led → Prop) (h0 : J 0 [] news)
    (step : ∀ C D wr i t ys nn oC mC own news₁ h tk, (∀ p ∈ news, p.1 < C) → (∀ p ∈ news, p.1 < D) → WrOk wr news own → (∀ p ∈ own, ∀ q ∈ news, q.1 < p.1) → i < n → ys.length = i → J i ys news₁ → Off C D wr news₁ → NsO oC mC → mC x = some (.int (a + i) t) → Fr h₀ L h m → News h₀ L h ((C, oC) :: (D, listOf ys.toArray nn) :: (own ++ news₁)) →
      wpAny (model prog w) A (eval elt (compEnvC scope cl C env)) (CompEnd h₀ L m C D wr ((C, oC) :: (D, listOf ys.toArray nn) :: own) (J (i + 1)) ys s) (fun _ _ => False) { s with heap := h, toks := tk })
    (done : ∀ D h' tk news' ys nn, (∀ p ∈ news, p.1 < D) → Fr h₀ L h' (up m D) → News h₀ L h' ((D, listOf ys.toArray nn) :: news') → (∀ p ∈ news', p.1 ≠ D) → ys.length = n → J n ys news' → Done D { s with heap := h', toks := tk }) :
    wpAny (model prog w) A (pyIter (.ref r)) (fun it s₂ => CompAt prog w A h₀ L env scope cl x elt up Done it s₂) E s := by
  refine wpAny_pyIter_range hr hsmall ?_
  have W : Walks prog w A s.heap.objs.size [s.heap.objs.size] [s.heap.objs.size] n (fun i v => ∃ t, v = .int (a + i * 1) t)
      (fun i h => IsRangeIter h s.heap.objs.size (a + (i : Nat) * 1) ((n : Int) - (i : Nat)) 1) := Walks.range hh _ a 1 n
  have up' : ∀ b' o, s.heap.get? b' = some o → (s.heap.push { cls := .type "range_iterator", data := .fields #[rawInt a, rawInt (Builtin.Range.rangeSize a b 1), rawInt 1] }).get? b' = some o := fun b' o e => Heap.get?_push_of_some _ e
  refine ⟨_, _, _, n, _, _, m, news, J, rfl, W, hsz, ?_, ?_, ?_, ?_, (by show IsRangeIter _ _ _ _ _; rw [hn]; simpa using Heap.get?_push_size _ rfl), F.keeps up', N.grown up', h0, ?_, ?_⟩
  · intro hm
    exact absurd F.ns.lt ((List.mem_singleton.mp hm) ▸ Nat.lt_irrefl _)
  · intro b' hb
    show b' < (s.heap.push _).objs.size
    rw [Heap.size_push, List.mem_singleton.mp hb]
    exact Nat.lt_succ_self _
  · intro b' hb
    rw [List.mem_singleton.mp hb]
    exact next_is_new F
  · intro p hp hI
    exact absurd (Heap.lt_size (N p hp).1) ((List.mem_singleton.mp hI) ▸ Nat.lt_irrefl _)
  · intro C D i v ys nn oC mC own news₁ h tk hC hD hi hlen hP hJ ho hown hNs hmx hst F' N'
    have below : ∀ b', (s.heap.push { cls := .type "range_iterator", data := .fields #[rawInt a, rawInt (Builtin.Range.rangeSize a b 1), rawInt 1] }).objs.size ≤ b' → ∀ p ∈ news, p.1 < b' := fun b' hb p hp => Nat.lt_of_lt_of_le (Heap.lt_size (N p hp).1) (Nat.le_trans (by rw [Heap.size_push]; exact Nat.le_succ _) hb)
    obtain ⟨t, rfl⟩ := hP
    rw [Int.mul_one] at hmx
    exact step C D _ i t ys nn oC mC own news₁ h tk (below C hC) (below D hD) (fun b hb => by rw [List.mem_singleton.mp hb]; exact ⟨fun p hp => Heap.lt_size (N p hp).1, _, hown.2 _ (.head _) _ (next_is_new F) hst, .inr (.inl rfl)⟩) (fun p hp q hq => by rw [List.mem_singleton.mp (hown.1 p hp)]; exact Heap.lt_size (N q hq).1) hi hlen hJ ho hNs hmx F' N'
  · intro D h' tk news' ys nn hD F' N' ho hlen hJ
    exact done D h' tk news' ys nn hD F' N' ho hlen hJ

theorem Ct.useN {prog : Program} {w : World} {f : Addr} {args : List Value} {D U : Nat} {news : Led} {Post : Value → Led → Prop} {p : Program} {loose : List Str} {mean : ExcName → Option Value} {mg mb : Str → Option Value} {A A₀ : Around} {env : Env} {outer : List Env} {base h₀ : Heap} {L : Addr} {m : Str → Option Value} {s : Shared} {Q E : Value → Shared → Prop}
    (N : News h₀ L s.heap news) (C : Ct w f args D U news Post) (B : Below A₀ base outer h₀) (F : Fr h₀ L s.heap m) (X : (hd.heap_1 w.params).In h₀) (T : Top p loose mean mg mb h₀)
    (hA : A.frames = some (env :: outer)) (hf : env.frame = some L) (hk : env.scope.kind = .function) (hh : A.handled = none) (hD : A.depth ≤ D + 300) (hU : A.units ≤ U)
    (hret : ∀ v news' h' tk', Post v news' → Fr h₀ L h' m → News h₀ L h' news' → Q v { s with heap := h', toks := tk' }) : wpAny (model prog w) A (call (.ref f) args) Q E s :=
  Ct.use C B F X N T hA hf hk hh hD hU hret
/-- a colour whose parts are weighted by its alpha -/
noncomputable def Col.Pm (c : Col) : Prop := (0 ≤ c.r ∧ c.r ≤ c.a) ∧ (0 ≤ c.g ∧ c.g ≤ c.a) ∧ (0 ≤ c.b ∧ c.b ≤ c.a) ∧ 0 ≤ c.a ∧ c.a ≤ 255
theorem Col.Pm.ok {c : Col} (h : c.Pm) : c.Ok := by
  obtain ⟨h1, h2, h3, h4⟩ := h
  unfold Col.Ok
  omega
theorem zc_pm : zc.Pm := by unfold Col.Pm zc; decide
end
section
noncomputable abbrev Ent := List Int × Addr × Value
noncomputable abbrev KK (prog : Program) (w : World) : HeapKind prog w (List Int) := tupleKind (intKind prog w)
/-- a key of a table: a tuple of ints -/
noncomputable def KeyIn (w : World) (news : Led) (ks : List Int) (a : Addr) : Prop := ∃ vs, IntsAre vs ks ∧ VTup w news a vs
theorem KeyIn.tk {w : World} {n n' : Led} {ks : List Int} {a : Addr} (T : KeyIn w n ks a) (k : TK n n') : KeyIn w n' ks a := let ⟨vs, h, x⟩ := T; ⟨vs, h, x.tk k⟩
theorem PlIn.key {w : World} {n : Led} {a : Addr} {p : Int × Int} (T : PlIn w n (.ref a) p) : KeyIn w n [p.1, p.2] a := by
  obtain ⟨b, t1, t2, e, x⟩ := T
  obtain rfl := Value.ref.inj e
  exact ⟨_, .cons _ _ (.cons _ _ .nil), x⟩
theorem items_ints {prog : Program} {w : World} {vs : List Value} {ks : List Int} (h : IntsAre vs ks) : ItemsAre (intKind prog w) ks vs := by
  induction h with
  | nil => exact .nil
  | cons n t _ ih => exact .cons (by simp [intKind, Value.isInt]) ih
theorem KeyIn.is {prog : Program} {w : World} {h₀ h : Heap} {L : Addr} {m : Str → Option Value} {news : Led} {ks : List Int} {a : Addr} (T : KeyIn w news ks a) (F : Fr h₀ L h m) (X : (hd.heap_1 w.params).In h₀) (N : News h₀ L h news) : (KK prog w).is h ks a := by
  obtain ⟨vs, hi, x⟩ := T
  obtain ⟨n, e⟩ := x.get F X N
  exact ⟨_, _, _, e, rfl, rfl, by rw [List.toList_toArray]; exact items_ints hi⟩
noncomputable def keyHash (ks : List Int) : Int := reduceHash (Builtin.Tuple.tupleHashOf (ks.map hashInt))
noncomputable def entOf (x : Ent) : DictEntry := ⟨keyHash x.1, .ref x.2.1, x.2.2⟩
noncomputable def DicO (xs : List Ent) (o : Obj) : Prop := o.ExactDict ∧ (∃ es ep, o.data = .dict es ep ∧ es.toList = xs.map entOf) ∧ (xs.map (·.1)).Nodup
/-- a table of the ledger -/
noncomputable def DicIn (w : World) (news : Led) (R : Addr) (xs : List Ent) : Prop := (R == sysModules) = false ∧ ∃ o, (R, o) ∈ news ∧ DicO xs o ∧ ∀ x ∈ xs, KeyIn w news x.1 x.2.1
theorem DicIn.keep {w : World} {M : List Addr} {news n' : Led} {R : Addr} {xs : List Ent} (T : DicIn w news R xs) (k : Keeps M news n') (h : R ∉ M) : DicIn w n' R xs := let ⟨z0, o, e, x, y⟩ := T; ⟨z0, o, k _ e fun _ => h, x, fun z hz => (y z hz).tk (TK.of_keeps k)⟩
theorem DicIn.sub {w : World} {news n' : Led} {R : Addr} {xs : List Ent} (T : DicIn w news R xs) (k : ∀ p ∈ news, p ∈ n') : DicIn w n' R xs := let ⟨z0, o, e, x, y⟩ := T; ⟨z0, o, k _ e, x, fun z hz => (y z hz).tk (TK.of_sub k)⟩
theorem DicIn.kn {w : World} {news n' : Led} {R : Addr} {xs : List Ent} (T : DicIn w news R xs) (k : KN news n') : DicIn w n' R xs := let ⟨z0, o, e, x, y⟩ := T; ⟨z0, o, k _ e (no_iter_dict x.1.1), x, fun z hz => (y z hz).tk (TK.of_kn k)⟩
theorem tup_ne_dicO {us : List Value} {k : Nat} {o : Obj} {xs : List Ent} (h : DicO xs o) : tupOf us k ≠ o := fun q => absurd ((congrArg Obj.cls q).trans h.1.1) (by simp)
section
variable {prog : Program} {w : World} {A : Around} {E : Value → Shared → Prop} {s : Shared} {h₀ : Heap} {L : Addr} {m : Str → Option Value} {news : Led}
theorem DicIn.of {h : Heap} {R : Addr} {xs : List Ent} (T : DicIn w news R xs) (F : Fr h₀ L h m) (X : (hd.heap_1 w.params).In h₀) (N : News h₀ L h news) : h.DictOfH (KK prog w) R xs := by
  obtain ⟨_, o, e, ⟨x1, ⟨es, ep, x2, x3⟩, x4⟩, y⟩ := T
  exact ⟨o, es, ep, (N _ e).1, x1, x2, x3, fun x hx => (y x hx).is F X N, x4⟩
theorem storedH_key {xs : List Ent} {ks : List Int} {a : Addr} {v : Value} {n : Led} (hk : KeyIn w n ks a) (hx : ∀ x ∈ xs, KeyIn w n x.1 x.2.1) : ∀ x ∈ storedH xs ks a v, KeyIn w n x.1 x.2.1 := by
  intro x hx'
  rcases PyProof.Rows.mem_storedH hx' with ⟨y, hy, e1, e2⟩ | ⟨e1, e2⟩
  · rw [e1, e2]; exact hx y hy
  · rw [e1, e2]; exact hk
theorem setDic {R a : Addr} {xs : List Ent} {ks : List Int} {v : Value} {Q : Unit → Shared → Prop} (F : Fr h₀ L s.heap m) (X : (hd.heap_1 w.params).In h₀) (N : News h₀ L s.heap news) (T : DicIn w news R xs) (hk : KeyIn w news ks a) (hu : A.units + 1 < cLine) (hsz : xs.length ≤ 1000)
    (hQ : ∀ h' o' tk, Fr h₀ L h' m → News h₀ L h' (upd news R o') → DicIn w (upd news R o') R (storedH xs ks a v) → Keeps [R] news (upd news R o') → Q () { s with heap := h', toks := tk }) : wpAny (model prog w) A (setItem (.ref R) (.ref a) v) Q E s := by
  have big : 1000 ≤ sizeLine := by decide
  refine wpAny_setItem_heap (knd := KK prog w) (k := ks) (xs := xs) (tupleKind_room_in1 hu) (hk.is F X N) (T.of F X N) (hsz := by omega) fun h' hm hs => ?_
  obtain ⟨o', es, ep, e, x1, x2, x3, x4, x5⟩ := hm
  obtain ⟨z0, o, hR, hx, hy⟩ := T
  have N' := news_upd N hR e hs
  have tk : TK news (upd news R o') := TK.upd N hR fun us k => tup_ne_dicO hx
  refine hQ h' o' _ (F.change hs (N _ hR).2.1 (N _ hR).2.2) N' ⟨z0, o', upd_head, ⟨x1, ⟨es, ep, x2, x3⟩, x5⟩, storedH_key (hk.tk tk) fun x h => (hy x h).tk tk⟩ (Keeps.upd (.head _) fun p hp q => ?_)
  have : p.2 = o := news_same N (a := R) (by rw [← q]; exact hp) hR
  rw [this]; exact Or.inr hx.1.1
theorem getDic {value slice : Expr} {R a : Addr} {xs : List Ent} {ks : List Int} {p : Addr × Value} {Q : Value → Shared → Prop} (F : Fr h₀ L s.heap m) (X : (hd.heap_1 w.params).In h₀) (N : News h₀ L s.heap news) (T : DicIn w news R xs) (hk : KeyIn w news ks a) (hu : A.units + 1 < cLine) (hp : atKey xs ks = some p)
    (h : ∀ tk, Q p.2 { s with toks := tk })
    (hs : subscripted slice false (.ref R) (.ref a) = operate [.ref R, .ref a] (getItem (.ref R) (.ref a)) := by with_unfolding_all rfl) : wpAny (model prog w) A (subscriptTail value slice (.ref R) (.ref a)) Q E s :=
  tail_any (T.of (prog := prog) F X N).typeIs slot_dict_getitem.lookup (wpAny_getItem_heap (knd := KK prog w) (tupleKind_room_in1 hu) (hk.is F X N) (T.of F X N) hp (h _)) hs
end
end
section
section
variable {prog : Program} {w : World} {A : Around} {E : Value → Shared → Prop} {s : Shared}
/-- the iterator over a table's keys, made -/
theorem iterDic {d : Addr} {o : Obj} {es : Array DictEntry} {ep : Nat} {Q : Value → Shared → Prop} (hne : (d == sysModules) = false) (ho : s.heap.get? d = some o) (hc : o.cls = .type "dict") (hd : o.data = .dict es ep)
    (hQ : Q (.ref s.heap.objs.size) { s with heap := s.heap.push { cls := .type "dict_keyiterator", data := .fields #[.ref d, .int 0 0, .int es.size 0, .int ep 0] } }) : wpAny (model prog w) A (pyIter (.ref d)) Q E s := by
  have ty : s.TypeIs (.ref d) "dict" := ⟨o, ho, hc⟩
  refine wpAny_pyIter_slot ty F.slot_dict_iter (wpAny_call_entry F.slot_dict_iter ty F.entry_dict_iter ?_ (F.args_dict_iter_1 _))
  unfold Builtin.«dict.__iter__»
  refine wpAny_bind (m := Builtin.Dict.dictSlotNone _ _) ?_
  unfold Builtin.Dict.dictSlotNone
  refine wpAny_bind (wpAny_notOrdered_dict ty ?_)
  show wpAny _ _ (pure (Value.ref d)) _ _ s
  refine wpAny_pure ?_
  refine wpAny_bind (m := Builtin.Dict.showsAll d) ?_
  unfold Builtin.Dict.showsAll
  rw [if_neg (by rw [hne]; exact Bool.false_ne_true)]
  refine wpAny_pure (wpAny_bind (wpAny_dictEntries ho hd (wpAny_bind (wpAny_dictEpoch ho hd ?_))))
  exact wpAny_bind (wpAny_newObj_type (wpAny_pure ⟨_, rfl, "dict_keyiterator", _, ⟨_, Heap.get?_push_size _ rfl, rfl⟩, F.slot_dict_keyiterator_next.lookup, by simpa [rawInt] using hQ⟩))
/-- a table's next key, or its end -/
theorem keyNext {it d : Addr} {i ep : Nat} {o : Obj} {es : Array DictEntry} {Q : Option Value → Shared → Prop} (hh : A.handled = none) (hit : s.heap.IsKeyIter it d i es.size ep) (ho : s.heap.get? d = some o) (hd : o.data = .dict es ep)
    (hQ : ∀ e h', es[i]? = some e → h'.IsKeyIter it d (i + 1) es.size ep → Heap.SameBut it s.heap h' → Q (some e.key) { s with heap := h' })
    (hN : ∀ h', es[i]? = none → Heap.ExtBut it s.heap h' → Q none { s with heap := h' }) : wpAny (model prog w) A (pyNext (.ref it)) Q E s := by
  have ty := hit.typeIs
  obtain ⟨oi, hoi, hci, hdi⟩ := hit
  have own : Builtin.Dict_items.ownsTuple "dict_keyiterator" = false := by decide
  refine wpAny_bind (wpAny_attempt (wpAny_callSpecial?_slot (name := Str.ofString "__next__") ty F.slot_dict_keyiterator_next (wpAny_call_entry F.slot_dict_keyiterator_next ty F.entry_dict_keyiterator_next ?_ (F.args_dict_keyiterator_next_1 _))))
  refine wpAny_bind (wpAny_pure (wpAny_bind (wpAny_bind ?_)))
  refine wpAny_bind (wpAny_typeNameOfWhole_keyiter ty (wpAny_pure ?_))
  refine wpAny_bind (wpAny_fieldsOf hoi hdi ?_)
  simp only [own, Bool.false_eq_true, if_false]
  show wpAny _ _ (if (Value.ref d == Value.none) = true then _ else _) _ _ s
  rw [if_neg (show ¬ ((Value.ref d == Value.none) = true) from Bool.false_ne_true)]
  refine wpAny_bind (wpAny_pure (wpAny_bind (wpAny_dictEntries ho hd ?_)))
  rw [if_neg (by simp)]
  refine wpAny_bind (wpAny_pure (wpAny_bind (wpAny_dictEpoch ho hd ?_)))
  rw [if_neg (by simp)]
  refine wpAny_pure ?_
  have nn : ¬ ((i : Int) < 0) := by omega
  cases he : es[i]? with
  | some e =>
    simp only [nn, if_false, Int.toNat_natCast, he]
    refine wpAny_bind (wpAny_bind (wpAny_typeNameOfWhole_keyiter ty (wpAny_pure ?_)))
    refine wpAny_bind (wpAny_isOneOf_keyiter ty ?_)
    refine wpAny_bind (m := setField (.ref it) 1 (rawInt ((i : Int) + 1))) (wpAny_setField hoi hdi (by simp) ?_)
    have hit' : (s.heap.update it (Obj.mapFields (·.setIfInBounds 1 (rawInt ((i : Int) + 1))))).IsKeyIter it d (i + 1) es.size ep :=
      ⟨_, Heap.get?_update_self _ hoi (Obj.isFreed_of_fields (Obj.data_mapFields hdi _)), (Obj.cls_mapFields ..).trans hci, by rw [Obj.data_mapFields hdi]; simp [rawInt]⟩
    refine wpAny_bind (wpAny_holding (wpAny_bind (wpAny_isOneOf_keyiter (s := { s with heap := s.heap.update it (Obj.mapFields (·.setIfInBounds 1 (rawInt ((i : Int) + 1)))) }) hit'.typeIs ?_)))
    exact wpAny_pure (wpAny_pure ⟨_, rfl, wpAny_pure (hQ e _ he hit' (Heap.SameBut.update ..))⟩)
  | none =>
    simp only [nn, if_false, Int.toNat_natCast, he]
    refine wpAny_bind (wpAny_bind (wpAny_typeNameOfWhole_keyiter ty (wpAny_pure ?_)))
    refine wpAny_bind (m := setField (.ref it) 0 .none) (wpAny_setField hoi hdi (by simp) ?_)
    refine wpAny_bind (m := newExc (.type "StopIteration") []) ?_
    simp only [newExc, newTuple]
    refine wpAny_bind (wpAny_newObj_type ?_ (by size_fits))
    refine wpAny_bind (m := firstArgMember _ _) (wpAny_of_eq (a := Value.none) (by first | rfl | (simp only [firstArgMember]; rfl)) ?_)
    refine wpAny_newObj_type ?_ (by size_fits)
    simp only [raiseNew]
    refine wpAny_bind (wpAny_handled ?_)
    rw [show A.in1.handled = none from hh]
    refine wpAny_bind (wpAny_pure (wpAny_throw ?_))
    refine wpAny_bind (wpAny_isInstance (T := "StopIteration") (b := true) ⟨_, Heap.get?_push_size _ rfl, rfl⟩ isSubtype_stop ?_)
    exact wpAny_pure (hN _ he (((Heap.SameBut.update ..).extBut.push _).push _))
theorem walksKeys (hh : A.handled = none) (I d : Addr) (hne : d ≠ I) (es : Array DictEntry) (ep : Nat) :
    Walks prog w A I [I, d] [I] es.size (fun i v => ∃ e, es[i]? = some e ∧ v = e.key) (fun i h => h.IsKeyIter I d i es.size ep ∧ ∃ o, h.get? d = some o ∧ o.data = .dict es ep) where
  sub := fun b hb => by rw [List.mem_singleton.mp hb]; exact .head _
  frame := fun _ _ _ st hk => ⟨st.1.at fun o e => hk I (.head _) o e, let ⟨o, e, r⟩ := st.2; ⟨o, hk d (.tail _ (.head _)) o e, r⟩⟩
  item := fun i s Q E hi st hQ => by
    obtain ⟨o, ho, hd⟩ := st.2
    exact keyNext hh st.1 ho hd (fun e h' he hit hs => hQ e.key h' s.toks ⟨e, he, rfl⟩ ⟨hit, o, hs.extBut _ _ hne ho, hd⟩ fun b o hb e => hs.extBut b o (fun q => hb (by rw [q]; exact .head _)) e) fun h' hn => absurd hn (by simp [hi])
  done := fun s Q E st hQ => by
    obtain ⟨o, ho, hd⟩ := st.2
    exact keyNext hh st.1 ho hd (fun e h' he => absurd he (by simp)) fun h' _ he => hQ h' s.toks fun b o hb e => he b o (fun q => hb (by rw [q]; exact .head _)) e
  self := fun _ _ _ _ st hQ => wpAny_pyIter_keyiter st.1 hQ
end
section
variable {prog : Program} {w : World} {A : Around} {E : Value → Shared → Prop} {s : Shared} {h₀ : Heap} {L : Addr} {env : Env} {m : Str → Option Value} {news : Led}
noncomputable abbrev itD (h : Heap) (a : Addr) (n ep : Nat) : Heap := h.push { cls := .type "dict_keyiterator", data := .fields #[.ref a, .int 0 0, .int n 0, .int ep 0] }
theorem entry_key {es : Array DictEntry} {xs : List Ent} (h : es.toList = xs.map entOf) {i : Nat} {e : DictEntry} (he : es[i]? = some e) : ∃ x, xs[i]? = some x ∧ e = entOf x := by
  rw [← Array.getElem?_toList, h, List.getElem?_map] at he
  cases hx : xs[i]? with
  | none => rw [hx] at he; cases he
  | some x => rw [hx] at he; exact ⟨x, rfl, (Option.some.inj he).symm⟩
theorem entry_size {es : Array DictEntry} {xs : List Ent} (h : es.toList = xs.map entOf) : es.size = xs.length := by rw [← Array.length_toList, h, List.length_map]
/-- a comprehension over a table's keys -/
theorem compAt_dic {scope : Scope} {cl : List (Str × Addr)} {x : Str} {elt : Expr} {up : (Str → Option Value) → Addr → Str → Option Value} {Done : Addr → Shared → Prop} {R : Addr} {xs : List Ent}
    (hh : A.handled = none) (T : DicIn w news R xs) (hsz : xs.length ≤ sizeLine) (F : Fr h₀ L s.heap m) (N : News h₀ L s.heap news) (J : Nat → List Value → Led → Prop) (h0 : J 0 [] news)
    (step : ∀ C D wr i e ys nn oC mC own news₁ h tk, (∀ p ∈ news, p.1 < C) → (∀ p ∈ news, p.1 < D) → WrOk wr news own → xs[i]? = some e → ys.length = i → J i ys news₁ → Off C D wr news₁ → (∀ p ∈ own, p.1 = R ∨ ∀ q ∈ news, q.1 < p.1) → NsO oC mC → mC x = some (.ref e.2.1) → Fr h₀ L h m → News h₀ L h ((C, oC) :: (D, listOf ys.toArray nn) :: (own ++ news₁)) →
      wpAny (model prog w) A (eval elt (compEnvC scope cl C env)) (CompEnd h₀ L m C D wr ((C, oC) :: (D, listOf ys.toArray nn) :: own) (J (i + 1)) ys s) (fun _ _ => False) { s with heap := h, toks := tk })
    (done : ∀ D h' tk news' ys nn, (∀ p ∈ news, p.1 < D) → Fr h₀ L h' (up m D) → News h₀ L h' ((D, listOf ys.toArray nn) :: news') → (∀ p ∈ news', p.1 ≠ D) → ys.length = xs.length → J xs.length ys news' → Done D { s with heap := h', toks := tk }) :
    wpAny (model prog w) A (pyIter (.ref R)) (fun it s₂ => CompAt prog w A h₀ L env scope cl x elt up Done it s₂) E s := by
  obtain ⟨hR, o, hm, ⟨hx, ⟨es, ep, hd, hes⟩, hnd⟩, hk⟩ := T
  have hlt : R < s.heap.objs.size := Heap.lt_size (N _ hm).1
  have below : ∀ p ∈ news, p.1 < s.heap.objs.size := fun p hp => Heap.lt_size (N p hp).1
  refine iterDic hR (N _ hm).1 hx.1 hd ?_
  have W := walksKeys (prog := prog) (w := w) hh s.heap.objs.size R (Nat.ne_of_lt hlt) es ep
  have up' : ∀ b' o, s.heap.get? b' = some o → (itD s.heap R es.size ep).get? b' = some o := fun b' o e => Heap.get?_push_of_some _ e
  have sz := entry_size hes
  refine ⟨_, _, _, es.size, _, _, m, news, J, rfl, W, by omega, ?_, ?_, ?_, ?_, ⟨⟨_, Heap.get?_push_size _ rfl, rfl, rfl⟩, o, up' _ _ (N _ hm).1, hd⟩, F.keeps up', N.grown up', h0, ?_, ?_⟩
  · intro hm'
    rcases List.mem_cons.mp hm' with e | hm'
    · exact absurd F.ns.lt (e ▸ Nat.lt_irrefl _)
    · exact (N _ hm).2.1 (List.mem_singleton.mp hm').symm
  · intro b hb
    show b < (s.heap.push _).objs.size
    rw [Heap.size_push]
    rcases List.mem_cons.mp hb with rfl | hb
    · exact Nat.lt_succ_self _
    · rw [List.mem_singleton.mp hb]; exact Nat.lt_succ_of_lt hlt
  · intro b' hb
    rw [List.mem_singleton.mp hb]
    exact next_is_new F
  · intro p hp hI
    exact absurd (below p hp) ((List.mem_singleton.mp hI) ▸ Nat.lt_irrefl _)
  · intro C D i v ys nn oC mC own news₁ h tk hC hD hi hlen hP hJ ho' hown hNs hmx hst F' N'
    have big : ∀ b, (itD s.heap R es.size ep).objs.size ≤ b → ∀ p ∈ news, p.1 < b := fun b hb p hp => Nat.lt_of_lt_of_le (below p hp) (Nat.le_trans (by rw [Heap.size_push]; exact Nat.le_succ _) hb)
    obtain ⟨e, he, rfl⟩ := hP
    obtain ⟨x', hx', rfl⟩ := entry_key hes he
    exact step C D _ i x' ys nn oC mC own news₁ h tk (big C hC) (big D hD) (fun b hb => by obtain ⟨o, e, c, _⟩ := hst.1; rw [List.mem_singleton.mp hb]; exact ⟨below, o, hown.2 _ (.head _) _ (next_is_new F) e, .inr (.inr (.inr c))⟩) hx' hlen hJ ho' (own_off hown.1 below) hNs hmx F' N'
  · intro D h' tk news' ys nn hD F' N' ho' hlen hJ
    exact done D h' tk news' ys nn hD F' N' ho' (hlen.trans sz) (sz ▸ hJ)
/-- a for over a table's keys -/
theorem forAt_dic {y : Str} {py : Pos} {body : List Stmt} {Q : Flow → Shared → Prop} {R : Addr} {xs : List Ent}
    (hh : A.handled = none) (T : DicIn w news R xs) (F : Fr h₀ L s.heap m) (N : News h₀ L s.heap news) (J : Nat → (Str → Option Value) → Led → Prop) (h0 : J 0 m news)
    (step : ∀ wr i e m₁ own news₁ h tk, WrOk wr news own → xs[i]? = some e → J i m₁ news₁ → (∀ p ∈ news₁, p.1 ∉ wr) → (∀ p ∈ own, p.1 = R ∨ ∀ q ∈ news, q.1 < p.1) → Fr h₀ L h m₁ → News h₀ L h (own ++ news₁) →
      wpAny (model prog w) A (assign (.Name y py) env (.ref e.2.1)) (fun _ s₃ => wpAny (model prog w) A (execs body env) (ForStep h₀ L wr own (J (i + 1)) s Q) (fun _ _ => False) s₃) (fun _ _ => False) { s with heap := h, toks := tk })
    (done : ∀ h' tk m' news', Fr h₀ L h' m' → News h₀ L h' news' → J xs.length m' news' → Q .next { s with heap := h', toks := tk }) :
    wpAny (model prog w) A (pyIter (.ref R)) (fun it s₂ => ForAt prog w A h₀ L env (.Name y py) body Q it s₂) E s := by
  obtain ⟨hR, o, hm, ⟨hx, ⟨es, ep, hd, hes⟩, hnd⟩, hk⟩ := T
  have hlt : R < s.heap.objs.size := Heap.lt_size (N _ hm).1
  have below : ∀ p ∈ news, p.1 < s.heap.objs.size := fun p hp => Heap.lt_size (N p hp).1
  refine iterDic hR (N _ hm).1 hx.1 hd ?_
  have W := walksKeys (prog := prog) (w := w) hh s.heap.objs.size R (Nat.ne_of_lt hlt) es ep
  have up' : ∀ b' o, s.heap.get? b' = some o → (itD s.heap R es.size ep).get? b' = some o := fun b' o e => Heap.get?_push_of_some _ e
  have sz := entry_size hes
  refine ⟨_, _, _, es.size, _, _, m, news, J, rfl, W, ?_, ?_, ?_, ⟨⟨_, Heap.get?_push_size _ rfl, rfl, rfl⟩, o, up' _ _ (N _ hm).1, hd⟩, F.keeps up', N.grown up', h0, ?_, ?_, ?_⟩
  · intro hm'
    rcases List.mem_cons.mp hm' with e | hm'
    · exact absurd F.ns.lt (e ▸ Nat.lt_irrefl _)
    · exact (N _ hm).2.1 (List.mem_singleton.mp hm').symm
  · intro b' hb
    rw [List.mem_singleton.mp hb]
    exact next_is_new F
  · intro p hp hI
    exact absurd (below p hp) ((List.mem_singleton.mp hI) ▸ Nat.lt_irrefl _)
  · intro i v s Q E hst hq
    exact letGo_name hq
  · intro i v m₁ own news₁ h tk hi hP hJ ho' hown hst F' N'
    obtain ⟨e, he, rfl⟩ := hP
    obtain ⟨x', hx', rfl⟩ := entry_key hes he
    exact step _ i x' m₁ own news₁ h tk (fun b hb => by obtain ⟨o, e, c, _⟩ := hst.1; rw [List.mem_singleton.mp hb]; exact ⟨below, o, hown.2 _ (.head _) _ (next_is_new F) e, .inr (.inr (.inr c))⟩) hx' hJ ho' (own_off hown.1 below) F' N'
  · intro h' tk m' news' F' N' _ hJ
    exact done h' tk m' news' F' N' (sz ▸ hJ)
end
end
section
section
variable {prog : Program} {w : World} {A : Around} {E : Value → Shared → Prop}
theorem no_keys : typeLookup (.type "list") "keys" = pure none := am_miss_of_fast (by kernel_rfl)
/-- a list has no keys -/
theorem listKeys {s : Shared} {a : Addr} {xs : Array Value} {n : Nat} {Q : Option Value → Shared → Prop} (hh : A.handled = none) (ho : s.heap.get? a = some (listOf xs n))
    (h : ∀ h' tk, (∀ b ob, s.heap.get? b = some ob → h'.get? b = some ob) → Q none { s with heap := h', toks := tk }) : wpAny (model prog w) A (getAttr? (.ref a) "keys") Q E s := by
  obtain ⟨hp, g, d, tk, os⟩ := s
  have ty : ∀ tk : Nat, (⟨hp, g, d, tk, os⟩ : Shared).TypeIs (.ref a) "list" := fun _ => ⟨_, ho, rfl⟩
  have f1 := sub_AttributeError
  have f3 := F.slot_list_getattribute.lookup
  have f4 := F.slot_list_getattribute.bind (.ref a)
  have f5 := am_list_getattr_none
  unfold getAttr? getAttrBy? getAttrBy
  repeat (any_goals (first | assumption | ((with_reducible show wpAny _ _ (call (Value.builtin _) _ _) _ _ _); refine call_meets F.slot_list_getattribute (ty _) am_entry_list_getattribute (F.args_list_getattribute_2 _ _) (meets_getattribute_miss_list a xs n #[] "keys" _ no_keys (by decide)) ⟨ho, hh, fun h' tk' e hx => ?_⟩) | wp_step))
  obtain ⟨t', u', he⟩ := id hx.there
  show wpAny _ _ (getattributeRaised _ _ _ _ _ _ _) _ _ _
  unfold getattributeRaised
  repeat (any_goals (first | assumption | wp_step))
  exact h h' tk' hx.keeps
end
theorem entry_dul : entryFor table "dict.update.loop" = some Builtin.«dict.update.loop» := entryFor_of_tree (by kernel_rfl)
theorem plain_dul : plainId "dict.update.loop" = true := by decide +kernel
noncomputable abbrev stEnt (acc : List Ent) (x : Ent) : List Ent := storedH acc x.1 x.2.1 x.2.2
/-- a list of pairs, each a key and a value -/
noncomputable def PairsIn (news : Led) (vs : List Value) (es : List Ent) : Prop := All2 (fun v x => ∃ t n, v = .ref t ∧ (t, tupOf [.ref x.2.1, x.2.2] n) ∈ news) vs es
theorem stEnt_len : ∀ (es acc : List Ent), (es.foldl stEnt acc).length ≤ acc.length + es.length
  | [], acc => by simp
  | x :: es, acc => by
    refine Nat.le_trans (stEnt_len es _) ?_
    have : (stEnt acc x).length ≤ acc.length + 1 := by unfold stEnt storedH; split <;> simp
    simp only [List.length_cons]
    omega
section
variable {prog : Program} {w : World} {A : Around} {h₀ : Heap} {L : Addr} {m : Str → Option Value} {news : Led} {I a R : Addr} {oa : Obj} {vs : List Value} {es : List Ent}
theorem codeAny_pairs (hh : A.handled = none) (hu : A.units + 1 < cLine) (X : (hd.heap_1 w.params).In h₀) (hm : (a, oa) ∈ news) (hl : LstO vs oa) (hp : PairsIn news vs es) (hk : ∀ x ∈ es, KeyIn w news x.1 x.2.1) (hIL : I ≠ L) (hI0 : h₀.get? I = none) (hIn : ∀ p ∈ news, p.1 ≠ I) (hIR : R ≠ I) (hRn : ∀ p ∈ news, p.1 ≠ R) (hsz : es.length ≤ 500) {RR : Result → Shared → Prop} :
    ∀ (k i : Nat) (t : Tok) (s : Shared) (o : Obj), es.length - i = k → i ≤ es.length → s.heap.IsListIter I a i → Fr h₀ L s.heap m → News h₀ L s.heap ((R, o) :: news) → DicO ((es.take i).foldl stEnt []) o → (∀ x ∈ (es.take i).foldl stEnt [], KeyIn w news x.1 x.2.1) →
      (∀ h' tk o', Fr h₀ L h' m → News h₀ L h' ((R, o') :: news) → DicO (es.foldl stEnt []) o' → (∀ x ∈ es.foldl stEnt [], KeyIn w news x.1 x.2.1) → RR (.ok (.ret .none)) { s with heap := h', toks := tk }) →
      codeAny (model prog w) A (.builtin "dict.update.loop" ⟨[.ref R, .ref I, .int i t, .none], []⟩) RR s := by
  intro k
  induction k with
  | zero =>
    intro i t s o hki hi hit F N hd hks hR
    have hin : i = es.length := by omega
    subst hin
    rw [List.take_length] at hd hks
    refine codeAny_builtin entry_dul ?_
    rw [Around.under_plainId plain_dul _]
    refine wpAny_bind (m := pyNext (.ref I)) (wpAny_pyNext_list_end hh hit (hl.isList (N _ (.tail _ hm)).1) (by rw [← hp.len]; simp) fun h' he => ?_)
    have N' : News h₀ L h' ((R, o) :: news) := fun p hp => ⟨he _ _ (by
      rcases List.mem_cons.mp hp with rfl | hp
      · exact hIR
      · exact hIn p hp) (N p hp).1, (N p hp).2⟩
    have F' : Fr h₀ L h' m := ⟨F.ns.at' fun o e => he _ o hIL.symm e, fun b o e => he b o (fun q => by rw [q, hI0] at e; cases e) (F.keep b o e), F.above⟩
    exact wpAny_bind (wpAny_pure (wpAny_pure (hR h' _ o F' N' hd hks)))
  | succ k ih =>
    intro i t s o hki hi hit F N hd hks hR
    have hlt : i < es.length := by omega
    have hv : i < vs.length := by rw [hp.len]; exact hlt
    obtain ⟨tp, n, hv', ht⟩ := hp.2 i vs[i] es[i] (List.getElem?_eq_getElem hv) (List.getElem?_eq_getElem hlt)
    refine codeAny_builtin entry_dul ?_
    rw [Around.under_plainId plain_dul _]
    refine wpAny_bind (m := pyNext (.ref I)) (wpAny_pyNext_list_item hit (hl.isList (N _ (.tail _ hm)).1) (x := vs[i]) (by simp [hv]) fun h' hit' hs => ?_)
    have N' : News h₀ L h' ((R, o) :: news) := fun p hp => ⟨hs.extBut _ _ (by
      rcases List.mem_cons.mp hp with rfl | hp
      · exact hIR
      · exact hIn p hp) (N p hp).1, (N p hp).2⟩
    have F' : Fr h₀ L h' m := F.change hs hIL hI0
    rw [hv']
    have T' := N' _ (.tail _ ht)
    have Nn : News h₀ L h' news := fun p hp => N' p (.tail _ hp)
    obtain ⟨x1, ⟨ds, ep, x2, x3⟩, x4⟩ := hd
    have hD : h'.DictOfH (KK prog w) R ((es.take i).foldl stEnt []) := ⟨o, ds, ep, (N' _ (.head _)).1, x1, x2, x3, fun x hx => (hks x hx).is F' X Nn, x4⟩
    have hkey : KeyIn w news es[i].1 es[i].2.1 := hk _ (List.getElem_mem hlt)
    have hlen := stEnt_len (es.take i) []
    have big : 1000 ≤ sizeLine := by decide
    refine wpAny_bind (wpAny_holding (wpAny_bind (wpAny_tryCatch ?_)))
    unfold Builtin.Dict.pairItems
    refine wpAny_bind (wpAny_typeOf ⟨_, T'.1, rfl⟩ ?_)
    rw [if_pos (by decide)]
    refine wpAny_bind (wpAny_seqItems T'.1 rfl (wpAny_pure ?_))
    refine wpAny_holding (wpAny_dictSet_heap (knd := KK prog w) (k := es[i].1) (xs := (es.take i).foldl stEnt []) (tupleKind_room_in1 hu) (hkey.is F' X Nn) hD (hsz := by simp at hlen; omega) fun h'' hm' hs' => ?_)
    obtain ⟨o', ds', ep', g, y1, y2, y3, y4, y5⟩ := hm'
    have hRL := (N' _ (.head _)).2
    have e1 : (es.take (i + 1)).foldl stEnt [] = stEnt ((es.take i).foldl stEnt []) es[i] := by rw [take_next (List.getElem?_eq_getElem hlt), List.foldl_append]; rfl
    refine wpAny_pure ⟨plainId_quiet plain_dul _, ih (i + 1) 0 _ o' (by omega) hlt (hit'.extBut hs'.extBut hIR.symm) (F'.change hs' hRL.1 hRL.2) (fun p hp => ?_) (by rw [e1]; exact ⟨y1, ⟨ds', ep', y2, y3⟩, y5⟩) (by rw [e1]; exact storedH_key hkey hks) hR⟩
    rcases List.mem_cons.mp hp with rfl | hp
    · exact ⟨g, hRL⟩
    · exact ⟨(hs'.2 _ (hRn p hp)).trans (Nn p hp).1, (Nn p hp).2⟩
end
end
section
theorem sys_no {w : World} {h₀ : Heap} (X : (hd.heap_1 w.params).In h₀) {a : Nat} (h : h₀.objs.size ≤ a) : (a == sysModules) = false := by
  obtain ⟨o, e⟩ : ∃ o, (hd.heap_1 w.params).lookup 28 = some o := ⟨_, by k_is⟩
  have := Heap.lt_size (X _ _ e)
  have h1 : 28 < a := Nat.lt_of_lt_of_le this h
  have : a ≠ 1 := by omega
  simpa [sysModules] using this
section
variable {prog : Program} {w : World} {A : Around} {E : Value → Shared → Prop} {s : Shared} {h₀ : Heap} {L : Addr} {m : Str → Option Value} {news : Led} {a : Addr} {n : Nat} {vs : List Value} {es : List Ent}
theorem call_dictPairs {Q : Value → Shared → Prop} (hh : A.handled = none) (hu : A.units + 10 < cLine) (G : Fr h₀ L s.heap m) (X : (hd.heap_1 w.params).In h₀) (N : News h₀ L s.heap news) (hm : (a, listOf vs.toArray n) ∈ news) (hp : PairsIn news vs es) (hk : ∀ x ∈ es, KeyIn w news x.1 x.2.1) (hsz : es.length ≤ 500)
    (hQ : ∀ R o h' tk, (∀ p ∈ news, p.1 < R) → Fr h₀ L h' m → News h₀ L h' ((R, o) :: news) → DicIn w ((R, o) :: news) R (es.foldl stEnt []) → Q (.ref R) { s with heap := h', toks := tk }) :
    wpAny (model prog w) A (call (.type "dict") [.ref a]) Q E s := by
  refine callType_codes (Q₁ := fun obj s₁ => obj = .ref s.heap.objs.size ∧ s₁ = { s with heap := s.heap.push { cls := .type "dict", data := .dict #[] } }) F.kt_called_dict (F.kt_typeCall_dict_1 _) F.entry_dict_init (kt_code_dict_new _ ⟨rfl, rfl⟩) ?_
  rintro obj s₁ ⟨rfl, rfl⟩
  have below : ∀ p ∈ news, p.1 < s.heap.objs.size := fun p hp => Heap.lt_size (N p hp).1
  have F1 := G.push { cls := .type "dict", data := .dict #[] }
  have N1 := News.push G N { cls := .type "dict", data := .dict #[] }
  have ty : Shared.TypeIs { s with heap := s.heap.push { cls := .type "dict", data := .dict #[] } } (.ref s.heap.objs.size) "dict" := ⟨_, Heap.get?_push_size _ rfl, rfl⟩
  refine ⟨ty, F.args_dict_init_2 _ _, ?_⟩
  unfold Builtin.«dict.__init__»
  refine wpAny_bind ?_
  unfold Builtin.Dict.selfAndRest
  refine wpAny_bind (wpAny_notOrdered_dict ty ?_)
  show wpAny _ _ (pure (s.heap.objs.size, [Value.ref a])) _ _ _
  refine wpAny_pure ?_
  show wpAny _ _ (Builtin.Dict.updateFrom "dict.__init__" s.heap.objs.size (.ref a) [] .none) _ _ _
  unfold Builtin.Dict.updateFrom
  refine wpAny_bind (wpAny_typeOf ⟨_, (N1 _ (.tail _ hm)).1, rfl⟩ ?_)
  rw [if_pos (by decide)]
  refine wpAny_bind (listKeys hh (N1 _ (.tail _ hm)).1 fun h' tk up => ?_)
  have F2 := F1.keeps up
  have N2 := N1.grown up
  rw [if_pos (show (none : Option Value).isNone = true from rfl)]
  refine wpAny_bind (wpAny_rule (wpAny_bind (wpAny_pyIter_list (LstO.isList ⟨rfl, n, rfl⟩ (N2 _ (.tail _ hm)).1) ?_)))
  have up' : ∀ b o, h'.get? b = some o → (itL h' a).get? b = some o := fun b o e => Heap.get?_push_of_some _ e
  have F3 := F2.keeps up'
  have N3 := N2.grown up'
  refine wpAny_pure ⟨plainId_quiet plain_dul _, codeAny_pairs (A := A.in1) (news := news) (h₀ := h₀) (L := L) (m := m) (a := a) (vs := vs) (es := es) hh ?_ X hm ⟨rfl, n, rfl⟩ hp hk ?_ ?_ ?_ ?_ (fun p hp => Nat.ne_of_lt (below p hp)) hsz es.length 0 0 _ _ (Nat.sub_zero _) (Nat.zero_le _) ⟨_, Heap.get?_push_size _ rfl, rfl, rfl⟩ F3 N3 ⟨⟨rfl, rfl, rfl⟩, ⟨#[], 0, rfl, rfl⟩, List.nodup_nil⟩ (by simp) fun h'' tk'' o' F4 N4 hd hks => ?_⟩
  · simp only [units_in1]; omega
  · exact Nat.ne_of_gt (F2.ns.lt)
  · exact next_is_new F2
  · exact fun p hp => Nat.ne_of_lt (Heap.lt_size (N2 p (.tail _ hp)).1)
  · exact Nat.ne_of_lt (Heap.lt_size (N2 _ (.head _)).1)
  · exact ⟨rfl, hQ _ o' h'' tk'' below F4 N4 ⟨sys_no X (Nat.le_trans G.above (Nat.le_of_lt G.ns.lt)), o', .head _, hd, fun x hx => (hks x hx).tk (TK.of_sub fun p hp => .tail _ hp)⟩⟩
end
end
section
section
variable {prog : Program} {w : World} {A : Around} {E : Value → Shared → Prop} {s : Shared} {h₀ : Heap} {L : Addr} {m : Str → Option Value} {news : Led} {R S : Addr} {xs ys : List Ent}
/-- two tables with equal values at equal keys -/
noncomputable def SameAt (w : World) (news : Led) (xs ys : List Ent) : Prop := xs.length = ys.length ∧ ∀ x ∈ xs, ∃ a' b b' ks, x.2.2 = .ref b ∧ atKey ys x.1 = some (a', .ref b') ∧ KeyIn w news ks b ∧ KeyIn w news ks b'
theorem pairsSame {nm : String} {Q : Bool → Shared → Prop} (G : Fr h₀ L s.heap m) (X : (hd.heap_1 w.params).In h₀) (N : News h₀ L s.heap news) (T : DicIn w news R xs) (U : DicIn w news S ys) (hu : A.units < cLine) (hs : SameAt w news xs ys) (h : Q true s) :
    wpAny (model prog w) A (Builtin.Dict.samePairs nm R S) Q E s := by
  obtain ⟨hR, o, hm, ⟨_, ⟨es, ep, hd, he⟩, _⟩, hk⟩ := T
  obtain ⟨hS, o', hm', ⟨hc', ⟨es', ep', hd', he'⟩, hn'⟩, hk'⟩ := U
  have sz : es.size = es'.size := by rw [entry_size he, entry_size he', hs.1]
  unfold Builtin.Dict.samePairs Builtin.Dict.showsAll
  rw [if_neg (show ¬ (R == sysModules) = true by rw [hR]; exact Bool.false_ne_true), if_neg (show ¬ (S == sysModules) = true by rw [hS]; exact Bool.false_ne_true)]
  refine wpAny_bind (wpAny_pure (wpAny_bind (wpAny_pure (wpAny_bind (wpAny_dictEntries (N _ hm).1 hd ?_)))))
  dsimp only
  refine wpAny_bind (wpAny_dictEntries (N _ hm').1 hd' ?_)
  rw [if_neg (by rw [sz]; simp)]
  refine wpAny_bind (wpAny_dictEpoch (N _ hm).1 hd (wpAny_bind ?_))
  rw [Std.Legacy.Range.forIn_eq_forIn_range']
  simp only [Std.Legacy.Range.size, Nat.sub_zero, Nat.add_sub_cancel, Nat.div_one]
  refine wpAny_forIn_list _ (fun rest q s' => s' = s ∧ q = (none, ()) ∧ ∀ i ∈ rest, i < es.size) _ ?_ ?_ _ _ ⟨rfl, rfl, fun i hi => by rw [List.mem_range'_1] at hi; omega⟩
  · rintro i rest q s' ⟨rfl, rfl, hr⟩
    have hlt := hr i (.head _)
    obtain ⟨x, hx, ex⟩ := entry_key he (Array.getElem?_eq_getElem hlt)
    obtain ⟨a', b, b', ks, e1, e2, e3, e4⟩ := hs.2 x (List.mem_of_getElem? hx)
    refine wpAny_bind (wpAny_dictEntries (N _ hm).1 hd ?_)
    rw [Array.getElem?_eq_getElem hlt, ex]
    dsimp only [entOf]
    refine wpAny_bind (wpAny_holding (wpAny_bind (wpAny_dictFind_heap (knd := KK prog w) (k := x.1) (xs := ys) hu ((hk x (List.mem_of_getElem? hx)).is G X N) (N _ hm').1 hd' he' (fun y hy => (hk' y hy).is G X N) hn' (fun none => ?_) (fun j p hj => ?_))))
    · exfalso
      rw [atKey_none_of_get none] at e2
      cases e2
    · have ep : p = (a', .ref b') := Option.some.inj ((atKey_of_get hn' hj).symm.trans e2)
      subst ep
      have hjs : j < es'.size := by rw [entry_size he']; exact (List.getElem?_eq_some_iff.mp hj).1
      have ej : es'[j]? = some (entOf (x.1, a', .ref b')) := by rw [← Array.getElem?_toList, he', List.getElem?_map, hj]; rfl
      refine wpAny_bind (wpAny_dictEntries (N _ hm').1 hd' ?_)
      rw [ej, e1]
      dsimp only [entOf]
      refine wpAny_holding (wpAny_eqBool_tuple (knd := intKind prog w) hu (e3.is G X N) (e4.is G X N) ?_)
      rw [decide_eq_true rfl, if_neg (by decide)]
      refine wpAny_bind (wpAny_dictEpoch (N _ hm).1 hd ?_)
      rw [if_neg (by simp)]
      exact wpAny_pure ⟨rfl, rfl, fun k hk => hr k (.tail _ hk)⟩
  · rintro q s' ⟨rfl, rfl, _⟩
    exact wpAny_pure h
theorem eqDic {Q : Value → Shared → Prop} (G : Fr h₀ L s.heap m) (X : (hd.heap_1 w.params).In h₀) (N : News h₀ L s.heap news) (T : DicIn w news R xs) (U : DicIn w news S ys) (hu : A.units + 10 < cLine) (hs : SameAt w news xs ys) (h : Q (.bool true) s) :
    wpAny (model prog w) A (compareOp .Eq (.ref R) (.ref S)) Q E s := by
  have tR : s.TypeIs (.ref R) "dict" := (T.of (prog := prog) G X N).typeIs
  have tS : s.TypeIs (.ref S) "dict" := (U.of (prog := prog) G X N).typeIs
  refine wpAny_richCompare_same_room (op := .Eq) tR tS PySem.F.slot_dict_eq (wpAny_call_entry PySem.F.slot_dict_eq tR PySem.F.entry_dict_eq ?_ (PySem.F.args_dict_eq_2 _ _)) (by omega)
  refine wpAny_bind (m := Builtin.Dict.dictSlotArgs "__eq__" ⟨[.ref R, .ref S], []⟩) ?_
  unfold Builtin.Dict.dictSlotArgs
  refine wpAny_bind (wpAny_notOrdered_dict tR ?_)
  show wpAny _ _ (pure (Value.ref R, Value.ref S)) _ _ s
  refine wpAny_pure (wpAny_bind (wpAny_isInstance (T := "dict") tS PySem.F.sub_dict_dict ?_))
  simp only [Bool.not_true, Bool.false_eq_true, if_false]
  refine wpAny_bind (wpAny_pure (wpAny_bind (wpAny_pure (wpAny_bind (pairsSame G X N T U ?_ hs (wpAny_pure ⟨_, rfl, ?_, ?_⟩))))))
  · show A.units + 1 < cLine
    omega
  · exact fun x => nomatch x
  · exact h
end
end
section
section
variable {prog : Program} {w : World} {A : Around} {E : Value → Shared → Prop} {s : Shared} {h₀ : Heap} {L : Addr} {m : Str → Option Value} {news : Led} {R : Addr} {xs : List Ent}
theorem len_dic {Q : Value → Shared → Prop} (N : News h₀ L s.heap news) (T : DicIn w news R xs) (hsz : xs.length ≤ 1000) (h : Q (.int xs.length (s.toks + 1)) { s with toks := s.toks + 1 + 1 }) : wpAny (model prog w) A (call (.builtin "len") [.ref R]) Q E s := by
  obtain ⟨hR, o, hm, ⟨hx, ⟨es, ep, hd, he⟩, _⟩, _⟩ := T
  have ty : s.TypeIs (.ref R) "dict" := ⟨o, (N _ hm).1, hx.1⟩
  have sz := entry_size he
  refine Calls.call_function_entry kind_len plain_len entry_len (args_len1 _) ?_
  unfold Builtin.«len»
  refine wpAny_bind (m := oneArg "len" _) (wpAny_pure ?_)
  refine wpAny_bind (m := callSpecial? (.ref R) (Str.ofString "__len__")) (wpAny_callSpecial?_slot (name := Str.ofString "__len__") ty F.slot_dict_len (wpAny_call_entry F.slot_dict_len ty F.entry_dict_len ?_ (F.args_dict_len_1 _)))
  unfold Builtin.«dict.__len__»
  refine wpAny_bind (m := Builtin.Dict.dictSlotNone _ _) ?_
  unfold Builtin.Dict.dictSlotNone
  refine wpAny_bind (wpAny_notOrdered_dict ty ?_)
  show wpAny _ _ (pure (Value.ref R)) _ _ s
  refine wpAny_pure ?_
  show wpAny _ _ (dictSize R >>= _) _ _ s
  unfold dictSize
  refine wpAny_bind (wpAny_bind (wpAny_dictEntries (N _ hm).1 hd (wpAny_pure ?_)))
  refine wpAny_bind (m := Builtin.Dict.pendingCount R) (wpAny_pendingCount_other hR ?_)
  refine wpAny_ret_mkInt ?_
  rw [sz, show ((xs.length : Nat) : Int) + ((0 : Nat) : Int) = xs.length by simp]
  refine wpAny_bind (wpAny_holding (wpAny_pure ?_))
  refine wpAny_bind (wpAny_letGo ?_)
  show wpAny _ _ (if ((xs.length : Nat) : Int) < 0 then _ else _) _ _ _
  rw [if_neg (by omega)]
  show wpAny _ _ (if ((xs.length : Nat) : Int) ≥ 2 ^ 63 then _ else _) _ _ _
  rw [if_neg (by omega)]
  exact wpAny_bind (wpAny_mkInt (wpAny_pure ⟨_, rfl, h⟩))
theorem src_dic (hR : (R == sysModules) = false) (es : Array DictEntry) (ep : Nat) : KdlSrc prog w "dict" R R es.size (fun i v => ∃ e, es[i]? = some e ∧ v = e.key) (fun h => ∃ o, h.get? R = some o ∧ o.cls = .type "dict" ∧ o.data = .dict es ep) where
  type := fun s ⟨o, e, c, _⟩ => ⟨o, e, c⟩
  there := fun h ⟨o, e, _⟩ => ⟨Heap.lt_size e, Heap.lt_size e⟩
  keep := fun h h' ⟨o, e, r⟩ hk => ⟨o, hk R (.inl rfl) o e, r⟩
  notList := by decide
  notTuple := by decide
  hint := fun A E s Q ⟨o, e, c, _⟩ hq => kdl_hint_dict ⟨o, e, c⟩ hq
  iter := fun A s hh ⟨o, e, c, d⟩ => ⟨_, _, fun E Q hq => iterDic hR e c d hq, walksKeys hh s.heap.objs.size R (Nat.ne_of_lt (Heap.lt_size e)) es ep, ⟨_, Heap.get?_push_size _ rfl, rfl, rfl⟩, o, Heap.get?_push_of_some _ e, d⟩
theorem list_dic {Q : Value → Shared → Prop} (hh : A.handled = none) (G : Fr h₀ L s.heap m) (N : News h₀ L s.heap news) (T : DicIn w news R xs) (hsz : xs.length ≤ 1000)
    (h : ∀ (D : Addr) c h' tk, Fr h₀ L h' m → News h₀ L h' ((D, listOf (xs.map fun x => Value.ref x.2.1).toArray c) :: news) → (∀ q ∈ news, q.1 < D) → Q (.ref D) { s with heap := h', toks := tk }) : wpAny (model prog w) A (call (.type "list") [.ref R]) Q E s := by
  obtain ⟨hR, o, hm, ⟨hx, ⟨es, ep, hd, he⟩, _⟩, _⟩ := T
  have sz := entry_size he
  have big : 1000 ≤ sizeLine := by decide
  refine kdl_N (src_dic hR es ep) hh G N ⟨o, (N _ hm).1, hx.1, hd⟩ (by omega) fun D c h' tk vs G' N' hlt hl hP => ?_
  have : vs = xs.map fun x => Value.ref x.2.1 := by
    apply List.ext_getElem?
    intro i
    cases hv : vs[i]? with
    | none =>
      have : xs.length ≤ i := by rw [List.getElem?_eq_none_iff] at hv; omega
      rw [List.getElem?_eq_none (by simpa using this)]
    | some v =>
      obtain ⟨e, he1, rfl⟩ := hP i v hv
      obtain ⟨x, hx, rfl⟩ := entry_key he he1
      rw [List.getElem?_map, hx]; rfl
  subst this
  exact h D c h' tk G' N' hlt
end
end
section
set_option maxHeartbeats 8000000
open Builtin Builtin.ObjectAttr
noncomputable abbrev errCls : Obj := excClassObj "SheetFault" "SheetFault" 63 62 [.ref 50] [.ref 50, .type "Exception", .type "BaseException", .type "object"] true [] [] false none none (some (.ref 54)) none (some (.str "SheetFault" 243)) (some (.str "SheetFault" 251)) (some (.bool true)) "Exception.__new__"
noncomputable abbrev errObj (t : Addr) (d : Option Addr) : Obj := { cls := .ref 63, dict := d, data := .fields #[.ref t, .none, .none, .none, .bool false, .none] }
noncomputable abbrev argTup (vs : List Value) : Obj := { cls := .type "tuple", data := .seq vs.toArray }
theorem err_cls {w : World} {h : Heap} (X : (hd.heap_1 w.params).In h) : h.get? 63 = some errCls := X _ _ rfl
section
variable {prog : Program} {w : World} {A : Around} {R : Result → Shared → Prop} {h : Heap} {g : Array GenState} {d : Drawn} {t : Nat} {os : OsState}
theorem err_has (x : Value) (hx : ([Value.ref 63, .ref 50, .type "Exception", .type "BaseException", .type "object"] : List Value).contains x = true) {M : Model} {E : Value → Shared → Prop} {Q : Bool → Shared → Prop} (hC : h.get? 63 = some errCls) (hq : Q true ⟨h, g, d, t, os⟩) : wpAny M A (isSubtype (.ref 63) x) Q E ⟨h, g, d, t, os⟩ :=
  wpAny_isSubtype_exc hC (by rw [hx]; exact hq)
theorem err_not (x : Value) (hx : ([Value.ref 63, .ref 50, .type "Exception", .type "BaseException", .type "object"] : List Value).contains x = false) {M : Model} {E : Value → Shared → Prop} {Q : Bool → Shared → Prop} (hC : h.get? 63 = some errCls) (hq : Q false ⟨h, g, d, t, os⟩) : wpAny M A (isSubtype (.ref 63) x) Q E ⟨h, g, d, t, os⟩ :=
  wpAny_isSubtype_exc hC (by rw [hx]; exact hq)
theorem err_check {M : Model} {E : Value → Shared → Prop} {rest : List Value} {Q : Unit → Shared → Prop} (hC : h.get? 63 = some errCls) (hq : Q () ⟨h, g, d, t, os⟩) :
    wpAny M A (checkBuiltinCall "Exception.__new__" ⟨.ref 63 :: rest, []⟩) Q E ⟨h, g, d, t, os⟩ := by
  have F := PySem.F.excBase_Exception
  have hstar := F.noStar
  simp only [checkBuiltinCall, F.newKind, F.newSplit, F.newRow]
  repeat (first | refine wpAny_loadPart_at hC ?_ | refine err_has _ rfl hC ?_ | refine wpAny_staticBase_exc hC ?_ | refine wpAny_madeBy_exc hC ?_ | simp only [bne_self_eq_false, Bool.false_eq_true, if_false] | wp_step)
  exact hq
theorem err_new {rest : List Value} (hC : h.get? 63 = some errCls) (hl : rest.length ≤ sizeLine)
    (hq : R (.ok (.ret (.ref (h.objs.size + 1)))) ⟨(h.push (argTup rest)).push (errObj h.objs.size none), g, d, t, os⟩) : codeAny (model prog w) A (.builtin "Exception.__new__" ⟨.ref 63 :: rest, []⟩) R ⟨h, g, d, t, os⟩ := by
  have F := PySem.F.excBase_Exception
  have hends := F.ends
  refine codeAny_builtinAt F.entry ?_
  unfold Builtin.«BaseException.__new__»
  refine PySem.wpAt_bind ?_
  show PySem.wpAt _ _ _ (stack >>= _) _ _ _
  refine PySem.wpAt_bind (PySem.wpAt_stack fun p below => PySem.wpAt_of_wpAny ?_)
  wp_walk
  refine PySem.wpAt_of_wpAny ?_
  rw [F.owner]
  repeat (first | with_reducible refine wpAny_madeHere_exc F.canon hC ?_ | with_reducible refine wpAny_loadPart_at hC ?_ | with_reducible refine err_has _ rfl hC ?_ | with_reducible refine err_not _ rfl hC ?_ | wp_step)
  show R _ _
  rw [Heap.size_push]
  exact hq
end
section
variable {prog : Program} {w : World} {A : Around} {E : Value → Shared → Prop} {s : Shared} {h₀ : Heap} {L : Addr} {m : Str → Option Value} {news : Led}
theorem call_err {rest : List Value} {Q : Value → Shared → Prop} (F : Fr h₀ L s.heap m) (X₀ : (hd.heap_1 w.params).In h₀) (N : News h₀ L s.heap news) (hl : rest.length ≤ sizeLine)
    (hk : ∀ x t h', Fr h₀ L h' m → News h₀ L h' ((x, errObj t none) :: (t, argTup rest) :: news) → (∀ p ∈ news, p.1 < t) → t < x →
      codeAny (model prog w) (A.under (.builtin "type.__call__" ⟨.ref 63 :: rest, []⟩)) (.call (.ref 47) ⟨.ref x :: rest, []⟩) (InitBack x fun r s' => match r with | .ok (.ret v) => Q v s' | .ok _ => False | .error e => E e s') { s with heap := h' }) :
    wpAny (model prog w) A (call (.ref 63) rest) Q E s := by
  obtain ⟨h, g, d, t, os⟩ := s
  have X := X₀.keeps F.keep
  have hC : h.get? 63 = some errCls := err_cls X
  have f1 := tc_lookup
  have f2 := tc_bind (.ref 63)
  have hT : (⟨h, g, d, t, os⟩ : Shared).TypeIs (.ref 63) "type" := ⟨_, hC, rfl⟩
  refine wpAny_call (codeAny_of_tree ?_)
  show wpAny _ _ (callAny (.ref 63) _) _ _ _
  repeat (any_goals (first | assumption | with_reducible refine wpAny_loadPart_at hC ?_ | wp_step))
  refine ⟨rfl, ?_⟩
  refine codeAny_call_builtin_at (Code.quiet_builtin _ (by decide +kernel)) entry_typeCall (wpAny_check_type_call_sub hC ?_)
  repeat (first | with_reducible refine wpAny_loadPart_at hC ?_ | with_reducible refine wpAny_madeBy_exc hC ?_ | wp_step)
  refine codeAny_call_builtin_code (Code.quiet_builtin _ PySem.F.excBase_Exception.quiet) (err_check (rest := rest) hC ?_)
  refine err_new (rest := rest) hC hl ?_
  show wpAny _ _ _ _ _ _
  have k : ∀ b o, h.get? b = some o → ((h.push (argTup rest)).push (errObj h.objs.size none)).get? b = some o := fun b o e => Heap.get?_push_of_some _ (Heap.get?_push_of_some _ e)
  have hx : ((h.push (argTup rest)).push (errObj h.objs.size none)).get? (h.objs.size + 1) = some (errObj h.objs.size none) := by heap_get
  have X1 := X.keeps k
  have hC1 := err_cls X1
  have t1 : Looks (model prog w) ((h.push (argTup rest)).push (errObj h.objs.size none)) (typeOf (.ref (h.objs.size + 1))) (.ref 63) := (Looks.ld hx).andThen .now
  have s1 : Looks (model prog w) ((h.push (argTup rest)).push (errObj h.objs.size none)) (isSubtype (.ref 63) (.ref 63)) true := looks_mroIn X1 rfl
  have i1 : Looks (model prog w) ((h.push (argTup rest)).push (errObj h.objs.size none)) (typeLookup (.ref 63) "__init__") (some (.ref 47)) := looks_findIn X1 rfl
  have b1 : Looks (model prog w) ((h.push (argTup rest)).push (errObj h.objs.size none)) (bindSpecial (.ref 47) (.ref (h.objs.size + 1))) (.ref 47, [.ref (h.objs.size + 1)]) := bind_fn X1 _ rfl
  unfold isInstance callSpecial? specialOf
  repeat (first | with_reducible refine wpAny_call ?_ | lk)
  have N2 := (N.push F (argTup rest)).push (F.push _) (errObj h.objs.size none)
  rw [Heap.size_push] at N2
  refine codeAny_mono (hk _ h.objs.size _ ((F.push _).push _) N2 (fun p hp => Heap.lt_size (N p hp).1) (Nat.lt_succ_self _)) fun r s' z => ?_
  rcases r with e | (v | _ | _ | _) <;> first | exact z | exact z.elim | skip
  obtain ⟨rfl, z⟩ := z
  exact wpAny_pure (wpAny_pure z)
end
end
section
set_option maxHeartbeats 8000000
open Builtin Builtin.ObjectAttr
section
variable {prog : Program} {w : World} {A : Around} {E : Value → Shared → Prop} {s : Shared} {h₀ : Heap} {L : Addr} {m : Str → Option Value} {news : Led}
theorem err_set {x t : Addr} {v : Value} {Q : Unit → Shared → Prop} (F : Fr h₀ L s.heap m) (X₀ : (hd.heap_1 w.params).In h₀) (N : News h₀ L s.heap news) (hm : (x, errObj t none) ∈ news)
    (hk : ∀ h' tk' dx, Fr h₀ L h' m → News h₀ L h' (upd news x (errObj t (some dx))) → Q () { s with heap := h', toks := tk' }) :
    wpAny (model prog w) A (setAttr (.ref x) "message" v) Q E s := by
  have X := X₀.keeps F.keep
  have hx := (N _ hm).1
  refine set_plain X (C := 63) (ox := errObj t none) (od := none) ⟨hx, rfl, rfl, trivial⟩ (by k_is) ?_
  obtain ⟨h, g, d, tk, os⟩ := s
  dsimp only at hx F N X
  have SF := PySem.F.store_Exception
  have ty : Looks (model prog w) h (typeOf (.ref x)) (.ref 63) := (Looks.ld hx).andThen .now
  have mr : Looks (model prog w) h (mroOf (.ref 63)) [.ref 63, .ref 50, .type "Exception", .type "BaseException", .type "object"] := (looks_clsIn X (C := 63) (by k_is)).andThen .now
  have sub : Looks (model prog w) h (isInstance (.ref x) (.type "object")) true := ty.andThen (looks_mroIn X (by k_is))
  have lk1 : Looks (model prog w) h (typeLookup (.ref 63) "message") none := looks_findIn X (by k_is)
  refine codeAny_call_builtin SF.slot.plain SF.entry (@check_slot (model prog w) _ _ _ "object.__setattr__" "object" "__setattr__" (.ref x) [.str "message" tk, v] [] _ SF.kind SF.split sub (SF.args (.ref x) (.str "message" tk) v) ?_)
  rw [osa_eq, refuse_eq]
  refine wpAny_bind (wpAny_bind (ty.here (wpAny_bind (mr.here ?_))))
  rw [refuseLoop_ref, refuseLoop_ref, SF.passes]
  refine wpAny_pure (wpAny_bind (ty.here (wpAny_bind (lk1.here (wpAny_bind (Looks.now.here ?_))))))
  dsimp only
  unfold storeInOwnDict ownStreamTells
  refine wpAny_bind (wpAny_pure ?_)
  rw [if_neg (show ¬ ((Value.ref 63 == Value.type "module") = true) from by decide)]
  refine wpAny_bind ?_
  unfold ownDictForStores instanceDict
  refine wpAny_bind (wpAny_loadPart hx ?_)
  obtain ⟨cd, hcd, hdi⟩ : ∃ cd, clsIn (hd.heap_1 w.params) 63 = some cd ∧ cd.hasDict = true := ⟨_, rfl, rfl⟩
  show wpAny _ _ (classData 63 >>= _) _ _ _
  refine wpAny_bind ((looks_clsIn X hcd).here ?_)
  rw [hdi, if_neg (by decide)]
  show wpAny _ _ (alloc { cls := .type "dict", data := .dict #[] } >>= fun d => update x (fun o => { cls := o.cls, dict := some d, data := o.data, slots := o.slots }) >>= fun _ => pure (some d)) _ _ _
  have hx1 : (h.push { cls := .type "dict", data := .dict #[] }).get? x = some (errObj t none) := Heap.get?_push_of_some _ hx
  have hne : x ≠ h.objs.size := Nat.ne_of_lt (Heap.lt_size hx)
  refine wpAny_bind (wpAny_alloc' (wpAny_bind (wpAny_update' hx1 (wpAny_pure ?_))))
  have N1 : News h₀ L (h.push { cls := .type "dict", data := .dict #[] }) ([] ++ (x, errObj t none) :: news.filter (fun p => p.1 != x)) := fun p hp => N.pushKeep _ p ((List.mem_cons.mp hp).elim (fun e => e ▸ hm) fun e => (List.mem_filter.mp e).1)
  obtain ⟨F2, N2⟩ := PySem.W.news_upd (f := fun o => { cls := o.cls, dict := some h.objs.size, data := o.data, slots := o.slots }) (o' := errObj t (some h.objs.size)) (F.push _) N1 (fun p hp => nomatch hp) off_filter rfl rfl
  have hgd : ((h.push { cls := .type "dict", data := .dict #[] }).update x fun o => { cls := o.cls, dict := some h.objs.size, data := o.data, slots := o.slots }).get? h.objs.size = some { cls := .type "dict", data := .dict #[] } :=
    (Heap.get?_update_ne _ _ _ _ hne.symm).trans (Heap.get?_push_at rfl rfl)
  have hlt : ∀ p ∈ upd news x (errObj t (some h.objs.size)), p.1 ≠ h.objs.size := fun p hp => (List.mem_cons.mp hp).elim (fun e => e ▸ hne) fun e => Nat.ne_of_lt (Heap.lt_size (N p (List.mem_filter.mp e).1).1)
  generalize hh2 : ((h.push { cls := .type "dict", data := .dict #[] }).update x fun o => { cls := o.cls, dict := some h.objs.size, data := o.data, slots := o.slots }) = h2 at F2 N2 hgd
  have hnd : h2.Ns h.objs.size (fun _ => none) := ⟨_, #[], _, hgd, rfl, fun e he => absurd he (by simp), fun _ => rfl⟩
  have hLs : L ≠ h.objs.size := by obtain ⟨oL, _, _, hL, _⟩ := F.ns; exact Nat.ne_of_lt (Heap.lt_size hL)
  show wpAny _ _ (storeInDict h.objs.size (.str "message" tk) "message" v) _ _ _
  unfold storeInDict newKeyGuard
  refine wpAny_bind (wpAny_pure (wpAny_bind (wpAny_nsSet1 (Heap.Ns1.of_empty hnd) fun h' hn' hs => ?_)))
  obtain ⟨oD, esD, epD, hoD, hdD, hcD⟩ := hn'.count (Within.cons "message" v Within.nil)
  refine wpAny_bind (wpAny_lookBehind hoD (by rw [hdD]; exact pastItsLine_dict (Nat.le_trans hcD (by rw [List.length_cons, List.length_nil, sizeLine_eq]; omega))) ?_)
  refine wpAny_pure ?_
  refine hk h' _ h.objs.size ⟨?_, fun b o e => (hs.2 b ?_).trans (F2.keep b o e), F2.above⟩ fun p hp => ⟨(hs.2 _ (hlt p hp)).trans (N2 p hp).1, (N2 p hp).2⟩
  · obtain ⟨oL, a1, a2, hL, r⟩ := F2.ns
    exact ⟨oL, a1, a2, (hs.2 _ hLs).trans hL, r⟩
  · have := F.keep b o e
    exact Nat.ne_of_lt (Heap.lt_size this)
end
end
section
set_option maxHeartbeats 8000000
section
variable {prog : Program} {w : World} {A : Around} {E : Value → Shared → Prop} {s : Shared} {env : Env}
noncomputable def RaisErr (E : Value → Shared → Prop) (v : Value) (s₁ : Shared) : Prop :=
  ∃ x t dx, v = .ref x ∧ s₁.heap.get? 63 = some errCls ∧ s₁.heap.get? x = some (errObj t (some dx)) ∧ E (.ref x) s₁
theorem Raise_err {e : Expr} {pos : Pos} {Q : Flow → Shared → Prop} (hh : A.handled = none)
    (h : wpAny (model prog w) A (eval e env) (RaisErr E) E s) : wpAny (model prog w) A (exec (.Raise (some e) none pos) env) Q E s := by
  show wpAny _ A (do standAt pos; raiseStmt env (some (do let v ← eval e env; standAt pos; pure v)) none) Q E s
  refine wpAny_bind (wpAny_standAt ?_)
  unfold raiseStmt
  refine wpAny_bind (wpAny_bind (wpAny_mono h (fun v s₁ h₁ => wpAny_bind (wpAny_standAt (wpAny_pure ?_))) fun _ _ x => x))
  obtain ⟨x, t, dx, rfl, hC, he, hE⟩ := h₁
  obtain ⟨hp, g, d, tk, os⟩ := s₁
  repeat (first | with_reducible refine wpAny_loadPart_at he ?_ | with_reducible refine wpAny_loadPart_at hC ?_ | with_reducible refine err_has _ rfl hC ?_ | wp_step)
  exact wpAny_raiseNew_none hh hE
end
section
variable {M : Model} {A : Around} {E : Value → Shared → Prop} {s' : Shared} {base g : Heap} {outer : List Env} {L a e t dx : Addr} {m : Str → Option Value} {name : Str} {scope : Scope} {cd : Value} {Q : Unit → Shared → Prop} {news : Led} {vs : List Value}
theorem leave_err (K : Below A base outer g) (F : Fr g L s'.heap m) (N : News g L s'.heap news) (hx : (e, errObj t (some dx)) ∈ news) (ht : (t, argTup vs) ∈ news)
    (hQ : ∀ h', RaisedS base g outer e (.ref 63) t vs (news.filter fun p => decide (p.1 ≠ e ∧ p.1 ≠ t)) h' → g.UpToSlots h' → Q () { s' with heap := h' }) (hk : scope.kind = .function := by rfl) :
    wpAny M (A.deeper (envOf name scope L a cd)) (leaving (envOf name scope L a cd) (.ref e)) Q E s' := by
  have K' := K.push (name := name) (a := a) (cd := cd) F hk
  generalize hfs : (envOf name scope L a cd :: outer).filterMap (·.frame) = fs
  have hin : ∀ env ∈ (envOf name scope L a cd :: outer), ∀ b, env.frame = some b → b ∈ e :: t :: fs := fun env he b hb => .tail _ (.tail _ (hfs ▸ List.mem_filterMap.mpr ⟨env, he, hb⟩))
  have gfs : ∀ b o, g.get? b = some o → b ∉ outer.filterMap (·.frame) → b ∉ e :: t :: fs := fun b o q nm hm => by
    rcases List.mem_cons.mp hm with z | hm
    · have := (N _ hx).2.2; rw [← z, q] at this; cases this
    rcases List.mem_cons.mp hm with z | hm
    · have := (N _ ht).2.2; rw [← z, q] at this; cases this
    rcases kts_mem (hfs ▸ hm) with z | z
    · rw [z, kts_self F] at q; cases q
    · exact nm z
  have bfs : ∀ b o, base.get? b = some o → b ∉ e :: t :: fs := fun b o q hm => by
    rcases List.mem_cons.mp hm with z | hm
    · have := fresh_of_stays K.stays (N _ hx).2.2; rw [← z, q] at this; cases this
    rcases List.mem_cons.mp hm with z | hm
    · have := fresh_of_stays K.stays (N _ ht).2.2; rw [← z, q] at this; cases this
    rw [(K'.frames.mem (hfs ▸ hm)).1] at q; cases q
  have st : base.StaysIn (hideAll s'.heap (e :: t :: fs)) := fun b o q => hideAll_get _ (K'.stays b o q) (bfs b o q)
  have sg : ∀ b o, g.get? b = some o → b ∉ outer.filterMap (·.frame) → (hideAll s'.heap (e :: t :: fs)).get? b = some o := fun b o q nm => hideAll_get _ (F.keep b o q) (gfs b o q nm)
  have hl : ∀ q ∈ news.filter (fun p => decide (p.1 ≠ e ∧ p.1 ≠ t)), (hideAll s'.heap (e :: t :: fs)).get? q.1 = some q.2 ∧ g.get? q.1 = none ∧ base.get? q.1 = none := fun q hq => by
    obtain ⟨hq, hd⟩ := List.mem_filter.mp hq
    obtain ⟨d1, d2⟩ := of_decide_eq_true hd
    refine ⟨hideAll_get _ (N q hq).1 fun hm => ?_, (N q hq).2.2, fresh_of_stays K.stays (N q hq).2.2⟩
    rcases List.mem_cons.mp hm with z | hm
    · exact d1 z
    rcases List.mem_cons.mp hm with z | hm
    · exact d2 z
    rcases kts_mem (hfs ▸ hm) with z | z
    · exact (N q hq).2.1 z
    · obtain ⟨o, ho, _⟩ := (K.frames.mem z).2
      rw [(N q hq).2.2] at ho; cases ho
  have he := (N _ hx).1
  have ne : (hideAll s'.heap (e :: t :: fs)).get? e = none := hideAll_none _ (.head _)
  have nt : (hideAll s'.heap (e :: t :: fs)).get? t = none := hideAll_none _ (.tail _ (.head _))
  refine wpAny_leaving_firstW (base := hideAll s'.heap (e :: t :: fs)) (a0 := .ref t) K'.stack (funFrames_hide K'.frames hin) rfl he (fun b o q => of_hideAll _ q) ne rfl rfl rfl fun h' hL => ?_
  obtain ⟨k1, ⟨_, _, k2⟩, k3, k4⟩ := hL
  exact hQ h' ⟨⟨_, st, sg, hl, ⟨k1, ne, k2, k3⟩, nt⟩, Heap.TupAt.of_slots ⟨_, _, (N _ ht).1, rfl, rfl⟩ k4⟩ ((Heap.UpToSlots.of_keeps F.keep).trans k4)
end
end
section
theorem hC {M : Model} {A : Around} {Q : Value → Shared → Prop} {E : Value → Shared → Prop} {s : Shared} {vs : List Value} (a : Addr) (h : wpAny M A (call (.ref a) vs) Q E s) : wpAny M A (call (.ref a) vs) Q E s := h
local macro_rules | `(tactic| walk_at "ct_enter") => `(tactic| (
  refine wpAny_call ?_
  k_dflt (refine' code_def ?k1 ?k2 ?k3 ?k4 ?k5 ?kA ?kF ?kK ?k6 ?k7 ?k8 ?k9 ?kB ?_ ?c2 ?c3 ?c4 ?c5; (case kA => exact rfl); (case kF | kK => assumption); (case k1 | k2 => k_asm); (case k3 | k4 | k5 => k_asm); (case k6 | k7 => k_is); (case k8 => k_room); (case k9 => exact BindsTo.of_eq rfl); (case c5 => decide); (case kB => exact locs rfl); (case c2 | c3 | c4 => exact rfl); k_whole)))
local macro_rules | `(tactic| walk_at "ct_enterC") => `(tactic| (
  refine wpAny_call ?_
  k_dflt (refine' code_defC ?k1 ?k2 ?k3 ?k4 ?k5 ?kA ?kF ?kK ?k6 ?k7 ?k8 ?k9 ?kB ?kD ?_ ?c2 ?c3 ?c4; (case kA => exact rfl); (case kF | kK => assumption); (case k1 | k2 => k_asm); (case k3 | k4 | k5 => k_asm); (case k6 | k7 => k_is); (case k8 => k_room); (case k9 => first | exact BindsTo.of_eq rfl | exact binds_K (by k_in) rfl (by k_is) rfl rfl rfl); (case kB => exact rfl); (case kD => decide +kernel); (case c2 | c3 | c4 => exact rfl); k_whole)))
local macro_rules | `(tactic| walk_at "ct_tail") => `(tactic| first | assumption | (refine' List.Mem.tail _ ?_; walk_at "ct_tail") | ((with_reducible refine' memR ?_); walk_at "ct_tail") | ((with_reducible refine' memL ?_); walk_at "ct_tail"))
local macro_rules | `(tactic| walk_at "ct_sub") => `(tactic| first | exact List.forall_mem_nil _ | (refine' List.forall_mem_cons.mpr ⟨?_, ?_⟩; (focus k_mem); walk_at "ct_sub") | (intro p hp; walk_at "ct_tail"))
local macro_rules | `(tactic| walk_at "ct_news") => `(tactic| (first | assumption | (refine' cb_drop ?_ ?_; (rotate_left); (focus assumption); walk_at "ct_sub")))
local macro_rules | `(tactic| k_mem) => `(tactic| first | ((with_reducible refine' memR ?_); k_mem) | ((with_reducible refine' memL ?_); k_mem) | (refine' memA ?_; with_reducible assumption))
local macro_rules | `(tactic| walk_at "eval ListComp") => `(tactic| (refine Hold.of ?_))
local macro_rules | `(tactic| walk_at "exec Assign cons ListComp") => `(tactic| (refine Hold.of ?_))
local macro_rules | `(tactic| walk_at "pyIter ref") => `(tactic| (refine Hold.of ?_))
local macro_rules | `(tactic| walk_at "eval Name") => `(tactic| (k_here; k_inBlock; (refine' nameB_L ?N ?hns ?hl ?hm ?hv ?hk ?hx ?hd ?_; (case N => k_asm); (case hns => with_reducible assumption); (case hl => exact rfl); (case hm => k_mem); (case hv => with_reducible assumption); (case hk | hx => exact rfl); (case hd => decide); k_whole)))
local macro_rules | `(tactic| walk_at "eval Name") => `(tactic| (k_here; k_inBlock; (refine' nameB_C ?N ?hc ?hm ?hdd ?hk ?hx ?hb ?_; (case hc => exact rfl); (case N => k_asm); (case hm => k_mem); (case hdd => k_asm); (case hk | hx => exact rfl); (case hb => decide); k_whole)))
local macro_rules | `(tactic| walk_at "ct_comp") => `(tactic| (refine' ListComp_fr ?hclos ?hcell ?hkind ?hnames ?hx ?_; (case hclos => with_unfolding_all rfl); (case hcell => decide); (case hkind => with_unfolding_all rfl); (case hnames => decide); (case hx => with_unfolding_all rfl)))
local macro_rules | `(tactic| walk_at "ct_use") => `(tactic| ((case kA | kf => exact rfl); (case kk | kh => exact rfl); (case kB | kF => k_asm); (case kX | kN | kT => k_asm); (case kd | ku => exact Nat.le_of_ble_eq_true rfl)))
local macro_rules | `(tactic| walk_at "ct_useN") => `(tactic| ((case kA | kf => exact rfl); (case kk | kh => exact rfl); (case kB | kF => k_asm); (case kX | kT => k_asm); (case kd | ku => exact Nat.le_of_ble_eq_true rfl)))
local macro_rules | `(tactic| walk_at "call type:range") => `(tactic| (k_here; first | (refine' range1_rows ?F ?N ?_; (case F | N => k_asm); k_whole; intro h' tk' t' u' v' R' F' N' K') | (refine' range2_rows ?F ?N ?_; (case F | N => k_asm); k_whole; intro h' tk' t' u' v' R' F' N' K')))
local macro_rules | `(tactic| k_all) => `(tactic| (refine ne_of_aboveA (by assumption) ?_; omega))
local macro_rules | `(tactic| walk_at "subscriptTail") => `(tactic| (k_here; (with_reducible show wpAny _ _ (subscriptTail _ _ (Value.ref _) (Value.int _ _)) _ _ _); (with_unfolding_all refine' item_tupleT ?t ?a ?b ?c ?d ?_; (case t => refine' VTup.tup (VTup.mono ?h1 ?h2) ?h3 ?h4 ?h5; (case h1 => with_reducible assumption); (case h5 | h3 | h4 => k_asm); (case h2 => walk_at "ct_sub")); (case a | b => decide); (case c | d => rfl); k_whole)))

local macro_rules | `(tactic| walk_at "ct_cls") => `(tactic| k_dflt (refine' call_cls ?k1 ?k2 ?k3 ?k4 ?k5 ?k6 ?_; (case k1 | k2 | k3 => k_asm); (case k4 | k5 | k6 => k_is); k_whole))
local macro_rules | `(tactic| walk_at "ct_go") => `(tactic| k_dflt (refine' code_def ?k1 ?k2 ?k3 ?k4 ?k5 ?kA ?kF ?kK ?k6 ?k7 ?k8 ?k9 ?kB ?_ ?c2 ?c3 ?c4 ?c5; (case kA => exact rfl); (case kF | kK => first | assumption | exact rfl); (case k1 | k2 => k_asm); (case k3 | k4 | k5 => k_asm); (case k6 | k7 => k_is); (case k8 => k_room); (case k9 => first | exact BindsTo.of_eq rfl | exact binds_K (by k_in) rfl (by k_is) rfl rfl rfl); (case c5 => decide); (case kB => exact locs rfl); (case c2 | c3 | c4 => exact rfl); k_whole))
local macro_rules | `(tactic| walk_at "ct_goC") => `(tactic| k_dflt (refine' code_defC ?k1 ?k2 ?k3 ?k4 ?k5 ?kA ?kF ?kK ?k6 ?k7 ?k8 ?k9 ?kB ?kD ?_ ?c2 ?c3 ?c4; (case kA => exact rfl); (case kF | kK => assumption); (case k1 | k2 => k_asm); (case k3 | k4 | k5 => k_asm); (case k6 | k7 => k_is); (case k8 => k_room); (case k9 => first | exact BindsTo.of_eq rfl | exact binds_K (by k_in) rfl (by k_is) rfl rfl rfl); (case kB => exact rfl); (case kD => decide +kernel); (case c2 | c3 | c4 => exact rfl); k_whole))
local macro_rules | `(tactic| k_in) => `(tactic| first | with_reducible assumption | exact Frag.In.keeps (by with_reducible assumption) (Fr.keep (by with_reducible assumption)))
local macro_rules | `(tactic| k_all) => `(tactic| with_reducible assumption)
section
set_option maxHeartbeats 1000000
local macro_rules | `(tactic| walk_at "ct_news") => `(tactic| (first | assumption | (refine cb_drop (by assumption) ?_; intro p hp; (repeat (first | exact hp | apply List.mem_cons_of_mem)))))
/-- Python's weighted, mixed -/
noncomputable def wt (n alpha : Int) : Int := (2 * n * alpha + 255) / 510
noncomputable def mx (a b c d : Int) : Int := (2 * (a * b + c * d) + 255) / 510
theorem post_int {x y : Int} {t : Tok} (h : x = y) : ∃ t', Value.int x t = .int y t' := ⟨t, by rw [h]⟩

theorem weighted_ct {w : World} {news : Led} {n alpha : Int} {t1 t2 : Tok} (hn : 0 ≤ n ∧ n ≤ 255) (ha : 0 ≤ alpha ∧ alpha ≤ 255) :
    Ct w 28 [.int n t1, .int alpha t2] 90 600 news fun v n' => (∃ t, v = .int (wt n alpha) t) ∧ n' = news := by
  refine Ct.of fun prog p loose mean mg mb A₀ env outer base h₀ L m s Q E B F X N T hf hk hret => ?_
  walk_at "ct_enter"
  intro g' L' h' FG' F' N' B' X' T'
  (try dsimp only)
  (try k_lift B')
  (try k_fold)
  k_steps
  exact hret _ _ _ _ ⟨post_int (Int.fdiv_eq_ediv_of_nonneg _ (by decide)), rfl⟩ (by assumption) (by walk_at "ct_news")

theorem mixed_ct {w : World} {news : Led} {a b c d : Int} {t1 t2 t3 t4 : Tok} (ha : 0 ≤ a ∧ a ≤ 255) (hb : 0 ≤ b ∧ b ≤ 255) (hc : 0 ≤ c ∧ c ≤ 255) (hd4 : 0 ≤ d ∧ d ≤ 255) :
    Ct w 96 [.int a t1, .int b t2, .int c t3, .int d t4] 90 600 news fun v n' => (∃ t, v = .int (mx a b c d) t) ∧ n' = news := by
  refine Ct.of fun prog p loose mean mg mb A₀ env outer base h₀ L m s Q E B F X N T hf hk hret => ?_
  walk_at "ct_enter"
  intro g' L' h' FG' F' N' B' X' T'
  (try dsimp only)
  (try k_lift B')
  (try k_fold)
  k_steps
  exact hret _ _ _ _ ⟨post_int (Int.fdiv_eq_ediv_of_nonneg _ (by decide)), rfl⟩ (by assumption) (by walk_at "ct_news")

/-- inner, for the four modes of the law -/
inductive Mode where | normal | multiply | screen | difference
noncomputable def Mode.name : Mode → Str | .normal => "normal" | .multiply => "multiply" | .screen => "screen" | .difference => "difference"
noncomputable def inn : Mode → Int → Int → Int → Int → Int
  | .normal, o, _, _, b => o * b
  | .multiply, o, _, u, _ => o * u
  | .screen, o, a, u, b => o * b + u * a - o * u
  | .difference, o, a, u, b => if o * b - u * a < 0 then -(o * b - u * a) else o * b - u * a
set_option linter.unusedVariables false
noncomputable def bp (md : Mode) (o a u b : Int) : Int := (2 * (inn md o a u b + o * (255 - b) + u * (255 - a)) + 255) / 510

noncomputable def MidV (g : Heap) (L : Addr) (m : Str → Option Value) (s₀ : Shared) (G : Value → Led → Prop) (v : Value) (s' : Shared) : Prop := ∃ h' tk n', s' = { s₀ with heap := h', toks := tk } ∧ Fr g L h' m ∧ News g L h' n' ∧ G v n'
theorem MidV.intro {g h' : Heap} {L : Addr} {s₀ : Shared} {G : Value → Led → Prop} {tk : Nat} {m : Str → Option Value} {n' : Led} {v : Value} (F : Fr g L h' m) (N : News g L h' n') (hG : G v n') : MidV g L m s₀ G v { s₀ with heap := h', toks := tk } := ⟨h', tk, n', rfl, F, N, hG⟩
theorem mid_val {M : Model} {A : Around} {t : Sem Value} {Q : Value → Shared → Prop} {E : Value → Shared → Prop} {s : Shared} {g : Heap} {L : Addr} {m : Str → Option Value} (F : Fr g L s.heap m) (G : Value → Led → Prop) (h : wpAny M A t (MidV g L m s G) E s) (hQ : ∀ v h' tk n', Fr g L h' m → News g L h' n' → G v n' → Q v { s with heap := h', toks := tk }) : wpAny M A t Q E s :=
  wpAny_mono h (fun v s' x => by obtain ⟨h', tk, n', rfl, F, N, hG⟩ := x; exact hQ v h' tk n' F N hG) fun _ _ x => x
inductive GInn (news : Led) (md : Mode) (a b c d : Int) (v : Value) (n' : Led) : Prop
  | mk (t : Tok) (e : v = .int (inn md a b c d) t) (k : ∀ p ∈ news, p ∈ n')
local macro_rules | `(tactic| walk_at "call ref") => `(tactic| (k_here; (with_reducible refine' hC 164 ?_); refine Hold.of ?_))
theorem bpart_ct {w : World} {news : Led} {md : Mode} {a b c d : Int} {t0 t1 t2 t3 t4 : Tok} (ha : 0 ≤ a ∧ a ≤ 255) (hb : 0 ≤ b ∧ b ≤ 255) (hc : 0 ≤ c ∧ c ≤ 255) (hd4 : 0 ≤ d ∧ d ≤ 255) :
    Ct w 171 [.str md.name t0, .int a t1, .int b t2, .int c t3, .int d t4] 80 550 news fun v n' => (∃ t, v = .int (bp md a b c d) t) ∧ n' = news := by
  generalize hn : md.name = nm
  refine Ct.of fun prog p loose mean mg mb A₀ env outer base h₀ L m s Q E B F X N T hf hk hret => ?_
  walk_at "ct_enter"
  intro g' L' h' FG' F' N' B' X' T'
  (try dsimp only)
  (try k_lift B')
  (try k_fold)
  k_steps
  refine Hold.out ?_
  (rename Fr _ _ _ _ => F0)
  (rename News _ _ _ _ => N0)
  refine mid_val F0 (GInn news md a b c d) ?win ?rin
  case win =>
    refine wpAny_call ?_
    walk_at "ct_go"
    intro gp Lp hp FGp Fp Np Bp Xp Tp
    (try dsimp only)
    (try k_lift Bp)
    (try k_fold)
    cases md
    · obtain rfl : nm = Str.ofString "normal" := hn.symm
      clear hn
      k_steps
      exact MidV.intro (by assumption) (by assumption) (GInn.mk _ rfl (by intro p hp; repeat (first | exact hp | apply List.mem_cons_of_mem)))
    · obtain rfl : nm = Str.ofString "multiply" := hn.symm
      clear hn
      k_steps
      exact MidV.intro (by assumption) (by assumption) (GInn.mk _ rfl (by intro p hp; repeat (first | exact hp | apply List.mem_cons_of_mem)))
    · obtain rfl : nm = Str.ofString "screen" := hn.symm
      clear hn
      k_steps
      exact MidV.intro (by assumption) (by assumption) (GInn.mk _ rfl (by intro p hp; repeat (first | exact hp | apply List.mem_cons_of_mem)))
    · obtain rfl : nm = Str.ofString "difference" := hn.symm
      clear hn
      k_steps
      exact MidV.intro (by assumption) (by assumption) (GInn.mk _ rfl (by intro p hp; repeat (first | exact hp | apply List.mem_cons_of_mem)))
  case rin =>
    intro v h0 tk0 n0 F1 N1 hG
    obtain ⟨t5, rfl, hk5⟩ := hG
    k_steps
    exact hret _ _ _ _ ⟨post_int (Int.fdiv_eq_ediv_of_nonneg _ (by decide)), rfl⟩ (by assumption) (cb_drop (by assumption) hk5)
end
section
set_option maxHeartbeats 1000000
local macro_rules | `(tactic| walk_at "call ref") => `(tactic| (k_here; (with_reducible refine' hC 28 ?_); refine Hold.of ?_))
theorem dimmed_ct {w : World} {news : Led} {v : Value} {c : Col} {alpha : Int} {t : Tok} (hv : ColIn w news v c) (hc : c.Ok) (ha : 0 ≤ alpha ∧ alpha ≤ 255) :
    Ct w 33 [v, .int alpha t] 80 550 news fun v' n' => NewCol news (wt c.r alpha) (wt c.g alpha) (wt c.b alpha) (wt c.a alpha) v' n' := by
  obtain ⟨a, u1, u2, u3, u4, rfl, hT⟩ := hv
  refine Ct.of fun prog p loose mean mg mb A₀ env outer base h₀ L m s Q E B F X N T hf hk hret => ?_
  walk_at "ct_enterC"
  intro g' L' h' tk' cells' FG' F' N' Y' B' X' T' l1
  replace l1 : Above _ L' := l1
  k_cells Y'
  (try simp only [List.cons_append, List.nil_append] at N')
  (try dsimp only)
  (try k_lift B')
  (try k_fold)
  k_steps
  refine Hold.out ?_
  refine' ListComp_fr (L := L') (h₀ := g') ?hclos ?hcell ?hkind ?hnames ?hx ?_
  case hclos => with_unfolding_all rfl
  case hcell => decide
  case hkind => with_unfolding_all rfl
  case hnames => decide
  case hx => with_unfolding_all rfl
  k_steps
  refine Hold.out ?_
  have hsT := VTup.tuple (hT.mono (fun p hp => List.mem_cons_of_mem _ hp)) F' X' N'
  have hnL := VTup.neL (hT.mono (fun p hp => List.mem_cons_of_mem _ hp)) F' X' N'
  refine compAt_tuple rfl hsT (Nat.le_of_ble_eq_true rfl) hnL F' N' (fun i ys n => n = _ ∧ IntsAre ys (([c.r, c.g, c.b, c.a].map (wt · alpha)).take i)) ⟨rfl, .nil⟩ ?step ?done
  case step =>
    intro C D wr i v ys nn oC mC own news₁ h tk hC hD hw hi hlen hJ ho hns hmx F'' N''
    obtain ⟨rfl, hJ⟩ := hJ
    obtain ⟨x, tx, rfl, hx, hxb⟩ : ∃ x tx, v = .int x tx ∧ [c.r, c.g, c.b, c.a][i]? = some x ∧ 0 ≤ x ∧ x ≤ 255 := by
      obtain ⟨h1, h2, h3, h4⟩ := hc
      rcases i with _ | _ | _ | _ | i
      · cases hi; exact ⟨_, _, rfl, rfl, h1⟩
      · cases hi; exact ⟨_, _, rfl, rfl, h2⟩
      · cases hi; exact ⟨_, _, rfl, rfl, h3⟩
      · cases hi; exact ⟨_, _, rfl, rfl, h4⟩
      · cases hi
    k_steps
    refine Hold.out ?_
    refine' Ct.use (weighted_ct (n := x) (alpha := alpha) hxb ha) ?kB ?kF ?kX ?kN ?kT ?kA ?kf ?kk ?kh ?kd ?ku ?_
    case kA => exact rfl
    case kf => exact rfl
    case kk => exact rfl
    case kh => exact rfl
    case kB => k_asm
    case kF => k_asm
    case kX => k_asm
    case kN => k_asm
    case kT => k_asm
    case kd => exact Nat.le_of_ble_eq_true rfl
    case ku => exact Nat.le_of_ble_eq_true rfl
    intro v' news' h3 tk3 hP F3 N3
    obtain ⟨⟨t', rfl⟩, rfl⟩ := hP
    k_steps
    exact CompEnd.intro _ F3 N3 ho ⟨rfl, by rw [take_next (x := wt x alpha) (by rw [List.getElem?_map, hx]; rfl)]; exact ints_snoc hJ rfl⟩
  intro D h3 tk3 news' ys nn hD F3 N3 ho hlen hJ
  obtain ⟨rfl, hJ⟩ := hJ
  have hJ : IntsAre ys [wt c.r alpha, wt c.g alpha, wt c.b alpha, wt c.a alpha] := hJ
  obtain ⟨t1, t2, t3, t4, rfl⟩ := ints4 hJ
  k_steps
  rename_i l9 _ _ _ _
  exact hret _ _ _ _ ⟨_, _, _, _, _, rfl, rfl, of_allLt l9.2.2⟩ (by assumption) (by walk_at "ct_news")

theorem lawWeighted_ct {w : World} {news : Led} {v : Value} {c : Col} {alpha : Int} {t : Tok} (hv : ColIn w news v c) (hc : c.Ok) (ha : 0 ≤ alpha ∧ alpha ≤ 255) :
    Ct w 336 [v, .int alpha t] 80 550 news fun v' n' => NewCol news (wt c.r alpha) (wt c.g alpha) (wt c.b alpha) (wt c.a alpha) v' n' := by
  obtain ⟨a, u1, u2, u3, u4, rfl, hT⟩ := hv
  refine Ct.of fun prog p loose mean mg mb A₀ env outer base h₀ L m s Q E B F X N T hf hk hret => ?_
  walk_at "ct_enterC"
  intro g' L' h' tk' cells' FG' F' N' Y' B' X' T' l1
  replace l1 : Above _ L' := l1
  k_cells Y'
  (try simp only [List.cons_append, List.nil_append] at N')
  (try dsimp only)
  (try k_lift B')
  (try k_fold)
  k_steps
  refine Hold.out ?_
  refine' ListComp_fr (L := L') (h₀ := g') ?hclos ?hcell ?hkind ?hnames ?hx ?_
  case hclos => with_unfolding_all rfl
  case hcell => decide
  case hkind => with_unfolding_all rfl
  case hnames => decide
  case hx => with_unfolding_all rfl
  k_steps
  refine Hold.out ?_
  have hsT := VTup.tuple (hT.mono (fun p hp => List.mem_cons_of_mem _ hp)) F' X' N'
  have hnL := VTup.neL (hT.mono (fun p hp => List.mem_cons_of_mem _ hp)) F' X' N'
  refine compAt_tuple rfl hsT (Nat.le_of_ble_eq_true rfl) hnL F' N' (fun i ys n => n = _ ∧ IntsAre ys (([c.r, c.g, c.b, c.a].map (wt · alpha)).take i)) ⟨rfl, .nil⟩ ?step ?done
  case step =>
    intro C D wr i v ys nn oC mC own news₁ h tk hC hD hw hi hlen hJ ho hns hmx F'' N''
    obtain ⟨rfl, hJ⟩ := hJ
    obtain ⟨x, tx, rfl, hx, hxb⟩ : ∃ x tx, v = .int x tx ∧ [c.r, c.g, c.b, c.a][i]? = some x ∧ 0 ≤ x ∧ x ≤ 255 := by
      obtain ⟨h1, h2, h3, h4⟩ := hc
      rcases i with _ | _ | _ | _ | i
      · cases hi; exact ⟨_, _, rfl, rfl, h1⟩
      · cases hi; exact ⟨_, _, rfl, rfl, h2⟩
      · cases hi; exact ⟨_, _, rfl, rfl, h3⟩
      · cases hi; exact ⟨_, _, rfl, rfl, h4⟩
      · cases hi
    k_steps
    exact CompEnd.intro _ (by assumption) (by assumption) ho ⟨rfl, by rw [take_next (x := wt x alpha) (by rw [List.getElem?_map, hx]; rfl)]; exact ints_snoc hJ (Int.fdiv_eq_ediv_of_nonneg _ (by decide))⟩
  intro D h3 tk3 news' ys nn hD F3 N3 ho hlen hJ
  obtain ⟨rfl, hJ⟩ := hJ
  have hJ : IntsAre ys [wt c.r alpha, wt c.g alpha, wt c.b alpha, wt c.a alpha] := hJ
  obtain ⟨t1, t2, t3, t4, rfl⟩ := ints4 hJ
  k_steps
  rename_i l9 _ _ _ _
  exact hret _ _ _ _ ⟨_, _, _, _, _, rfl, rfl, of_allLt l9.2.2⟩ (by assumption) (by walk_at "ct_news")
end
section
set_option maxHeartbeats 1000000
local macro_rules | `(tactic| walk_at "call ref") => `(tactic| (k_here; (with_reducible refine' hC 171 ?_); refine Hold.of ?_))
local macro_rules | `(tactic| walk_at "call ref") => `(tactic| (k_here; (with_reducible refine' hC 96 ?_); refine Hold.of ?_))
noncomputable def bl (md : Mode) (c d : Col) : Col := ⟨bp md c.r c.a d.r d.a, bp md c.g c.a d.g d.a, bp md c.b c.a d.b d.a, mx c.a 255 d.a (255 - c.a)⟩
theorem blended_ct {w : World} {news : Led} {v u : Value} {c d : Col} {md : Mode} {t : Tok} (hv : ColIn w news v c) (hu : ColIn w news u d) (hc : c.Ok) (hd : d.Ok) :
    Ct w 176 [.str md.name t, v, u] 70 500 news fun v' n' => NewCol news (bl md c d).r (bl md c d).g (bl md c d).b (bl md c d).a v' n' := by
  obtain ⟨a, u1, u2, u3, u4, rfl, hT⟩ := hv
  obtain ⟨b, w1, w2, w3, w4, rfl, hU⟩ := hu
  refine Ct.of fun prog p loose mean mg mb A₀ env outer base h₀ L m s Q E B F X N T hf hk hret => ?_
  walk_at "ct_enterC"
  intro g' L' h' tk' cells' FG' F' N' Y' B' X' T' l1
  replace l1 : Above news L' := l1
  obtain ⟨o1, o2, o3, o4, o5, rfl, e1, e2, e3, e4, e5⟩ := CellsAre.five Y'
  clear Y'
  (try simp only [List.cons_append, List.nil_append] at N')
  (try dsimp only)
  (try k_lift B')
  (try k_fold)
  k_steps
  refine Hold.out ?_
  refine' Assign_ListComp_fr (h₀ := g') ?hsw ?hclos ?hcell ?hkind ?hnames ?hx ?hy ?hp ?_
  case hsw => with_unfolding_all rfl
  case hclos => with_unfolding_all rfl
  case hcell => decide
  case hkind => with_unfolding_all rfl
  case hnames => decide
  case hx => with_unfolding_all rfl
  case hy => with_unfolding_all rfl
  case hp => with_unfolding_all rfl
  k_steps
  refine Hold.out ?_
  refine compAt_range (n := 3) rfl (by assumption) (by decide) (by decide) (Nat.le_of_ble_eq_true rfl) (by assumption) (by assumption) (fun i ys n => n = _ ∧ IntsAre ys (([bp md c.r c.a d.r d.a, bp md c.g c.a d.g d.a, bp md c.b c.a d.b d.a]).take i)) ⟨rfl, .nil⟩ ?step ?done
  case step =>
    intro C D wr i ti ys nn oC mC own news₁ h tk hC hD hw hi hlen hJ ho hns hmx F'' N''
    obtain ⟨rfl, hJ⟩ := hJ
    obtain ⟨c1, c2, c3, c4⟩ := hc
    obtain ⟨d1, d2, d3, d4⟩ := hd
    rcases i with _ | _ | _ | i
    · replace hmx : mC (Str.ofString "at") = some (.int 0 ti) := hmx
      k_steps
      refine Hold.out ?_
      refine' Ct.use (bpart_ct (md := md) c1 c4 d1 d4) ?kB ?kF ?kX ?kN ?kT ?kA ?kf ?kk ?kh ?kd ?ku ?_
      walk_at "ct_use"
      intro v' news' h3 tk3 hP F3 N3
      obtain ⟨⟨t', rfl⟩, rfl⟩ := hP
      k_steps
      exact CompEnd.intro _ F3 N3 ho ⟨rfl, ints_snoc hJ rfl⟩
    · replace hmx : mC (Str.ofString "at") = some (.int 1 ti) := hmx
      k_steps
      refine Hold.out ?_
      refine' Ct.use (bpart_ct (md := md) c2 c4 d2 d4) ?kB ?kF ?kX ?kN ?kT ?kA ?kf ?kk ?kh ?kd ?ku ?_
      walk_at "ct_use"
      intro v' news' h3 tk3 hP F3 N3
      obtain ⟨⟨t', rfl⟩, rfl⟩ := hP
      k_steps
      exact CompEnd.intro _ F3 N3 ho ⟨rfl, ints_snoc hJ rfl⟩
    · replace hmx : mC (Str.ofString "at") = some (.int 2 ti) := hmx
      k_steps
      refine Hold.out ?_
      refine' Ct.use (bpart_ct (md := md) c3 c4 d3 d4) ?kB ?kF ?kX ?kN ?kT ?kA ?kf ?kk ?kh ?kd ?ku ?_
      walk_at "ct_use"
      intro v' news' h3 tk3 hP F3 N3
      obtain ⟨⟨t', rfl⟩, rfl⟩ := hP
      k_steps
      exact CompEnd.intro _ F3 N3 ho ⟨rfl, ints_snoc hJ rfl⟩
    · omega
  intro D h3 tk3 news' ys nn hD F3 N3 ho hlen hJ
  obtain ⟨rfl, hJ⟩ := hJ
  obtain ⟨t1, t2, t3, rfl⟩ := ints3 hJ
  k_steps
  refine Hold.out ?_
  obtain ⟨c1, c2, c3, c4⟩ := hc
  obtain ⟨d1, d2, d3, d4⟩ := hd
  refine' Ct.use (mixed_ct (a := c.a) (b := 255) (c := d.a) (d := 255 - c.a) c4 (by decide) d4 (by omega)) ?kB ?kF ?kX ?kN ?kT ?kA ?kf ?kk ?kh ?kd ?ku ?_
  walk_at "ct_use"
  intro v' news' h4 tk4 hP F4 N4
  obtain ⟨⟨t', rfl⟩, rfl⟩ := hP
  k_steps
  exact hret _ _ _ _ ⟨_, _, _, _, _, rfl, rfl, above_lt l1 (by omega)⟩ (by assumption) (by walk_at "ct_news")
end
section
set_option maxHeartbeats 1000000
local macro_rules | `(tactic| walk_at "pad 0") => `(tactic| skip)

local macro_rules | `(tactic| walk_at "call ref") => `(tactic| (k_here; (with_reducible refine' hC 176 ?_); refine Hold.of ?_))
local macro_rules | `(tactic| walk_at "call ref") => `(tactic| (k_here; (with_reducible refine' hC 33 ?_); refine Hold.of ?_))
noncomputable def dm (c : Col) (n : Int) : Col := ⟨wt c.r n, wt c.g n, wt c.b n, wt c.a n⟩
theorem wt_bd {a n : Int} (ha : 0 ≤ a ∧ a ≤ 255) (hn : 0 ≤ n ∧ n ≤ 255) : 0 ≤ wt a n ∧ wt a n ≤ 255 := by
  have h1 : 0 ≤ a * n := Int.mul_nonneg ha.1 hn.1
  have h2 : a * n ≤ 255 * 255 := Int.mul_le_mul ha.2 hn.2 hn.1 (by decide)
  unfold wt
  rw [Int.mul_assoc]
  omega
theorem dm_ok {c : Col} {n : Int} (hc : c.Ok) (hn : 0 ≤ n ∧ n ≤ 255) : (dm c n).Ok := ⟨wt_bd hc.1 hn, wt_bd hc.2.1 hn, wt_bd hc.2.2.1 hn, wt_bd hc.2.2.2 hn⟩
theorem wt_255 (a : Int) : wt a 255 = a := by unfold wt; omega
theorem dm_255 (c : Col) : dm c 255 = c := by unfold dm; simp only [wt_255]
theorem laid255_ct {w : World} {news : Led} {v u : Value} {c d : Col} {md : Mode} {t ta : Tok} (hv : ColIn w news v c) (hu : ColIn w news u d) (hc : c.Ok) (hd : d.Ok) :
    Ct w 183 [.str md.name t, v, .int 255 ta, u] 60 450 news fun v' n' => ColIn w n' v' (bl md c d) ∧ ∀ p ∈ news, p ∈ n' := by
  obtain ⟨av, rfl⟩ : ∃ a, v = .ref a := let ⟨a, _, _, _, _, e, _⟩ := hv; ⟨a, e⟩
  obtain ⟨au, rfl⟩ : ∃ a, u = .ref a := let ⟨a, _, _, _, _, e, _⟩ := hu; ⟨a, e⟩
  refine Ct.of fun prog p loose mean mg mb A₀ env outer base h₀ L m s Q E B F X N T hf hk hret => ?_
  walk_at "ct_enter"
  intro g' L' h' FG' F' N' B' X' T'
  (try dsimp only)
  (try k_lift B')
  (try k_fold)
  k_steps
  refine Hold.out ?_
  refine' Ct.use (blended_ct (md := md) hv hu hc hd) ?kB ?kF ?kX ?kN ?kT ?kA ?kf ?kk ?kh ?kd ?ku ?_
  walk_at "ct_use"
  intro v' news' h4 tk4 hP F4 N4
  obtain ⟨a, t1, t2, t3, t4, rfl, rfl, hlt⟩ := hP
  k_steps
  refine hret _ _ _ _ ⟨⟨_, _, _, _, _, rfl, Or.inl ⟨_, .head _⟩⟩, fun p hp => List.mem_cons_of_mem _ hp⟩ (by assumption) (by walk_at "ct_news")
theorem laidn_ct {w : World} {news : Led} {v u : Value} {c d : Col} {md : Mode} {al : Int} {t ta : Tok} (hv : ColIn w news v c) (hu : ColIn w news u d) (hc : c.Ok) (hd : d.Ok) (ha : 0 ≤ al ∧ al ≤ 255) (hal : ¬ al = 255) :
    Ct w 183 [.str md.name t, v, .int al ta, u] 60 450 news fun v' n' => ColIn w n' v' (bl md (dm c al) d) ∧ ∀ p ∈ news, p ∈ n' := by
  obtain ⟨av, rfl⟩ : ∃ a, v = .ref a := let ⟨a, _, _, _, _, e, _⟩ := hv; ⟨a, e⟩
  obtain ⟨au, rfl⟩ : ∃ a, u = .ref a := let ⟨a, _, _, _, _, e, _⟩ := hu; ⟨a, e⟩
  refine Ct.of fun prog p loose mean mg mb A₀ env outer base h₀ L m s Q E B F X N T hf hk hret => ?_
  walk_at "ct_enter"
  intro g' L' h' FG' F' N' B' X' T'
  (try dsimp only)
  (try k_lift B')
  (try k_fold)
  k_steps
  · exact absurd (by assumption) hal
  refine Hold.out ?_
  refine' Ct.use (dimmed_ct hv hc ha) ?kB ?kF ?kX ?kN ?kT ?kA ?kf ?kk ?kh ?kd ?ku ?_
  walk_at "ct_use"
  intro v' news' h4 tk4 hP F4 N4
  obtain ⟨a, t1, t2, t3, t4, rfl, rfl, hlt⟩ := hP
  k_steps
  refine Hold.out ?_
  refine' Ct.use (blended_ct (md := md) (c := dm c al) ⟨a, t1, t2, t3, t4, rfl, Or.inl ⟨_, .head _⟩⟩ (hu.mono fun p hp => List.mem_cons_of_mem _ hp) (dm_ok hc ha) hd) ?kB ?kF ?kX ?kN ?kT ?kA ?kf ?kk ?kh ?kd ?ku ?_
  walk_at "ct_use"
  intro v' news' h4 tk4 hP F4 N4
  obtain ⟨a, t1, t2, t3, t4, rfl, rfl, hlt⟩ := hP
  k_steps
  refine hret _ _ _ _ ⟨⟨_, _, _, _, _, rfl, Or.inl ⟨_, .head _⟩⟩, fun p hp => List.mem_cons_of_mem _ (List.mem_cons_of_mem _ hp)⟩ (by assumption) (by walk_at "ct_news")
theorem laid_ct {w : World} {news : Led} {v u : Value} {c d : Col} {md : Mode} {al : Int} {t ta : Tok} (hv : ColIn w news v c) (hu : ColIn w news u d) (hc : c.Ok) (hd : d.Ok) (ha : 0 ≤ al ∧ al ≤ 255) :
    Ct w 183 [.str md.name t, v, .int al ta, u] 60 450 news fun v' n' => ColIn w n' v' (bl md (dm c al) d) ∧ ∀ p ∈ news, p ∈ n' := by
  by_cases hal : al = 255
  · subst hal; rw [dm_255]; exact laid255_ct hv hu hc hd
  · exact laidn_ct hv hu hc hd ha hal
end
section
set_option maxHeartbeats 1000000
theorem nlt {x y : Nat} (h : x < y) : @Ne Addr x y := Nat.ne_of_lt h
theorem compAtT_zip {prog : Program} {w : World} {A : Around} {h₀ : Heap} {L : Nat} {env : Env} {scope : Scope} {cl : List (Str × Addr)} {x x₂ : Str} {elt : Expr} {Done : Addr → Shared → Prop} {E : Value → Shared → Prop} {s : Shared} {z TI TO i1 i2 a b : Nat} {vs us : List Value} {m : Str → Option Value} {news : Led}
    (hh : A.handled = none) (h1 : ∀ p ∈ news, @LT.lt Nat _ p.1 i1) (h2 : i1 < i2) (h3 : i2 < TI) (h4 : TI < TO) (h5 : TO < z) (h6 : z < s.heap.objs.size) (hLlt : L < i1) (hi0 : ∀ b : Nat, i1 ≤ b → h₀.get? b = none)
    (hz : ZipSt z TI TO i1 i2 .none s.heap) (hi1 : s.heap.IsTupleIter i1 a 0) (hi2 : s.heap.IsTupleIter i2 b 0) (ha : s.heap.IsTuple a vs.toArray) (hb : s.heap.IsTuple b us.toArray) (hlt : a < i1 ∧ b < i1) (hsz : vs.length ≤ sizeLine) (hlen : us.length = vs.length) (haL : a ≠ L) (hbL : b ≠ L) (F : Fr h₀ L s.heap m) (N : News h₀ L s.heap news) (J : Nat → List Value → Led → Prop) (h0 : J 0 [] news)
    (step : ∀ C D wr i v v₂ ys nn oC mC own news₁ h tk, (∀ p ∈ news, p.1 < C) → (∀ p ∈ news, p.1 < D) → (∀ b ∈ wr, ∀ p ∈ news, p.1 < b) → vs[i]? = some v → us[i]? = some v₂ → ys.length = i → J i ys news₁ → Off C D wr news₁ → NsO oC mC → mC x = some v → mC x₂ = some v₂ → Fr h₀ L h m → News h₀ L h ((C, oC) :: (D, listOf ys.toArray nn) :: (own ++ news₁)) →
      wpAny (model prog w) A (eval elt (compEnvC scope cl C env)) (CompEnd h₀ L m C D wr ((C, oC) :: (D, listOf ys.toArray nn) :: own) (J (i + 1)) ys s) (fun _ _ => False) { s with heap := h, toks := tk })
    (done : ∀ D h' tk news' ys nn, (∀ p ∈ news, p.1 < D) → Fr h₀ L h' m → News h₀ L h' ((D, listOf ys.toArray nn) :: news') → (∀ p ∈ news', p.1 ≠ D) → ys.length = vs.length → J vs.length ys news' → Done D { s with heap := h', toks := tk }) :
    wpAny (model prog w) A (pyIter (.ref z)) (fun it s₂ => CompAtT prog w A h₀ L env scope cl x x₂ elt Done it s₂) E s := by
  refine wpAny_pyIter_zip hz.1 ?_
  have zl : i1 < z := Nat.lt_trans h2 (Nat.lt_trans h3 (Nat.lt_trans h4 h5))
  have W := zipWalks (prog := prog) (w := w) (A := A) hh (z := z) (TI := TI) (TO := TO) (i1 := i1) (i2 := i2) (a := a) (b := b) (xs := vs.toArray) (ys := us.toArray) (by simp [hlen])
    ⟨nlt (by omega), nlt (by omega), nlt (by omega)⟩ ⟨nlt (by omega), nlt (by omega), nlt (by omega)⟩ ⟨nlt (by omega), nlt (by omega), nlt (by omega)⟩ (nlt (by omega)) ⟨nlt (by omega), nlt (by omega), nlt (by omega), nlt (by omega)⟩ ⟨nlt (by omega), nlt (by omega), nlt (by omega), nlt (by omega)⟩
  have mem : ∀ c : Nat, c ∈ [z, TO, i1, i2] → i1 ≤ c := by
    intro c hc
    simp only [List.mem_cons, List.not_mem_nil, or_false] at hc
    rcases hc with rfl | rfl | rfl | rfl <;> omega
  refine ⟨z, _, _, _, _, _, _, m, news, J, rfl, W, hh, by simpa using hsz, ?_, ?_, fun c hc => hi0 c (mem c hc), fun p hp hI => Nat.not_le_of_lt (h1 p hp) (mem _ hI), ⟨hz, ⟨hi1, ha⟩, hi2, hb⟩, F, N, h0, ?_, ?_, ?_⟩
  · simp only [List.mem_cons, List.not_mem_nil, or_false, not_or]
    exact ⟨nlt (by omega), nlt (by omega), nlt (by omega), nlt (by omega), nlt (by omega), haL.symm, hbL.symm⟩
  · have hfp : ∀ c : Nat, c ∈ [z, TI, TO, i1, i2, a, b] → c < s.heap.objs.size := by
      intro c hc
      simp only [List.mem_cons, List.not_mem_nil, or_false] at hc
      rcases hc with rfl | rfl | rfl | rfl | rfl | rfl | rfl <;> omega
    exact hfp
  · intro C D i vals ys nn oC mC own news₁ h tk hC hD hi hlen' hP hJ ho hown hNs hmx _ F' N'
    have below : ∀ c, s.heap.objs.size ≤ c → ∀ p ∈ news, p.1 < c := fun c hc p hp => Nat.lt_of_lt_of_le (Heap.lt_size (N p hp).1) hc
    obtain ⟨v, v₂, e1, e2, rfl⟩ := hP
    exact step C D _ i v v₂ ys nn oC mC own news₁ h tk (below C hC) (below D hD) (fun c hc p hp => Nat.lt_of_lt_of_le (h1 p hp) (mem c hc)) (by simpa using e1) (by simpa using e2) hlen' hJ ho hNs (hmx _ _ rfl).1 (hmx _ _ rfl).2 F' N'
  · rintro i vals ⟨_, _, _, _, rfl⟩; rfl
  · intro D h' tk news' ys nn hD F' N' ho hlen' hJ
    exact done D h' tk news' ys nn hD F' N' ho (by simpa using hlen') (by simpa using hJ)

theorem call_zip_comp {prog : Program} {w : World} {A : Around} {h₀ : Heap} {L : Addr} {env : Env} {scope : Scope} {cl : List (Str × Addr)} {x x₂ : Str} {elt : Expr} {Done : Addr → Shared → Prop} {E : Value → Shared → Prop} {s : Shared} {a b : Addr} {vs us : List Value} {m : Str → Option Value} {news : Led}
    (hh : A.handled = none) (ha : s.heap.IsTuple a vs.toArray) (hb : s.heap.IsTuple b us.toArray) (hsz : vs.length ≤ sizeLine) (hlen : us.length = vs.length) (haL : a ≠ L) (hbL : b ≠ L) (F : Fr h₀ L s.heap m) (N : News h₀ L s.heap news) (J : Nat → List Value → Led → Prop) (h0 : J 0 [] news)
    (step : ∀ C D wr i v v₂ ys nn oC mC own news₁ h tk, (∀ p ∈ news, p.1 < C) → (∀ p ∈ news, p.1 < D) → (∀ b ∈ wr, ∀ p ∈ news, p.1 < b) → vs[i]? = some v → us[i]? = some v₂ → ys.length = i → J i ys news₁ → Off C D wr news₁ → NsO oC mC → mC x = some v → mC x₂ = some v₂ → Fr h₀ L h m → News h₀ L h ((C, oC) :: (D, listOf ys.toArray nn) :: (own ++ news₁)) →
      wpAny (model prog w) A (eval elt (compEnvC scope cl C env)) (CompEnd h₀ L m C D wr ((C, oC) :: (D, listOf ys.toArray nn) :: own) (J (i + 1)) ys s) (fun _ _ => False) { s with heap := h, toks := tk })
    (done : ∀ D h' tk news' ys nn, (∀ p ∈ news, p.1 < D) → Fr h₀ L h' m → News h₀ L h' ((D, listOf ys.toArray nn) :: news') → (∀ p ∈ news', p.1 ≠ D) → ys.length = vs.length → J vs.length ys news' → Done D { s with heap := h', toks := tk }) :
    wpAny (model prog w) A (call (.type "zip") [.ref a, .ref b]) (fun xv s₁ => wpAny (model prog w) A (pyIter xv) (fun it s₂ => CompAtT prog w A h₀ L env scope cl x x₂ elt Done it s₂) E s₁) E s := by
  refine call_zipTup ha hb fun z TI TO i1 i2 h' g1 g2 g3 g4 g5 g6 hz t1 t2 keep => ?_
  have la : a < s.heap.objs.size := let ⟨_, e, _⟩ := ha; Heap.lt_size e
  have lb : b < s.heap.objs.size := let ⟨_, e, _⟩ := hb; Heap.lt_size e
  refine compAtT_zip (s := { s with heap := h' }) hh (fun p hp => Nat.lt_of_lt_of_le (Heap.lt_size (N p hp).1) g1) g2 g3 g4 g5 g6 (Nat.lt_of_lt_of_le F.ns.lt g1) (fun c hc => ?_) hz t1 t2 (ha.at fun o e => keep _ o e) (hb.at fun o e => keep _ o e)
    ⟨Nat.lt_of_lt_of_le la g1, Nat.lt_of_lt_of_le lb g1⟩ hsz hlen haL hbL (F.keeps keep) (N.grown keep) J h0 step done
  cases e : h₀.get? c with
  | none => rfl
  | some o => exact absurd (Heap.lt_size (F.keep _ _ e)) (Nat.not_lt.mpr (Nat.le_trans g1 hc))
noncomputable def ov (c d : Col) : Col := ⟨mx c.r 255 d.r (255 - c.a), mx c.g 255 d.g (255 - c.a), mx c.b 255 d.b (255 - c.a), mx c.a 255 d.a (255 - c.a)⟩
local macro_rules | `(tactic| walk_at "call ref") => `(tactic| (k_here; (with_reducible refine' hC 96 ?_); refine Hold.of ?_))
local macro_rules | `(tactic| walk_at "call type:zip") => `(tactic| (k_here; refine Hold.of ?_))
theorem over_ct {w : World} {news : Led} {v u : Value} {c d : Col} (hv : ColIn w news v c) (hu : ColIn w news u d) (hc : c.Ok) (hd : d.Ok) :
    Ct w 101 [v, u] 80 550 news fun v' n' => NewCol news (ov c d).r (ov c d).g (ov c d).b (ov c d).a v' n' := by
  obtain ⟨a, u1, u2, u3, u4, rfl, hT⟩ := hv
  obtain ⟨b, w1, w2, w3, w4, rfl, hU⟩ := hu
  refine Ct.of fun prog p loose mean mg mb A₀ env outer base h₀ L m s Q E B F X N T hf hk hret => ?_
  walk_at "ct_enterC"
  intro g' L' h' tk' cells' FG' F' N' Y' B' X' T' l1
  replace l1 : Above _ L' := l1
  k_cells Y'
  (try simp only [List.cons_append, List.nil_append] at N')
  (try dsimp only)
  (try k_lift B')
  (try k_fold)
  k_steps
  refine Hold.out ?_
  refine' ListComp_frT (L := L') (h₀ := g') ?hclos ?hcell ?hkind ?hnames ?hx ?hx2 ?hxx ?_
  case hclos => with_unfolding_all rfl
  case hcell => decide
  case hkind => with_unfolding_all rfl
  case hnames => decide
  case hx => with_unfolding_all rfl
  case hx2 => with_unfolding_all rfl
  case hxx => decide
  k_steps
  refine Hold.out ?_
  refine' call_zip_comp (vs := [.int c.r u1, .int c.g u2, .int c.b u3, .int c.a u4]) (us := [.int d.r w1, .int d.g w2, .int d.b w3, .int d.a w4]) rfl ?ha ?hb (by show 4 ≤ sizeLine; decide) rfl ?haL ?hbL (by assumption) (by assumption) (fun i ys n => n = _ ∧ IntsAre ys (([(ov c d).r, (ov c d).g, (ov c d).b, (ov c d).a]).take i)) ⟨rfl, .nil⟩ ?step ?done
  case ha => refine VTup.tuple (VTup.mono hT ?_) (by assumption) (by assumption) (by assumption); walk_at "ct_sub"
  case hb => refine VTup.tuple (VTup.mono hU ?_) (by assumption) (by assumption) (by assumption); walk_at "ct_sub"
  case haL => refine VTup.neL (VTup.mono hT ?_) (by assumption) (by assumption) (by assumption); walk_at "ct_sub"
  case hbL => refine VTup.neL (VTup.mono hU ?_) (by assumption) (by assumption) (by assumption); walk_at "ct_sub"
  case step =>
    intro C D wr i x y ys nn oC mC own news₁ h tk hC hD hw hi1 hi2 hlen hJ ho hns hmx hmy F'' N''
    obtain ⟨rfl, hJ⟩ := hJ
    obtain ⟨c1, c2, c3, c4⟩ := hc
    obtain ⟨d1, d2, d3, d4⟩ := hd
    rcases i with _ | _ | _ | _ | i
    · obtain rfl := Option.some.inj hi1
      obtain rfl := Option.some.inj hi2
      k_steps
      refine Hold.out ?_
      refine' Ct.use (mixed_ct (a := c.r) (b := 255) (c := d.r) (d := 255 - c.a) c1 (by decide) d1 (by omega)) ?kB ?kF ?kX ?kN ?kT ?kA ?kf ?kk ?kh ?kd ?ku ?_
      walk_at "ct_use"
      intro v' news' h3 tk3 hP F3 N3
      obtain ⟨⟨t', rfl⟩, rfl⟩ := hP
      k_steps
      exact CompEnd.intro _ F3 N3 ho ⟨rfl, ints_snoc hJ rfl⟩
    · obtain rfl := Option.some.inj hi1
      obtain rfl := Option.some.inj hi2
      k_steps
      refine Hold.out ?_
      refine' Ct.use (mixed_ct (a := c.g) (b := 255) (c := d.g) (d := 255 - c.a) c2 (by decide) d2 (by omega)) ?kB ?kF ?kX ?kN ?kT ?kA ?kf ?kk ?kh ?kd ?ku ?_
      walk_at "ct_use"
      intro v' news' h3 tk3 hP F3 N3
      obtain ⟨⟨t', rfl⟩, rfl⟩ := hP
      k_steps
      exact CompEnd.intro _ F3 N3 ho ⟨rfl, ints_snoc hJ rfl⟩
    · obtain rfl := Option.some.inj hi1
      obtain rfl := Option.some.inj hi2
      k_steps
      refine Hold.out ?_
      refine' Ct.use (mixed_ct (a := c.b) (b := 255) (c := d.b) (d := 255 - c.a) c3 (by decide) d3 (by omega)) ?kB ?kF ?kX ?kN ?kT ?kA ?kf ?kk ?kh ?kd ?ku ?_
      walk_at "ct_use"
      intro v' news' h3 tk3 hP F3 N3
      obtain ⟨⟨t', rfl⟩, rfl⟩ := hP
      k_steps
      exact CompEnd.intro _ F3 N3 ho ⟨rfl, ints_snoc hJ rfl⟩
    · obtain rfl := Option.some.inj hi1
      obtain rfl := Option.some.inj hi2
      k_steps
      refine Hold.out ?_
      refine' Ct.use (mixed_ct (a := c.a) (b := 255) (c := d.a) (d := 255 - c.a) c4 (by decide) d4 (by omega)) ?kB ?kF ?kX ?kN ?kT ?kA ?kf ?kk ?kh ?kd ?ku ?_
      walk_at "ct_use"
      intro v' news' h3 tk3 hP F3 N3
      obtain ⟨⟨t', rfl⟩, rfl⟩ := hP
      k_steps
      exact CompEnd.intro _ F3 N3 ho ⟨rfl, ints_snoc hJ rfl⟩
    · cases hi1
  intro D h3 tk3 news' ys nn hD F3 N3 ho hlen hJ
  obtain ⟨rfl, hJ⟩ := hJ
  obtain ⟨t1, t2, t3, t4, rfl⟩ := ints4 hJ
  k_steps
  exact hret _ _ _ _ ⟨_, _, _, _, _, rfl, rfl, above_lt l1 (by omega)⟩ (by assumption) (by walk_at "ct_news")
end
section
set_option maxHeartbeats 1000000
theorem holds_ct {w : World} {news : Led} {v : Value} {M : List Addr} {bx : Box} {f : Int → Int → Col} {x y : Int} {tx ty : Tok} (hc : CanIn w news v M bx f) (hx : bx.Has x y) :
    Ct w 253 [v, .int x tx, .int y ty] 80 450 news fun v n => v = .bool true ∧ n = news := by
  obtain ⟨c, d, cl, rs, rfl, rfl, T⟩ := hc
  obtain ⟨o, hdd, hs1, hs2, hs3, hs4, hs5, k1, k2, k3, k4, k5, t1, t2, t3, t4, n, rfl⟩ := T.dict
  have hi := T.inst
  obtain ⟨⟨hx1, hx2⟩, hy1, hy2⟩ := hx
  refine Ct.of fun prog p loose mean mg mb A₀ env outer base h₀ L m s Q E B F X N T hf hk hret => ?_
  walk_at "ct_enter"
  intro g' L' h' FG' F' N' B' X' T'
  (try dsimp only)
  (try k_lift B')
  (try k_fold)
  k_steps
  rw [decide_eq_true (show y - bx.t < bx.h by omega)]
  exact hret _ _ _ _ ⟨rfl, rfl⟩ (by assumption) (by walk_at "ct_news")
local macro_rules | `(tactic| walk_at "call ref") => `(tactic| (k_here; (with_reducible refine' hC 253 ?_); refine Hold.of ?_))
local macro_rules | `(tactic| walk_at "subscriptTail") => `(tactic| (k_here; refine Hold.of ?_))
local macro_rules | `(tactic| walk_at "setItem ref int") => `(tactic| (k_here; refine Hold.of ?_))
theorem get_ct {w : World} {news : Led} {v : Value} {M : List Addr} {bx : Box} {f : Int → Int → Col} {x y : Int} {tx ty : Tok} (hc : CanIn w news v M bx f) (hb : bx.Ok) (hx : bx.Has x y) :
    Ct w 260 [v, .int x tx, .int y ty] 70 400 news fun v n => ColIn w news v (f x y) ∧ n = news := by
  have hc' := hc
  obtain ⟨c, d, cl, rs, rfl, rfl, T⟩ := hc
  obtain ⟨o, hdd, hs1, hs2, hs3, hs4, hs5, k1, k2, k3, k4, k5, t1, t2, t3, t4, n, rfl⟩ := T.dict
  obtain ⟨ncl, hcl⟩ := T.cells
  obtain ⟨r, vs, orow, u, hr, hrow, hro, hl, hu, hcol, _⟩ := T.at hx
  have hi := T.inst
  refine Ct.of fun prog p loose mean mg mb A₀ env outer base h₀ L m s Q E B F X N T hf hk hret => ?_
  walk_at "ct_enter"
  intro g' L' h' FG' F' N' B' X' T'
  (try dsimp only)
  (try k_lift B')
  (try k_fold)
  k_steps
  refine Hold.out ?_
  refine' Ct.use (holds_ct hc' hx) ?kB ?kF ?kX ?kN ?kT ?kA ?kf ?kk ?kh ?kd ?ku ?_
  walk_at "ct_use"
  intro v' news' h4 tk4 hP F4 N4
  obtain ⟨rfl, rfl⟩ := hP
  obtain ⟨⟨hx1, hx2⟩, hy1, hy2⟩ := hx
  obtain ⟨⟨b1, b2⟩, ⟨b3, b4⟩, b5, b6⟩ := hb
  k_steps
  refine Hold.out ?_
  refine' sub_list (vs := rs.map Value.ref) (x := .ref r) (by assumption) hcl ⟨rfl, _, rfl⟩ (by omega) (by omega) (by simp [hr]) ?_
  k_steps
  refine Hold.out ?_
  refine' sub_list (by assumption) hrow hro (by omega) (by omega) hu ?_
  obtain ⟨a, u1, u2, u3, u4, rfl, hT⟩ := hcol
  k_steps
  exact hret _ _ _ _ ⟨⟨a, u1, u2, u3, u4, rfl, hT⟩, rfl⟩ (by assumption) (by walk_at "ct_news")
theorem put_ct {w : World} {news : Led} {v u : Value} {M : List Addr} {bx : Box} {f : Int → Int → Col} {x y : Int} {tx ty : Tok} {cc : Col} (hc : CanIn w news v M bx f) (hb : bx.Ok) (hx : bx.Has x y) (hcc : ColIn w news u cc) :
    Ct w 267 [v, .int x tx, .int y ty, u] 70 400 news fun v' n => v' = .none ∧ CanIn w n v M bx (setF f x y cc) ∧ Keeps M news n := by
  have hc' := hc
  obtain ⟨c, d, cl, rs, rfl, rfl, T⟩ := hc
  obtain ⟨o, hdd, hs1, hs2, hs3, hs4, hs5, k1, k2, k3, k4, k5, t1, t2, t3, t4, n, rfl⟩ := T.dict
  obtain ⟨ncl, hcl⟩ := T.cells
  obtain ⟨r, vs, orow, z, hr, hrow, hro, hl, hz, hcol, hg⟩ := T.at hx
  have hi := T.inst
  obtain ⟨au, rfl⟩ : ∃ a, u = .ref a := let ⟨a, _, _, _, _, e, _⟩ := hcc; ⟨a, e⟩
  refine Ct.of fun prog p loose mean mg mb A₀ env outer base h₀ L m s Q E B F X N T hf hk hret => ?_
  walk_at "ct_enter"
  intro g' L' h' FG' F' N' B' X' T'
  (try dsimp only)
  (try k_lift B')
  (try k_fold)
  k_steps
  refine Hold.out ?_
  refine' Ct.use (holds_ct hc' hx) ?kB ?kF ?kX ?kN ?kT ?kA ?kf ?kk ?kh ?kd ?ku ?_
  walk_at "ct_use"
  intro v' news' h4 tk4 hP F4 N4
  obtain ⟨rfl, rfl⟩ := hP
  obtain ⟨⟨hx1, hx2⟩, hy1, hy2⟩ := id hx
  obtain ⟨⟨b1, b2⟩, ⟨b3, b4⟩, b5, b6⟩ := hb
  k_steps
  refine Hold.out ?_
  refine' sub_list (vs := rs.map Value.ref) (x := .ref r) (by assumption) hcl ⟨rfl, _, rfl⟩ (by omega) (by omega) (by simp [hr]) ?_
  k_steps
  refine Hold.out ?_
  refine' setItem_led (by assumption) (by assumption) hrow hro (by omega) (by omega) (by omega) ?_
  intro h5 o' ho' F5 N5
  k_steps
  obtain ⟨z1, z2⟩ := T.put (o' := o') (v := .ref au) N hx hr hrow hro ho' hl hg hcc
  exact hret _ _ _ _ ⟨rfl, ⟨c, d, cl, rs, rfl, rfl, z1⟩, z2⟩ (by assumption) (by walk_at "ct_news")
end
section
theorem mx_nonneg {a d k : Int} (ha : 0 ≤ a) (hd : 0 ≤ d) (hk : 0 ≤ k) : 0 ≤ mx a 255 d k := by
  have := Int.mul_nonneg hd hk
  unfold mx
  omega
theorem mx_le {a b d e k : Int} (h : a ≤ b) (h' : d ≤ e) (hk : 0 ≤ k) : mx a 255 d k ≤ mx b 255 e k := by
  have := Int.mul_le_mul_of_nonneg_right h' hk
  unfold mx
  omega
theorem mx_top {a d : Int} (ha : 0 ≤ a ∧ a ≤ 255) (hd : d ≤ 255) : mx a 255 d (255 - a) ≤ 255 := by
  have := Int.mul_le_mul_of_nonneg_right hd (show 0 ≤ 255 - a by omega)
  unfold mx
  omega
theorem ov_pm {c d : Col} (hc : c.Pm) (hd : d.Pm) : (ov c d).Pm := by
  obtain ⟨c1, c2, c3, c4⟩ := hc
  obtain ⟨d1, d2, d3, d4⟩ := hd
  have k : 0 ≤ 255 - c.a := by omega
  exact ⟨⟨mx_nonneg c1.1 d1.1 k, mx_le c1.2 d1.2 k⟩, ⟨mx_nonneg c2.1 d2.1 k, mx_le c2.2 d2.2 k⟩, ⟨mx_nonneg c3.1 d3.1 k, mx_le c3.2 d3.2 k⟩, mx_nonneg c4.1 d4.1 k, mx_top c4 d4.2⟩
noncomputable abbrev Deed := (Int × Int) × Col
noncomputable def paint1 (f : Int → Int → Col) (d : Deed) : Int → Int → Col := setF f d.1.1 d.1.2 (ov d.2 (f d.1.1 d.1.2))
noncomputable def paint (ds : List Deed) (f : Int → Int → Col) : Int → Int → Col := ds.foldl paint1 f
theorem paint_next {ds : List Deed} {f : Int → Int → Col} {i : Nat} {d : Deed} (h : ds[i]? = some d) : paint (ds.take (i + 1)) f = paint1 (paint (ds.take i) f) d := by
  unfold paint
  rw [take_next h, List.foldl_append]
  rfl
theorem paint_pm {ds : List Deed} : ∀ {f : Int → Int → Col}, (∀ x y, (f x y).Pm) → (∀ d ∈ ds, d.2.Pm) → ∀ x y, (paint ds f x y).Pm := by
  induction ds with
  | nil => exact fun hf _ => hf
  | cons d ds ih =>
    intro f hf hd
    refine ih (fun x y => ?_) fun e he => hd e (.tail _ he)
    unfold paint1 setF
    split
    · exact ov_pm (hd d (.head _)) (hf _ _)
    · exact hf x y
/-- a table of colours, by places -/
inductive TabIn (w : World) (news : Led) (R : Addr) (ps : List (Int × Int)) (g : Int → Int → Col) : Prop
  | mk (xs : List Ent) (d : DicIn w news R xs) (a : All2 (fun (x : Ent) p => x.1 = [p.1, p.2] ∧ ColIn w news x.2.2 (g p.1 p.2)) xs ps)
theorem TabIn.keep {w : World} {M : List Addr} {news n' : Led} {R : Addr} {ps : List (Int × Int)} {g : Int → Int → Col} (T : TabIn w news R ps g) (k : Keeps M news n') (h : R ∉ M) : TabIn w n' R ps g := let ⟨xs, a, b⟩ := T; ⟨xs, a.keep k h, b.imp fun _ _ q => ⟨q.1, q.2.keep k⟩⟩
theorem TabIn.sub {w : World} {news n' : Led} {R : Addr} {ps : List (Int × Int)} {g : Int → Int → Col} (T : TabIn w news R ps g) (k : ∀ p ∈ news, p ∈ n') : TabIn w n' R ps g := let ⟨xs, a, b⟩ := T; ⟨xs, a.sub k, b.imp fun _ _ q => ⟨q.1, q.2.mono k⟩⟩
theorem TabIn.kn {w : World} {news n' : Led} {R : Addr} {ps : List (Int × Int)} {g : Int → Int → Col} (T : TabIn w news R ps g) (k : KN news n') : TabIn w n' R ps g := let ⟨xs, a, b⟩ := T; ⟨xs, a.kn k, b.imp fun _ _ q => ⟨q.1, q.2.tk (TK.of_kn k)⟩⟩
theorem key_inj {p q : Int × Int} (h : ([p.1, p.2] : List Int) = [q.1, q.2]) : p = q := by
  injection h with h1 h2
  injection h2 with h2 _
  exact Prod.ext h1 h2
theorem tab_get {w : World} {news : Led} {xs : List Ent} {ps : List (Int × Int)} {g : Int → Int → Col} (hn : (xs.map (·.1)).Nodup) (h : All2 (fun (x : Ent) p => x.1 = [p.1, p.2] ∧ ColIn w news x.2.2 (g p.1 p.2)) xs ps) {p : Int × Int} (hp : p ∈ ps) :
    ∃ q, atKey xs [p.1, p.2] = some q ∧ ColIn w news q.2 (g p.1 p.2) := by
  obtain ⟨i, hi⟩ := List.mem_iff_getElem?.mp hp
  have hlt : i < xs.length := by rw [h.1]; exact (List.getElem?_eq_some_iff.mp hi).1
  obtain ⟨e1, e2⟩ := h.2 i xs[i] p (List.getElem?_eq_getElem hlt) hi
  refine ⟨xs[i].2, atKey_of_get hn (i := i) ?_, e2⟩
  rw [List.getElem?_eq_getElem hlt, ← e1]
theorem tab_old {w : World} {n n' : Led} {xs : List Ent} {ps : List (Int × Int)} {g : Int → Int → Col} {a : Addr} {v : Value} {c : Col} {p : Int × Int} (hn : (xs.map (·.1)).Nodup) (h : All2 (fun (x : Ent) p => x.1 = [p.1, p.2] ∧ ColIn w n x.2.2 (g p.1 p.2)) xs ps) (hp : p ∈ ps) (tk : TK n n') (hc : ColIn w n' v c) :
    All2 (fun (x : Ent) q => x.1 = [q.1, q.2] ∧ ColIn w n' x.2.2 (setF g p.1 p.2 c q.1 q.2)) (storedH xs [p.1, p.2] a v) ps := by
  obtain ⟨q0, hq, _⟩ := tab_get hn h hp
  rw [storedH_old hq]
  refine ⟨by rw [List.length_map]; exact h.1, fun i x q hx hq => ?_⟩
  rw [List.getElem?_map] at hx
  cases hy : xs[i]? with
  | none => rw [hy] at hx; cases hx
  | some y =>
    rw [hy] at hx
    obtain rfl := Option.some.inj hx
    obtain ⟨e1, e2⟩ := h.2 i y q hy hq
    unfold putAt setF
    by_cases e : y.1 = [p.1, p.2]
    · have : p = q := key_inj (e.symm.trans e1)
      subst this
      rw [if_pos e, if_pos ⟨rfl, rfl⟩]
      exact ⟨e1, hc⟩
    · rw [if_neg e, if_neg (fun z => e (by rw [e1, z.1, z.2]))]
      exact ⟨e1, e2.tk tk⟩
theorem tab_new {w : World} {n n' : Led} {xs : List Ent} {ps : List (Int × Int)} {g : Int → Int → Col} {a : Addr} {v : Value} {p : Int × Int} (h : All2 (fun (x : Ent) p => x.1 = [p.1, p.2] ∧ ColIn w n x.2.2 (g p.1 p.2)) xs ps) (hp : p ∉ ps) (tk : TK n n') (hc : ColIn w n' v (g p.1 p.2)) :
    All2 (fun (x : Ent) q => x.1 = [q.1, q.2] ∧ ColIn w n' x.2.2 (g q.1 q.2)) (storedH xs [p.1, p.2] a v) (ps ++ [p]) := by
  have none : atKey xs [p.1, p.2] = none := atKey_none_of_get fun j z hz => by
    obtain ⟨q, hq, e, _⟩ := h.get hz
    exact hp (key_inj e ▸ List.mem_of_getElem? hq)
  rw [storedH_new none]
  exact (h.imp fun _ _ q => ⟨q.1, q.2.tk tk⟩).app (.one ⟨rfl, hc⟩)
end
section
set_option maxHeartbeats 1000000
local macro_rules | `(tactic| walk_at "exec For") => `(tactic| (k_here; refine Hold.of ?_))
local macro_rules | `(tactic| walk_at "call builtin:list.extend") => `(tactic| (k_here; refine Hold.of ?_))
noncomputable def JPl (w : World) (news : Led) (yc fa : Addr) (m₀ : Str → Option Value) (bx : Box) (i : Nat) (m' : Str → Option Value) (n' : Led) : Prop :=
  m' = m₀ ∧ ∃ oc vs k, (fa, listOf vs.toArray k) ∈ n' ∧ (yc, oc) ∈ n' ∧ (∃ ov, oc.data = .cell ov) ∧ All2 (PlIn w n') vs (placesTo bx i) ∧ ∀ p ∈ news, p ∈ n'
noncomputable def JRow (w : World) (base : Led) (bx : Box) (j : Nat) (i : Nat) (ys : List Value) (n : Led) : Prop := All2 (PlIn w n) ys ((rowOf bx j).take i) ∧ ∀ p ∈ base, p ∈ n
theorem PlIn.filt {w : World} {h₀ h : Heap} {L C D : Addr} {wr : List Addr} {news own n : Led} {oC oD : Obj} {mC : Str → Option Value} {us : List Value} {v : Value} {p : Int × Int} (W : WrOk wr news own) (N : News h₀ L h n) (ho : ∀ p ∈ own, p ∈ n) (hC : (C, oC) ∈ n) (hns : NsO oC mC) (hD : (D, oD) ∈ n) (hl : LstO us oD) (h : PlIn w n v p) : PlIn w (Mine.filt C D wr n) v p :=
  let ⟨a, t1, t2, e, x⟩ := h; ⟨a, t1, t2, e, x.filt W N ho hC hns hD hl⟩
theorem JRow.next {w : World} {h₀ h : Heap} {L C D t : Addr} {wr : List Addr} {led own n n1 : Led} {oC : Obj} {mC : Str → Option Value} {ys : List Value} {nn : Nat} {bx : Box} {i j : Nat} {t1 t2 : Tok} {k : Nat} (W : WrOk wr led own) (N : News h₀ L h n) (hC : ∀ p ∈ led, p.1 < C) (hD : ∀ p ∈ led, p.1 < D)
    (ho : ∀ p ∈ (C, oC) :: (D, listOf ys.toArray nn) :: own, p ∈ n) (hns : NsO oC mC) (hsub : ∀ p ∈ n1, p ∈ n) (J : JRow w led bx j i ys n1) (hi : i < bx.w) (ht : (t, tupOf [.int (bx.l + i) t1, .int (bx.t + j) t2] k) ∈ n) :
    JRow w led bx j (i + 1) (ys ++ [.ref t]) (Mine.filt C D wr n) := by
  have ho' : ∀ p ∈ own, p ∈ n := fun p hp => ho p (.tail _ (.tail _ hp))
  have e : (rowOf bx j)[i]? = some (bx.l + i, bx.t + j) := by simp [rowOf, hi]
  refine ⟨?_, fun p hp => filt_mem (hsub _ (J.2 p hp)) (Nat.ne_of_lt (hC p hp)) (Nat.ne_of_lt (hD p hp)) (W.old hp)⟩
  rw [take_next e]
  exact (J.1.imp fun v p q => ((let ⟨a, t1, t2, e, x⟩ := q; ⟨a, t1, t2, e, x.mono hsub⟩ : PlIn w n v p)).filt W N ho' (ho _ (.head _)) hns (ho _ (.tail _ (.head _))) ⟨rfl, _, rfl⟩).app
    (.one ⟨t, t1, t2, rfl, VTup.filt W N ho' (ho _ (.head _)) hns (ho _ (.tail _ (.head _))) ⟨rfl, _, rfl⟩ (.inl ⟨k, ht⟩)⟩)
theorem news_front2 {h₀ h : Heap} {L a b : Addr} {x y : Obj} {n : Led} (N : News h₀ L h n) (hx : (a, x) ∈ n) (hy : (b, y) ∈ n) :
    ∃ R, News h₀ L h ((a, x) :: (b, y) :: R) ∧ (∀ p ∈ n, p.1 ≠ a → p.1 ≠ b → p ∈ R) ∧ (∀ p ∈ R, p.1 ≠ a) ∧ ∀ p ∈ R, p.1 ≠ b := by
  refine ⟨n.filter fun p => decide (p.1 ≠ a ∧ p.1 ≠ b), fun p hp => N p ?_, fun p hp h1 h2 => List.mem_filter.mpr ⟨hp, by simp [h1, h2]⟩, fun p hp => ?_, fun p hp => ?_⟩
  · rcases List.mem_cons.mp hp with rfl | hp
    · exact hx
    rcases List.mem_cons.mp hp with rfl | hp
    · exact hy
    exact (List.mem_filter.mp hp).1
  · exact (by simpa using (List.mem_filter.mp hp).2 : _ ∧ _).1
  · exact (by simpa using (List.mem_filter.mp hp).2 : _ ∧ _).2
inductive PlacesP (w : World) (news : Led) (bx : Box) (v' : Value) (n' : Led) : Prop
  | mk (a : Addr) (vs : List Value) (k : Nat) (e : v' = .ref a) (m : (a, listOf vs.toArray k) ∈ n') (lt : ∀ p ∈ news, p.1 < a) (x : All2 (PlIn w n') vs (placesOf bx)) (s : ∀ p ∈ news, p ∈ n')
theorem places_ct {w : World} {news : Led} {v : Value} {M : List Addr} {bx : Box} {f : Int → Int → Col} (hc : CanIn w news v M bx f) (hb : bx.Ok) :
    Ct w 284 [v] 80 450 news fun v' n' => PlacesP w news bx v' n' := by
  obtain ⟨c, d, cl, rs, rfl, rfl, T⟩ := hc
  obtain ⟨o, hdd, hs1, hs2, hs3, hs4, hs5, k1, k2, k3, k4, k5, t1, t2, t3, t4, n, rfl⟩ := T.dict
  have hin := T.inst
  obtain ⟨⟨b1, b2⟩, ⟨b3, b4⟩, ⟨b5, b6⟩, b7, b8⟩ := hb
  refine Ct.of fun prog p loose mean mg mb A₀ env outer base h₀ L m s Q E B F X N T hf hk hret => ?_
  walk_at "ct_enterC"
  intro g' L' h' tk' cells' FG' F' N' Y' B' X' T' l1
  replace l1 : Above _ L' := l1
  k_cells Y'
  (try simp only [List.cons_append, List.nil_append] at N')
  (try dsimp only)
  (try k_lift B')
  (try k_fold)
  k_steps
  have l2 := (by assumption : _ ∧ AllLt _ news)
  have l3 := of_allLt l2.2
  refine Hold.out ?_
  refine For_fr (h₀ := g') (L := L') ?_
  k_steps
  refine Hold.out ?_
  refine' forAt_range (n := bx.h) rfl (by assumption) (small_of (by omega) (by omega)) (range_small (by omega)) (by assumption) (by assumption) (fun _ _ => rfl) (JPl w news (L' + 1) ?fa ?m0 bx) ⟨rfl, _, [], 0, .head _, .tail _ (.head _), ⟨_, by assumption⟩, .nil, fun p hp => .tail _ (.tail _ hp)⟩ ?step ?done
  case step =>
    intro wr i t m₁ own news₁ h tk hw hi hJ ho hown F₁ N₁
    obtain ⟨rfl, oc, vs, k, hfa, hyc, ⟨ov, hov⟩, hvs, hsub⟩ := hJ
    obtain ⟨R, N₂, hR2, hR3, hR4⟩ := news_front2 N₁ (List.mem_append_right own hfa) (List.mem_append_right own hyc)
    have hsR : ∀ p ∈ news, p ∈ R := fun p hp => hR2 _ (List.mem_append_right own (hsub p hp)) (Nat.ne_of_lt (l3 p hp)) (Nat.ne_of_lt (Nat.lt_succ_of_lt (l1 p hp)))
    have hoR : ∀ p ∈ own, p ∈ R := fun p hp => hR2 _ (List.mem_append_left _ hp) (Nat.ne_of_gt (hown p hp _ (.head _))) (Nat.ne_of_gt (hown p hp _ (.tail _ (.head _))))
    have x1 : TK news₁ R := fun a us k' e => hR2 _ (List.mem_append_right own e) (news_ne N₁ (List.mem_append_right own e) (List.mem_append_right own hfa) tup_ne_list) (news_ne N₁ (List.mem_append_right own e) (List.mem_append_right own hyc) (tup_ne_cell hov))
    have hin' := hsR _ hin
    have hdd' := hsR _ hdd
    k_steps
    refine Hold.out ?_
    refine' ListComp_fr (L := L') (h₀ := g') ?hclos ?hcell ?hkind ?hnames ?hx ?_
    case hclos => with_unfolding_all rfl
    case hcell => decide
    case hkind => with_unfolding_all rfl
    case hnames => decide
    case hx => with_unfolding_all rfl
    k_steps
    refine Hold.out ?_
    refine' compAt_range (n := bx.w) rfl (by assumption) (small_of (by omega) (by omega)) (range_small (by omega)) (by show bx.w ≤ 2 ^ 24; omega) (by assumption) (by assumption) (JRow w ?base bx i) ⟨.nil, fun p hp => hp⟩ ?step2 ?done2
    case step2 =>
      intro C D wr' i2 t2 ys nn oC mC own' n1 h tk hC hD hw2 hi2 hlen hJ2 ho2 hns hmx F3 N3
      obtain ⟨hall, hsub2⟩ := hJ2
      have hy := hsub2 _ (.tail _ (.head _))
      k_steps
      refine CompEnd.filt (by assumption) (by assumption) ?_ (JRow.next (nn := nn) hw2 (by assumption) hC hD ?_ hns ?_ ⟨hall, hsub2⟩ hi2 (List.mem_cons_self ..))
      · walk_at "ct_sub"
      · walk_at "ct_sub"
      · walk_at "ct_sub"
    case done2 =>
      intro D h3 tk3 n2 ys nn hD F3 N3 ho hlen hJ
      obtain ⟨hall, hsub2⟩ := hJ
      k_steps
      refine Hold.out ?_
      have hlv : vs.length = i * bx.w := hvs.1.trans placesTo_len
      have hlw : i * bx.w ≤ 3 * 4 := Nat.mul_le_mul (by omega) (by omega)
      refine' extend_led (by assumption) N3 (.tail _ (hsub2 _ (.head _))) (.head _) (Nat.ne_of_gt (hD _ (.head _))) (by omega) (by omega) ?_
      intro h4 F4 N4
      k_steps
      have x2 := x1.trans (TK.of_sub fun p hp => (.tail _ (hsub2 _ (.tail _ (.tail _ hp))) : p ∈ (D, listOf ys.toArray nn) :: n2))
      have x3 := TK.upd (o' := listOf (vs ++ ys).toArray (k + 1)) N3 (.tail _ (hsub2 _ (.head _))) fun _ _ => tup_ne_list
      have hon : ∀ p ∈ own, p ∈ upd ((D, listOf ys.toArray nn) :: n2) _ (listOf (vs ++ ys).toArray (k + 1)) := fun p hp => upd_other (.tail _ (hsub2 _ (.tail _ (.tail _ (hoR p hp))))) (Nat.ne_of_gt (hown p hp _ (.head _)))
      have x4 := x3.trans (TK.filtW hw N4 hon)
      have old : ∀ p ∈ news, p ∈ filtW wr (upd ((D, listOf ys.toArray nn) :: n2) _ (listOf (vs ++ ys).toArray (k + 1))) := fun p hp => filtW_mem (upd_other (.tail _ (hsub2 _ (.tail _ (.tail _ (hsR p hp))))) (Nat.ne_of_lt (l3 p hp))) (hw.old (.tail _ (.tail _ hp)))
      refine ForStep.filt F4 N4 hon ⟨rfl, _, _, _, filtW_mem upd_head (hw.oldA (listOf #[] 0) (.head _)), filtW_mem (upd_other (.tail _ (hsub2 _ (.tail _ (.head _)))) (Nat.ne_of_lt l2.1)) (show L' + 1 ∉ wr from hw.old (p := (L' + 1, _)) (.tail _ (.head _))), ⟨_, by assumption⟩, ?_, old⟩
      rw [placesTo_succ]
      rw [List.take_of_length_le (by rw [rowOf_len]; exact Nat.le_refl _)] at hall
      exact (hvs.imp fun v p q => (q.tk x2).tk x4).app (hall.imp fun v p q => q.tk ((TK.of_sub fun p hp => .tail _ hp).trans x4))
  intro h4 tk4 m4 n4 F4 N4 hJ
  obtain ⟨rfl, oc, vs, k, hfa, hyc, ⟨ov, hov⟩, hvs, hsub⟩ := hJ
  k_steps
  exact hret _ _ _ _ ⟨_, _, _, rfl, hfa, l3, hvs, hsub⟩ (by assumption) (by walk_at "ct_news")
end
section
set_option maxHeartbeats 1000000
theorem mulList {v : Value} : ∀ (k : Nat) (acc : Array Value), List.foldl (fun x1 x2 => x1 ++ x2) acc (List.replicate k #[v]) = acc ++ (List.replicate k v).toArray
  | 0, acc => by simp
  | k + 1, acc => by
    rw [List.replicate_succ, List.foldl_cons, mulList k]
    apply Array.toList_inj.mp
    simp [List.replicate_succ]
theorem mulList' {v : Value} {W : Nat} : List.foldl (fun x1 x2 => x1 ++ x2) #[] (List.replicate (if (#[v] : Array Value).isEmpty = true then 0 else (W : Int).toNat) #[v]) = (List.replicate W v).toArray := by
  rw [mulList]
  apply Array.toList_inj.mp
  simp
theorem nothing_in {w : World} {news : Led} : ColIn w news (.ref 233) zc := ⟨233, 492, 493, 494, 495, rfl, .inr ⟨_, by k_is⟩⟩
noncomputable def JCan (w : World) (base : Led) (W : Nat) (i : Nat) (ys : List Value) (n : Led) : Prop :=
  ∃ rs : List Addr, ys = rs.map Value.ref ∧ rs.length = i ∧ (∀ r ∈ rs, RowIn w n r W fun _ => zc) ∧ rs.Nodup ∧ (∀ r ∈ rs, ∀ p ∈ base, p.1 < r) ∧ ∀ p ∈ base, p ∈ n
theorem JCan.next {w : World} {g h : Heap} {L C D l : Addr} {ol : Obj} {wr : List Addr} {base own n n1 : Led} {oC : Obj} {ys : List Value} {nn W i : Nat} (Wr : WrOk wr base own) (hC : ∀ p ∈ base, p.1 < C) (hD : ∀ p ∈ base, p.1 < D)
    (hsub : ∀ p ∈ n1, p ∈ n) (ho2 : Off C D wr n1) (J : JCan w base W i ys n1) (hr : (h.objs.size, listOf (List.replicate W (Value.ref 233)).toArray 0) ∈ n) (N0 : News g L h ((l, ol) :: (C, oC) :: (D, listOf ys.toArray nn) :: (own ++ n1))) :
    JCan w base W (i + 1) (ys ++ [.ref h.objs.size]) (Mine.filt C D wr n) := by
  have hlt : ∀ p ∈ (C, oC) :: (D, listOf ys.toArray nn) :: (own ++ n1), p.1 < h.objs.size := fun p hp => Heap.lt_size (N0 p (.tail _ hp)).1
  revert hr hlt
  generalize h.objs.size = r
  intro hr hlt
  clear N0
  obtain ⟨rs, rfl, hrl, hrow, hnd, hgt, hb⟩ := J
  have hof : ∀ p ∈ n1, p ∈ Mine.filt C D wr n := fun p e => filt_mem (hsub _ e) (ho2 _ e).1 (ho2 _ e).2.1 (ho2 _ e).2.2
  have hrw : r ∉ wr := Wr.ne fun p hp => Nat.ne_of_lt (hlt p (.tail _ (.tail _ (List.mem_append_left _ hp))))
  have hrin : (r, listOf (List.replicate W (Value.ref 233)).toArray 0) ∈ Mine.filt C D wr n := filt_mem hr (Nat.ne_of_gt (hlt _ (.head _))) (Nat.ne_of_gt (hlt _ (.tail _ (.head _)))) hrw
  have in1 : ∀ a ∈ rs, a < r := fun a ha => let ⟨_, _, e, _, _, _⟩ := hrow a ha; hlt _ (.tail _ (.tail _ (List.mem_append_right _ e)))
  refine ⟨rs ++ [r], by simp, by simp [hrl], fun a ha => ?_, ?_, fun a ha p hp => ?_, fun p hp => hof _ (hb p hp)⟩
  · rcases List.mem_append.mp ha with ha | ha
    · obtain ⟨vs, o, e, z, l, q⟩ := hrow a ha
      exact ⟨vs, o, hof _ e, z, l, fun k v x => (q k v x).mono hof⟩
    · rw [List.mem_singleton.mp ha]
      refine ⟨List.replicate W (Value.ref 233), _, hrin, ⟨rfl, _, rfl⟩, by simp, fun k v x => ?_⟩
      rw [(List.mem_replicate.mp (List.mem_of_getElem? x)).2]
      exact nothing_in
  · rw [List.nodup_append]
    refine ⟨hnd, by simp, fun a ha b hb' => ?_⟩
    rw [List.mem_singleton.mp hb']
    exact Nat.ne_of_lt (in1 a ha)
  · rcases List.mem_append.mp ha with ha | ha
    · exact hgt a ha p hp
    · rw [List.mem_singleton.mp ha]
      exact hlt _ (.tail _ (.tail _ (List.mem_append_right _ (hb p hp))))
inductive CanP (w : World) (news : Led) (bx : Box) (v' : Value) (n' : Led) : Prop
  | mk (M : List Addr) (c : CanIn w n' v' M bx (fun _ _ => zc)) (f : Fresh M news) (s : ∀ p ∈ news, p ∈ n')
theorem canvas4_ct {w : World} {news : Led} {bx : Box} {t1 t2 t3 t4 : Tok} (hb : bx.Ok) :
    Ct w 301 [.int bx.w t1, .int bx.h t2, .int bx.l t3, .int bx.t t4] 80 450 news fun v' n' => CanP w news bx v' n' := by
  obtain ⟨⟨b1, b2⟩, ⟨b3, b4⟩, ⟨b5, b6⟩, b7, b8⟩ := hb
  refine Ct.of fun prog p loose mean mg mb A₀ env outer base h₀ L m s Q E B F X N T hf hk hret => ?_
  walk_at "ct_cls"
  intro x' d' h' F' N' l1 l2
  walk_at "ct_goC"
  intro g' L' h' tk' cells' FG' F' N' Y' B' X' T' l3
  replace l1 : Above news d' := l1
  (try k_lt2 l2)
  (try k_lt l3)
  k_cells Y'
  (try simp only [List.cons_append, List.nil_append] at N')
  (try dsimp only)
  (try k_lift B')
  (try k_fold)
  k_steps
  refine Hold.out ?_
  with_reducible refine plainObj_wpAny_Assign_Attribute ?_ ?_
  rotate_left
  · with_unfolding_all rfl
  refine' ListComp_fr (L := L') (h₀ := g') ?hclos ?hcell ?hkind ?hnames ?hx ?_
  case hclos => with_unfolding_all rfl
  case hcell => decide
  case hkind => with_unfolding_all rfl
  case hnames => decide
  case hx => with_unfolding_all rfl
  k_steps
  refine Hold.out ?_
  refine' compAt_range (n := bx.h) rfl (by assumption) (small_of (by omega) (by omega)) (range_small (by omega)) (by show bx.h ≤ 2 ^ 24; omega) (by assumption) (by assumption) (JCan w ?base bx.w) ⟨[], rfl, rfl, by simp, by simp, by simp, fun p hp => hp⟩ ?step2 ?done2
  case step2 =>
    intro C D wr' i2 t2 ys nn oC mC own' n1 h tk hC hD hw2 hi2 hlen hJ2 ho2 hns hmx F3 N3
    obtain ⟨rs, rfl, hrl, hrow, hnd, hlt, hsub2⟩ := hJ2
    have hy := hsub2 _ (.head _)
    k_steps
    rename_i Na
    rw [mulList'] at Na
    refine CompEnd.filt (by assumption) Na ?_ (JCan.next (oC := oC) (nn := nn) hw2 hC hD ?_ ho2 ⟨rs, rfl, hrl, hrow, hnd, hlt, hsub2⟩ (.head _) (by assumption))
    · walk_at "ct_sub"
    · walk_at "ct_sub"
  case done2 =>
    intro D h3 tk3 n2 ys nn hD F3 N3 ho hlen hJ
    obtain ⟨rs, rfl, hrl, hrow, hnd, hlt, hsub2⟩ := hJ
    obtain ⟨R, N4, hR2, hR3, hR4⟩ := news_front2 N3 (.tail _ (hsub2 _ (.tail _ (.tail _ (.head _))))) (.tail _ (hsub2 _ (.tail _ (.head _))))
    have hDd : D ≠ d' := Nat.ne_of_gt (hD _ (.tail _ (.tail _ (.head _))))
    have hDx : D ≠ x' := Nat.ne_of_gt (hD _ (.tail _ (.head _)))
    have hDR := hR2 _ (.head _) hDd hDx
    have tk : TK n2 R := fun a us k e => hR2 _ (.tail _ e) (news_ne N3 (.tail _ e) (.tail _ (hsub2 _ (.tail _ (.tail _ (.head _))))) tup_ne_dict) (news_ne N3 (.tail _ e) (.tail _ (hsub2 _ (.tail _ (.head _)))) tup_ne_inst)
    have hnR : ∀ p ∈ news, p ∈ R := fun p hp => hR2 _ (.tail _ (hsub2 _ (.tail _ (.tail _ (.tail _ hp))))) (Nat.ne_of_lt (l1 p hp)) (Nat.ne_of_lt (Nat.lt_trans (l1 p hp) l2))
    have hrR : ∀ r ∈ rs, RowIn w R r bx.w fun _ => zc := fun r hr => by
      obtain ⟨vs, o, e, z, l, q⟩ := hrow r hr
      exact ⟨vs, o, hR2 _ (.tail _ e) (Nat.ne_of_gt (hlt r hr _ (.tail _ (.tail _ (.head _))))) (Nat.ne_of_gt (hlt r hr _ (.tail _ (.head _)))), z, l, fun k v x => (q k v x).tk tk⟩
    have hDr : ∀ r ∈ rs, D ≠ r := fun r hr q => by
      obtain ⟨vs, o, e, _⟩ := hrow r hr
      exact ho _ e q.symm
    have hdr : ∀ r ∈ rs, d' ≠ r := fun r hr => Nat.ne_of_lt (hlt r hr _ (.tail _ (.tail _ (.head _))))
    have hDn : ∀ p ∈ news, p.1 < D := fun p hp => hD p (.tail _ (.tail _ (.tail _ hp)))
    have hrn : ∀ r ∈ rs, ∀ p ∈ news, p.1 < r := fun r hr p hp => hlt r hr p (.tail _ (.tail _ (.tail _ hp)))
    k_steps
    refine' hret _ ((d', _) :: (x', instObj 301 d') :: R) _ _ ⟨d' :: D :: rs, ⟨x', d', D, rs, rfl, rfl, ⟨.tail _ (.head _), ⟨_, .head _, _, _, _, _, _, _, _, _, _, _, _, _, _, _, _, rfl⟩, ⟨nn, .tail _ (.tail _ hDR)⟩, hrl, ?row, ?nodup⟩⟩, ?fresh, fun p hp => .tail _ (.tail _ (hnR p hp))⟩ (by assumption) (by assumption)
    case row =>
      intro j r hj
      obtain ⟨vs, o, e, z, l, q⟩ := hrR r (List.mem_of_getElem? hj)
      exact ⟨vs, o, .tail _ (.tail _ e), z, l, fun k v x => (q k v x).mono fun p hp => .tail _ (.tail _ hp)⟩
    case nodup =>
      refine List.nodup_cons.mpr ⟨fun hm => ?_, List.nodup_cons.mpr ⟨fun hm => hDr _ hm rfl, hnd⟩⟩
      rcases List.mem_cons.mp hm with e | hm
      · exact hDd e.symm
      · exact hdr _ hm rfl
    case fresh =>
      intro a ha p hp
      rcases List.mem_cons.mp ha with rfl | ha
      · exact Nat.ne_of_lt (l1 p hp)
      rcases List.mem_cons.mp ha with rfl | ha
      · exact Nat.ne_of_lt (hDn p hp)
      · exact Nat.ne_of_lt (hrn a ha p hp)
end
section
set_option maxHeartbeats 1000000
local macro_rules | `(tactic| walk_at "pad 0") => `(tactic| skip)


inductive layDict (K : Addr) (o : Obj) : Prop
  | mk (h1 : Int) (k1 : Tok) (n : Nat) (e : o = dictOf [⟨h1, .str "stack" k1, .ref K⟩] n)
inductive LayIn (news : Led) (v : Value) (M : List Addr) (vs : List Value) : Prop
  | mk (c d K : Addr) (o : Obj) (n : Nat) (e : v = .ref c) (eM : M = [d, K]) (h1 : (c, instObj 228 d) ∈ news) (h2 : (d, o) ∈ news) (h3 : layDict K o) (h4 : (K, listOf vs.toArray n) ∈ news) (h5 : d ≠ K)
inductive LayP (news : Led) (u : Addr) (v' : Value) (n' : Led) : Prop
  | mk (M : List Addr) (l : LayIn n' v' M [.ref u]) (f : Fresh M news) (s : ∀ p ∈ news, p ∈ n')
theorem lay_ct {w : World} {news : Led} {u : Addr} :
    Ct w 228 [.ref u] 80 450 news fun v' n' => LayP news u v' n' := by
  refine Ct.of fun prog p loose mean mg mb A₀ env outer base h₀ L m s Q E B F X N T hf hk hret => ?_
  walk_at "ct_cls"
  intro x' d' h' F' N' l1 l2
  walk_at "ct_go"
  intro g' L' h' FG' F' N' B' X' T'
  (try dsimp only)
  (try k_lift B')
  (try k_fold)
  replace l1 : Above news d' := l1
  (try k_lt2 l2)
  k_steps
  have l5 := (by assumption : x' < _ ∧ d' < _ ∧ AllLt _ news)
  refine' hret _ ((_, listOf [Value.ref u].toArray 0) :: (x', instObj 228 d') :: (d', dictOf _ _) :: news) _ _ ⟨[d', _], ⟨x', d', _, _, _, rfl, rfl, .tail _ (.head _), .tail _ (.tail _ (.head _)), ⟨_, _, _, rfl⟩, .head _, Nat.ne_of_lt l5.2.1⟩, ?fresh, fun p hp => .tail _ (.tail _ (.tail _ hp))⟩ (by assumption) (by assumption)
  case fresh =>
    intro a ha p hp
    rcases List.mem_cons.mp ha with rfl | ha
    · exact Nat.ne_of_lt (l1 p hp)
    · rw [List.mem_singleton.mp ha]
      exact Nat.ne_of_lt (of_allLt l5.2.2 p hp)
theorem LayIn.keep {M M' : List Addr} {news n' : Led} {v : Value} {vs : List Value} (T : LayIn news v M vs) (k : Keeps M' news n') (ha : Apart M M') : LayIn n' v M vs := by
  obtain ⟨c, d, K, o, n, rfl, rfl, h1, h2, h3, h4, h5⟩ := T
  exact ⟨c, d, K, o, n, rfl, rfl, k _ h1 fun q => by rcases q with q | q <;> exact absurd q (by simp), k _ h2 fun _ => ha _ (.head _), h3, k _ h4 fun _ => ha _ (.tail _ (.head _)), h5⟩
theorem LayIn.held {M : List Addr} {news : Led} {v : Value} {vs : List Value} (T : LayIn news v M vs) : Held M news := by
  obtain ⟨c, d, K, o, n, rfl, rfl, h1, h2, h3, h4, h5⟩ := T
  intro a ha
  rcases List.mem_cons.mp ha with rfl | ha
  · exact ⟨_, h2⟩
  · rw [List.mem_singleton.mp ha]; exact ⟨_, h4⟩
theorem LayIn.set {w : World} {h₀ h : Heap} {L : Addr} {c d K : Addr} {news : Led} {o : Obj} {n n' : Nat} {vs us : List Value} (N : News h₀ L h news) (h1 : (c, instObj 228 d) ∈ news) (h2 : (d, o) ∈ news) (h3 : layDict K o) (h4 : (K, listOf vs.toArray n) ∈ news) (h5 : d ≠ K) :
    LayIn (upd news K (listOf us.toArray n')) (.ref c) [d, K] us ∧ Keeps [d, K] news (upd news K (listOf us.toArray n')) := by
  refine ⟨⟨c, d, K, o, n', rfl, rfl, upd_other h1 (news_ne N h1 h4 fun q => absurd (congrArg Obj.cls q) (by simp)), upd_other h2 h5, h3, upd_head, h5⟩, fun p hp q => ?_⟩
  refine upd_other hp fun e => ?_
  have : p.2 = listOf vs.toArray n := news_same N (a := K) (by rw [← e]; exact hp) h4
  exact q (by rw [this]; exact Or.inl rfl) (by rw [e]; exact .tail _ (.head _))
local macro_rules | `(tactic| walk_at "subscriptTail") => `(tactic| (k_here; refine Hold.of ?_))
theorem top_ct {w : World} {news : Led} {v : Value} {M : List Addr} {vs : List Value} {u : Addr} (hl : LayIn news v M (vs ++ [.ref u])) (hv : vs.length ≤ 10) :
    Ct w 204 [v] 70 400 news fun v' n' => v' = .ref u ∧ n' = news := by
  obtain ⟨c, d, K, o, n, rfl, rfl, h1, h2, ⟨hs1, k1, nd, rfl⟩, h4, h5⟩ := hl
  refine Ct.of fun prog p loose mean mg mb A₀ env outer base h₀ L m s Q E B F X N T hf hk hret => ?_
  walk_at "ct_enter"
  intro g' L' h' FG' F' N' B' X' T'
  (try dsimp only)
  (try k_lift B')
  (try k_fold)
  k_steps
  refine Hold.out ?_
  refine' sub_back (x := .ref u) (by assumption) h4 ⟨rfl, _, rfl⟩ (by decide) (by simp; omega) (by decide) last_at ?_
  k_steps
  exact hret _ _ _ _ ⟨rfl, rfl⟩ (by assumption) (by walk_at "ct_news")
local macro_rules | `(tactic| walk_at "call builtin:len") => `(tactic| (k_here; refine Hold.of ?_))
theorem depth_ct {w : World} {news : Led} {v : Value} {M : List Addr} {vs : List Value} (hl : LayIn news v M vs) (hv : vs.length ≤ 10) :
    Ct w 211 [v] 70 400 news fun v' n' => (∃ t, v' = .int ((vs.length : Int) - 1) t) ∧ n' = news := by
  obtain ⟨c, d, K, o, n, rfl, rfl, h1, h2, ⟨hs1, k1, nd, rfl⟩, h4, h5⟩ := hl
  refine Ct.of fun prog p loose mean mg mb A₀ env outer base h₀ L m s Q E B F X N T hf hk hret => ?_
  walk_at "ct_enter"
  intro g' L' h' FG' F' N' B' X' T'
  (try dsimp only)
  (try k_lift B')
  (try k_fold)
  k_steps
  refine Hold.out ?_
  refine' len_led (by assumption) h4 ⟨rfl, _, rfl⟩ (by omega) ?_
  k_steps
  exact hret _ _ _ _ ⟨⟨_, rfl⟩, rfl⟩ (by assumption) (by walk_at "ct_news")
end
section
set_option maxHeartbeats 1000000
local macro_rules | `(tactic| walk_at "call ref") => `(tactic| (k_here; (with_reducible refine' hC 301 ?_); refine Hold.of ?_))
local macro_rules | `(tactic| walk_at "call ref") => `(tactic| (k_here; (with_reducible refine' hC 204 ?_); refine Hold.of ?_))
local macro_rules | `(tactic| walk_at "call ref") => `(tactic| (k_here; (with_reducible refine' hC 291 ?_); refine Hold.of ?_))
local macro_rules | `(tactic| walk_at "call builtin:list.append") => `(tactic| (k_here; refine Hold.of ?_))
inductive InstIn (news : Led) (u : Addr) (M : List Addr) (bx : Box) : Prop
  | mk (du : Addr) (ou : Obj) (hi : (u, instObj 301 du) ∈ news) (hd : (du, ou) ∈ news) (h1 h2 h3 h4 h5 : Int) (k1 k2 k3 k4 k5 t1 t2 t3 t4 : Tok) (n : Nat)
    (e : ou = dictOf [⟨h1, .str "width" k1, .int bx.w t1⟩, ⟨h2, .str "height" k2, .int bx.h t2⟩, ⟨h3, .str "left" k3, .int bx.l t3⟩, ⟨h4, .str "top" k4, .int bx.t t4⟩, ⟨h5, .str "cells" k5, .ref (M.getD 1 0)⟩] n)
theorem CanIn.inst {w : World} {news : Led} {u : Addr} {M : List Addr} {bx : Box} {f : Int → Int → Col} (hc : CanIn w news (.ref u) M bx f) : InstIn news u M bx := by
  obtain ⟨c, d, cl, rs, e, rfl, T⟩ := hc
  obtain rfl := Value.ref.inj e
  obtain ⟨o, h, ⟨h1, h2, h3, h4, h5, k1, k2, k3, k4, k5, t1, t2, t3, t4, n, q⟩⟩ := T.dict
  exact ⟨d, o, T.inst, h, h1, h2, h3, h4, h5, k1, k2, k3, k4, k5, t1, t2, t3, t4, n, q⟩
theorem like_ct {w : World} {news : Led} {v : Value} {M : List Addr} {bx : Box} {f : Int → Int → Col} (hc : CanIn w news v M bx f) (hb : bx.Ok) :
    Ct w 291 [v] 70 400 news fun v' n' => CanP w news bx v' n' := by
  obtain ⟨c, d, cl, rs, rfl, rfl, T⟩ := hc
  obtain ⟨o, hdd, hs1, hs2, hs3, hs4, hs5, k1, k2, k3, k4, k5, t1, t2, t3, t4, n, rfl⟩ := T.dict
  have hin := T.inst
  refine Ct.of fun prog p loose mean mg mb A₀ env outer base h₀ L m s Q E B F X N T hf hk hret => ?_
  walk_at "ct_enter"
  intro g' L' h' FG' F' N' B' X' T'
  (try dsimp only)
  (try k_lift B')
  (try k_fold)
  k_steps
  refine Hold.out ?_
  refine' Ct.use (canvas4_ct hb) ?kB ?kF ?kX ?kN ?kT ?kA ?kf ?kk ?kh ?kd ?ku ?_
  walk_at "ct_use"
  intro v' news' h4 tk4 hP F4 N4
  obtain ⟨M', hP1, hP2, hP3⟩ := hP
  obtain ⟨c', d', cl', rs', rfl, rfl, T'⟩ := hP1
  k_steps
  exact hret _ _ _ _ ⟨_, ⟨c', d', cl', rs', rfl, rfl, T'⟩, hP2, hP3⟩ (by assumption) (by walk_at "ct_news")
inductive PushP (w : World) (news : Led) (v : Value) (M : List Addr) (vs : List Value) (u : Addr) (bx : Box) (v' : Value) (n' : Led) : Prop
  | mk (e : v' = .none) (M' : List Addr) (u' : Addr) (l : LayIn n' v M (vs ++ [.ref u] ++ [.ref u'])) (c : CanIn w n' (.ref u') M' bx (fun _ _ => zc)) (f : Fresh M' news) (k : Keeps M news n')
theorem push_ct {w : World} {news : Led} {v : Value} {M Mc : List Addr} {vs : List Value} {u : Addr} {bx : Box} {f : Int → Int → Col} (hl : LayIn news v M (vs ++ [.ref u])) (hv : vs.length ≤ 10) (hc : CanIn w news (.ref u) Mc bx f) (hb : bx.Ok) :
    Ct w 218 [v] 60 350 news fun v' n' => PushP w news v M vs u bx v' n' := by
  have hl' := hl
  have hh := hl.held
  obtain ⟨c, d, K, o, n, rfl, rfl, h1, h2, ⟨hs1, k1, nd, rfl⟩, h4, h5⟩ := hl
  obtain ⟨du, ou, hiu, hdu, us1, us2, us3, us4, us5, uk1, uk2, uk3, uk4, uk5, ut1, ut2, ut3, ut4, un, rfl⟩ := hc.inst
  refine Ct.of fun prog p loose mean mg mb A₀ env outer base h₀ L m s Q E B F X N T hf hk hret => ?_
  walk_at "ct_enter"
  intro g' L' h' FG' F' N' B' X' T'
  (try dsimp only)
  (try k_lift B')
  (try k_fold)
  k_steps
  refine Hold.out ?_
  refine' Ct.use (top_ct hl' hv) ?kB ?kF ?kX ?kN ?kT ?kA ?kf ?kk ?kh ?kd ?ku ?_
  walk_at "ct_use"
  intro v' news' h4' tk4 hP F4 N4
  obtain ⟨rfl, rfl⟩ := hP
  k_steps
  refine Hold.out ?_
  refine' Ct.use (like_ct hc hb) ?kB ?kF ?kX ?kN ?kT ?kA ?kf ?kk ?kh ?kd ?ku ?_
  walk_at "ct_use"
  intro v' news2 h5' tk5 hP F5 N5
  obtain ⟨M', hP1, hP2, hP3⟩ := hP
  obtain ⟨c', d', cl', rs', rfl, rfl, T'⟩ := id hP1
  k_steps
  refine Hold.out ?_
  refine' append_led (by assumption) N5 (hP3 _ h4) (by simp; omega) ?_
  intro h6 n6 F6 N6
  obtain ⟨q1, q2⟩ := LayIn.set (w := w) (us := vs ++ [.ref u] ++ [.ref c']) (n' := n6) N5 (hP3 _ h1) (hP3 _ h2) ⟨_, _, _, rfl⟩ (hP3 _ h4) h5
  k_steps
  refine hret _ _ _ _ ⟨rfl, d' :: cl' :: rs', c', q1, hP1.keep q2 ?_, hP2, fun p hp => q2 p (hP3 p hp)⟩ (by assumption) (by walk_at "ct_news")
  exact (Held.apart hh hP2).symm
end
section
set_option maxHeartbeats 1000000
local macro_rules | `(tactic| walk_at "call ref") => `(tactic| (k_here; (first | (with_reducible refine' hC 211 ?_) | (with_reducible refine' hC 204 ?_) | (with_reducible refine' hC 284 ?_) | (with_reducible refine' hC 260 ?_) | (with_reducible refine' hC 183 ?_) | (with_reducible refine' hC 267 ?_)); refine Hold.of ?_))
local macro_rules | `(tactic| walk_at "call builtin:list.pop") => `(tactic| (k_here; refine Hold.of ?_))
local macro_rules | `(tactic| walk_at "exec For") => `(tactic| (k_here; refine Hold.of ?_))
/-- a layer laid over another one, up to a place -/
noncomputable def popTo (md : Mode) (al : Int → Int → Int) (fa fb : Int → Int → Col) (bx : Box) (i : Nat) : Int → Int → Col := fun x y => if (x, y) ∈ (placesOf bx).take i then bl md (dm (fa x y) (al x y)) (fb x y) else fb x y
theorem popTo_zero {md : Mode} {al : Int → Int → Int} {fa fb : Int → Int → Col} {bx : Box} : popTo md al fa fb bx 0 = fb := by
  funext x y
  simp [popTo]
theorem popTo_next {md : Mode} {al : Int → Int → Int} {fa fb : Int → Int → Col} {bx : Box} {i : Nat} {x y : Int} (h : (placesOf bx)[i]? = some (x, y)) :
    popTo md al fa fb bx i x y = fb x y ∧ setF (popTo md al fa fb bx i) x y (bl md (dm (fa x y) (al x y)) (fb x y)) = popTo md al fa fb bx (i + 1) := by
  refine ⟨if_neg (take_get_notin placesOf_nodup h), ?_⟩
  funext a b
  unfold setF popTo
  rw [take_next h]
  by_cases e : a = x ∧ b = y
  · obtain ⟨rfl, rfl⟩ := e
    rw [if_pos ⟨rfl, rfl⟩, if_pos (List.mem_append_right _ (List.mem_singleton.mpr rfl))]
  · rw [if_neg e]
    have : ((a, b) ∈ (placesOf bx).take i ++ [(x, y)]) ↔ (a, b) ∈ (placesOf bx).take i := by
      rw [List.mem_append, List.mem_singleton, Prod.mk.injEq]
      exact or_iff_left e
    simp only [this]
theorem LayIn.kn {M : List Addr} {news n' : Led} {v : Value} {vs : List Value} (T : LayIn news v M vs) (k : KN news n') : LayIn n' v M vs := by
  obtain ⟨c, d, K, o, n, rfl, rfl, h1, h2, ⟨x1, x2, x3, rfl⟩, h4, h5⟩ := T
  exact ⟨c, d, K, _, n, rfl, rfl, k _ h1 (no_iter_ref rfl), k _ h2 (no_iter_dict rfl), ⟨x1, x2, x3, rfl⟩, k _ h4 (no_iter_list rfl), h5⟩
theorem LayIn.sub {M : List Addr} {news n' : Led} {v : Value} {vs : List Value} (T : LayIn news v M vs) (k : ∀ p ∈ news, p ∈ n') : LayIn n' v M vs := T.kn fun p hp _ => k p hp
structure JPop (w : World) (news : Led) (v : Value) (ML Mb Ma : List Addr) (vs : List Value) (ub ua a : Addr) (pls : List Value) (bx : Box) (md : Mode) (al : Int → Int → Int) (fa fb : Int → Int → Col) (m₀ : Str → Option Value) (i : Nat) (m' : Str → Option Value) (n' : Led) : Prop where
  loc : ∃ vx vy va, m' = bnd3 m₀ (Str.ofString "alpha") (Str.ofString "y") (Str.ofString "x") va vy vx
  below : CanIn w n' (.ref ub) Mb bx (popTo md al fa fb bx i)
  above : CanIn w n' (.ref ua) Ma bx fa
  lay : LayIn n' v ML (vs ++ [.ref ub])
  list : ∃ k, (a, listOf pls.toArray k) ∈ n'
  pls : All2 (PlIn w n') pls (placesOf bx)
  keep : Keeps (ML ++ Mb) news n'
inductive PopP (w : World) (news : Led) (v : Value) (ML Mb : List Addr) (vs : List Value) (ub : Addr) (bx : Box) (g : Int → Int → Col) (v' : Value) (n' : Led) : Prop
  | mk (e : v' = .none) (l : LayIn n' v ML (vs ++ [.ref ub])) (c : CanIn w n' (.ref ub) Mb bx g) (k : Keeps (ML ++ Mb) news n')
theorem pop0_ct {w : World} {news : Led} {v : Value} {ML Mb Ma : List Addr} {vs : List Value} {ub ua : Addr} {bx : Box} {md : Mode} {fa fb : Int → Int → Col} {op : Int} {to tm : Tok} (hl : LayIn news v ML (vs ++ [.ref ub] ++ [.ref ua])) (hv : vs.length ≤ 5) (hcb : CanIn w news (.ref ub) Mb bx fb) (hca : CanIn w news (.ref ua) Ma bx fa) (hb : bx.Ok)
    (hop : 0 ≤ op ∧ op ≤ 255) (hfa : ∀ x y, (fa x y).Ok) (hfb : ∀ x y, (fb x y).Ok) (hab : Apart Ma Mb) (hal : Apart Ma ML) (hbl : Apart Mb ML) :
    Ct w 225 [v, .int op to, .str md.name tm, .none] 40 300 news fun v' n' => PopP w news v ML Mb vs ub bx (popTo md (fun _ _ => op) fa fb bx (bx.h * bx.w)) v' n' := by
  have hl' := hl
  obtain ⟨c, d, K, o, n, rfl, rfl, h1, h2, ⟨hs1, k1, nd, rfl⟩, h4, h5⟩ := hl
  refine Ct.of fun prog p loose mean mg mb A₀ env outer base h₀ L m s Q E B F X N T hf hk hret => ?_
  walk_at "ct_enter"
  intro g' L' h' FG' F' N' B' X' T'
  (try dsimp only)
  (try k_lift B')
  (try k_fold)
  k_steps
  refine Hold.out ?_
  refine' Ct.use (depth_ct hl' (by simp; omega)) ?kB ?kF ?kX ?kN ?kT ?kA ?kf ?kk ?kh ?kd ?ku ?_
  walk_at "ct_use"
  intro v' news' h4' tk4 hP F4 N4
  obtain ⟨⟨td, rfl⟩, rfl⟩ := hP
  generalize hq : ((vs ++ [Value.ref ub] ++ [Value.ref ua]).length : Int) - 1 = q
  have hq1 : 1 ≤ q := by simp at hq; omega
  k_steps
  · omega
  refine Hold.out ?_
  refine' pop_led (by assumption) N4 h4 (by simp; omega) ?_
  intro h6 F6 N6
  obtain ⟨q1, q2⟩ := LayIn.set (w := w) (us := vs ++ [.ref ub]) (n' := n + 1) N4 h1 h2 ⟨_, _, _, rfl⟩ h4 h5
  have h1' := q2 _ h1 (fun q => by rcases q with q | q <;> exact absurd q (by simp))
  obtain ⟨c9, d9, K9, o9, n9, e9, e9', g1, g2, ⟨hs9, k9, nd9, rfl⟩, g4, g5⟩ := id q1
  obtain rfl := Value.ref.inj e9
  injection e9' with e9a e9b
  injection e9b with e9b _
  subst e9a e9b
  have cb2 := hcb.keep q2 hbl
  have ca2 := hca.keep q2 hal
  obtain ⟨da, oa, hia, hda, as1, as2, as3, as4, as5, ak1, ak2, ak3, ak4, ak5, at1, at2, at3, at4, an, rfl⟩ := ca2.inst
  k_steps
  refine Hold.out ?_
  refine' Ct.use (top_ct q1 (by omega)) ?kB ?kF ?kX ?kN ?kT ?kA ?kf ?kk ?kh ?kd ?ku ?_
  walk_at "ct_use"
  intro v' n7 h7' tk7 hP F7 N7
  obtain ⟨rfl, rfl⟩ := hP
  k_steps
  refine Hold.out ?_
  refine For_fr (h₀ := g') (L := L') ?_
  k_steps
  refine Hold.out ?_
  refine' Ct.use (places_ct ca2 hb) ?kB ?kF ?kX ?kN ?kT ?kA ?kf ?kk ?kh ?kd ?ku ?_
  walk_at "ct_use"
  intro v' n8 h8' tk8 hP F8 N8
  obtain ⟨a, pls, k, rfl, hpl, hlt, hall, hsub⟩ := hP
  k_steps
  refine Hold.out ?_
  have hjk0 : Keeps ([d, K] ++ Mb) news' n8 := fun p hp q => hsub p (q2 p hp fun x y => q x (List.mem_append_left _ y))
  refine' forAt_list rfl hpl ⟨rfl, _, rfl⟩ (by assumption) (by assumption) (fun v I l k s Q E hit hq => letGo_tuple hit hq) (JPop w news' (.ref c) [d, K] Mb Ma vs ub ua a pls bx md (fun _ _ => op) fa fb ?m0) ⟨⟨_, _, _, bnd3_none rfl rfl rfl⟩, ?jb0, ca2.sub hsub, q1.sub hsub, ⟨k, hpl⟩, hall, ?jk0⟩ ?step ?done
  case jb0 => rw [popTo_zero]; exact cb2.sub hsub
  case jk0 => exact hjk0
  case step =>
    intro wr i v m₁ own news₁ h tk hw hi hJ ho hown F₁ N₁
    obtain ⟨⟨vx, vy, va, rfl⟩, jb, ja, jl, ⟨kk, jli⟩, jp, jk⟩ := hJ
    obtain ⟨⟨px, py⟩, hp, tp, tx, ty, rfl, hvt⟩ := jp.get hi
    have hhas := has_placesOf (List.mem_of_getElem? hp)
    obtain ⟨pf1, pf2⟩ := popTo_next (md := md) (al := fun _ _ => op) (fa := fa) (fb := fb) hp
    have sr : ∀ p ∈ news₁, p ∈ own ++ news₁ := fun p hp => List.mem_append_right own hp
    have jb' := jb.sub sr
    have ja' := ja.sub sr
    obtain ⟨da', oa', hia', hda', as1', as2', as3', as4', as5', ak1', ak2', ak3', ak4', ak5', at1', at2', at3', at4', an', rfl⟩ := ja'.inst
    obtain ⟨db', ob', hib', hdb', bs1', bs2', bs3', bs4', bs5', bk1', bk2', bk3', bk4', bk5', bt1', bt2', bt3', bt4', bn', rfl⟩ := jb'.inst
    refine assign_Tuple_tuple rfl ((hvt.mono sr).tup F₁ (by assumption) N₁) rfl rfl fun g he => ?_
    have up : ∀ b o, h.get? b = some o → g.get? b = some o := fun b o e => he b o (Nat.ne_of_lt (Heap.lt_size e)) e
    have F₂ := F₁.keeps up
    have N₂ := N₁.grown up
    clear F₁ N₁
    refine assignInOrder_cons ?_
    k_steps
    refine Hold.out ?_
    refine' Ct.use (get_ct ja' hb hhas) ?kB ?kF ?kX ?kN ?kT ?kA ?kf ?kk ?kh ?kd ?ku ?_
    walk_at "ct_use"
    intro v' n9 h9 tk9 hP F9 N9
    obtain ⟨hcol, rfl⟩ := hP
    obtain ⟨ac, c1, c2, c3, c4, rfl, hct⟩ := id hcol
    k_steps
    refine Hold.out ?_
    refine' Ct.use (get_ct jb' hb hhas) ?kB ?kF ?kX ?kN ?kT ?kA ?kf ?kk ?kh ?kd ?ku ?_
    walk_at "ct_use"
    intro v' n10 h10 tk10 hP F10 N10
    obtain ⟨hcol2, rfl⟩ := hP
    rw [pf1] at hcol2
    obtain ⟨ac2, c5, c6, c7, c8, rfl, hct2⟩ := id hcol2
    k_steps
    refine Hold.out ?_
    refine' Ct.use (laid_ct hcol hcol2 (hfa _ _) (hfb _ _) hop) ?kB ?kF ?kX ?kN ?kT ?kA ?kf ?kk ?kh ?kd ?ku ?_
    walk_at "ct_use"
    intro v' n11 h11 tk11 hP F11 N11
    obtain ⟨hcol3, hsub3⟩ := hP
    obtain ⟨ac3, d1, d2, d3, d4, rfl, hct3⟩ := id hcol3
    k_steps
    refine Hold.out ?_
    refine' Ct.use (put_ct (jb'.sub hsub3) hb hhas hcol3) ?kB ?kF ?kX ?kN ?kT ?kA ?kf ?kk ?kh ?kd ?ku ?_
    walk_at "ct_use"
    intro v' n12 h12 tk12 hP F12 N12
    obtain ⟨rfl, hcb3, hk3⟩ := hP
    rw [pf2] at hcb3
    have hoff : ∀ p ∈ own, p.1 ∉ Mb := fun p hp hm => (hown p hp).elim (fun e => by obtain ⟨o, ho⟩ := cb2.held _ hm; have := hlt _ ho; rw [e] at this; exact Nat.lt_irrefl _ this) (fun f => let ⟨o, ho⟩ := (cb2.sub hsub).held _ hm; Nat.lt_irrefl p.1 (f (p.1, o) ho))
    have hon : ∀ p ∈ own, p ∈ n12 := fun p hp => hk3 _ (hsub3 _ (List.mem_append_left _ hp)) (fun _ => hoff p hp)
    have kn := KN.filtW hw N12 hon
    have s12 : Keeps Mb news₁ n12 := fun p hp q => hk3 p (hsub3 p (sr p hp)) q
    have haMb : a ∉ Mb := fun hm => let ⟨o, ho⟩ := cb2.held _ hm; Nat.lt_irrefl _ (hlt _ ho)
    k_steps
    refine ForStep.filt (by assumption) (by assumption) hon ⟨⟨_, _, _, bnd3_again⟩, hcb3.kn kn, (ja.keep s12 hab).kn kn, (jl.keep s12 hbl.symm).kn kn, ⟨kk, kn _ (s12 _ jli fun _ => haMb) (no_iter_list rfl)⟩, jp.imp fun v p q => (q.tk (TK.of_keeps s12)).tk (TK.of_kn kn), fun p hp q => filtW_mem (s12 p (jk p hp q) fun x y => q x (List.mem_append_right _ y)) (hw.oldA _ (hjk0 p hp q))⟩
  intro h13 tk13 m13 n13 F13 N13 hJ
  obtain ⟨⟨vx, vy, va, rfl⟩, jb, ja, jl, jli, jp, jk⟩ := hJ
  rw [hall.len, show (placesOf bx).length = bx.h * bx.w from placesTo_len] at jb
  k_steps
  exact hret _ _ _ _ ⟨rfl, jl, jb, jk⟩ (by assumption) (by walk_at "ct_news")
end
section
set_option maxHeartbeats 1000000
local macro_rules | `(tactic| walk_at "subscriptTail") => `(tactic| (k_here; refine Hold.of ?_))
local macro_rules | `(tactic| walk_at "setItem ref int") => `(tactic| (k_here; refine Hold.of ?_))
/-- the two numbers from which the law draws -/
inductive SrcIn (news : Led) (S : Addr) : Prop
  | mk (a b : Int) (t1 t2 : Tok) (o : Obj) (m : (S, o) ∈ news) (z : LstO [.int a t1, .int b t2] o) (r : 0 ≤ a ∧ 0 ≤ b ∧ b < 2147483647)
theorem SrcIn.keep {M : List Addr} {news n' : Led} {S : Addr} (T : SrcIn news S) (k : Keeps M news n') (h : S ∉ M) : SrcIn n' S := let ⟨a, b, t1, t2, o, e, x, r⟩ := T; ⟨a, b, t1, t2, o, k _ e fun _ => h, x, r⟩
theorem SrcIn.sub {news n' : Led} {S : Addr} (T : SrcIn news S) (k : ∀ p ∈ news, p ∈ n') : SrcIn n' S := T.keep (M := []) (Keeps.of_sub k) (by simp)
theorem SrcIn.set {h₀ h : Heap} {L : Addr} {news : Led} {S : Addr} {o o' : Obj} {a b : Int} {t1 t2 : Tok} {vs : List Value} (N : News h₀ L h news) (hm : (S, o) ∈ news) (ho : LstO vs o) (ho' : LstO [.int a t1, .int b t2] o') (ha : 0 ≤ a) (hb : 0 ≤ b ∧ b < 2147483647) : SrcIn (upd news S o') S ∧ Keeps [S] news (upd news S o') :=
  ⟨⟨a, b, t1, t2, o', upd_head, ho', ha, hb⟩, Keeps.upd (.head _) fun p hp e => by
    have : p.2 = o := news_same N (a := S) (by rw [← e]; exact hp) hm
    rw [this]; exact Or.inl ho.1⟩
theorem take_ct {w : World} {news : Led} {S : Addr} {n : Int} {t : Tok} (hs : SrcIn news S) (hn : 1 ≤ n ∧ n ≤ 1000) :
    Ct w 319 [.ref S, .int n t] 80 550 news fun v' n' => (∃ r t', v' = .int r t' ∧ 0 ≤ r ∧ r < n) ∧ SrcIn n' S ∧ Keeps [S] news n' := by
  obtain ⟨a, b, t1, t2, o, hm, ho, ha, hb, hb2⟩ := hs
  refine Ct.of fun prog p loose mean mg mb A₀ env outer base h₀ L m s Q E B F X N T hf hk hret => ?_
  walk_at "ct_enter"
  intro g' L' h' FG' F' N' B' X' T'
  (try dsimp only)
  (try k_lift B')
  (try k_fold)
  k_steps
  refine Hold.out ?_
  refine' sub_list (x := .int a t1) (by assumption) hm ho (by decide) (by decide) rfl ?_
  k_steps
  · refine Hold.out ?_
    refine' sub_list (x := .int a t1) (by assumption) hm ho (by decide) (by decide) rfl ?_
    k_steps
    refine Hold.out ?_
    refine' sub_list (x := .int a t1) (by assumption) hm ho (by decide) (by decide) rfl ?_
    k_steps
    refine Hold.out ?_
    refine' setItem_led (by assumption) (by assumption) hm ho (by decide) (by decide) (by show (0 : Int) < 2; decide) ?_
    intro h5 o' ho' F5 N5
    have hz := SrcIn.set N hm ho (o' := o') (b := b) (t2 := t2) ho' (by rw [Int.fdiv_eq_ediv_of_nonneg _ (by omega)]; exact Int.ediv_nonneg ha (by omega)) ⟨hb, hb2⟩
    k_steps
    refine hret _ _ _ _ ⟨⟨_, _, rfl, ?_, ?_⟩, hz.1, hz.2⟩ (by assumption) (by walk_at "ct_news")
    · rw [Int.fmod_eq_emod_of_nonneg _ (by omega)]; exact Int.emod_nonneg _ (by omega)
    · rw [Int.fmod_eq_emod_of_nonneg _ (by omega)]; exact Int.emod_lt_of_pos _ (by omega)
  · refine Hold.out ?_
    refine' sub_list (x := .int b t2) (by assumption) hm ho (by decide) (by decide) rfl ?_
    k_steps
    refine Hold.out ?_
    refine' setItem_led (by assumption) (by assumption) hm ho (by decide) (by decide) (by show (1 : Int) < 2; decide) ?_
    intro h5 o' ho' F5 N5
    have hz := SrcIn.set N hm ho (o' := o') (a := a) (t1 := t1) ho' ha (by rw [Int.fmod_eq_emod_of_nonneg _ (by decide)]; omega)
    k_steps
    refine Hold.out ?_
    refine' sub_list (by assumption) upd_head ho' (by decide) (by decide) rfl ?_
    k_steps
    refine Hold.out ?_
    refine' sub_list (by assumption) upd_head ho' (by decide) (by decide) rfl ?_
    k_steps
    refine hret _ _ _ _ ⟨⟨_, _, rfl, ?_, ?_⟩, hz.1, hz.2⟩ (by assumption) (by walk_at "ct_news")
    · rw [Int.fmod_eq_emod_of_nonneg _ (show 0 ≤ n by omega)]; exact Int.emod_nonneg _ (by omega)
    · rw [Int.fmod_eq_emod_of_nonneg _ (show 0 ≤ n by omega)]; exact Int.emod_lt_of_pos _ (by omega)
local macro_rules | `(tactic| walk_at "call ref") => `(tactic| (k_here; (with_reducible refine' hC 319 ?_); refine Hold.of ?_))
local macro_rules | `(tactic| walk_at "call builtin:len") => `(tactic| (k_here; refine Hold.of ?_))
theorem one_ct {w : World} {news : Led} {S a : Addr} {o : Obj} {vs : List Value} (hs : SrcIn news S) (hm : (a, o) ∈ news) (ho : LstO vs o) (hn : 1 ≤ vs.length ∧ vs.length ≤ 1000) (hne : a ≠ S) :
    Ct w 326 [.ref S, .ref a] 70 500 news fun v' n' => (∃ i : Nat, vs[i]? = some v') ∧ SrcIn n' S ∧ Keeps [S] news n' := by
  refine Ct.of fun prog p loose mean mg mb A₀ env outer base h₀ L m s Q E B F X N T hf hk hret => ?_
  walk_at "ct_enter"
  intro g' L' h' FG' F' N' B' X' T'
  (try dsimp only)
  (try k_lift B')
  (try k_fold)
  k_steps
  refine Hold.out ?_
  refine' len_led (by assumption) hm ho hn.2 ?_
  k_steps
  refine Hold.out ?_
  refine' Ct.use (take_ct hs (by omega)) ?kB ?kF ?kX ?kN ?kT ?kA ?kf ?kk ?kh ?kd ?ku ?_
  walk_at "ct_use"
  intro v' news' h4 tk4 hP F4 N4
  obtain ⟨⟨r, tr, rfl, hr0, hr1⟩, hs', hk'⟩ := hP
  k_steps
  refine Hold.out ?_
  have hlt : r.toNat < vs.length := by omega
  refine' sub_list (by assumption) (hk' _ hm fun _ => by simpa using hne) ho hr0 (by omega) (List.getElem?_eq_getElem hlt) ?_
  k_steps
  exact hret _ _ _ _ ⟨⟨_, List.getElem?_eq_getElem hlt⟩, hs', hk'⟩ (by assumption) (by walk_at "ct_news")
end
section
set_option maxHeartbeats 1000000
local macro_rules | `(tactic| walk_at "call ref") => `(tactic| (k_here; (with_reducible refine' hC 326 ?_); refine Hold.of ?_))
noncomputable def JCol (S : Addr) (base : Led) (al : Int) (i : Nat) (ys : List Value) (n : Led) : Prop := (∃ ns, IntsAre ys ns ∧ ns.length = i ∧ ∀ x ∈ ns, 0 ≤ x ∧ x ≤ al) ∧ SrcIn n S ∧ Keeps [S] base n
theorem colour_ct {w : World} {news : Led} {S : Addr} (hs : SrcIn news S) :
    Ct w 331 [.ref S] 60 450 news fun v' n' => (∃ c : Col, c.Pm ∧ ColIn w n' v' c) ∧ SrcIn n' S ∧ Keeps [S] news n' := by
  obtain ⟨oS, hS⟩ : ∃ o, (S, o) ∈ news := let ⟨_, _, _, _, o, e, _, _⟩ := hs; ⟨o, e⟩
  refine Ct.of fun prog p loose mean mg mb A₀ env outer base h₀ L m s Q E B F X N T hf hk hret => ?_
  walk_at "ct_enterC"
  intro g' L' h' tk' cells' FG' F' N' Y' B' X' T' l1
  replace l1 : Above _ L' := l1
  k_cells Y'
  (try simp only [List.cons_append, List.nil_append] at N')
  (try dsimp only)
  (try k_lift B')
  (try k_fold)
  have hSL : S < L' := l1 _ hS
  have hS1 : L' + 1 ≠ S := Nat.ne_of_gt (Nat.lt_succ_of_lt hSL)
  have hS2 : L' + 1 + 1 ≠ S := Nat.ne_of_gt (Nat.lt_succ_of_lt (Nat.lt_succ_of_lt hSL))
  k_steps
  refine Hold.out ?_
  have l2 := (by assumption : _ ∧ _ ∧ AllLt _ news)
  refine' Ct.useN (by k_asm) (one_ct (S := S) (hs.sub fun p hp => .tail _ (.tail _ (.tail _ hp))) (.head _) (by exact ⟨rfl, _, rfl⟩) (by exact ⟨Nat.le_of_ble_eq_true rfl, Nat.le_of_ble_eq_true rfl⟩) (Nat.ne_of_gt (Nat.lt_trans hSL (Nat.lt_trans (Nat.lt_succ_self _) l2.2.1)))) ?kB ?kF ?kX ?kT ?kA ?kf ?kk ?kh ?kd ?ku ?_
  walk_at "ct_useN"
  intro v' news' h4 tk4 hP F4 N4
  obtain ⟨⟨ia, hia⟩, hs4, hk4⟩ := hP
  obtain ⟨al, ta, rfl, hal⟩ : ∃ (al : Int) (ta : Tok), v' = .int al ta ∧ 0 ≤ al ∧ al ≤ 255 := by
    rcases ia with _ | _ | _ | _ | _ | _ | ia <;> first | (obtain rfl := Option.some.inj hia; exact ⟨_, _, rfl, by decide, by decide⟩) | cases hia
  have hold : ∀ p ∈ news, (Chg p.2 → p.1 ∉ [S]) → p ∈ news' := fun p hp q => hk4 _ (.tail _ (.tail _ (.tail _ hp))) q
  obtain ⟨R, N5, hR2, hR3, hR4⟩ := news_front2 N4 (hk4 _ (.tail _ (.head _)) fun _ => by simpa using hS2) (hk4 _ (.tail _ (.tail _ (.head _))) fun _ => by simpa using hS1)
  have hsR : SrcIn R S := let ⟨a, b, t1, t2, o, e, x, r⟩ := hs4; ⟨a, b, t1, t2, o, hR2 _ e hS2.symm hS1.symm, x, r⟩
  have holdR : ∀ p ∈ news, (Chg p.2 → p.1 ∉ [S]) → p ∈ R := fun p hp q => hR2 _ (hold p hp q) (Nat.ne_of_lt (Nat.lt_succ_of_lt (Nat.lt_succ_of_lt (l1 p hp)))) (Nat.ne_of_lt (Nat.lt_succ_of_lt (l1 p hp)))
  k_steps
  refine Hold.out ?_
  refine' Assign_ListComp_fr (h₀ := g') ?hsw ?hclos ?hcell ?hkind ?hnames ?hx ?hy ?hp ?_
  case hsw => with_unfolding_all rfl
  case hclos => with_unfolding_all rfl
  case hcell => decide
  case hkind => with_unfolding_all rfl
  case hnames => decide
  case hx => with_unfolding_all rfl
  case hy => with_unfolding_all rfl
  case hp => with_unfolding_all rfl
  k_steps
  refine Hold.out ?_
  refine' compAt_rangeO (n := 3) rfl (by assumption) (by decide) (by decide) (Nat.le_of_ble_eq_true rfl) (by assumption) (by assumption) (JCol S ?base al) ⟨⟨[], .nil, rfl, by simp⟩, hsR.sub fun p hp => .tail _ (.tail _ hp), fun p hp _ => hp⟩ ?step ?done
  case step =>
    intro C D wr i ti ys nn oC mC own news₁ h tk hC hD hw hown hi hlen hJ ho hns hmx F'' N''
    obtain ⟨⟨ns, hns1, hns2, hns3⟩, hs5, hk5⟩ := hJ
    have y1 := hk5 _ (.head _) fun _ => by simpa using hS2
    have y2 := hk5 _ (.tail _ (.head _)) fun _ => by simpa using hS1
    k_steps
    refine Hold.out ?_
    have l3 := (by assumption : _ ∧ _ ∧ AllLt _ (own ++ news₁))
    obtain ⟨oS5, hoS5⟩ : ∃ o, (S, o) ∈ news₁ := let ⟨_, _, _, _, o, e, _, _⟩ := hs5; ⟨o, e⟩
    obtain ⟨oSR, hoSR⟩ : ∃ o, (S, o) ∈ R := let ⟨_, _, _, _, o, e, _, _⟩ := hsR; ⟨o, e⟩
    refine' Ct.useN (by k_asm) (one_ct (S := S) (hs5.sub fun p hp => .tail _ (.tail _ (.tail _ (List.mem_append_right own hp)))) (.head _) (by exact ⟨rfl, _, rfl⟩) (by exact ⟨Nat.le_of_ble_eq_true rfl, Nat.le_of_ble_eq_true rfl⟩) (Nat.ne_of_gt (of_allLt l3.2.2 _ (List.mem_append_right own hoS5)))) ?kB ?kF ?kX ?kT ?kA ?kf ?kk ?kh ?kd ?ku ?_
    walk_at "ct_useN"
    intro v' n2 h5 tk5 hP F5 N5
    obtain ⟨⟨ix, hix⟩, hs6, hk6⟩ := hP
    obtain ⟨x, tx, rfl, hx⟩ : ∃ (x : Int) (tx : Tok), v' = .int x tx ∧ 0 ≤ x ∧ x ≤ al := by
      rcases ix with _ | _ | _ | ix
      · obtain rfl := Option.some.inj hix; exact ⟨_, _, rfl, by omega, by omega⟩
      · obtain rfl := Option.some.inj hix; exact ⟨_, _, rfl, by omega, by omega⟩
      · obtain rfl := Option.some.inj hix
        refine ⟨_, _, rfl, ?_⟩
        rw [Int.fdiv_eq_ediv_of_nonneg _ (by decide)]
        omega
      · cases hix
    have hon : ∀ p ∈ (C, oC) :: (D, listOf ys.toArray nn) :: own, p ∈ n2 := by
      intro p hp
      rcases List.mem_cons.mp hp with rfl | hp
      · exact hk6 _ (.tail _ (.head _)) fun _ => by simpa using Nat.ne_of_gt (hC (S, oSR) (.tail _ (.tail _ hoSR)))
      rcases List.mem_cons.mp hp with rfl | hp
      · exact hk6 _ (.tail _ (.tail _ (.head _))) fun _ => by simpa using Nat.ne_of_gt (hD (S, oSR) (.tail _ (.tail _ hoSR)))
      · exact hk6 _ (.tail _ (.tail _ (.tail _ (List.mem_append_left _ hp)))) fun _ => by simpa using Nat.ne_of_gt (hown p hp (S, oSR) (.tail _ (.tail _ hoSR)))
    k_steps
    refine CompEnd.filt (by assumption) (by assumption) hon ⟨⟨ns ++ [x], ints_snoc hns1 rfl, by simp [hns2], fun y hy => (List.mem_append.mp hy).elim (hns3 y) fun q => by rw [List.mem_singleton.mp q]; exact hx⟩, ?_, fun p hp q => filt_mem (hk6 _ (.tail _ (.tail _ (.tail _ (List.mem_append_right own (hk5 p hp q))))) q) (Nat.ne_of_lt (hC p hp)) (Nat.ne_of_lt (hD p hp)) (hw.old hp)⟩
    obtain ⟨a, b, t1, t2, o, e, xx, r⟩ := hs6
    exact ⟨a, b, t1, t2, o, filt_mem e (Nat.ne_of_lt (hC (S, oSR) (.tail _ (.tail _ hoSR)))) (Nat.ne_of_lt (hD (S, oSR) (.tail _ (.tail _ hoSR)))) (hw.oldA oSR (.tail _ (.tail _ hoSR))), xx, r⟩
  intro D h3 tk3 n2 ys nn hD F3 N3 ho hlen hJ
  obtain ⟨⟨ns, hns1, hns2, hns3⟩, hs5, hk5⟩ := hJ
  match ns, hns2 with
  | [x1, x2, x3], _ =>
    obtain ⟨t1, t2, t3, rfl⟩ := ints3 hns1
    have y2 := hk5 _ (.head _) fun _ => by simpa using hS2
    k_steps
    refine hret _ _ _ _ ⟨⟨⟨x1, x2, x3, al⟩, ⟨hns3 x1 (by simp), hns3 x2 (by simp), hns3 x3 (by simp), hal⟩, ⟨_, _, _, _, _, rfl, .inl ⟨_, .head _⟩⟩⟩, hs5.sub ?_, fun p hp q => ?_⟩ (by assumption) (by walk_at "ct_news")
    · intro p hp; exact .tail _ (.tail _ hp)
    · exact .tail _ (.tail _ (hk5 p (.tail _ (.tail _ (holdR p hp q))) q))
end
section
set_option maxHeartbeats 1000000
local macro_rules | `(tactic| walk_at "call ref") => `(tactic| (k_here; (first | (with_reducible refine' hC 204 ?_) | (with_reducible refine' hC 260 ?_) | (with_reducible refine' hC 101 ?_) | (with_reducible refine' hC 267 ?_)); refine Hold.of ?_))
local macro_rules | `(tactic| walk_at "exec For") => `(tactic| (k_here; refine Hold.of ?_))
local macro_rules | `(tactic| walk_at "setItem") => `(tactic| (k_here; (with_reducible show wpAny _ _ (setItem (Value.ref _) (Value.ref _) _) _ _ _); refine Hold.of ?_))
local macro_rules | `(tactic| walk_at "subscriptTail") => `(tactic| (k_here; (with_reducible show wpAny _ _ (subscriptTail _ _ (Value.ref _) (Value.ref _)) _ _ _); refine Hold.of ?_))
inductive DeedAt (w : World) (news : Led) (v : Value) (d : Deed) : Prop
  | mk (t a : Addr) (c : Value) (n : Nat) (e : v = .ref t) (m : (t, tupOf [.ref a, c] n) ∈ news) (p : PlIn w news (.ref a) d.1) (x : ColIn w news c d.2)
theorem DeedAt.tk {w : World} {n n' : Led} {v : Value} {d : Deed} (T : DeedAt w n v d) (k : TK n n') : DeedAt w n' v d := let ⟨t, a, c, m, e, x, y, z⟩ := T; ⟨t, a, c, m, e, k _ _ _ x, y.tk k, z.tk k⟩
structure JPaint (w : World) (news : Led) (v : Value) (ML Mt : List Addr) (vs : List Value) (ut R a : Addr) (dv : List Value) (bx : Box) (ft g : Int → Int → Col) (ds : List Deed) (m₀ : Str → Option Value) (i : Nat) (m' : Str → Option Value) (n' : Led) : Prop where
  loc : ∃ vx vy va, m' = bnd3 m₀ (Str.ofString "canvas") (Str.ofString "colour") (Str.ofString "place") va vy vx
  top : CanIn w n' (.ref ut) Mt bx (paint (ds.take i) ft)
  tab : TabIn w n' R (placesOf bx) (paint (ds.take i) g)
  lay : LayIn n' v ML (vs ++ [.ref ut])
  list : ∃ k, (a, listOf dv.toArray k) ∈ n'
  deeds : All2 (DeedAt w n') dv ds
  keep : Keeps (R :: Mt) news n'
theorem IsTup_of {h : Heap} {t : Addr} {us : List Value} {n : Nat} (e : h.get? t = some (tupOf us n)) : IsTup h t us.toArray := ⟨_, e, rfl, n, rfl⟩
inductive PaintP (w : World) (news : Led) (v : Value) (ML Mt : List Addr) (vs : List Value) (ut R : Addr) (bx : Box) (f g : Int → Int → Col) (v' : Value) (n' : Led) : Prop
  | mk (e : v' = .none) (l : LayIn n' v ML (vs ++ [.ref ut])) (c : CanIn w n' (.ref ut) Mt bx f) (t : TabIn w n' R (placesOf bx) g) (k : Keeps (R :: Mt) news n')
theorem painted_ct {w : World} {news : Led} {v : Value} {ML Mt : List Addr} {vs : List Value} {ut R a : Addr} {k : Nat} {dv : List Value} {bx : Box} {ft g : Int → Int → Col} {ds : List Deed} (hl : LayIn news v ML (vs ++ [.ref ut])) (hv : vs.length ≤ 5) (hct : CanIn w news (.ref ut) Mt bx ft) (hb : bx.Ok) (htab : TabIn w news R (placesOf bx) g)
    (hlist : (a, listOf dv.toArray k) ∈ news) (hds : All2 (DeedAt w news) dv ds) (hdp : ∀ d ∈ ds, d.1 ∈ placesOf bx ∧ d.2.Pm) (hft : ∀ x y, (ft x y).Pm) (hg : ∀ x y, (g x y).Pm) (htl : Apart Mt ML) (hRt : R ∉ Mt) (hRl : R ∉ ML) (hat : a ∉ Mt) (haR : a ≠ R) :
    Ct w 343 [v, .ref R, .ref a] 30 250 news fun v' n' => PaintP w news v ML Mt vs ut R bx (paint ds ft) (paint ds g) v' n' := by
  obtain ⟨c, rfl⟩ : ∃ c, v = .ref c := let ⟨c, _, _, _, _, e, _, _, _, _, _, _⟩ := hl; ⟨c, e⟩
  refine Ct.of fun prog p loose mean mg mb A₀ env outer base h₀ L m s Q E B F X N T hf hk hret => ?_
  walk_at "ct_enter"
  intro g' L' h' FG' F' N' B' X' T'
  (try dsimp only)
  (try k_lift B')
  (try k_fold)
  k_steps
  refine Hold.out ?_
  refine For_fr (h₀ := g') (L := L') ?_
  k_steps
  refine Hold.out ?_
  refine' forAt_list rfl hlist ⟨rfl, _, rfl⟩ (by assumption) (by assumption) (fun v I l k s Q E hit hq => letGo_tuple hit hq) (JPaint w news (.ref c) ML Mt vs ut R a dv bx ft g ds ?m0) ⟨⟨_, _, _, bnd3_none rfl rfl rfl⟩, hct, htab, hl, ⟨k, hlist⟩, hds, fun p hp _ => hp⟩ ?step ?done
  case step =>
    intro wr i v m₁ own news₁ h tk hw hi hJ ho hown F₁ N₁
    obtain ⟨⟨vx, vy, va, rfl⟩, jt, jtab, jl, ⟨kk, jli⟩, jd, jk⟩ := hJ
    obtain ⟨⟨⟨px, py⟩, dc⟩, hd, tt, ta, tc, tn, rfl, htt, hpl, hcol⟩ := jd.get hi
    obtain ⟨hin, hdc⟩ := hdp _ (List.mem_of_getElem? hd)
    have hhas := has_placesOf hin
    have sr : ∀ p ∈ news₁, p ∈ own ++ news₁ := fun p hp => List.mem_append_right own hp
    obtain ⟨apl, tx, ty, epl, hvt⟩ := hpl
    obtain rfl := Value.ref.inj epl
    obtain ⟨ac, c1, c2, c3, c4, rfl, hct2⟩ := id hcol
    have jt' := jt.sub sr
    have jl' := jl.sub sr
    have jtab' := jtab.sub sr
    have hvt' := hvt.mono sr
    obtain ⟨dt, ot, hit, hdt, as1, as2, as3, as4, as5, ak1, ak2, ak3, ak4, ak5, at1, at2, at3, at4, an, rfl⟩ := jt'.inst
    obtain ⟨c9, d9, K9, o9, n9, e9, e9', g1, g2, ⟨hs9, k9, nd9, rfl⟩, g4, g5⟩ := id jl'
    obtain rfl := Value.ref.inj e9
    refine assign_Tuple_tuple rfl (IsTup_of (N₁ _ (sr _ htt)).1) rfl rfl fun gh he => ?_
    have up : ∀ b o, h.get? b = some o → gh.get? b = some o := fun b o e => he b o (Nat.ne_of_lt (Heap.lt_size e)) e
    have F₂ := F₁.keeps up
    have N₂ := N₁.grown up
    clear F₁ N₁
    refine assignInOrder_cons ?_
    k_steps
    refine Hold.out ?_
    refine' Ct.use (top_ct jl' (by omega)) ?kB ?kF ?kX ?kN ?kT ?kA ?kf ?kk ?kh ?kd ?ku ?_
    walk_at "ct_use"
    intro v' n8 h8 tk8 hP F8 N8
    obtain ⟨rfl, rfl⟩ := hP
    k_steps
    refine Hold.out ?_
    refine' Ct.use (get_ct jt' hb hhas) ?kB ?kF ?kX ?kN ?kT ?kA ?kf ?kk ?kh ?kd ?ku ?_
    walk_at "ct_use"
    intro v' n9 h9 tk9 hP F9 N9
    obtain ⟨hcol1, rfl⟩ := hP
    obtain ⟨ac1, d1, d2, d3, d4, rfl, hct1⟩ := id hcol1
    have pm1 := paint_pm (ds := ds.take i) hft (fun d hd => (hdp d (List.mem_of_mem_take hd)).2)
    have pm2 := paint_pm (ds := ds.take i) hg (fun d hd => (hdp d (List.mem_of_mem_take hd)).2)
    k_steps
    refine Hold.out ?_
    refine' Ct.use (over_ct (hcol.mono sr) hcol1 hdc.ok (pm1 px py).ok) ?kB ?kF ?kX ?kN ?kT ?kA ?kf ?kk ?kh ?kd ?ku ?_
    walk_at "ct_use"
    intro v' n10 h10 tk10 hP F10 N10
    obtain ⟨a10, e1, e2, e3, e4, rfl, rfl, hlt10⟩ := hP
    have s10 : ∀ p ∈ own ++ news₁, p ∈ (a10, tupOf [.int (ov dc (paint (ds.take i) ft px py)).r e1, .int (ov dc (paint (ds.take i) ft px py)).g e2, .int (ov dc (paint (ds.take i) ft px py)).b e3, .int (ov dc (paint (ds.take i) ft px py)).a e4] 0) :: (own ++ news₁) := fun p hp => .tail _ hp
    k_steps
    refine Hold.out ?_
    refine' Ct.use (put_ct (jt'.sub s10) hb hhas (cc := ov dc (paint (ds.take i) ft px py)) ⟨a10, e1, e2, e3, e4, rfl, .inl ⟨0, .head _⟩⟩) ?kB ?kF ?kX ?kN ?kT ?kA ?kf ?kk ?kh ?kd ?ku ?_
    walk_at "ct_use"
    intro v' n11 h11 tk11 hP F11 N11
    obtain ⟨rfl, hcb3, hk3⟩ := hP
    have s11 : Keeps Mt (own ++ news₁) n11 := fun p hp q => hk3 p (s10 p hp) q
    have hvt3 := hvt'.keep s11
    have hcol3 := (hcol.mono sr).keep s11
    have htab3 := jtab'.keep s11 hRt
    obtain ⟨xs, hdic, hxs⟩ := htab3
    obtain ⟨q, hq, hqc⟩ := tab_get hdic.2.choose_spec.2.1.2.2 hxs hin
    obtain ⟨aq, f1, f2, f3, f4, eq, hqt⟩ := id hqc
    obtain ⟨aq0, vq⟩ := q
    dsimp only at eq
    subst eq
    have hlen : xs.length = bx.h * bx.w := hxs.1.trans placesTo_len
    have hlw : bx.h * bx.w ≤ 3 * 4 := Nat.mul_le_mul hb.2.1.2 hb.1.2
    have hon1 : ∀ p ∈ own, p.1 ∉ Mt ∧ p.1 ≠ R := fun p hp => (hown p hp).elim (fun e => by rw [e]; exact ⟨hat, haR⟩) (fun f => ⟨fun hm => let ⟨o, ho⟩ := hct.held _ hm; Nat.lt_irrefl p.1 (f (p.1, o) ho), fun e => let ⟨xs0, ⟨_, o, ho, _⟩, _⟩ := htab; Nat.lt_irrefl p.1 (by have := f (R, o) ho; rw [← e] at this; exact this)⟩)
    k_steps
    refine Hold.out ?_
    refine' getDic (by assumption) (by assumption) (by assumption) hdic (PlIn.key ⟨ta, tx, ty, rfl, hvt3⟩) (Nat.le_of_ble_eq_true rfl) hq ?_
    intro tkq
    k_steps
    refine Hold.out ?_
    refine' Ct.use (over_ct hcol3 hqc hdc.ok (pm2 px py).ok) ?kB ?kF ?kX ?kN ?kT ?kA ?kf ?kk ?kh ?kd ?ku ?_
    walk_at "ct_use"
    intro v' n12 h12 tk12 hP F12 N12
    obtain ⟨a12, u1, u2, u3, u4, rfl, rfl, hlt12⟩ := hP
    k_steps
    refine Hold.out ?_
    refine' setDic (by assumption) (by assumption) (by assumption) (hdic.sub fun p hp => .tail _ hp) (PlIn.key ⟨ta, tx, ty, rfl, hvt3.mono fun p hp => .tail _ hp⟩) (Nat.le_of_ble_eq_true rfl) (by omega) ?_
    intro h13 o13 tk13 F13 N13 T13 K13
    have hon : ∀ p ∈ own, p ∈ upd ((a12, tupOf [.int (ov dc (paint (ds.take i) g px py)).r u1, .int (ov dc (paint (ds.take i) g px py)).g u2, .int (ov dc (paint (ds.take i) g px py)).b u3, .int (ov dc (paint (ds.take i) g px py)).a u4] 0) :: n11) R o13 := fun p hp => K13 _ (.tail _ (s11 _ (List.mem_append_left _ hp) fun _ => (hon1 p hp).1)) fun _ => by simpa using (hon1 p hp).2
    have kn := KN.filtW hw N13 hon
    have t13 := (TK.of_sub fun p hp => (.tail _ hp : p ∈ (a12, tupOf [.int (ov dc (paint (ds.take i) g px py)).r u1, .int (ov dc (paint (ds.take i) g px py)).g u2, .int (ov dc (paint (ds.take i) g px py)).b u3, .int (ov dc (paint (ds.take i) g px py)).a u4] 0) :: n11)).trans (TK.of_keeps K13)
    have s13 : Keeps (R :: Mt) (own ++ news₁) (upd ((a12, tupOf [.int (ov dc (paint (ds.take i) g px py)).r u1, .int (ov dc (paint (ds.take i) g px py)).g u2, .int (ov dc (paint (ds.take i) g px py)).b u3, .int (ov dc (paint (ds.take i) g px py)).a u4] 0) :: n11) R o13) := fun p hp q => K13 p (.tail _ (s11 p hp fun x y => q x (.tail _ y))) fun x y => q x (by rw [List.mem_singleton.mp y]; exact .head _)
    have hRn : ∀ x ∈ Mt, x ∉ [R] := fun x hx q => hRt (by rw [← List.mem_singleton.mp q]; exact hx)
    k_steps
    refine ForStep.filt (by assumption) (by assumption) hon ⟨⟨_, _, _, bnd3_again⟩, ?_, ⟨_, T13.kn kn, ?_⟩, ?_, ⟨kk, kn _ (s13 _ (sr _ jli) fun _ hm => ?_) (no_iter_list rfl)⟩, jd.imp fun v p q => (q.tk ((TK.of_sub sr).trans (TK.of_keeps s13))).tk (TK.of_kn kn), fun p hp q => filtW_mem (s13 p (sr p (jk p hp q)) q) (hw.old hp)⟩
    · rw [paint_next hd]
      exact ((hcb3.sub fun p hp => .tail _ hp).keep K13 hRn).kn kn
    · rw [paint_next hd]
      exact (tab_old hdic.2.choose_spec.2.1.2.2 hxs hin (t13.trans (TK.of_kn kn)) ⟨a12, u1, u2, u3, u4, rfl, (VTup.tk (.inl ⟨0, .head _⟩) (TK.of_keeps K13)).tk (TK.of_kn kn)⟩)
    · exact (jl'.keep s13 (fun x hx q => (List.mem_cons.mp q).elim (fun e => hRl (e ▸ hx)) fun y => htl _ y hx)).kn kn
    · exact (List.mem_cons.mp hm).elim haR hat
  intro h14 tk14 m14 n14 F14 N14 hJ
  obtain ⟨⟨vx, vy, va, rfl⟩, jt, jtab, jl, jli, jd, jk⟩ := hJ
  rw [hds.len, List.take_length] at jt jtab
  k_steps
  exact hret _ _ _ _ ⟨rfl, jl, jt, jtab, jk⟩ (by assumption) (by walk_at "ct_news")
end
section
noncomputable def zf : Int → Int → Col := fun _ _ => zc
theorem SrcIn.kn {news n' : Led} {S : Addr} (T : SrcIn news S) (k : KN news n') : SrcIn n' S := let ⟨a, b, t1, t2, o, e, x, r⟩ := T; ⟨a, b, t1, t2, o, k _ e (no_iter_list x.1), x, r⟩
theorem tab_put {w : World} {n n' : Led} {R : Addr} {xs : List Ent} {ps : List (Int × Int)} {f : Int → Int → Col} {a : Addr} {v : Value} {px py : Int} {c : Col} (h : All2 (fun (x : Ent) p => x.1 = [p.1, p.2] ∧ ColIn w n x.2.2 (f p.1 p.2)) xs ps) (hp : (px, py) ∉ ps) (tk : TK n n') (hc : ColIn w n' v c)
    (hd : DicIn w n' R (storedH xs [px, py] a v)) : TabIn w n' R (ps ++ [(px, py)]) (setF f px py c) := by
  refine ⟨_, hd, tab_new (p := (px, py)) (n := n) ⟨h.1, fun i x q hx hq => ?_⟩ hp tk ?_⟩
  · obtain ⟨e1, e2⟩ := h.2 i x q hx hq
    refine ⟨e1, ?_⟩
    unfold setF
    rw [if_neg fun e => hp (by rw [← e.1, ← e.2]; exact List.mem_of_getElem? hq)]
    exact e2
  · unfold setF
    rw [if_pos ⟨rfl, rfl⟩]
    exact hc
theorem setF_zf {x y : Int} : setF zf x y zc = zf := by funext a b; unfold setF zf; split <;> rfl
structure JBeg (w : World) (news : Led) (S R uc a : Addr) (M : List Addr) (pls : List Value) (bx : Box) (cl : Bool) (m₀ : Str → Option Value) (i : Nat) (m' : Str → Option Value) (n' : Led) : Prop where
  loc : ∃ vx vy, m' = bnd2 m₀ (Str.ofString "colour") (Str.ofString "place") vy vx
  main : ∃ f, (∀ x y, (f x y).Pm) ∧ (cl = true → f = zf) ∧ CanIn w n' (.ref uc) M bx f ∧ TabIn w n' R ((placesOf bx).take i) f
  src : SrcIn n' S
  list : ∃ k, (a, listOf pls.toArray k) ∈ n'
  pls : All2 (PlIn w n') pls (placesOf bx)
  keep : Keeps [S] news n'
theorem JBeg.next {w : World} {news n6 n1 own nB : Led} {S R uc a : Addr} {M wr : List Addr} {pls : List Value} {bx : Box} {cl : Bool} {m₀ m' : Str → Option Value} {i k : Nat} {h₀ h : Heap} {L : Addr} {px py : Int} {c : Col} {f : Int → Int → Col} (hw : WrOk wr n6 own) (hk6 : Keeps [S] news n6) (N : News h₀ L h nB) (hon : ∀ p ∈ own, p ∈ nB)
    (kp : Keeps (S :: R :: M) n1 nB) (hfr : ∀ p ∈ news, p.1 ∉ R :: M) (ha : a ∉ S :: R :: M) (hf : ∀ x y, (f x y).Pm) (hc : c.Pm) (hcl : cl = true → f = zf ∧ c = zc) (hC : CanIn w nB (.ref uc) M bx (setF f px py c)) (hi : (placesOf bx)[i]? = some (px, py)) (T : TabIn w nB R ((placesOf bx).take i ++ [(px, py)]) (setF f px py c))
    (hS : SrcIn nB S) (hl : (a, listOf pls.toArray k) ∈ n1) (hp : All2 (PlIn w n1) pls (placesOf bx)) (jk : Keeps [S] news n1) (hm : ∃ vx vy, m' = bnd2 m₀ (Str.ofString "colour") (Str.ofString "place") vy vx) : JBeg w news S R uc a M pls bx cl m₀ (i + 1) m' (Mine.filtW wr nB) := by
  have kn := KN.filtW hw N hon
  refine ⟨hm, ⟨setF f px py c, fun x y => ?_, fun e => ?_, hC.kn kn, ?_⟩, hS.kn kn, ⟨k, kn _ (kp _ hl fun _ => ha) (no_iter_list rfl)⟩, hp.imp fun v p q => (q.tk (TK.of_keeps kp)).tk (TK.of_kn kn), fun p hp q => filtW_mem (kp p (jk p hp q) fun e => ?_) (hw.old (hk6 p hp q))⟩
  · unfold setF
    split
    · exact hc
    · exact hf x y
  · obtain ⟨rfl, rfl⟩ := hcl e
    exact setF_zf
  · rw [take_next hi]
    exact T.kn kn
  · intro hm
    rcases List.mem_cons.mp hm with hm | hm
    · exact q e (List.mem_singleton.mpr hm)
    · exact hfr p hp hm
end
section
theorem All2.tail {α β : Type} {P : α → β → Prop} {v : α} {p : β} {vs : List α} {ps : List β} (h : All2 P (v :: vs) (p :: ps)) : P v p ∧ All2 P vs ps :=
  ⟨h.2 0 v p rfl rfl, Nat.succ.inj h.1, fun i x q a b => h.2 (i + 1) x q a b⟩
theorem All2.cons {α β : Type} {P : α → β → Prop} {v : α} {p : β} {vs : List α} {ps : List β} (h : P v p) (t : All2 P vs ps) : All2 P (v :: vs) (p :: ps) := All2.app (All2.one h) t
theorem All2.choose {α β γ : Type} {P : α → γ → Prop} {Q : γ → β → Prop} : ∀ {vs : List α} {ds : List β}, All2 (fun v d => ∃ x, P v x ∧ Q x d) vs ds → ∃ es, All2 P vs es ∧ All2 Q es ds
  | [], [], _ => ⟨[], .nil, .nil⟩
  | v :: vs, d :: ds, h => let ⟨⟨x, a, b⟩, t⟩ := h.tail; let ⟨es, c, e⟩ := All2.choose t; ⟨x :: es, .cons a c, .cons b e⟩
  | [], _ :: _, h => nomatch h.1
  | _ :: _, [], h => nomatch h.1
theorem All2.mem {α β : Type} {P : α → β → Prop} {vs : List α} {ps : List β} (h : All2 P vs ps) {v : α} (hv : v ∈ vs) : ∃ p ∈ ps, P v p := by
  obtain ⟨i, hi⟩ := List.mem_iff_getElem?.mp hv
  obtain ⟨p, e, q⟩ := h.get hi
  exact ⟨p, List.mem_of_getElem? e, q⟩
/-- pairs of places and what stands at them -/
theorem pairs_of {w : World} {n : Led} {vs : List Value} {ps : List (Int × Int)} {Q : Value → Int × Int → Prop} (h : All2 (fun v p => ∃ t a c k, v = .ref t ∧ (t, tupOf [.ref a, c] k) ∈ n ∧ PlIn w n (.ref a) p ∧ Q c p) vs ps) :
    ∃ es : List Ent, PairsIn n vs es ∧ (∀ x ∈ es, KeyIn w n x.1 x.2.1) ∧ All2 (fun (x : Ent) p => x.1 = [p.1, p.2] ∧ PlIn w n (.ref x.2.1) p ∧ Q x.2.2 p) es ps := by
  obtain ⟨es, h1, h2⟩ := All2.choose (P := fun v (x : Ent) => ∃ t k, v = .ref t ∧ (t, tupOf [.ref x.2.1, x.2.2] k) ∈ n) (Q := fun (x : Ent) p => x.1 = [p.1, p.2] ∧ PlIn w n (.ref x.2.1) p ∧ Q x.2.2 p) (h.imp fun v p ⟨t, a, c, k, e, m, pl, q⟩ => ⟨([p.1, p.2], a, c), ⟨t, k, e, m⟩, rfl, pl, q⟩)
  refine ⟨es, h1, fun x hx => ?_, h2⟩
  obtain ⟨p, _, e, q, _⟩ := h2.mem hx
  rw [e]
  exact q.key
theorem st_next {es : List Ent} {x : Ent} (h : ∀ y ∈ es, y.1 ≠ x.1) : stEnt es x = es ++ [x] := by
  unfold stEnt
  rw [storedH_new (atKey_none_of_get fun j z hz => h _ (List.mem_of_getElem? hz) rfl)]
theorem st_fold : ∀ (es acc : List Ent), ((acc ++ es).map (·.1)).Nodup → es.foldl stEnt acc = acc ++ es
  | [], acc, _ => by simp
  | x :: es, acc, h => by
    rw [List.foldl_cons, st_next, st_fold es (acc ++ [x]) (by simpa using h)]
    · simp
    · intro y hy e
      rw [List.map_append, List.nodup_append] at h
      exact h.2.2 _ (List.mem_map_of_mem hy) _ (List.mem_cons_self ..) e
theorem keys_nodup {es : List Ent} {ps : List (Int × Int)} (hn : ps.Nodup) (h : All2 (fun (x : Ent) p => x.1 = [p.1, p.2]) es ps) : (es.map (·.1)).Nodup := by
  have e : es.map (·.1) = ps.map fun p => [p.1, p.2] := by
    apply List.ext_getElem?
    intro i
    rw [List.getElem?_map, List.getElem?_map]
    cases hx : es[i]? with
    | none => rw [List.getElem?_eq_none (by rw [← h.1]; exact List.getElem?_eq_none_iff.mp hx)]; rfl
    | some x => obtain ⟨p, e, q⟩ := h.get hx; rw [e]; simp [q]
  rw [e]
  rw [List.nodup_iff_pairwise_ne, List.pairwise_map]
  exact (List.nodup_iff_pairwise_ne.mp hn).imp fun h q => h (key_inj q)
theorem tab_of_pairs {w : World} {n : Led} {R : Addr} {o : Obj} {ps : List (Int × Int)} {f : Int → Int → Col} {es : List Ent} (hn : ps.Nodup) (h : All2 (fun (x : Ent) p => x.1 = [p.1, p.2] ∧ PlIn w n (.ref x.2.1) p ∧ ColIn w n x.2.2 (f p.1 p.2)) es ps)
    (hd : DicIn w ((R, o) :: n) R (es.foldl stEnt [])) : TabIn w ((R, o) :: n) R ps f := by
  rw [st_fold es [] (keys_nodup hn (h.imp fun _ _ q => q.1))] at hd
  exact ⟨_, hd, h.imp fun _ _ q => ⟨q.1, q.2.2.mono fun p hp => .tail _ hp⟩⟩
end
section
set_option maxHeartbeats 1000000
local macro_rules | `(tactic| walk_at "pad 0") => `(tactic| skip)


local macro_rules | `(tactic| walk_at "call ref") => `(tactic| (k_here; (first | (with_reducible refine' hC 319 ?_) | (with_reducible refine' hC 301 ?_) | (with_reducible refine' hC 284 ?_) | (with_reducible refine' hC 331 ?_) | (with_reducible refine' hC 267 ?_)); refine Hold.of ?_))
local macro_rules | `(tactic| walk_at "exec For") => `(tactic| (k_here; refine Hold.of ?_))
local macro_rules | `(tactic| walk_at "exec For Name Call cons nil") => `(tactic| (k_here; refine Hold.of ?_))
local macro_rules | `(tactic| walk_at "setItem") => `(tactic| (k_here; (with_reducible show wpAny _ _ (setItem (Value.ref _) (Value.ref _) _) _ _ _); refine Hold.of ?_))
theorem dic_nil {prog : Program} {w : World} {news : Led} {R : Addr} {o : Obj} (h : o.IsDictOf (intKind prog w) []) (hR : (R == sysModules) = false) : DicIn w ((R, o) :: news) R [] := by
  obtain ⟨es, ep, h1, h2, _, h3, _⟩ := h
  refine ⟨hR, o, .head _, ⟨h1, ⟨es, ep, h2, ?_⟩, List.nodup_nil⟩, fun x hx => by simp at hx⟩
  cases h4 : es.toList with
  | nil => rfl
  | cons a l => rw [h4] at h3; cases h3
inductive BegunP (w : World) (news : Led) (S : Addr) (cl : Bool) (v' : Value) (n' : Led) : Prop
  | mk (l R uc : Addr) (M : List Addr) (bx : Box) (f : Int → Int → Col) (k : Nat) (e : v' = .ref l) (m : (l, listOf [.ref uc, .ref R].toArray k) ∈ n') (b : bx.Ok) (c : CanIn w n' (.ref uc) M bx f) (t : TabIn w n' R (placesOf bx) f) (p : ∀ x y, (f x y).Pm) (z : cl = true → f = zf) (s : SrcIn n' S) (kk : Keeps [S] news n') (fr : ∀ p ∈ news, p.1 ∉ R :: M) (r : R ∉ M)
theorem begun_ct {w : World} {news : Led} {S : Addr} {cl : Bool} (hs : SrcIn news S) :
    Ct w 350 [.ref S, .bool cl] 30 250 news fun v' n' => BegunP w news S cl v' n' := by
  refine Ct.of fun prog p loose mean mg mb A₀ env outer base h₀ L m s Q E B F X N T hf hk hret => ?_
  walk_at "ct_enter"
  intro g' L' h' FG' F' N' B' X' T'
  (try dsimp only)
  (try k_lift B')
  (try k_fold)
  k_steps
  refine Hold.out ?_
  refine' Ct.use (take_ct hs (n := 5) (by decide)) ?kB ?kF ?kX ?kN ?kT ?kA ?kf ?kk ?kh ?kd ?ku ?_
  walk_at "ct_use"
  intro v' n1 h1 tk1 hP F1 N1
  obtain ⟨⟨r1, t1, rfl, r1a, r1b⟩, hs1, k1⟩ := hP
  k_steps
  refine Hold.out ?_
  refine' Ct.use (take_ct hs1 (n := 5) (by decide)) ?kB ?kF ?kX ?kN ?kT ?kA ?kf ?kk ?kh ?kd ?ku ?_
  walk_at "ct_use"
  intro v' n2 h2 tk2 hP F2 N2
  obtain ⟨⟨r2, t2, rfl, r2a, r2b⟩, hs2, k2⟩ := hP
  k_steps
  refine Hold.out ?_
  refine' Ct.useN (by k_asm) (take_ct (hs2.sub (by walk_at "ct_sub")) (n := 4) (by decide)) ?kB ?kF ?kX ?kT ?kA ?kf ?kk ?kh ?kd ?ku ?_
  walk_at "ct_useN"
  intro v' n3 h3 tk3 hP F3 N3
  obtain ⟨⟨r3, t3, rfl, r3a, r3b⟩, hs3, k3⟩ := hP
  k_steps
  refine Hold.out ?_
  refine' Ct.use (take_ct hs3 (n := 3) (by decide)) ?kB ?kF ?kX ?kN ?kT ?kA ?kf ?kk ?kh ?kd ?ku ?_
  walk_at "ct_use"
  intro v' n4 h4 tk4 hP F4 N4
  obtain ⟨⟨r4, t4, rfl, r4a, r4b⟩, hs4, k4⟩ := hP
  have hb : Box.Ok ⟨(1 + r3).toNat, (1 + r4).toNat, r1 - 2, r2 - 2⟩ := by unfold Box.Ok; dsimp only; omega
  have e3 : (1 + r3) = (((1 + r3).toNat : Nat) : Int) := by omega
  have e4 : (1 + r4) = (((1 + r4).toNat : Nat) : Int) := by omega
  k_steps
  rw [e3, e4]
  refine Hold.out ?_
  refine' Ct.use (canvas4_ct (bx := ⟨(1 + r3).toNat, (1 + r4).toNat, r1 - 2, r2 - 2⟩) hb) ?kB ?kF ?kX ?kN ?kT ?kA ?kf ?kk ?kh ?kd ?ku ?_
  walk_at "ct_use"
  intro v' n5 h5 tk5 hP F5 N5
  obtain ⟨M, hc5, hf5, hsub5⟩ := hP
  generalize hbx : (⟨(1 + r3).toNat, (1 + r4).toNat, r1 - 2, r2 - 2⟩ : Box) = bx at hc5 hb
  have hs5 := hs4.sub hsub5
  obtain ⟨uc, d, cl', rs, rfl, rfl, T'⟩ := id hc5
  obtain ⟨du, ou, hiu, hdu, us1, us2, us3, us4, us5, uk1, uk2, uk3, uk4, uk5, ut1, ut2, ut3, ut4, un, rfl⟩ := hc5.inst
  k_steps
  refine Hold.out ?_
  have hlR := (by assumption : ∀ p ∈ n5, p.1 < _)
  refine For_fr (h₀ := g') (L := L') ?_
  k_steps
  refine Hold.out ?_
  refine' Ct.useN (by k_asm) (places_ct (hc5.sub fun p hp => .tail _ hp) hb) ?kB ?kF ?kX ?kT ?kA ?kf ?kk ?kh ?kd ?ku ?_
  walk_at "ct_useN"
  intro v' n6 h6 tk6 hP F6 N6
  obtain ⟨a, pls, k, rfl, hpl, hlt, hall, hsub⟩ := hP
  have hd6 : DicIn w n6 _ [] := (dic_nil (by assumption) (by assumption)).sub hsub
  have hc6 : CanIn w n6 (.ref uc) _ bx zf := hc5.sub fun p hp => hsub p (.tail _ hp)
  have hs6 : SrcIn n6 S := hs5.sub fun p hp => hsub p (.tail _ hp)
  k_steps
  refine Hold.out ?_
  have hk6 : Keeps [S] news n6 := fun p hp q => hsub p (.tail _ (hsub5 p (k4 p (by first | exact k3 p (.tail _ (k2 p (k1 p hp q) q)) q | exact k3 p (k2 p (k1 p hp q) q) q) q)))
  obtain ⟨oS5, hoS5⟩ : ∃ o, (S, o) ∈ n5 := let ⟨_, _, _, _, o, e, _, _⟩ := hs5; ⟨o, e⟩
  have hRS := Nat.ne_of_gt (hlR (S, oS5) hoS5)
  have hRM : ∀ R, (∀ p ∈ n5, p.1 < R) → R ∉ d :: cl' :: rs := fun R hR hm => let ⟨_, e⟩ := hc5.held _ hm; Nat.lt_irrefl _ (hR _ e)
  replace hRM := hRM _ hlR
  have hin4 : ∀ p ∈ news, ∃ o, (p.1, o) ∈ n4 := fun p hp => by
    by_cases e : p.1 = S
    · obtain ⟨_, _, _, _, o4, e4', _⟩ := hs4
      exact ⟨o4, e ▸ e4'⟩
    · exact ⟨p.2, k4 p (by first | exact k3 p (.tail _ (k2 p (k1 p hp fun _ => by simpa using e) fun _ => by simpa using e)) fun _ => by simpa using e | exact k3 p (k2 p (k1 p hp fun _ => by simpa using e) fun _ => by simpa using e) fun _ => by simpa using e) fun _ => by simpa using e⟩
  have hfr : ∀ R, (∀ p ∈ n5, p.1 < R) → ∀ p ∈ news, p.1 ∉ R :: d :: cl' :: rs := fun R hR p hp hm => by
    obtain ⟨o, ho⟩ := hin4 p hp
    rcases List.mem_cons.mp hm with hm | hm
    · exact Nat.ne_of_lt (hR _ (hsub5 _ ho)) hm
    · exact hf5 _ hm _ ho rfl
  replace hfr := hfr _ hlR
  have haS : ∀ R o, (∀ p ∈ (R, o) :: n5, p.1 < a) → a ∉ S :: R :: d :: cl' :: rs := fun R o hR hm => by
    rcases List.mem_cons.mp hm with hm | hm
    · exact Nat.ne_of_lt (hR _ (.tail _ hoS5)) hm.symm
    · rcases List.mem_cons.mp hm with hm | hm
      · exact Nat.ne_of_lt (hR _ (.head _)) hm.symm
      · obtain ⟨o', e⟩ := hc5.held _ hm
        exact Nat.lt_irrefl _ (hR _ (.tail _ e))
  replace haS := haS _ _ hlt
  have hMS : Apart (d :: cl' :: rs) [S] := fun x hx q => by obtain ⟨_, _, _, _, o4, e4', _⟩ := hs4; exact hf5 x hx _ e4' (List.mem_singleton.mp q).symm
  refine' forAt_list rfl hpl ⟨rfl, _, rfl⟩ (by assumption) (by assumption) (fun v I l k s Q E hit hq => letGo_name hq) (JBeg w news S _ uc a _ pls bx cl ?m0) ⟨⟨_, _, bnd2_none rfl rfl⟩, ⟨zf, fun _ _ => zc_pm, fun _ => rfl, hc6, ⟨[], hd6, .nil⟩⟩, hs6, ⟨k, hpl⟩, hall, hk6⟩ ?step ?done
  case step =>
    intro wr i v m₁ own news₁ h tk hw hi hJ ho hown F₁ N₁
    obtain ⟨⟨vx, vy, rfl⟩, ⟨f, hf1, hf2, jc, jt⟩, js, ⟨kk, jli⟩, jp, jk⟩ := hJ
    obtain ⟨⟨px, py⟩, hp, tp, tx, ty, rfl, hvt⟩ := jp.get hi
    have hhas := has_placesOf (List.mem_of_getElem? hp)
    have hox := fun x o (hx : (x, o) ∈ (_ :: n5)) p (hp : p ∈ own) => (show p.1 ≠ x from (hown p hp).elim (fun e => by rw [e]; exact Nat.ne_of_gt (hlt _ hx)) (fun f => Nat.ne_of_gt (f _ (hsub _ hx))))
    have sr : ∀ p ∈ news₁, p ∈ own ++ news₁ := fun p hp => List.mem_append_right own hp
    have jc' := jc.sub sr
    have jt' := jt.sub sr
    have js' := js.sub sr
    have hvt' := hvt.mono sr
    obtain ⟨du', ou', hiu', hdu', us1', us2', us3', us4', us5', uk1', uk2', uk3', uk4', uk5', ut1', ut2', ut3', ut4', un', rfl⟩ := jc'.inst
    cases cl
    · k_steps
      refine Hold.out ?_
      refine' Ct.use (colour_ct js') ?kB ?kF ?kX ?kN ?kT ?kA ?kf ?kk ?kh ?kd ?ku ?_
      walk_at "ct_use"
      intro v' n8 h8 tk8 hP F8 N8
      obtain ⟨⟨cc, hcp, hcol⟩, hs8, k8⟩ := hP
      obtain ⟨ac, x1, x2, x3, x4, rfl, hct⟩ := id hcol
      have jc8 := jc'.keep k8 hMS
      obtain ⟨xs, hdic, hxs⟩ := jt'.keep k8 (by simpa using hRS)
      have hvt8 := hvt'.keep k8
      obtain ⟨du8, ou8, hiu8, hdu8, vs1, vs2, vs3, vs4, vs5, vk1, vk2, vk3, vk4, vk5, vt1, vt2, vt3, vt4, vn, rfl⟩ := jc8.inst
      k_steps
      refine Hold.out ?_
      refine' Ct.use (put_ct jc8 hb hhas hcol) ?kB ?kF ?kX ?kN ?kT ?kA ?kf ?kk ?kh ?kd ?ku ?_
      walk_at "ct_use"
      intro v' n9 h9 tk9 hP F9 N9
      obtain ⟨rfl, hc9, k9⟩ := hP
      have hvt9 := hvt8.keep k9
      have hdic9 := hdic.keep k9 hRM
      have hlen : xs.length ≤ 12 := by
        have h1 := hxs.1
        rw [List.length_take] at h1
        have h2 : (placesOf bx).length = bx.h * bx.w := placesTo_len
        have h3 : bx.h * bx.w ≤ 3 * 4 := Nat.mul_le_mul hb.2.1.2 hb.1.2
        omega
      k_steps
      refine Hold.out ?_
      refine' setDic (by assumption) (by assumption) (by assumption) hdic9 (PlIn.key ⟨tp, tx, ty, rfl, hvt9⟩) (Nat.le_of_ble_eq_true rfl) (by omega) ?_
      intro h13 o13 tk13 F13 N13 T13 K13
      have q1 : ∀ p ∈ own, p ∈ n9 := fun p hp => k9 p (k8 p (List.mem_append_left _ hp) fun _ => by simpa using hox S oS5 (.tail _ hoS5) p hp) fun _ hm => let ⟨o, e⟩ := hc5.held _ hm; hox _ o (.tail _ e) p hp rfl
      have hon := fun p (hp : p ∈ own) => K13 p (q1 p hp) fun _ => by simpa using hox _ _ (.head _) p hp
      have kp := Keeps.trans (fun p hp (q : Chg p.2 → p.1 ∉ S :: _ :: d :: cl' :: rs) => k9 p (k8 p (sr p hp) fun x y => q x (by rw [List.mem_singleton.mp y]; exact .head _)) fun x y => q x (.tail _ (.tail _ y))) (K13.more fun x y => (by rw [List.mem_singleton.mp y]; exact .tail _ (.head _) : x ∈ S :: _ :: d :: cl' :: rs))
      have hc13 := hc9.keep K13 fun x hx q => hRM (by rw [← List.mem_singleton.mp q]; exact hx)
      have t13 := tab_put hxs (take_get_notin placesOf_nodup hp) ((TK.of_keeps k9).trans (TK.of_keeps K13)) ((hcol.keep k9).keep K13) T13
      have hs13 := (hs8.keep k9 fun q => hMS _ q (.head _)).keep K13 (by simpa using hRS.symm)
      k_steps
      exact ForStep.filt (by assumption) (by assumption) hon (JBeg.next hw hk6 (by assumption) hon kp hfr haS hf1 hcp (fun e => nomatch e) hc13 hp t13 hs13 jli jp jk ⟨_, _, bnd2_again⟩)
    · k_steps
      refine Hold.out ?_
      refine' Ct.useN (by k_asm) (put_ct (jc'.sub fun p hp => .tail _ hp) hb hhas (cc := zc) ⟨_, _, _, _, _, rfl, .inl ⟨0, .head _⟩⟩) ?kB ?kF ?kX ?kT ?kA ?kf ?kk ?kh ?kd ?ku ?_
      walk_at "ct_useN"
      intro v' n9 h9 tk9 hP F9 N9
      obtain ⟨rfl, hc9, k9⟩ := hP
      have k8 : Keeps (d :: cl' :: rs) (own ++ news₁) n9 := fun p hp q => k9 p (.tail _ hp) q
      have hvt9 := hvt'.keep k8
      obtain ⟨xs, hdic9, hxs⟩ := jt'.keep k8 hRM
      have hlen : xs.length ≤ 12 := by
        have h1 := hxs.1
        rw [List.length_take] at h1
        have h2 : (placesOf bx).length = bx.h * bx.w := placesTo_len
        have h3 : bx.h * bx.w ≤ 3 * 4 := Nat.mul_le_mul hb.2.1.2 hb.1.2
        omega
      k_steps
      refine Hold.out ?_
      refine' setDic (by assumption) (by assumption) (by assumption) hdic9 (PlIn.key ⟨tp, tx, ty, rfl, hvt9⟩) (Nat.le_of_ble_eq_true rfl) (by omega) ?_
      intro h13 o13 tk13 F13 N13 T13 K13
      have q1 : ∀ p ∈ own, p ∈ n9 := fun p hp => k8 p (List.mem_append_left _ hp) fun _ hm => let ⟨o, e⟩ := hc5.held _ hm; hox _ o (.tail _ e) p hp rfl
      have hon := fun p (hp : p ∈ own) => K13 p (q1 p hp) fun _ => by simpa using hox _ _ (.head _) p hp
      have kp := Keeps.trans (fun p hp (q : Chg p.2 → p.1 ∉ S :: _ :: d :: cl' :: rs) => k8 p (sr p hp) fun x y => q x (.tail _ (.tail _ y))) (K13.more fun x y => (by rw [List.mem_singleton.mp y]; exact .tail _ (.head _) : x ∈ S :: _ :: d :: cl' :: rs))
      have hc13 := hc9.keep K13 fun x hx q => hRM (by rw [← List.mem_singleton.mp q]; exact hx)
      have t13 := tab_put (c := zc) hxs (take_get_notin placesOf_nodup hp) (TK.of_keeps K13) (by refine ColIn.keep (ColIn.keep ?_ k9) K13; exact ⟨_, _, _, _, _, rfl, .inl ⟨0, .head _⟩⟩) T13
      have hs13 := (js'.keep k8 fun q => hMS _ q (.head _)).keep K13 (by simpa using hRS.symm)
      k_steps
      exact ForStep.filt (by assumption) (by assumption) hon (JBeg.next hw hk6 (by assumption) hon kp hfr haS hf1 zc_pm (fun e => ⟨hf2 rfl, rfl⟩) hc13 hp t13 hs13 jli jp jk ⟨_, _, bnd2_again⟩)
  intro h14 tk14 m14 n14 F14 N14 hJ
  obtain ⟨⟨vx, vy, rfl⟩, ⟨f, hf1, hf2, jc, jt⟩, js, ⟨kk, jli⟩, jp, jk⟩ := hJ
  rw [hall.len, List.take_length] at jt
  k_steps
  exact hret _ _ _ _ ⟨_, _, _, _, _, _, _, rfl, .head _, hb, jc.sub fun p hp => .tail _ hp, jt.sub fun p hp => .tail _ hp, hf1, hf2, js.sub fun p hp => .tail _ hp, fun p hp q => .tail _ (jk p hp q), hfr, hRM⟩ (by assumption) (by assumption)
end
section
set_option maxHeartbeats 1000000
local macro_rules | `(tactic| walk_at "call ref") => `(tactic| (k_here; (first | (with_reducible refine' hC 260 ?_) | (with_reducible refine' hC 284 ?_)); refine Hold.of ?_))
local macro_rules | `(tactic| walk_at "call type:dict") => `(tactic| (k_here; refine Hold.of ?_))
noncomputable def JTold (w : World) (base : Led) (bx : Box) (f : Int → Int → Col) (i : Nat) (ys : List Value) (n : Led) : Prop :=
  All2 (fun v (p : Int × Int) => ∃ t a c k, v = .ref t ∧ (t, tupOf [.ref a, c] k) ∈ n ∧ PlIn w n (.ref a) p ∧ ColIn w n c (f p.1 p.2)) ys ((placesOf bx).take i) ∧ ∀ p ∈ base, p ∈ n
inductive ToldP (w : World) (news : Led) (bx : Box) (f : Int → Int → Col) (v' : Value) (n' : Led) : Prop
  | mk (R : Addr) (e : v' = .ref R) (t : TabIn w n' R (placesOf bx) f) (s : ∀ p ∈ news, p ∈ n')
theorem told_ct {w : World} {news : Led} {uc : Addr} {M : List Addr} {bx : Box} {f : Int → Int → Col} (hc : CanIn w news (.ref uc) M bx f) (hb : bx.Ok) :
    Ct w 355 [.ref uc] 30 250 news fun v' n' => ToldP w news bx f v' n' := by
  obtain ⟨du, ou, hiu, hdu, us1, us2, us3, us4, us5, uk1, uk2, uk3, uk4, uk5, ut1, ut2, ut3, ut4, un, rfl⟩ := hc.inst
  refine Ct.of fun prog p loose mean mg mb A₀ env outer base h₀ L m s Q E B F X N T hf hk hret => ?_
  walk_at "ct_enterC"
  intro g' L' h' tk' cells' FG' F' N' Y' B' X' T' l1
  replace l1 : Above _ L' := l1
  k_cells Y'
  (try simp only [List.cons_append, List.nil_append] at N')
  (try dsimp only)
  (try k_lift B')
  (try k_fold)
  k_steps
  refine Hold.out ?_
  refine' ListComp_fr (L := L') (h₀ := g') ?hclos ?hcell ?hkind ?hnames ?hx ?_
  case hclos => with_unfolding_all rfl
  case hcell => decide
  case hkind => with_unfolding_all rfl
  case hnames => decide
  case hx => with_unfolding_all rfl
  k_steps
  refine Hold.out ?_
  refine' Ct.useN (by k_asm) (places_ct (hc.sub fun p hp => .tail _ hp) hb) ?kB ?kF ?kX ?kT ?kA ?kf ?kk ?kh ?kd ?ku ?_
  walk_at "ct_useN"
  intro v' n6 h6 tk6 hP F6 N6
  obtain ⟨a, pls, k, rfl, hpl, hlt, hall, hsub⟩ := hP
  k_steps
  refine Hold.out ?_
  have hlen : pls.length = bx.h * bx.w := hall.len.trans placesTo_len
  have hlw : bx.h * bx.w ≤ 3 * 4 := Nat.mul_le_mul hb.2.1.2 hb.1.2
  have big : 1000 ≤ sizeLine := by decide
  refine' compAt_list rfl hpl ⟨rfl, _, rfl⟩ (by omega) (by assumption) (by assumption) (JTold w n6 bx f) ⟨.nil, fun p hp => hp⟩ ?step ?done
  case step =>
    intro C D wr i v ys nn oC mC own news₁ h tk hC hD hw hi hlen hJ ho hown hns hmx F'' N''
    obtain ⟨hj1, hj2⟩ := hJ
    obtain ⟨⟨px, py⟩, hp, tp, tx, ty, rfl, hvt⟩ := hall.get hi
    have hhas := has_placesOf (List.mem_of_getElem? hp)
    have y1 := hj2 _ (hsub _ (.head _))
    have sr : ∀ p ∈ (_ :: news), p ∈ news₁ := fun p hp => hj2 p (hsub p hp)
    have sn : ∀ p ∈ news, p ∈ news₁ := fun p hp => sr p (.tail _ hp)
    have y2 := sn _ hiu
    have y3 := sn _ hdu
    have hvt1 := hvt.mono hj2
    k_steps
    refine Hold.out ?_
    refine' Ct.useN (by k_asm) (get_ct (hc.sub fun p hp => .tail _ (.tail _ (List.mem_append_right own (sn p hp)))) hb hhas) ?kB ?kF ?kX ?kT ?kA ?kf ?kk ?kh ?kd ?ku ?_
    walk_at "ct_useN"
    intro v' n9 h9 tk9 hP F9 N9
    obtain ⟨hcol, rfl⟩ := hP
    obtain ⟨ac, c1, c2, c3, c4, rfl, hct⟩ := id hcol
    k_steps
    have hon : ∀ (T : Addr), ∀ p ∈ (C, oC) :: (D, listOf ys.toArray nn) :: own, p ∈ (T, tupOf [.ref tp, .ref ac] 0) :: (C, oC) :: (D, listOf ys.toArray nn) :: (own ++ news₁) := fun T p hp => .tail _ (by
      rcases List.mem_cons.mp hp with rfl | hp
      · exact .head _
      rcases List.mem_cons.mp hp with rfl | hp
      · exact .tail _ (.head _)
      · exact .tail _ (.tail _ (List.mem_append_left _ hp)))
    refine CompEnd.filt (by assumption) (by assumption) (hon _) ⟨?_, fun p hp => filt_mem (.tail _ (.tail _ (.tail _ (List.mem_append_right own (hj2 p hp))))) (Nat.ne_of_lt (hC p hp)) (Nat.ne_of_lt (hD p hp)) (hw.old hp)⟩
    have tkf := TK.filt hw (by assumption) (fun p hp => hon _ p (.tail _ (.tail _ hp))) (hon _ _ (.head _)) hns (hon _ _ (.tail _ (.head _))) (⟨rfl, _, rfl⟩ : LstO ys _)
    have tks : TK news₁ _ := (TK.of_sub fun p hp => .tail _ (.tail _ (.tail _ (List.mem_append_right own hp)))).trans tkf
    rw [take_next hp]
    exact All2.app (hj1.imp fun v p ⟨t, a, c, k, e, m, pl, q⟩ => ⟨t, a, c, k, e, tks _ _ _ m, pl.tk tks, q.tk tks⟩) (.one ⟨_, tp, _, _, rfl, tkf _ _ _ (.head _), ⟨tp, tx, ty, rfl, hvt1.tk tks⟩, (hcol.mono fun p hp => .tail _ hp).tk tkf⟩)
  intro D h3 tk3 n2 ys nn hD F3 N3 ho hlen hJ
  obtain ⟨hj1, hj2⟩ := hJ
  rw [hall.len, List.take_length] at hj1
  obtain ⟨es, he1, he2, he3⟩ := pairs_of hj1
  k_steps
  refine Hold.out ?_
  refine call_dictPairs rfl (Nat.le_of_ble_eq_true rfl) (by assumption) (by assumption) (by assumption) (.head _) (he1.imp fun v x ⟨t, k, e, q⟩ => ⟨t, k, e, .tail _ q⟩) (fun x hx => (he2 x hx).tk (TK.of_sub fun p hp => .tail _ hp)) ?_ ?_
  · rw [he3.len, show (placesOf bx).length = bx.h * bx.w from placesTo_len]; omega
  intro R o h9 tk9 hR F9 N9 hdic
  have ht := tab_of_pairs placesOf_nodup (he3.imp fun x p q => ⟨q.1, q.2.1.tk (TK.of_sub fun p hp => .tail _ hp), q.2.2.mono fun p hp => .tail _ hp⟩) hdic
  k_steps
  exact hret _ _ _ _ ⟨R, rfl, ht, fun p hp => .tail _ (.tail _ (hj2 p (hsub p (.tail _ hp))))⟩ (by assumption) (by assumption)
end
section
set_option maxHeartbeats 1000000
local macro_rules | `(tactic| walk_at "call ref") => `(tactic| (k_here; (first | (with_reducible refine' hC 211 ?_) | (with_reducible refine' hC 204 ?_) | (with_reducible refine' hC 284 ?_) | (with_reducible refine' hC 260 ?_) | (with_reducible refine' hC 183 ?_) | (with_reducible show wpAny _ _ (call (Value.ref _) [Value.int _ _, Value.int _ _]) _ _ _) | (with_reducible refine' hC 267 ?_)); refine Hold.of ?_))
local macro_rules | `(tactic| walk_at "call builtin:list.pop") => `(tactic| (k_here; refine Hold.of ?_))
local macro_rules | `(tactic| walk_at "exec For") => `(tactic| (k_here; refine Hold.of ?_))
theorem code_hd {w : World} {h : Heap} (X : (hd.heap_1 w.params).In h) : CodeHd h 364 362 := by
  obtain ⟨o, e⟩ : ∃ o, (hd.heap_1 w.params).lookup 364 = some o ∧ CodeHd h 364 362 := ⟨_, by k_is, ⟨_, _, _, _, _, _, _, _, _, X _ _ (by k_is), rfl, rfl, rfl, rfl, rfl, rfl, rfl, rfl, by decide⟩⟩
  exact e.2
theorem pop1_ct {w : World} {news : Led} {v : Value} {ML Mb Ma : List Addr} {vs : List Value} {ub ua : Addr} {bx : Box} {md : Mode} {fa fb : Int → Int → Col} {op : Int} {to tm : Tok} (hl : LayIn news v ML (vs ++ [.ref ub] ++ [.ref ua])) (hv : vs.length ≤ 5) (hcb : CanIn w news (.ref ub) Mb bx fb) (hca : CanIn w news (.ref ua) Ma bx fa) (hb : bx.Ok)
    (hop : 0 ≤ op ∧ op ≤ 255) {fc c' : Addr} {nm qual : Str} {params : Arguments} {body : List Stmt} {scope : Scope} {clos : List (Str × Addr)} {doc pm ctv : Value} {cf : Int → Int → Int} (hfo : (fc, fnMade nm qual params body scope clos doc pm c' ctv) ∈ news) (hac : ∀ x y, 0 ≤ cf x y ∧ cf x y ≤ 255)
    (hclip : ∀ n', Keeps (ML ++ Mb) news n' → ∀ x y tx ty, bx.Has x y → Ct w fc [.int x tx, .int y ty] 60 450 n' fun v n'' => (∃ t, v = .int (cf x y) t) ∧ n'' = n') (hfa : ∀ x y, (fa x y).Ok) (hfb : ∀ x y, (fb x y).Ok) (hab : Apart Ma Mb) (hal : Apart Ma ML) (hbl : Apart Mb ML) :
    Ct w 225 [v, .int op to, .str md.name tm, .ref fc] 40 300 news fun v' n' => PopP w news v ML Mb vs ub bx (popTo md (fun x y => wt op (cf x y)) fa fb bx (bx.h * bx.w)) v' n' := by
  have hl' := hl
  obtain ⟨c, d, K, o, n, rfl, rfl, h1, h2, ⟨hs1, k1, nd, rfl⟩, h4, h5⟩ := hl
  refine Ct.of fun prog p loose mean mg mb A₀ env outer base h₀ L m s Q E B F X N T hf hk hret => ?_
  have codeHd := code_hd X
  walk_at "ct_enter"
  intro g' L' h' FG' F' N' B' X' T'
  (try dsimp only)
  (try k_lift B')
  (try k_fold)
  k_steps
  refine Hold.out ?_
  refine' Ct.use (depth_ct hl' (by simp; omega)) ?kB ?kF ?kX ?kN ?kT ?kA ?kf ?kk ?kh ?kd ?ku ?_
  walk_at "ct_use"
  intro v' news' h4' tk4 hP F4 N4
  obtain ⟨⟨td, rfl⟩, rfl⟩ := hP
  generalize hq : ((vs ++ [Value.ref ub] ++ [Value.ref ua]).length : Int) - 1 = q
  have hq1 : 1 ≤ q := by simp at hq; omega
  k_steps
  · omega
  refine Hold.out ?_
  refine' pop_led (by assumption) N4 h4 (by simp; omega) ?_
  intro h6 F6 N6
  obtain ⟨q1, q2⟩ := LayIn.set (w := w) (us := vs ++ [.ref ub]) (n' := n + 1) N4 h1 h2 ⟨_, _, _, rfl⟩ h4 h5
  have h1' := q2 _ h1 (fun q => by rcases q with q | q <;> exact absurd q (by simp))
  obtain ⟨c9, d9, K9, o9, n9, e9, e9', g1, g2, ⟨hs9, k9, nd9, rfl⟩, g4, g5⟩ := id q1
  obtain rfl := Value.ref.inj e9
  injection e9' with e9a e9b
  injection e9b with e9b _
  subst e9a e9b
  have cb2 := hcb.keep q2 hbl
  have ca2 := hca.keep q2 hal
  obtain ⟨da, oa, hia, hda, as1, as2, as3, as4, as5, ak1, ak2, ak3, ak4, ak5, at1, at2, at3, at4, an, rfl⟩ := ca2.inst
  k_steps
  refine Hold.out ?_
  refine' Ct.use (top_ct q1 (by omega)) ?kB ?kF ?kX ?kN ?kT ?kA ?kf ?kk ?kh ?kd ?ku ?_
  walk_at "ct_use"
  intro v' n7 h7' tk7 hP F7 N7
  obtain ⟨rfl, rfl⟩ := hP
  k_steps
  refine Hold.out ?_
  refine For_fr (h₀ := g') (L := L') ?_
  k_steps
  refine Hold.out ?_
  refine' Ct.use (places_ct ca2 hb) ?kB ?kF ?kX ?kN ?kT ?kA ?kf ?kk ?kh ?kd ?ku ?_
  walk_at "ct_use"
  intro v' n8 h8' tk8 hP F8 N8
  obtain ⟨a, pls, k, rfl, hpl, hlt, hall, hsub⟩ := hP
  k_steps
  refine Hold.out ?_
  have hjk0 : Keeps ([d, K] ++ Mb) news' n8 := fun p hp q => hsub p (q2 p hp fun x y => q x (List.mem_append_left _ y))
  refine' forAt_list rfl hpl ⟨rfl, _, rfl⟩ (by assumption) (by assumption) (fun v I l k s Q E hit hq => letGo_tuple hit hq) (JPop w news' (.ref c) [d, K] Mb Ma vs ub ua a pls bx md (fun x y => wt op (cf x y)) fa fb ?m0) ⟨⟨_, _, _, bnd3_none rfl rfl rfl⟩, ?jb0, ca2.sub hsub, q1.sub hsub, ⟨k, hpl⟩, hall, ?jk0⟩ ?step ?done
  case jb0 => rw [popTo_zero]; exact cb2.sub hsub
  case jk0 => exact hjk0
  case step =>
    intro wr i v m₁ own news₁ h tk hw hi hJ ho hown F₁ N₁
    obtain ⟨⟨vx, vy, va, rfl⟩, jb, ja, jl, ⟨kk, jli⟩, jp, jk⟩ := hJ
    obtain ⟨⟨px, py⟩, hp, tp, tx, ty, rfl, hvt⟩ := jp.get hi
    have hhas := has_placesOf (List.mem_of_getElem? hp)
    obtain ⟨pf1, pf2⟩ := popTo_next (md := md) (al := fun x y => wt op (cf x y)) (fa := fa) (fb := fb) hp
    have sr : ∀ p ∈ news₁, p ∈ own ++ news₁ := fun p hp => List.mem_append_right own hp
    have jb' := jb.sub sr
    have ja' := ja.sub sr
    obtain ⟨da', oa', hia', hda', as1', as2', as3', as4', as5', ak1', ak2', ak3', ak4', ak5', at1', at2', at3', at4', an', rfl⟩ := ja'.inst
    obtain ⟨db', ob', hib', hdb', bs1', bs2', bs3', bs4', bs5', bk1', bk2', bk3', bk4', bk5', bt1', bt2', bt3', bt4', bn', rfl⟩ := jb'.inst
    have hfo1 := sr _ (jk _ hfo fun q => by rcases q with q | q <;> exact absurd q (by simp))
    refine assign_Tuple_tuple rfl ((hvt.mono sr).tup F₁ (by assumption) N₁) rfl rfl fun g he => ?_
    have up : ∀ b o, h.get? b = some o → g.get? b = some o := fun b o e => he b o (Nat.ne_of_lt (Heap.lt_size e)) e
    have F₂ := F₁.keeps up
    have N₂ := N₁.grown up
    clear F₁ N₁
    refine assignInOrder_cons ?_
    k_steps
    refine Hold.out ?_
    refine' Ct.use (hclip _ (fun p hp q => sr p (jk p hp q)) px py _ _ hhas) ?kB ?kF ?kX ?kN ?kT ?kA ?kf ?kk ?kh ?kd ?ku ?_
    walk_at "ct_use"
    intro v' n20 h20 tk20 hP F20 N20
    obtain ⟨⟨tc1, rfl⟩, rfl⟩ := hP
    k_steps
    refine Hold.out ?_
    refine' Ct.use (weighted_ct hop (hac px py)) ?kB ?kF ?kX ?kN ?kT ?kA ?kf ?kk ?kh ?kd ?ku ?_
    walk_at "ct_use"
    intro v' n21 h21 tk21 hP F21 N21
    obtain ⟨⟨tc2, rfl⟩, rfl⟩ := hP
    k_steps
    refine Hold.out ?_
    refine' Ct.use (get_ct ja' hb hhas) ?kB ?kF ?kX ?kN ?kT ?kA ?kf ?kk ?kh ?kd ?ku ?_
    walk_at "ct_use"
    intro v' n9 h9 tk9 hP F9 N9
    obtain ⟨hcol, rfl⟩ := hP
    obtain ⟨ac, c1, c2, c3, c4, rfl, hct⟩ := id hcol
    k_steps
    refine Hold.out ?_
    refine' Ct.use (get_ct jb' hb hhas) ?kB ?kF ?kX ?kN ?kT ?kA ?kf ?kk ?kh ?kd ?ku ?_
    walk_at "ct_use"
    intro v' n10 h10 tk10 hP F10 N10
    obtain ⟨hcol2, rfl⟩ := hP
    rw [pf1] at hcol2
    obtain ⟨ac2, c5, c6, c7, c8, rfl, hct2⟩ := id hcol2
    k_steps
    refine Hold.out ?_
    refine' Ct.use (laid_ct hcol hcol2 (hfa _ _) (hfb _ _) (wt_bd hop (hac px py))) ?kB ?kF ?kX ?kN ?kT ?kA ?kf ?kk ?kh ?kd ?ku ?_
    walk_at "ct_use"
    intro v' n11 h11 tk11 hP F11 N11
    obtain ⟨hcol3, hsub3⟩ := hP
    obtain ⟨ac3, d1, d2, d3, d4, rfl, hct3⟩ := id hcol3
    k_steps
    refine Hold.out ?_
    refine' Ct.use (put_ct (jb'.sub hsub3) hb hhas hcol3) ?kB ?kF ?kX ?kN ?kT ?kA ?kf ?kk ?kh ?kd ?ku ?_
    walk_at "ct_use"
    intro v' n12 h12 tk12 hP F12 N12
    obtain ⟨rfl, hcb3, hk3⟩ := hP
    rw [pf2] at hcb3
    have hoff : ∀ p ∈ own, p.1 ∉ Mb := fun p hp hm => (hown p hp).elim (fun e => by obtain ⟨o, ho⟩ := cb2.held _ hm; have := hlt _ ho; rw [e] at this; exact Nat.lt_irrefl _ this) (fun f => let ⟨o, ho⟩ := (cb2.sub hsub).held _ hm; Nat.lt_irrefl p.1 (f (p.1, o) ho))
    have hon : ∀ p ∈ own, p ∈ n12 := fun p hp => hk3 _ (hsub3 _ (List.mem_append_left _ hp)) (fun _ => hoff p hp)
    have kn := KN.filtW hw N12 hon
    have s12 : Keeps Mb news₁ n12 := fun p hp q => hk3 p (hsub3 p (sr p hp)) q
    have haMb : a ∉ Mb := fun hm => let ⟨o, ho⟩ := cb2.held _ hm; Nat.lt_irrefl _ (hlt _ ho)
    k_steps
    refine ForStep.filt (by assumption) (by assumption) hon ⟨⟨_, _, _, bnd3_again⟩, hcb3.kn kn, (ja.keep s12 hab).kn kn, (jl.keep s12 hbl.symm).kn kn, ⟨kk, kn _ (s12 _ jli fun _ => haMb) (no_iter_list rfl)⟩, jp.imp fun v p q => (q.tk (TK.of_keeps s12)).tk (TK.of_kn kn), fun p hp q => filtW_mem (s12 p (jk p hp q) fun x y => q x (List.mem_append_right _ y)) (hw.oldA _ (hjk0 p hp q))⟩
  intro h13 tk13 m13 n13 F13 N13 hJ
  obtain ⟨⟨vx, vy, va, rfl⟩, jb, ja, jl, jli, jp, jk⟩ := hJ
  rw [hall.len, show (placesOf bx).length = bx.h * bx.w from placesTo_len] at jb
  k_steps
  exact hret _ _ _ _ ⟨rfl, jl, jb, jk⟩ (by assumption) (by walk_at "ct_news")
end
section
theorem bl_normal {c d : Col} : bl .normal c d = ov c d := by
  have h : ∀ o a u b, bp .normal o a u b = mx o 255 u (255 - a) := fun o a u b => by
    unfold bp mx inn
    have : o * b + o * (255 - b) = o * 255 := by rw [← Int.mul_add]; congr 1; omega
    rw [this]
  unfold bl ov
  rw [h, h, h]

theorem ov_zc_right {c : Col} : ov c zc = c := by
  unfold ov zc mx
  dsimp only
  congr 1 <;> omega
theorem ov_zc_left {d : Col} : ov zc d = d := by
  unfold ov zc mx
  dsimp only
  congr 1 <;> omega
theorem paint_other : ∀ {ds : List Deed} {f : Int → Int → Col} {x y : Int}, (x, y) ∉ ds.map (·.1) → paint ds f x y = f x y
  | [], _, _, _, _ => rfl
  | d :: ds, f, x, y, h => by
    show paint ds (paint1 f d) x y = f x y
    rw [List.map_cons] at h
    rw [paint_other fun q => h (.tail _ q)]
    unfold paint1 setF
    rw [if_neg fun e => h (by rw [e.1, e.2]; exact .head _)]
theorem paint_once {ds : List Deed} {f : Int → Int → Col} {x y : Int} {c : Col} (hn : (ds.map (·.1)).Nodup) (h : ((x, y), c) ∈ ds) : paint ds f x y = ov c (f x y) := by
  induction ds generalizing f with
  | nil => cases h
  | cons d ds ih =>
    rw [List.map_cons, List.nodup_cons] at hn
    show paint ds (paint1 f d) x y = _
    rcases List.mem_cons.mp h with rfl | h
    · rw [paint_other hn.1]
      unfold paint1 setF
      rw [if_pos ⟨rfl, rfl⟩]
    · rw [ih hn.2 h]
      unfold paint1 setF
      rw [if_neg fun e => hn.1 (by rw [show d.1 = (x, y) from Prod.ext e.1.symm e.2.symm]; exact List.mem_map_of_mem (f := (·.1)) h)]
theorem paint_apart {ds : List Deed} {f : Int → Int → Col} {x y : Int} (hn : (ds.map (·.1)).Nodup) : ov (paint ds zf x y) (f x y) = paint ds f x y := by
  by_cases h : (x, y) ∈ ds.map (·.1)
  · obtain ⟨⟨p, c⟩, hm, e⟩ := List.mem_map.mp h
    dsimp only at e
    subst e
    rw [paint_once hn hm, paint_once hn hm]
    show ov (ov c zc) _ = _
    rw [ov_zc_right]
  · rw [paint_other h, paint_other h]
    exact ov_zc_left
theorem paint_app {a b : List Deed} {f : Int → Int → Col} : paint (a ++ b) f = paint b (paint a f) := List.foldl_append
theorem popTo_at {md : Mode} {al : Int → Int → Int} {fa fb : Int → Int → Col} {bx : Box} {p : Int × Int} (hp : p ∈ placesOf bx) : popTo md al fa fb bx (bx.h * bx.w) p.1 p.2 = bl md (dm (fa p.1 p.2) (al p.1 p.2)) (fb p.1 p.2) := by
  unfold popTo
  rw [show bx.h * bx.w = (placesOf bx).length from placesTo_len.symm, List.take_length, if_pos hp]
theorem pop_full {fa fb : Int → Int → Col} {bx : Box} {p : Int × Int} (hp : p ∈ placesOf bx) : popTo .normal (fun _ _ => 255) fa fb bx (bx.h * bx.w) p.1 p.2 = ov (fa p.1 p.2) (fb p.1 p.2) := by
  rw [popTo_at hp, dm_255, bl_normal]
theorem pop_apart {ds : List Deed} {f : Int → Int → Col} {bx : Box} {p : Int × Int} (hp : p ∈ placesOf bx) (hn : (ds.map (·.1)).Nodup) : popTo .normal (fun _ _ => 255) (paint ds zf) f bx (bx.h * bx.w) p.1 p.2 = paint ds f p.1 p.2 := by
  rw [pop_full hp, paint_apart hn]
theorem pop_clear {f : Int → Int → Col} {bx : Box} {p : Int × Int} (hp : p ∈ placesOf bx) : popTo .normal (fun _ _ => 255) f zf bx (bx.h * bx.w) p.1 p.2 = f p.1 p.2 := by
  rw [pop_full hp]
  exact ov_zc_right
/-- what does not lie in the box is not asked -/
theorem TabIn.congr {w : World} {news : Led} {R : Addr} {ps : List (Int × Int)} {f g : Int → Int → Col} (T : TabIn w news R ps f) (h : ∀ p ∈ ps, f p.1 p.2 = g p.1 p.2) : TabIn w news R ps g :=
  let ⟨xs, a, b⟩ := T; ⟨xs, a, b.1, fun i x q hx hq => ⟨(b.2 i x q hx hq).1, by rw [← h q (List.mem_of_getElem? hq)]; exact (b.2 i x q hx hq).2⟩⟩
theorem st_grown {acc : List Ent} {x : Ent} (h : acc.length < (stEnt acc x).length) : atKey acc x.1 = none := by
  cases e : atKey acc x.1 with
  | none => rfl
  | some p =>
    unfold stEnt at h
    rw [storedH_old e] at h
    simp at h
theorem not_key {acc : List Ent} {k : List Int} (h : atKey acc k = none) : k ∉ acc.map (·.1) := fun hm => by
  obtain ⟨y, hy, rfl⟩ := List.mem_map.mp hm
  unfold atKey at h
  rw [Option.map_eq_none_iff, List.find?_eq_none] at h
  exact h y hy (by simp)
theorem st_all : ∀ {es acc : List Ent}, (acc.map (·.1)).Nodup → acc.length + es.length ≤ (es.foldl stEnt acc).length → ((acc ++ es).map (·.1)).Nodup
  | [], acc, h, _ => by simpa using h
  | x :: es, acc, h, hl => by
    rw [List.foldl_cons] at hl
    have h1 := stEnt_len es (stEnt acc x)
    rw [List.length_cons] at hl
    have hk := st_grown (acc := acc) (x := x) (by omega)
    have e : stEnt acc x = acc ++ [x] := by unfold stEnt; rw [storedH_new hk]
    rw [e] at hl
    have := st_all (es := es) (acc := acc ++ [x]) (by
      rw [List.map_append, List.nodup_append]
      refine ⟨h, by simp, fun a ha b hb q => ?_⟩
      rw [List.map_singleton, List.mem_singleton] at hb
      exact not_key hk (by rw [← hb, ← q]; exact ha)) (by simp; omega)
    simpa using this
theorem st_mem {P : List Int → Addr → Prop} : ∀ {es acc : List Ent}, (∀ x ∈ acc, P x.1 x.2.1) → (∀ x ∈ es, P x.1 x.2.1) → ∀ x ∈ es.foldl stEnt acc, P x.1 x.2.1
  | [], _, h, _ => h
  | e :: es, acc, h, h' => by
    rw [List.foldl_cons]
    refine st_mem (fun x hx => ?_) fun x hx => h' x (.tail _ hx)
    rcases PyProof.Rows.mem_storedH hx with ⟨y, hy, e1, e2⟩ | ⟨e1, e2⟩
    · rw [e1, e2]; exact h y hy
    · rw [e1, e2]; exact h' e (.head _)
theorem keys_back {es : List Ent} {ps : List (Int × Int)} (hn : (es.map (·.1)).Nodup) (h : All2 (fun (x : Ent) p => x.1 = [p.1, p.2]) es ps) : ps.Nodup := by
  have e : es.map (·.1) = ps.map fun p => [p.1, p.2] := by
    apply List.ext_getElem?
    intro i
    rw [List.getElem?_map, List.getElem?_map]
    cases hx : es[i]? with
    | none => rw [List.getElem?_eq_none (by rw [← h.1]; exact List.getElem?_eq_none_iff.mp hx)]; rfl
    | some x => obtain ⟨p, e, q⟩ := h.get hx; rw [e]; simp [q]
  rw [e, List.nodup_iff_pairwise_ne, List.pairwise_map] at hn
  rw [List.nodup_iff_pairwise_ne]
  exact hn.imp fun h q => h (by rw [q])
/-- the places that a table of distinct ones holds -/
theorem places_of {w : World} {n : Led} {bx : Box} : ∀ {xs : List Ent}, (∀ x ∈ xs, ∃ p ∈ placesOf bx, x.1 = [p.1, p.2] ∧ PlIn w n (.ref x.2.1) p) → ∃ qs : List (Int × Int), All2 (fun (x : Ent) p => x.1 = [p.1, p.2]) xs qs ∧ All2 (PlIn w n) (xs.map fun x => Value.ref x.2.1) qs ∧ ∀ q ∈ qs, q ∈ placesOf bx
  | [], _ => ⟨[], .nil, .nil, by simp⟩
  | x :: xs, h => by
    obtain ⟨p, hp, e, q⟩ := h x (.head _)
    obtain ⟨qs, h1, h2, h3⟩ := places_of (xs := xs) fun y hy => h y (.tail _ hy)
    exact ⟨p :: qs, .cons e h1, .cons q h2, fun y hy => (List.mem_cons.mp hy).elim (fun e => e ▸ hp) (h3 y)⟩
end
section
noncomputable def CellO (o : Obj) : Prop := (∃ v, o.data = .cell v) ∨ ∃ vs, o.data = .fields vs
/-- all but the cells and the tables are kept -/
noncomputable def KC (n n' : Led) : Prop := ∀ p ∈ n, ¬ CellO p.2 → p ∈ n'
theorem no_cell_seq {o : Obj} {vs : Array Value} {k : Nat} (h : o.data = .seq vs k) : ¬ CellO o := fun q => by rcases q with ⟨v, q⟩ | ⟨v, q⟩ <;> (rw [h] at q; cases q)
theorem no_cell_dict {o : Obj} {es : Array DictEntry} {k : Nat} (h : o.data = .dict es k) : ¬ CellO o := fun q => by rcases q with ⟨v, q⟩ | ⟨v, q⟩ <;> (rw [h] at q; cases q)
theorem no_cell_lst {o : Obj} {vs : List Value} (h : LstO vs o) : ¬ CellO o := let ⟨_, _, e⟩ := h; no_cell_seq e
theorem no_cell_inst {a b : Addr} : ¬ CellO (instObj a b) := fun q => by rcases q with ⟨v, q⟩ | ⟨v, q⟩ <;> cases q
theorem TK.of_kc {n n' : Led} (h : KC n n') : TK n n' := fun _ _ _ e => h _ e (no_cell_seq rfl)
theorem KC.trans {a b c : Led} (h : KC a b) (h' : KC b c) : KC a c := fun p hp q => h' p (h p hp q) q
theorem KC.of_sub {a b : Led} (h : ∀ p ∈ a, p ∈ b) : KC a b := fun p hp _ => h p hp
theorem kc_front {h₀ h : Heap} {L a b : Addr} {x y : Obj} {n R : Led} (N : News h₀ L h n) (hx : (a, x) ∈ n) (hy : (b, y) ∈ n) (cx : CellO x) (cy : CellO y) (hR : ∀ p ∈ n, p.1 ≠ a → p.1 ≠ b → p ∈ R) : KC n R := fun p hp q => hR p hp (fun e => q (by rw [news_same N (show (a, p.2) ∈ n by rw [← e]; exact hp) hx]; exact cx)) (fun e => q (by rw [news_same N (show (b, p.2) ∈ n by rw [← e]; exact hp) hy]; exact cy))
theorem CanIn.kc {w : World} {M : List Addr} {news n' : Led} {v : Value} {bx : Box} {f : Int → Int → Col} (T : CanIn w news v M bx f) (k : KC news n') : CanIn w n' v M bx f := by
  obtain ⟨c, d, cl, rs, rfl, rfl, T⟩ := T
  refine ⟨c, d, cl, rs, rfl, rfl, k _ T.inst no_cell_inst, ?_, ?_, T.len, fun j r hr => ?_, T.nodup⟩
  · obtain ⟨o, e, x⟩ := T.dict
    refine ⟨o, k _ e ?_, x⟩
    obtain ⟨_, _, _, _, _, _, _, _, _, _, _, _, _, _, _, rfl⟩ := x
    exact no_cell_dict rfl
  · obtain ⟨n, e⟩ := T.cells
    exact ⟨n, k _ e (no_cell_seq rfl)⟩
  · obtain ⟨vs, m, e, z, l, x⟩ := T.row j r hr
    exact ⟨vs, m, k _ e (no_cell_lst z), z, l, fun i v q => (x i v q).tk (TK.of_kc k)⟩
theorem DicIn.kc {w : World} {news n' : Led} {R : Addr} {xs : List Ent} (T : DicIn w news R xs) (k : KC news n') : DicIn w n' R xs := let ⟨z0, o, e, x, y⟩ := T; ⟨z0, o, k _ e (let ⟨_, _, d, _⟩ := x.2.1; no_cell_dict d), x, fun z hz => (y z hz).tk (TK.of_kc k)⟩
theorem TabIn.kc {w : World} {news n' : Led} {R : Addr} {ps : List (Int × Int)} {g : Int → Int → Col} (T : TabIn w news R ps g) (k : KC news n') : TabIn w n' R ps g := let ⟨xs, a, b⟩ := T; ⟨xs, a.kc k, b.imp fun _ _ q => ⟨q.1, q.2.tk (TK.of_kc k)⟩⟩
theorem SrcIn.kc {news n' : Led} {S : Addr} (T : SrcIn news S) (k : KC news n') : SrcIn n' S := let ⟨a, b, t1, t2, o, e, x, r⟩ := T; ⟨a, b, t1, t2, o, k _ e (no_cell_lst x), x, r⟩
/-- the canvas, the table, the layers and the places -/
structure FS (w : World) (n : Led) (uc R a : Addr) (ly : Value) (M ML : List Addr) (bx : Box) (f g : Int → Int → Col) (vs pls : List Value) : Prop where
  can : CanIn w n (.ref uc) M bx f
  tab : TabIn w n R (placesOf bx) g
  lay : LayIn n ly ML vs
  list : ∃ k, (a, listOf pls.toArray k) ∈ n
  pls : All2 (PlIn w n) pls (placesOf bx)
theorem FS.keep {w : World} {n n' : Led} {uc R a : Addr} {ly : Value} {M ML M' : List Addr} {bx : Box} {f g : Int → Int → Col} {vs pls : List Value} (T : FS w n uc R a ly M ML bx f g vs pls) (k : Keeps M' n n') (h : ∀ x ∈ M', x ∉ R :: a :: (ML ++ M)) : FS w n' uc R a ly M ML bx f g vs pls where
  can := T.can.keep k fun x hx q => h x q (.tail _ (.tail _ (List.mem_append_right _ hx)))
  tab := T.tab.keep k fun q => h _ q (.head _)
  lay := T.lay.keep k fun x hx q => h x q (.tail _ (.tail _ (List.mem_append_left _ hx)))
  list := let ⟨c, e⟩ := T.list; ⟨c, k _ e fun _ q => h _ q (.tail _ (.head _))⟩
  pls := T.pls.imp fun _ _ q => q.tk (TK.of_keeps k)
theorem FS.sub {w : World} {n n' : Led} {uc R a : Addr} {ly : Value} {M ML : List Addr} {bx : Box} {f g : Int → Int → Col} {vs pls : List Value} (T : FS w n uc R a ly M ML bx f g vs pls) (k : ∀ p ∈ n, p ∈ n') : FS w n' uc R a ly M ML bx f g vs pls :=
  T.keep (M' := []) (Keeps.of_sub k) fun _ h => nomatch h
theorem FS.kc {w : World} {n n' : Led} {uc R a : Addr} {ly : Value} {M ML : List Addr} {bx : Box} {f g : Int → Int → Col} {vs pls : List Value} (T : FS w n uc R a ly M ML bx f g vs pls) (k : KC n n') : FS w n' uc R a ly M ML bx f g vs pls where
  can := T.can.kc k
  tab := T.tab.kc k
  lay := let ⟨c, d, K, o, m, e1, e2, h1, h2, h3, h4, h5⟩ := T.lay; ⟨c, d, K, o, m, e1, e2, k _ h1 no_cell_inst, k _ h2 (by obtain ⟨_, _, _, rfl⟩ := h3; exact no_cell_dict rfl), h3, k _ h4 (no_cell_seq rfl), h5⟩
  list := let ⟨c, e⟩ := T.list; ⟨c, k _ e (no_cell_seq rfl)⟩
  pls := T.pls.imp fun _ _ q => q.tk (TK.of_kc k)
end
section
theorem DicIn.nodup {w : World} {n : Led} {R : Addr} {xs : List Ent} (T : DicIn w n R xs) : (xs.map (·.1)).Nodup := let ⟨_, _, _, x, _⟩ := T; x.2.2
noncomputable def JPair (w : World) (base : Led) (Q : Led → Value → Int × Int → Prop) (qs : List (Int × Int)) (i : Nat) (ys : List Value) (n : Led) : Prop :=
  All2 (fun v p => ∃ t a c k, v = .ref t ∧ (t, tupOf [.ref a, c] k) ∈ n ∧ PlIn w n (.ref a) p ∧ Q n c p) ys (qs.take i) ∧ ∀ p ∈ base, p ∈ n
theorem JPair.next {w : World} {h₀ h : Heap} {L C D T tp : Addr} {wr : List Addr} {base own n1 : Led} {oC : Obj} {mC : Str → Option Value} {ys : List Value} {nn i : Nat} {Q : Led → Value → Int × Int → Prop} {qs : List (Int × Int)} {q : Int × Int} {c : Value} (hw : WrOk wr base own) (N : News h₀ L h ((T, tupOf [.ref tp, c] 0) :: (C, oC) :: (D, listOf ys.toArray nn) :: (own ++ n1)))
    (hC : ∀ p ∈ base, p.1 < C) (hD : ∀ p ∈ base, p.1 < D) (hns : NsO oC mC) (J : JPair w base Q qs i ys n1) (hp : qs[i]? = some q) (hpl : PlIn w base (.ref tp) q) (hQ : ∀ n n', TK n n' → ∀ v p, Q n v p → Q n' v p) (hq : Q base c q) :
    (∀ p ∈ (C, oC) :: (D, listOf ys.toArray nn) :: own, p ∈ (T, tupOf [.ref tp, c] 0) :: (C, oC) :: (D, listOf ys.toArray nn) :: (own ++ n1)) ∧ JPair w base Q qs (i + 1) (ys ++ [.ref T]) (Mine.filt C D wr ((T, tupOf [.ref tp, c] 0) :: (C, oC) :: (D, listOf ys.toArray nn) :: (own ++ n1))) := by
  obtain ⟨hj1, hj2⟩ := J
  have hon : ∀ p ∈ (C, oC) :: (D, listOf ys.toArray nn) :: own, p ∈ (T, tupOf [.ref tp, c] 0) :: (C, oC) :: (D, listOf ys.toArray nn) :: (own ++ n1) := fun p hp => .tail _ (by
    rcases List.mem_cons.mp hp with rfl | hp
    · exact .head _
    rcases List.mem_cons.mp hp with rfl | hp
    · exact .tail _ (.head _)
    · exact .tail _ (.tail _ (List.mem_append_left _ hp)))
  have tkf := TK.filt hw N (fun p hp => hon p (.tail _ (.tail _ hp))) (hon _ (.head _)) hns (hon _ (.tail _ (.head _))) (⟨rfl, _, rfl⟩ : LstO ys _)
  have tks : TK n1 _ := (TK.of_sub fun p hp => .tail _ (.tail _ (.tail _ (List.mem_append_right own hp)))).trans tkf
  have tkb : TK base _ := (TK.of_sub hj2).trans tks
  refine ⟨hon, ?_, fun p hp => filt_mem (.tail _ (.tail _ (.tail _ (List.mem_append_right own (hj2 p hp))))) (Nat.ne_of_lt (hC p hp)) (Nat.ne_of_lt (hD p hp)) (hw.old hp)⟩
  rw [take_next hp]
  exact All2.app (hj1.imp fun v p ⟨t, a, c, k, e, m, pl, q⟩ => ⟨t, a, c, k, e, tks _ _ _ m, pl.tk tks, hQ _ _ tks _ _ q⟩) (.one ⟨_, tp, _, _, rfl, tkf _ _ _ (.head _), hpl.tk tkb, hQ _ _ tkb _ _ hq⟩)
noncomputable def JDeed (w : World) (S : Addr) (base : Led) (qs : List (Int × Int)) (i : Nat) (ys : List Value) (n : Led) : Prop := (∃ ds : List Deed, All2 (DeedAt w n) ys ds ∧ ds.map (·.1) = qs.take i ∧ ∀ d ∈ ds, d.2.Pm) ∧ SrcIn n S ∧ Keeps [S] base n
theorem JDeed.next {w : World} {h₀ h : Heap} {L C D T tp S : Addr} {wr : List Addr} {base own n1 n2 : Led} {oC oS : Obj} {mC : Str → Option Value} {ys : List Value} {nn i : Nat} {qs : List (Int × Int)} {q : Int × Int} {cv : Value} {c : Col} (hw : WrOk wr base own) (N : News h₀ L h ((T, tupOf [.ref tp, cv] 0) :: n2))
    (hk : Keeps [S] ((C, oC) :: (D, listOf ys.toArray nn) :: (own ++ n1)) n2) (hSb : (S, oS) ∈ base) (hSo : ∀ p ∈ own, p.1 ≠ S) (hC : ∀ p ∈ base, p.1 < C) (hD : ∀ p ∈ base, p.1 < D) (hns : NsO oC mC) (J : JDeed w S base qs i ys n1) (hs : SrcIn n2 S) (hp : qs[i]? = some q) (hpl : PlIn w base (.ref tp) q) (hcol : ColIn w n2 cv c) (hc : c.Pm) :
    (∀ p ∈ (C, oC) :: (D, listOf ys.toArray nn) :: own, p ∈ (T, tupOf [.ref tp, cv] 0) :: n2) ∧ JDeed w S base qs (i + 1) (ys ++ [.ref T]) (Mine.filt C D wr ((T, tupOf [.ref tp, cv] 0) :: n2)) := by
  obtain ⟨⟨ds, hj1, hj2, hj3⟩, hj4, hj5⟩ := J
  have hSC := Nat.ne_of_gt (hC _ hSb)
  have hSD := Nat.ne_of_gt (hD _ hSb)
  have hon : ∀ p ∈ (C, oC) :: (D, listOf ys.toArray nn) :: own, p ∈ (T, tupOf [.ref tp, cv] 0) :: n2 := fun p hp => .tail _ (by
    rcases List.mem_cons.mp hp with rfl | hp
    · exact hk _ (.head _) fun _ => by simpa using hSC
    rcases List.mem_cons.mp hp with rfl | hp
    · exact hk _ (.tail _ (.head _)) fun _ => by simpa using hSD
    · exact hk _ (.tail _ (.tail _ (List.mem_append_left _ hp))) fun _ => by simpa using hSo p hp)
  have k1 : Keeps [S] n1 n2 := fun p hp q => hk p (.tail _ (.tail _ (List.mem_append_right own hp))) q
  have tkf := TK.filt hw N (fun p hp => hon p (.tail _ (.tail _ hp))) (hon _ (.head _)) hns (hon _ (.tail _ (.head _))) (⟨rfl, _, rfl⟩ : LstO ys _)
  have tk2 : TK n2 _ := (TK.of_sub fun p hp => .tail _ hp).trans tkf
  have tk1 := (TK.of_keeps k1).trans tk2
  refine ⟨hon, ⟨ds ++ [(q, c)], (hj1.imp fun v d x => x.tk tk1).app (.one ⟨_, tp, cv, 0, rfl, tkf _ _ _ (.head _), (hpl.tk (TK.of_keeps hj5)).tk tk1, hcol.tk tk2⟩), ?_, fun d hd => ?_⟩, ?_, fun p hp q => filt_mem (.tail _ (k1 p (hj5 p hp q) q)) (Nat.ne_of_lt (hC p hp)) (Nat.ne_of_lt (hD p hp)) (hw.old hp)⟩
  · rw [take_next hp, List.map_append, hj2]; rfl
  · rcases List.mem_append.mp hd with hd | hd
    · exact hj3 d hd
    · rw [List.mem_singleton.mp hd]; exact hc
  · obtain ⟨a, b, t1, t2, o, e, x, r⟩ := hs
    exact ⟨a, b, t1, t2, o, filt_mem (.tail _ e) hSC.symm hSD.symm (hw.oldA oS hSb), x, r⟩
end
section
theorem All2.take {α β : Type} {P : α → β → Prop} {vs : List α} {ps : List β} (h : All2 P vs ps) (n : Nat) : All2 P (vs.take n) (ps.take n) := ⟨by simp [h.1], fun i v p a b => by
  rw [List.getElem?_take] at a b
  split at a
  · next q => rw [if_pos q] at b; exact h.2 i v p a b
  · cases a⟩
theorem All2.drop {α β : Type} {P : α → β → Prop} {vs : List α} {ps : List β} (h : All2 P vs ps) (n : Nat) : All2 P (vs.drop n) (ps.drop n) := ⟨by simp [h.1], fun i v p a b => by
  rw [List.getElem?_drop] at a b
  exact h.2 _ v p a b⟩
theorem slice_to {vs : List Value} {y : Int} (h : 0 ≤ y) : kms_pick vs.toArray.toList none (some y) = vs.take y.toNat := by
  rw [List.toList_toArray]
  unfold kms_pick kms_lo kms_hi
  dsimp only
  rw [if_neg (by omega), List.drop_zero, Nat.sub_zero, kmk_take_min]
theorem slice_from {vs : List Value} {x : Int} (h : 0 ≤ x) : kms_pick vs.toArray.toList (some x) none = vs.drop x.toNat := by
  rw [List.toList_toArray]
  unfold kms_pick kms_lo kms_hi
  dsimp only
  rw [if_neg (by omega), kmk_drop_min]
  exact List.take_of_length_le (by rw [List.length_drop]; omega)
theorem FS.held {w : World} {n : Led} {uc R a : Addr} {ly : Value} {M ML : List Addr} {bx : Box} {f g : Int → Int → Col} {vs pls : List Value} (T : FS w n uc R a ly M ML bx f g vs pls) : ∀ x ∈ R :: (ML ++ M), ∃ o, (x, o) ∈ n := fun x hx => by
  rcases List.mem_cons.mp hx with rfl | hx
  · obtain ⟨_, ⟨_, o, e, _⟩, _⟩ := T.tab; exact ⟨o, e⟩
  rcases List.mem_append.mp hx with hx | hx
  · exact T.lay.held x hx
  · exact T.can.held x hx
theorem off3 {x R : Addr} {ML M M2 : List Addr} (h : x ∉ R :: (ML ++ M)) (h2 : x ∉ M2) : x ∉ R :: (ML ++ M ++ M2) := fun q => (List.mem_cons.mp q).elim (fun e => h (e ▸ .head _)) fun y => (List.mem_append.mp y).elim (fun z => h (.tail _ z)) h2
/-- a group over a canvas -/
structure GS (w : World) (n : Led) (S uc u2 R bD D4 : Addr) (ly : Value) (M M2 ML : List Addr) (bx : Box) (f f2 g : Int → Int → Col) (us dv : List Value) (qs : List (Int × Int)) (ds : List Deed) (vs : List Value) : Prop where
  can : CanIn w n (.ref uc) M bx f
  can2 : CanIn w n (.ref u2) M2 bx f2
  tab : TabIn w n R (placesOf bx) g
  lay : LayIn n ly ML vs
  src : SrcIn n S
  some : ∃ k, (bD, listOf us.toArray k) ∈ n
  deeds : ∃ k, (D4, listOf dv.toArray k) ∈ n
  us : All2 (PlIn w n) us qs
  dv : All2 (DeedAt w n) dv ds
structure GD (S R bD D4 : Addr) (M M2 ML : List Addr) : Prop where
  rm : R ∉ M
  rm2 : R ∉ M2
  rl : R ∉ ML
  mm2 : Apart M M2
  ml : Apart M ML
  m2l : Apart M2 ML
  s : S ∉ R :: (ML ++ M ++ M2)
  b : bD ∉ R :: (ML ++ M ++ M2)
  d : D4 ∉ R :: (ML ++ M ++ M2)
variable {w : World} {n n' : Led} {S uc u2 R bD D4 : Addr} {ly : Value} {M M2 ML : List Addr} {bx : Box} {f f2 g f2' g' : Int → Int → Col} {us dv : List Value} {qs : List (Int × Int)} {ds : List Deed} {vs : List Value}
theorem GS.sub (T : GS w n S uc u2 R bD D4 ly M M2 ML bx f f2 g us dv qs ds vs) (k : ∀ p ∈ n, p ∈ n') : GS w n' S uc u2 R bD D4 ly M M2 ML bx f f2 g us dv qs ds vs where
  can := T.can.sub k
  can2 := T.can2.sub k
  tab := T.tab.sub k
  lay := T.lay.keep (M' := []) (Keeps.of_sub k) fun _ _ h => nomatch h
  src := T.src.sub k
  some := let ⟨c, e⟩ := T.some; ⟨c, k _ e⟩
  deeds := let ⟨c, e⟩ := T.deeds; ⟨c, k _ e⟩
  us := T.us.imp fun _ _ q => q.tk (TK.of_sub k)
  dv := T.dv.imp fun _ _ q => q.tk (TK.of_sub k)
theorem GS.paint (T : GS w n S uc u2 R bD D4 ly M M2 ML bx f f2 g us dv qs ds vs) (D : GD S R bD D4 M M2 ML) (k : Keeps (R :: M2) n n') (h1 : CanIn w n' (.ref u2) M2 bx f2') (h2 : TabIn w n' R (placesOf bx) g') : GS w n' S uc u2 R bD D4 ly M M2 ML bx f f2' g' us dv qs ds vs where
  can := T.can.keep k fun x hx q => (List.mem_cons.mp q).elim (fun e => D.rm (e ▸ hx)) fun y => D.mm2 x hx y
  can2 := h1
  tab := h2
  lay := T.lay.keep k fun x hx q => (List.mem_cons.mp q).elim (fun e => D.rl (e ▸ hx)) fun y => D.m2l x y hx
  src := T.src.keep k fun q => D.s ((List.mem_cons.mp q).elim (fun e => e ▸ .head _) fun y => .tail _ (List.mem_append_right _ y))
  some := let ⟨c, e⟩ := T.some; ⟨c, k _ e fun _ q => D.b ((List.mem_cons.mp q).elim (fun e => e ▸ .head _) fun y => .tail _ (List.mem_append_right _ y))⟩
  deeds := let ⟨c, e⟩ := T.deeds; ⟨c, k _ e fun _ q => D.d ((List.mem_cons.mp q).elim (fun e => e ▸ .head _) fun y => .tail _ (List.mem_append_right _ y))⟩
  us := T.us.imp fun _ _ q => q.tk (TK.of_keeps k)
  dv := T.dv.imp fun _ _ q => q.tk (TK.of_keeps k)
end
section
/-- where two ways meet -/
noncomputable def MidS (g : Heap) (L : Addr) (s₀ : Shared) (G : (Str → Option Value) → Led → Prop) (f : Flow) (s' : Shared) : Prop := f = .next ∧ ∃ h' tk m' n', s' = { s₀ with heap := h', toks := tk } ∧ Fr g L h' m' ∧ News g L h' n' ∧ G m' n'
theorem MidS.intro {g h' : Heap} {L : Addr} {s₀ : Shared} {G : (Str → Option Value) → Led → Prop} {tk : Nat} {m' : Str → Option Value} {n' : Led} (F : Fr g L h' m') (N : News g L h' n') (hG : G m' n') : MidS g L s₀ G .next { s₀ with heap := h', toks := tk } := ⟨rfl, h', tk, m', n', rfl, F, N, hG⟩
theorem mid_if {M : Model} {A : Around} {t : Sem Flow} {Q : Flow → Shared → Prop} {E : Value → Shared → Prop} {s : Shared} {g : Heap} {L : Addr} {m : Str → Option Value} (F : Fr g L s.heap m) (G : (Str → Option Value) → (Str → Option Value) → Led → Prop) (h : wpAny M A t (MidS g L s (G m)) E s) (hQ : ∀ h' tk m' n', Fr g L h' m' → News g L h' n' → G m m' n' → Q .next { s with heap := h', toks := tk }) : wpAny M A t Q E s :=
  wpAny_mono h (fun f s' x => by obtain ⟨rfl, h', tk, m', n', rfl, F, N, hG⟩ := x; exact hQ h' tk m' n' F N hG) fun _ _ x => x
noncomputable abbrev bnd1 (m₀ : Str → Option Value) (x : Str) (v : Option Value) : Str → Option Value := fun y => if y = x then v else m₀ y
theorem bnd1_same {m : Str → Option Value} {x : Str} {v : Option Value} (h : m x = v) : m = bnd1 m x v := by
  funext y
  show m y = if y = x then v else m y
  split
  · next e => rw [e, h]
  · rfl
theorem bnd1_again {m : Str → Option Value} {x : Str} {v u : Option Value} : bnd1 (bnd1 m x v) x u = bnd1 m x u := by
  funext y
  show (if y = x then u else if y = x then v else m y) = if y = x then u else m y
  split <;> rfl
inductive PushG (w : World) (bx : Box) (b : Bool) (C : Prop) (ly : Value) (uc u2 : Addr) (ML : List Addr) (n18 : Led) (m₀ : Str → Option Value) (m' : Str → Option Value) (n' : Led) : Prop
  | mk (t : Tok) (u3 : Addr) (M3 : List Addr) (e : m' = bnd1 m₀ (Str.ofString "depth") (some (.int 2 t))) (eb : b = true) (c : C) (l : LayIn n' ly ML [.ref uc, .ref u2, .ref u3]) (x : CanIn w n' (.ref u3) M3 bx zf) (f : Fresh M3 n18) (k : Keeps ML n18 n')
inductive GSome (w : World) (bx : Box) (S R : Addr) (ML M : List Addr) (cl : Bool) (n7 : Led) (m₀ : Str → Option Value) (m' : Str → Option Value) (n' : Led) : Prop
  | mk (bD : Addr) (us : List Value) (kb : Nat) (qs : List (Int × Int)) (e : m' = bnd1 m₀ (Str.ofString "some") (some (.ref bD))) (m : (bD, listOf us.toArray kb) ∈ n') (u : All2 (PlIn w n') us qs) (q : ∀ q ∈ qs, q ∈ placesOf bx) (l : qs.length ≤ 5) (nd : cl = false → qs.Nodup) (hS : bD ≠ S) (hF : bD ∉ R :: (ML ++ M)) (s : ∀ p ∈ n7, p ∈ n')
inductive GDeep (cl : Bool) (S : Addr) (n13 : Led) (v : Value) (n' : Led) : Prop
  | mk (b : Bool) (e : v = .bool b) (h : b = true → cl = true) (s : SrcIn n' S) (k : Keeps [S] n13 n')
noncomputable def GPush (w : World) (bx : Box) (b : Bool) (C : Prop) (ly : Value) (uc u2 : Addr) (ML : List Addr) (n18 : Led) (m₀ : Str → Option Value) (m' : Str → Option Value) (n' : Led) : Prop :=
  (m' = m₀ ∧ ∀ p ∈ n18, p ∈ n') ∨
  PushG w bx b C ly uc u2 ML n18 m₀ m' n'
end
section
set_option maxHeartbeats 8000000
theorem ColIn.key {w : World} {n : Led} {v : Value} {c : Col} (T : ColIn w n v c) : ∃ b, v = .ref b ∧ KeyIn w n [c.r, c.g, c.b, c.a] b := by
  obtain ⟨b, t1, t2, t3, t4, e, x⟩ := T
  exact ⟨b, e, _, .cons _ _ (.cons _ _ (.cons _ _ (.cons _ _ .nil))), x⟩
theorem tab_eq {prog : Program} {w : World} {A : Around} {E : Value → Shared → Prop} {s : Shared} {h₀ : Heap} {L : Addr} {m : Str → Option Value} {news : Led} {R R' : Addr} {ps : List (Int × Int)} {f : Int → Int → Col} {Q : Value → Shared → Prop} (G : Fr h₀ L s.heap m) (X : (hd.heap_1 w.params).In h₀) (N : News h₀ L s.heap news) (T : TabIn w news R ps f) (U : TabIn w news R' ps f) (hu : A.units + 10 < cLine) (h : Q (.bool true) s) :
    wpAny (model prog w) A (compareOp .Eq (.ref R) (.ref R')) Q E s := by
  obtain ⟨xs, dx, ax⟩ := T
  obtain ⟨ys, dy, ay⟩ := U
  refine eqDic G X N dx dy hu ⟨ax.len.trans ay.len.symm, fun x hx => ?_⟩ h
  obtain ⟨p, hp, e1, hc⟩ := ax.mem hx
  obtain ⟨q, hq, hcq⟩ := tab_get dy.nodup ay hp
  obtain ⟨b, eb, kb⟩ := hc.key
  obtain ⟨b', eb', kb'⟩ := hcq.key
  exact ⟨q.1, b, b', _, eb, by rw [e1, hq, ← eb'], kb, kb'⟩
theorem pop_pm {fa fb : Int → Int → Col} {bx : Box} {i : Nat} (ha : ∀ x y, (fa x y).Pm) (hb : ∀ x y, (fb x y).Pm) : ∀ x y, (popTo .normal (fun _ _ => 255) fa fb bx i x y).Pm := fun x y => by
  unfold popTo
  split
  · rw [dm_255, bl_normal]
    exact ov_pm (ha x y) (hb x y)
  · exact hb x y
theorem full1 {ds : List Deed} {f : Int → Int → Col} {bx : Box} {k : Nat} (h : f = zf ∨ (ds.map (·.1)).Nodup) (p : Int × Int) (hp : p ∈ placesOf bx) : popTo .normal (fun _ _ => 255) (paint (ds.drop k) (paint (ds.take k) zf)) f bx (bx.h * bx.w) p.1 p.2 = paint (ds.drop k) (paint (ds.take k) f) p.1 p.2 := by
  rw [← paint_app, ← paint_app, List.take_append_drop]
  rcases h with rfl | h
  · exact pop_clear hp
  · exact pop_apart hp h
theorem full2 {ds : List Deed} {bx : Box} {k : Nat} (h : k = 0 ∨ (ds.map (·.1)).Nodup) (p : Int × Int) (hp : p ∈ placesOf bx) : popTo .normal (fun _ _ => 255) (popTo .normal (fun _ _ => 255) (paint (ds.drop k) zf) (paint (ds.take k) zf) bx (bx.h * bx.w)) zf bx (bx.h * bx.w) p.1 p.2 = paint (ds.drop k) (paint (ds.take k) zf) p.1 p.2 := by
  rw [pop_clear hp]
  rcases h with rfl | h
  · exact pop_clear hp
  · refine pop_apart hp ?_
    rw [List.map_drop]
    exact h.sublist (List.drop_sublist _ _)
end
section
set_option maxHeartbeats 8000000
local macro_rules | `(tactic| walk_at "call ref") => `(tactic| (k_here; (first | (with_reducible refine' hC 350 ?_) | (with_reducible refine' hC 228 ?_) | (with_reducible refine' hC 284 ?_) | (with_reducible refine' hC 319 ?_) | (with_reducible refine' hC 326 ?_) | (with_reducible refine' hC 331 ?_) | (with_reducible refine' hC 218 ?_) | (with_reducible refine' hC 343 ?_) | (with_reducible refine' hC 211 ?_) | (with_reducible refine' hC 225 ?_) | (with_reducible refine' hC 355 ?_)); refine Hold.of ?_))
local macro_rules | `(tactic| walk_at "call type:dict") => `(tactic| (k_here; refine Hold.of ?_))
local macro_rules | `(tactic| walk_at "call type:list") => `(tactic| (k_here; refine Hold.of ?_))
local macro_rules | `(tactic| walk_at "subscriptTail Name Slice ref ref") => `(tactic| (k_here; refine Hold.of ?_))
local macro_rules | `(tactic| walk_at "exec If") => `(tactic| (k_here; (fail_if_success (with_reducible show wpAny _ _ _ (MidS _ _ _ _) _ _)); (first | (with_reducible show wpAny _ _ (exec (PySem.Stmt.If (PySem.Expr.UnaryOp _ _ _) _ _ _) _) _ _ _) | (with_reducible show wpAny _ _ (exec (PySem.Stmt.If (PySem.Expr.BoolOp _ _ _) _ _ _) _) _ _ _)); refine Hold.of ?_))
local macro_rules | `(tactic| walk_at "eval BoolOp") => `(tactic| (k_here; (fail_if_success (with_reducible show wpAny _ _ _ (MidV _ _ _ _ _) _ _)); refine Hold.of ?_))
local macro_rules | `(tactic| walk_at "exec While") => `(tactic| (k_here; refine Hold.of ?_))
local macro_rules | `(tactic| walk_at "call builtin:len") => `(tactic| (k_here; refine Hold.of ?_))
local macro_rules | `(tactic| walk_at "compareOp Eq ref ref") => `(tactic| (k_here; refine Hold.of ?_))
noncomputable def JSome (w : World) (S : Addr) (base : Led) (bx : Box) (ys : List Value) (n : Led) : Prop := (∃ qs, All2 (PlIn w n) ys qs ∧ ∀ q ∈ qs, q ∈ placesOf bx) ∧ SrcIn n S ∧ Keeps [S] base n
theorem full_ct {w : World} {news : Led} {S : Addr} {cl : Bool} (hs : SrcIn news S) :
    Ct w 360 [.ref S, .bool cl] 20 200 news fun v' n' => v' = .bool true ∧ SrcIn n' S ∧ Keeps [S] news n' := by
  obtain ⟨oS, hS⟩ : ∃ o, (S, o) ∈ news := let ⟨_, _, _, _, o, e, _, _⟩ := hs; ⟨o, e⟩
  refine Ct.of fun prog p loose mean mg mb A₀ env outer base h₀ L m s Q E B F X N T hf hk hret => ?_
  walk_at "ct_enterC"
  intro g' L' h' tk' cells' FG' F' N' Y' B' X' T' l1
  replace l1 : Above _ L' := l1
  k_cells Y'
  (try simp only [List.cons_append, List.nil_append] at N')
  (try dsimp only)
  (try k_lift B')
  (try k_fold)
  have hSL : S < L' := l1 _ hS
  have hS1 : L' + 1 ≠ S := Nat.ne_of_gt (Nat.lt_succ_of_lt hSL)
  have hS2 : L' + 1 + 1 ≠ S := Nat.ne_of_gt (Nat.lt_succ_of_lt (Nat.lt_succ_of_lt hSL))
  k_steps
  refine Hold.out ?_
  refine' Ct.useN (by k_asm) (begun_ct (hs.sub (by walk_at "ct_sub"))) ?kB ?kF ?kX ?kT ?kA ?kf ?kk ?kh ?kd ?ku ?_
  walk_at "ct_useN"
  intro v' n1 h1 tk1 hP F1 N1
  obtain ⟨l, R, uc, M, bx, f, k, rfl, hl, hb, hc, ht, hfp, hfz, hs1, k1, hfr, hRM⟩ := hP
  have y1 := k1 _ (.head _) fun _ => by simpa using hS2
  have y2 := k1 _ (.tail _ (.head _)) fun _ => by simpa using hS1
  obtain ⟨du, ou, hiu, hdu, us1, us2, us3, us4, us5, uk1, uk2, uk3, uk4, uk5, ut1, ut2, ut3, ut4, un, rfl⟩ := hc.inst
  have hSn := hfr (S, oS) (.tail _ (.tail _ hS))
  k_steps
  refine Hold.out ?_
  refine' Ct.use (lay_ct (news := n1) (u := uc)) ?kB ?kF ?kX ?kN ?kT ?kA ?kf ?kk ?kh ?kd ?ku ?_
  walk_at "ct_use"
  intro v' n2 h2 tk2 hP F2 N2
  obtain ⟨ML, hlay, hfL, hsub2⟩ := hP
  obtain ⟨ly, rfl⟩ : ∃ c, v' = .ref c := let ⟨c, _, _, _, _, e, _, _, _, _, _, _⟩ := hlay; ⟨c, e⟩
  have y1 := hsub2 _ y1
  have y2 := hsub2 _ y2
  have hiu2 := hsub2 _ hiu
  have hdu2 := hsub2 _ hdu
  k_steps
  refine Hold.out ?_
  refine' Ct.use (places_ct (hc.sub hsub2) hb) ?kB ?kF ?kX ?kN ?kT ?kA ?kf ?kk ?kh ?kd ?ku ?_
  walk_at "ct_use"
  intro v' n3 h3 tk3 hP F3 N3
  obtain ⟨a, pls, kp, rfl, hpl, hlt, hall, hsub3⟩ := hP
  have y1 := hsub3 _ y1
  have y2 := hsub3 _ y2
  obtain ⟨n4, N4, hr4, hr5, hr6⟩ := news_front2 N3 y1 y2
  have kc4 := kc_front N3 y1 y2 (.inl ⟨_, by assumption⟩) (.inl ⟨_, by assumption⟩) hr4
  have hold : ∀ p ∈ news, (Chg p.2 → p.1 ∉ [S]) → p ∈ n4 := fun p hp q => hr4 p (hsub3 p (hsub2 p (k1 p (.tail _ (.tail _ hp)) q))) (Nat.ne_of_lt (Nat.lt_succ_of_lt (Nat.lt_succ_of_lt (l1 p hp)))) (Nat.ne_of_lt (Nat.lt_succ_of_lt (l1 p hp)))
  have fs4 : FS w n4 uc R a (.ref ly) M ML bx f f [.ref uc] pls := FS.kc ⟨hc.sub fun p hp => hsub3 p (hsub2 p hp), ht.sub fun p hp => hsub3 p (hsub2 p hp), hlay.sub hsub3, ⟨kp, hpl⟩, hall⟩ kc4
  have hs4 : SrcIn n4 S := (hs1.sub fun p hp => hsub3 p (hsub2 p hp)).kc kc4
  have hSF : ∀ x ∈ [S], x ∉ R :: a :: (ML ++ M) := fun x hx hm => by
    obtain rfl := List.mem_singleton.mp hx
    obtain ⟨oS1, hoS1⟩ : ∃ o, (x, o) ∈ n1 := let ⟨_, _, _, _, o, e, _, _⟩ := hs1; ⟨o, e⟩
    rcases List.mem_cons.mp hm with hm | hm
    · exact hSn (by rw [hm]; exact .head _)
    rcases List.mem_cons.mp hm with hm | hm
    · exact Nat.lt_irrefl _ (by have := hlt _ (hsub2 _ hoS1); rw [hm] at this; exact this)
    rcases List.mem_append.mp hm with hm | hm
    · exact hfL _ hm _ hoS1 rfl
    · exact hSn (.tail _ hm)
  have hML : Apart M ML := hc.held.apart hfL
  have hRL : R ∉ ML := fun hm => by obtain ⟨_, ⟨_, o, e, _⟩, _⟩ := id ht; exact hfL _ hm _ e rfl
  have hfree : ∀ p ∈ news, p.1 ∉ R :: (ML ++ M) := fun p hp hm => by
    rcases List.mem_cons.mp hm with hm | hm
    · exact hfr p (.tail _ (.tail _ hp)) (by rw [hm]; exact .head _)
    rcases List.mem_append.mp hm with hm | hm
    · by_cases e : p.1 = S
      · obtain ⟨_, _, _, _, o, e', _⟩ := id hs1
        exact hfL _ hm _ e' e.symm
      · exact hfL _ hm _ (k1 p (.tail _ (.tail _ hp)) fun _ => by simpa using e) rfl
    · exact hfr p (.tail _ (.tail _ hp)) (.tail _ hm)
  have hlen : pls.length = bx.h * bx.w := hall.len.trans placesTo_len
  have hlw : bx.h * bx.w ≤ 3 * 4 := Nat.mul_le_mul hb.2.1.2 hb.1.2
  have hlo : 1 * 1 ≤ bx.h * bx.w := Nat.mul_le_mul hb.2.1.1 hb.1.1
  k_steps
  refine Hold.out ?_
  refine' Assign_ListComp_fr (h₀ := g') ?hsw ?hclos ?hcell ?hkind ?hnames ?hx ?hy ?hp ?_
  case hsw => with_unfolding_all rfl
  case hclos => with_unfolding_all rfl
  case hcell => decide
  case hkind => with_unfolding_all rfl
  case hnames => decide
  case hx => with_unfolding_all rfl
  case hy => with_unfolding_all rfl
  case hp => with_unfolding_all rfl
  k_steps
  refine Hold.out ?_
  refine' Ct.useN (by k_asm) (take_ct (n := 5) (hs4.sub fun p hp => .tail _ (.tail _ (.tail _ hp))) (by decide)) ?kB ?kF ?kX ?kT ?kA ?kf ?kk ?kh ?kd ?ku ?_
  walk_at "ct_useN"
  intro v' n5 h5 tk5 hP F5 N5
  obtain ⟨⟨r1, t1, rfl, r1a, r1b⟩, hs5, k5⟩ := hP
  have y1 := k5 _ (.tail _ (.head _)) fun _ => by simpa using hS2
  have y2 := k5 _ (.tail _ (.tail _ (.head _))) fun _ => by simpa using hS1
  have fs5 := (fs4.sub fun p hp => .tail _ (.tail _ (.tail _ hp))).keep k5 hSF
  have hold : ∀ p ∈ news, (Chg p.2 → p.1 ∉ [S]) → p ∈ n5 := fun p hp q => k5 _ (.tail _ (.tail _ (.tail _ (hold p hp q)))) q
  k_steps
  refine Hold.out ?_
  obtain ⟨kl, hla5⟩ := fs5.list
  have haS : a ≠ S := fun e => hSF S (.head _) (.tail _ (by rw [e]; exact .head _))
  obtain ⟨oS5, hoS5⟩ : ∃ o, (S, o) ∈ n5 := let ⟨_, _, _, _, o, e, _, _⟩ := hs5; ⟨o, e⟩
  refine' compAt_rangeO (n := (1 + r1).toNat) rfl (by assumption) (small_of (by omega) (by omega)) (range_small (by omega)) (by show (1 + r1).toNat ≤ 2 ^ 24; omega) (by assumption) (by assumption) (fun _ ys n => JSome w S n5 bx ys n) ⟨⟨[], .nil, by simp⟩, hs5, fun p hp _ => hp⟩ ?step ?done
  case step =>
    intro C D wr i ti ys nn oC mC own news₁ h tk hC hD hw hown hi hlen hJ ho hns hmx F'' N''
    obtain ⟨⟨qs, hq1, hq2⟩, hsj, hkj⟩ := hJ
    have z1 := hkj _ y1 fun _ => by simpa using hS2
    have z2 := hkj _ y2 fun _ => by simpa using hS1
    have hla := hkj _ hla5 fun _ q => haS (by simpa using q)
    k_steps
    refine Hold.out ?_
    refine' Ct.useN (by k_asm) (one_ct (S := S) (hsj.sub fun p hp => .tail _ (.tail _ (List.mem_append_right own hp))) (.tail _ (.tail _ (List.mem_append_right own hla))) (by exact ⟨rfl, _, rfl⟩) ⟨by omega, by omega⟩ haS) ?kB ?kF ?kX ?kT ?kA ?kf ?kk ?kh ?kd ?ku ?_
    walk_at "ct_useN"
    intro v' n6 h6 tk6 hP F6 N6
    obtain ⟨⟨ix, hix⟩, hs6, hk6⟩ := hP
    obtain ⟨q, hq, hpq⟩ := fs5.pls.get hix
    have hon : ∀ p ∈ (C, oC) :: (D, listOf ys.toArray nn) :: own, p ∈ n6 := by
      intro p hp
      rcases List.mem_cons.mp hp with rfl | hp
      · exact hk6 _ (.head _) fun _ => by simpa using Nat.ne_of_gt (hC _ hoS5)
      rcases List.mem_cons.mp hp with rfl | hp
      · exact hk6 _ (.tail _ (.head _)) fun _ => by simpa using Nat.ne_of_gt (hD _ hoS5)
      · exact hk6 _ (.tail _ (.tail _ (List.mem_append_left _ hp))) fun _ => by simpa using Nat.ne_of_gt (hown p hp _ hoS5)
    have kk6 : Keeps [S] news₁ n6 := fun p hp q => hk6 p (.tail _ (.tail _ (List.mem_append_right own hp))) q
    k_steps
    have tkf := TK.filt hw N6 (fun p hp => hon p (.tail _ (.tail _ hp))) (hon _ (.head _)) hns (hon _ (.tail _ (.head _))) (⟨rfl, _, rfl⟩ : LstO ys _)
    refine CompEnd.filt (by assumption) (by assumption) hon ⟨⟨qs ++ [q], (hq1.imp fun v p x => (x.tk (TK.of_keeps kk6)).tk tkf).app (.one (((hpq.tk (TK.of_keeps hkj)).tk (TK.of_keeps kk6)).tk tkf)), fun y hy => (List.mem_append.mp hy).elim (hq2 y) fun e => by rw [List.mem_singleton.mp e]; exact List.mem_of_getElem? hq⟩, ?_, fun p hp q => filt_mem (kk6 p (hkj p hp q) q) (Nat.ne_of_lt (hC p hp)) (Nat.ne_of_lt (hD p hp)) (hw.old hp)⟩
    obtain ⟨a', b', t1', t2', o', e', xx', r'⟩ := hs6
    exact ⟨a', b', t1', t2', o', filt_mem e' (Nat.ne_of_lt (hC (S, oS5) hoS5)) (Nat.ne_of_lt (hD (S, oS5) hoS5)) (hw.oldA oS5 hoS5), xx', r'⟩
  intro D h7 tk7 n7 ys nn hD F7 N7 ho hlen hJ
  obtain ⟨⟨qs, hq1, hq2⟩, hs7, k7⟩ := hJ
  have y1 := k7 _ y1 fun _ => by simpa using hS2
  have y2 := k7 _ y2 fun _ => by simpa using hS1
  have fs7 := fs5.keep k7 hSF
  have hold : ∀ p ∈ news, (Chg p.2 → p.1 ∉ [S]) → p ∈ n7 := fun p hp q => k7 _ (hold p hp q) q
  have hDS : D ≠ S := Nat.ne_of_gt (hD _ hoS5)
  obtain ⟨oS7, hoS7⟩ : ∃ o, (S, o) ∈ n7 := let ⟨_, _, _, _, o, e, _, _⟩ := hs7; ⟨o, e⟩
  have hqs : qs.length = (1 + r1).toNat := hq1.len.symm.trans hlen
  have big : 1000 ≤ sizeLine := by decide
  k_steps
  refine Hold.out ?_
  refine mid_if (g := g') (L := L') (by assumption) (GSome w bx S R ML M cl n7) ?walk1 ?rest1
  case walk1 =>
    k_steps
    · exact MidS.intro (by assumption) (by assumption) ⟨D, _, nn, qs, bnd1_same rfl, .head _, hq1.imp fun v p q => q.tk (TK.of_sub fun p hp => .tail _ hp), hq2, by omega, fun e => absurd ((by assumption : cl = true).symm.trans e) (by decide), hDS, fun hm => let ⟨o, e⟩ := fs5.held _ hm; Nat.lt_irrefl _ (hD _ e), fun p hp => .tail _ hp⟩
    · refine Hold.out ?_
      refine' ListComp_fr (L := L') (h₀ := g') ?hclos ?hcell ?hkind ?hnames ?hx ?_
      case hclos => with_unfolding_all rfl
      case hcell => decide
      case hkind => with_unfolding_all rfl
      case hnames => decide
      case hx => with_unfolding_all rfl
      k_steps
      refine Hold.out ?_
      refine' compAt_list rfl (.head _) ⟨rfl, _, rfl⟩ (by omega) (by assumption) (by assumption) (JPair w ((D, listOf ys.toArray nn) :: n7) (fun _ _ _ => True) qs) ⟨.nil, fun p hp => hp⟩ ?step2 ?done2
      case step2 =>
        intro C D2 wr i v ys2 nn2 oC mC own news₁ h tk hC hD2 hw hi hlen2 hJ ho2 hown hns hmx F'' N''
        obtain ⟨p, hp, hpl⟩ := hq1.get hi
        obtain ⟨tp, tx, ty, rfl, hvt⟩ := id hpl
        k_steps
        have hj := JPair.next hw (by assumption) hC hD2 hns hJ hp (hpl.tk (TK.of_sub fun p hp => .tail _ hp)) (fun _ _ _ _ _ q => q) trivial
        exact CompEnd.filt (by assumption) (by assumption) hj.1 hj.2
      case done2 =>
        intro D2 h8 tk8 n8 ys2 nn2 hD2 F8 N8 ho8 hlen2 hJ
        obtain ⟨hj1, hj2⟩ := hJ
        rw [hlen, ← hqs, List.take_length] at hj1
        obtain ⟨es, he1, he2, he3⟩ := pairs_of hj1
        k_steps
        refine Hold.out ?_
        refine call_dictPairs rfl (Nat.le_of_ble_eq_true rfl) (by assumption) (by assumption) (by assumption) (.head _) (he1.imp fun v x ⟨t, k, e, q⟩ => ⟨t, k, e, .tail _ q⟩) (fun x hx => (he2 x hx).tk (TK.of_sub fun p hp => .tail _ hp)) (by rw [he3.len]; omega) ?_
        intro R2 o2 h9 tk9 hR2 F9 N9 hdic
        have nd2 := hdic.nodup
        have hst := st_mem (es := es) (P := fun k a => ∃ p ∈ placesOf bx, k = [p.1, p.2] ∧ PlIn w n8 (.ref a) p) (acc := []) (by simp) (fun x hx => let ⟨p, hp, e, q, _⟩ := he3.mem hx; ⟨p, hq2 p hp, e, q⟩)
        obtain ⟨qf, g1, g2, hqf⟩ := places_of hst
        have hqn := keys_back nd2 g1
        have gl := stEnt_len es []
        have gl2 := he3.len
        have gl3 := g1.len
        rw [List.length_nil] at gl
        k_steps
        refine Hold.out ?_
        refine list_dic rfl (by assumption) (by assumption) hdic (by omega) ?_
        intro D3 c3 h10 tk10 F10 N10 hlt10
        k_steps
        exact MidS.intro (by assumption) (by assumption) ⟨D3, _, c3, qf, rfl, .head _, g2.imp fun v p q => q.tk (TK.of_sub fun p hp => .tail _ (.tail _ (.tail _ hp))), hqf, by omega, fun _ => hqn, Nat.ne_of_gt (hlt10 (S, oS7) (.tail _ (.tail _ (hj2 _ (.tail _ hoS7))))), fun hm => let ⟨o, e⟩ := fs7.held _ hm; Nat.lt_irrefl _ (hlt10 _ (.tail _ (.tail _ (hj2 _ (.tail _ e))))), fun p hp => .tail _ (.tail _ (.tail _ (hj2 p (.tail _ hp))))⟩
  case rest1 =>
    intro h10 tk10 m10 nb F10 Nb hG
    obtain ⟨bD, us, kb, qf, rfl, hbD, hu, hqf, hul, hqn, hbDS, hbF, hbs⟩ := hG
    obtain ⟨oSb, hoSb⟩ : ∃ o, (S, o) ∈ nb := ⟨_, hbs _ hoS7⟩
    have yb1 := hbs _ y1
    have yb2 := hbs _ y2
    have fsb := fs7.sub hbs
    have hsb := hs7.sub hbs
    have holdb : ∀ p ∈ news, (Chg p.2 → p.1 ∉ [S]) → p ∈ nb := fun p hp q => hbs p (hold p hp q)
    have hul2 := hu.len
    k_steps
    refine Hold.out ?_
    refine' Assign_ListComp_fr (h₀ := g') ?hsw ?hclos ?hcell ?hkind ?hnames ?hx ?hy ?hp ?_
    case hsw => with_unfolding_all rfl
    case hclos => with_unfolding_all rfl
    case hcell => decide
    case hkind => with_unfolding_all rfl
    case hnames => decide
    case hx => with_unfolding_all rfl
    case hy => with_unfolding_all rfl
    case hp => with_unfolding_all rfl
    k_steps
    refine Hold.out ?_
    refine' compAt_list rfl hbD ⟨rfl, _, rfl⟩ (by omega) (by assumption) (by assumption) (JDeed w S nb qf) ⟨⟨[], .nil, rfl, by simp⟩, hsb, fun p hp _ => hp⟩ ?step3 ?done3
    case step3 =>
      intro C D2 wr i v ys3 nn3 oC mC own news₁ h tk hC hD2 hw hi hlen3 hJ ho3 hown hns hmx F'' N''
      obtain ⟨p, hp, hpl⟩ := hu.get hi
      obtain ⟨tp, tx, ty, rfl, hvt⟩ := id hpl
      have z1 := hJ.2.2 _ yb1 fun _ => by simpa using hS2
      have z2 := hJ.2.2 _ yb2 fun _ => by simpa using hS1
      k_steps
      refine Hold.out ?_
      refine' Ct.useN (by k_asm) (colour_ct (hJ.2.1.sub fun p hp => .tail _ (.tail _ (List.mem_append_right own hp)))) ?kB ?kF ?kX ?kT ?kA ?kf ?kk ?kh ?kd ?ku ?_
      walk_at "ct_useN"
      intro v' n11 h11 tk11 hP F11 N11
      obtain ⟨⟨cc, hcp, hcol⟩, hs11, k11⟩ := hP
      k_steps
      have hj := JDeed.next hw (by assumption) k11 hoSb (fun p hp => (hown p hp).elim (fun e => by rw [e]; exact hbDS) (fun f => Nat.ne_of_gt (f _ hoSb))) hC hD2 hns hJ hs11 hp hpl hcol hcp
      exact CompEnd.filt (by assumption) (by assumption) hj.1 hj.2
    case done3 =>
      intro D4 h12 tk12 n12 dv nd hD4 F12 N12 ho12 hlen12 hJ
      obtain ⟨⟨ds, hd1, hd2, hd3⟩, hs12, k12⟩ := hJ
      rw [hu.len, List.take_length] at hd2
      have yc1 := k12 _ yb1 fun _ => by simpa using hS2
      have yc2 := k12 _ yb2 fun _ => by simpa using hS1
      have fs12 := fsb.keep k12 hSF
      have hold12 : ∀ p ∈ news, (Chg p.2 → p.1 ∉ [S]) → p ∈ n12 := fun p hp q => k12 _ (holdb p hp q) q
      have hbD12 := k12 _ hbD fun _ => by simpa using hbDS
      obtain ⟨oS12, hoS12⟩ : ∃ o, (S, o) ∈ n12 := let ⟨_, _, _, _, o, e, _, _⟩ := hs12; ⟨o, e⟩
      have hu12 := hu.imp fun v p q => q.tk (TK.of_keeps k12)
      have hdl := hd1.len
      have hdl2 := congrArg List.length hd2
      rw [List.length_map] at hdl2
      k_steps
      refine Hold.out ?_
      refine len_led (by assumption) (.head _) ⟨rfl, _, rfl⟩ (by omega) ?_
      k_steps
      refine Hold.out ?_
      refine' Ct.useN (by k_asm) (take_ct (n := (dv.length : Int) + 1) (hs12.sub fun p hp => .tail _ hp) ⟨by omega, by omega⟩) ?kB ?kF ?kX ?kT ?kA ?kf ?kk ?kh ?kd ?ku ?_
      walk_at "ct_useN"
      intro v' n13 h13 tk13 hP F13 N13
      obtain ⟨⟨cut, t13, rfl, cut0, cut1⟩, hs13, k13⟩ := hP
      have hdD13 := k13 _ (.head _) fun _ => by simpa using Nat.ne_of_gt (hD4 (S, oSb) hoSb)
      replace k13 : Keeps [S] n12 n13 := fun p hp q => k13 p (.tail _ hp) q
      have fs13 := fs12.keep k13 hSF
      have hold13 : ∀ p ∈ news, (Chg p.2 → p.1 ∉ [S]) → p ∈ n13 := fun p hp q => k13 _ (hold12 p hp q) q
      have hbD13 := k13 _ hbD12 fun _ => by simpa using hbDS
      have hu13 := hu12.imp fun v p q => q.tk (TK.of_keeps k13)
      have hd13 := hd1.imp fun v d q => q.tk (TK.of_keeps k13)
      have hD4S : D4 ≠ S := Nat.ne_of_gt (hD4 (S, oSb) hoSb)
      k_steps
      refine Hold.out ?_
      refine mid_val (g := g') (L := L') (by assumption) (GDeep cl S n13) ?walk2 ?rest2
      case walk2 =>
        have yd1 := k13 _ yc1 fun _ => by simpa using hS2
        have yd2 := k13 _ yc2 fun _ => by simpa using hS1
        k_steps
        · refine Hold.out ?_
          refine' Ct.use (take_ct (n := 2) hs13 (by decide)) ?kB ?kF ?kX ?kN ?kT ?kA ?kf ?kk ?kh ?kd ?ku ?_
          walk_at "ct_use"
          intro v' n23 h23 tk23 hP F23 N23
          obtain ⟨⟨deep, t23, rfl, deep0, deep1⟩, hs23, k23⟩ := hP
          k_steps
          exact MidV.intro (by assumption) (by assumption) ⟨_, rfl, fun _ => (by assumption : cl = true), hs23, k23⟩
        · exact MidV.intro (by assumption) (by assumption) ⟨_, rfl, fun e => by simp_all, hs13, fun p hp _ => hp⟩
      case rest2 =>
        intro v h23 tk23 n13' F23 N13' hG
        obtain ⟨b, rfl, hbc, hs13', k23⟩ := hG
        replace fs13 := fs13.keep k23 hSF
        replace hold13 : ∀ p ∈ news, (Chg p.2 → p.1 ∉ [S]) → p ∈ n13' := fun p hp q => k23 _ (hold13 p hp q) q
        replace hbD13 := k23 _ hbD13 fun _ => by simpa using hbDS
        replace hu13 := hu13.imp fun v p q => q.tk (TK.of_keeps k23)
        replace hd13 := hd13.imp fun v d q => q.tk (TK.of_keeps k23)
        replace hdD13 := k23 _ hdD13 fun _ => by simpa using hD4S
        clear hS1 hS2 haS hDS hbDS hD4S
        replace hs13 := hs13'
        obtain ⟨c9, d9, K9, o9, nn9, e9, e9', g1, g2, ⟨hs9, k9, nd9, rfl⟩, g4, g5⟩ := id fs13.lay
        obtain rfl := Value.ref.inj e9
        k_steps
        refine Hold.out ?_
        refine' Ct.useN (by k_asm) (push_ct (vs := []) (fs13.sub fun p hp => .tail _ hp).lay (by simp) (fs13.sub fun p hp => .tail _ hp).can hb) ?kB ?kF ?kX ?kT ?kA ?kf ?kk ?kh ?kd ?ku ?_
        walk_at "ct_useN"
        intro v' n14 h14 tk14 hP F14 N14
        obtain ⟨rfl, M2, u2, hl14, hc14, hfM2', k14'⟩ := hP
        have hfM2 : Fresh M2 n13' := fun a ha p hp => hfM2' a ha p (.tail _ hp)
        have k14 : Keeps ML n13' n14 := fun p hp q => k14' p (.tail _ hp) q
        clear hfM2' k14' g1 g2 g4 g5 e9'
        have hdF : D4 ∉ R :: (ML ++ M) := fun hm => let ⟨o, e⟩ := fsb.held _ hm; Nat.lt_irrefl _ (hD4 _ e)
        have hSF2 : S ∉ R :: (ML ++ M) := fun hm => hSF S (.head _) ((List.mem_cons.mp hm).elim (fun e => e ▸ .head _) fun y => .tail _ (.tail _ y))
        obtain ⟨oS13, hoS13⟩ : ∃ o, (S, o) ∈ n13' := let ⟨_, _, _, _, o, e, _, _⟩ := hs13; ⟨o, e⟩
        have gd : GD S R bD D4 M M2 ML := ⟨hRM, fun hm => let ⟨o, e⟩ := fs13.held R (.head _); hfM2 _ hm _ e rfl, hRL, fun x hx hm => let ⟨o, e⟩ := fs13.held x (.tail _ (List.mem_append_right _ hx)); hfM2 _ hm _ e rfl, hML, fun x hx hm => let ⟨o, e⟩ := fs13.held x (.tail _ (List.mem_append_left _ hm)); hfM2 _ hx _ e rfl, off3 hSF2 fun hm => hfM2 _ hm _ hoS13 rfl, off3 hbF fun hm => hfM2 _ hm _ hbD13 rfl, off3 hdF fun hm => hfM2 _ hm _ hdD13 rfl⟩
        have gs14 : GS w n14 S uc u2 R bD D4 (.ref ly) M M2 ML bx f zf f us dv qf ds [.ref uc, .ref u2] := ⟨fs13.can.keep k14 hML, hc14, fs13.tab.keep k14 hRL, hl14, hs13.keep k14 fun hm => hSF2 (.tail _ (List.mem_append_left _ hm)), ⟨_, k14 _ hbD13 fun _ hm => hbF (.tail _ (List.mem_append_left _ hm))⟩, ⟨_, k14 _ hdD13 fun _ hm => hdF (.tail _ (List.mem_append_left _ hm))⟩, hu13.imp fun _ _ q => q.tk (TK.of_keeps k14), hd13.imp fun _ _ q => q.tk (TK.of_keeps k14)⟩
        have hfree2 : ∀ p ∈ news, p.1 ∉ R :: (ML ++ M ++ M2) := fun p hp => off3 (hfree p hp) fun hm => by
          by_cases e : p.1 = S
          · exact hfM2 _ hm _ hoS13 e.symm
          · exact hfM2 _ hm _ (hold13 p hp fun _ => by simpa using e) rfl
        have hold14 : ∀ p ∈ news, (Chg p.2 → p.1 ∉ [S]) → p ∈ n14 := fun p hp q => k14 _ (hold13 p hp q) fun _ hm => hfree p hp (.tail _ (List.mem_append_left _ hm))
        have hdp : ∀ d ∈ ds, d.1 ∈ placesOf bx ∧ d.2.Pm := fun d hd => ⟨hqf d.1 (by rw [← hd2]; exact List.mem_map_of_mem hd), hd3 d hd⟩
        obtain ⟨kd14, hdl14⟩ := gs14.deeds
        have hlD14 : LstO dv (listOf dv.toArray kd14) := ⟨rfl, _, rfl⟩
        k_steps
        refine Hold.out ?_
        refine' kms_slice_lit (zs := dv.take cut.toNat) (its := dv.toArray) (by assumption) N14 (hlD14.isList (N14 _ hdl14).1) .none (.int _ _) (slice_to cut0) ?hh (by with_unfolding_all rfl) (by intro _; with_unfolding_all rfl) (by rw [List.size_toArray]; omega)
        intro D5 h15 F15 N15 l15
        have hD5M : D5 ∉ M2 := fun hm => let ⟨o, e⟩ := hc14.held _ hm; Nat.lt_irrefl _ (l15 _ e)
        have hD5R : D5 ≠ R := fun e => by obtain ⟨_, ⟨_, o, e', _⟩, _⟩ := gs14.tab; exact Nat.lt_irrefl _ (by have := l15 _ e'; rw [← e] at this; exact this)
        have gs15 := gs14.sub fun p hp => (.tail _ hp : p ∈ (D5, listOf (dv.take cut.toNat).toArray 0) :: n14)
        k_steps
        refine Hold.out ?_
        refine' Ct.useN (by k_asm) (painted_ct (vs := [.ref uc]) (ds := ds.take cut.toNat) gs15.lay (by simp) gs15.can2 hb gs15.tab (.head _) (gs15.dv.take _) (fun d hd => hdp d (List.mem_of_mem_take hd)) (fun _ _ => zc_pm) hfp gd.m2l gd.rm2 gd.rl hD5M hD5R) ?kB ?kF ?kX ?kT ?kA ?kf ?kk ?kh ?kd ?ku ?_
        walk_at "ct_useN"
        intro v' n16 h16 tk16 hP F16 N16
        obtain ⟨rfl, hl16, hc16, ht16, k16⟩ := hP
        have gs16 := gs15.paint gd k16 hc16 ht16
        clear hD5R hD5M
        have hold16 : ∀ p ∈ news, (Chg p.2 → p.1 ∉ [S]) → p ∈ n16 := fun p hp q => k16 _ (.tail _ (hold14 p hp q)) fun _ hm => hfree2 p hp ((List.mem_cons.mp hm).elim (fun e => e ▸ .head _) fun y => .tail _ (List.mem_append_right _ y))
        obtain ⟨kb16, hbl16⟩ := gs16.some
        have hul3 := gs16.us.len
        k_steps
        refine Hold.out ?_
        refine' ListComp_fr (L := L') (h₀ := g') ?hclos ?hcell ?hkind ?hnames ?hx ?_
        case hclos => with_unfolding_all rfl
        case hcell => decide
        case hkind => with_unfolding_all rfl
        case hnames => decide
        case hx => with_unfolding_all rfl
        k_steps
        refine Hold.out ?_
        refine' compAt_list rfl hbl16 ⟨rfl, _, rfl⟩ (by omega) (by assumption) (by assumption) (JPair w n16 (fun _ _ _ => True) qf) ⟨.nil, fun p hp => hp⟩ ?step4 ?done4
        case step4 =>
          intro C D2 wr i v ys4 nn4 oC mC own news₁ h tk hC hD2 hw hi hlen4 hJ ho4 hown hns hmx F'' N''
          obtain ⟨p, hp, hpl⟩ := gs16.us.get hi
          obtain ⟨tp, tx, ty, rfl, hvt⟩ := id hpl
          k_steps
          have hj := JPair.next hw (by assumption) hC hD2 hns hJ hp hpl (fun _ _ _ _ _ q => q) trivial
          exact CompEnd.filt (by assumption) (by assumption) hj.1 hj.2
        case done4 =>
          intro D6 h17 tk17 n17 ys5 nn5 hD6 F17 N17 ho17 hlen17 hJ
          obtain ⟨hj3, hj4⟩ := hJ
          rw [gs16.us.len, List.take_length] at hj3
          obtain ⟨es2, hf1, hf2, hf3⟩ := pairs_of hj3
          have hel := stEnt_len es2 []
          have hel2 := hf3.len
          rw [List.length_nil] at hel
          k_steps
          refine Hold.out ?_
          refine call_dictPairs rfl (Nat.le_of_ble_eq_true rfl) (by assumption) (by assumption) (by assumption) (.head _) (hf1.imp fun v x ⟨t, k, e, q⟩ => ⟨t, k, e, .tail _ q⟩) (fun x hx => (hf2 x hx).tk (TK.of_sub fun p hp => .tail _ hp)) (by rw [hf3.len]; omega) ?_
          intro R3 o3 h18 tk18 hR3 F18 N18 hdic3
          obtain ⟨n18, N18', hs18, hdic4⟩ : ∃ n18, News g' L' h18 n18 ∧ (∀ p ∈ n16, p ∈ n18) ∧ DicIn w n18 R3 (es2.foldl stEnt []) := ⟨_, N18, fun p hp => .tail _ (.tail _ (hj4 p hp)), hdic3⟩
          have gs18 := gs16.sub hs18
          have hap : ((es2.foldl stEnt []).length : Int) = us.length → qf.Nodup := fun e => keys_back (st_all (acc := []) (by simp) (by rw [List.length_nil]; omega)) (hf3.imp fun _ _ q => q.1)
          obtain ⟨c9, d9, K9, o9, nn9, e9, e9', g1, g2, ⟨hs9, k9, nd9, rfl⟩, g4, g5⟩ := id gs18.lay
          obtain rfl := Value.ref.inj e9
          have hbl18 := hs18 _ hbl16
          k_steps
          refine Hold.out ?_
          refine len_dic (by assumption) hdic4 (by omega) ?_
          k_steps
          refine Hold.out ?_
          refine len_led (by assumption) hbl18 ⟨rfl, _, rfl⟩ (by omega) ?_
          have hold18 : ∀ p ∈ news, (Chg p.2 → p.1 ∉ [S]) → p ∈ n18 := fun p hp q => hs18 _ (hold16 p hp q)
          clear hold hold12 hold13 hold14 hold16 holdb hs4 hs5 hs7 hs12 fs4 fs5 fs7 fsb fs12 gs14 gs15 gs16 hfree hdD13 hbD13 hbD12 hbD hu hu12 hu13 hd13 hd1 hsub2 hsub3 hlay hpl hall hlt hiu hdu hiu2 hdu2 y1 y2 yb1 yb2 yc1 yc2 k1 k5 k7 k12 k13 k23 k14 hq1 hq2 hc ht
          k_steps
          refine Hold.out ?_
          refine mid_if (g := g') (L := L') (by assumption) (GPush w bx b (cut = 0 ∨ qf.Nodup) (.ref ly) uc u2 ML n18) ?walk3 ?rest3
          case walk3 =>
            k_steps
            · refine Hold.out ?_
              refine' Ct.use (push_ct (vs := [.ref uc]) gs18.lay (by simp) gs18.can2 hb) ?kB ?kF ?kX ?kN ?kT ?kA ?kf ?kk ?kh ?kd ?ku ?_
              walk_at "ct_use"
              intro v' n19 h19 tk19 hP F19 N19
              obtain ⟨rfl, M3, u3, hl19, hc19, hf19, k19⟩ := hP
              k_steps
              exact MidS.intro (by assumption) (by assumption) (.inr ⟨_, u3, M3, rfl, by assumption, .inl (by first | assumption | omega), hl19, hc19, hf19, k19⟩)
            · refine Hold.out ?_
              refine' Ct.use (push_ct (vs := [.ref uc]) gs18.lay (by simp) gs18.can2 hb) ?kB ?kF ?kX ?kN ?kT ?kA ?kf ?kk ?kh ?kd ?ku ?_
              walk_at "ct_use"
              intro v' n19 h19 tk19 hP F19 N19
              obtain ⟨rfl, M3, u3, hl19, hc19, hf19, k19⟩ := hP
              k_steps
              exact MidS.intro (by assumption) (by assumption) (.inr ⟨_, u3, M3, rfl, by assumption, .inr (hap (by first | assumption | exact eq_of_beq (by assumption))), hl19, hc19, hf19, k19⟩)
            · exact MidS.intro (by assumption) (by assumption) (.inl ⟨rfl, fun p hp => hp⟩)
            · exact MidS.intro (by assumption) (by assumption) (.inl ⟨rfl, fun p hp => hp⟩)
          case rest3 =>
            intro h19 tk19 m19 n19 F19 N19 hG
            have htk : ∀ d ∈ ds.take cut.toNat, d.2.Pm := fun d hd => (hdp d (List.mem_of_mem_take hd)).2
            have hdk : ∀ d ∈ ds.drop cut.toNat, d.2.Pm := fun d hd => (hdp d (List.mem_of_mem_drop hd)).2
            have hzf : ∀ x y, (zf x y).Pm := fun _ _ => zc_pm
            rcases hG with ⟨rfl, hs19⟩ | ⟨td2, u3, M3, rfl, hb1, hC, hl19, hc19, hf19, k19⟩
            · have gs19 := gs18.sub hs19
              have hold19 : ∀ p ∈ news, (Chg p.2 → p.1 ∉ [S]) → p ∈ n19 := fun p hp q => hs19 _ (hold18 p hp q)
              clear hSL hl hs1 hfr hSn hfL kc4 hSF hr4 hr5 hr6 hlw hlo r1a r1b y1 y2 hold hla5 hoS5 hD F7 N7 ho hlen hoS7 hqs hqf hbF hbs hoSb hsb hul2 hD4 F12 N12 ho12 hlen12 hd3 hoS12 F13 N13 hbc hs13' fs13 hs13 hl14 hc14 hfM2 hdF hSF2 hoS13 hdl14 hlD14 l15 hl16 hc16 ht16 k16 hbl16 hul3 hD6 ho17 hlen17 hj3 hj4 hf1 hf2 hf3 hel hel2 hR3 hdic3 hs18 hdic4 gs18 hap hbl18 hold18 e9' g1 g2 g4 g5 hML hRL hRM hs19
              rename_i Fz Nz
              clear Fz Nz
              obtain ⟨c9, d9, K9, o9, nn9, e9, e9', g1, g2, ⟨hs9, k9, nd9, rfl⟩, g4, g5⟩ := id gs19.lay
              obtain rfl := Value.ref.inj e9
              k_steps
              refine Hold.out ?_
              refine' Ct.use (depth_ct gs19.lay (by simp)) ?kB ?kF ?kX ?kN ?kT ?kA ?kf ?kk ?kh ?kd ?ku ?_
              walk_at "ct_use"
              intro v' n20 h20 tk20 hP F20 N20
              obtain ⟨⟨td, ev⟩, rfl⟩ := hP
              obtain rfl : v' = .int 1 td := ev
              k_steps
              refine Hold.out ?_
              obtain ⟨kd19, hdl19⟩ := gs19.deeds
              have hlD19 : LstO dv (listOf dv.toArray kd19) := ⟨rfl, _, rfl⟩
              refine' kms_slice_lit (zs := dv.drop cut.toNat) (its := dv.toArray) (by assumption) N20 (hlD19.isList (N20 _ hdl19).1) (.int _ _) .none (slice_from cut0) ?hh2 (by with_unfolding_all rfl) (by intro _; with_unfolding_all rfl) (by rw [List.size_toArray]; omega)
              intro D7 h21 F21 N21 l21
              have hD7M : D7 ∉ M2 := fun hm => let ⟨o, e⟩ := gs19.can2.held _ hm; Nat.lt_irrefl _ (l21 _ e)
              have hD7R : D7 ≠ R := fun e => by obtain ⟨_, ⟨_, o, e', _⟩, _⟩ := gs19.tab; exact Nat.lt_irrefl _ (by have := l21 _ e'; rw [← e] at this; exact this)
              have gs21 := gs19.sub fun p hp => (.tail _ hp : p ∈ (D7, listOf (dv.drop cut.toNat).toArray 0) :: n20)
              k_steps
              refine Hold.out ?_
              refine' Ct.useN (by k_asm) (painted_ct (vs := [.ref uc]) (ds := ds.drop cut.toNat) gs21.lay (by simp) gs21.can2 hb gs21.tab (.head _) (gs21.dv.drop _) (fun d hd => hdp d (List.mem_of_mem_drop hd)) (paint_pm hzf htk) (paint_pm hfp htk) gd.m2l gd.rm2 gd.rl hD7M hD7R) ?kB ?kF ?kX ?kT ?kA ?kf ?kk ?kh ?kd ?ku ?_
              walk_at "ct_useN"
              intro v' n22 h22 tk22 hP F22 N22
              obtain ⟨rfl, hl22, hc22, ht22, k22⟩ := hP
              have gs22 := gs21.paint gd k22 hc22 ht22
              clear hD7R hD7M
              have hold22 : ∀ p ∈ news, (Chg p.2 → p.1 ∉ [S]) → p ∈ n22 := fun p hp q => k22 _ (.tail _ (hold19 p hp q)) fun _ hm => hfree2 p hp ((List.mem_cons.mp hm).elim (fun e => e ▸ .head _) fun y => .tail _ (List.mem_append_right _ y))
              clear g1 g2 g4 g5 e9'
              obtain ⟨c9, d9, K9, o9, nn9, e9, e9', g1, g2, ⟨hs9, k9, nd9, rfl⟩, g4, g5⟩ := id gs22.lay
              obtain rfl := Value.ref.inj e9
              k_steps
              refine Hold.out ?_
              refine whl_start 5 ?_
              k_steps
              refine Hold.out ?_
              refine' Ct.use (depth_ct gs22.lay (by simp)) ?kB ?kF ?kX ?kN ?kT ?kA ?kf ?kk ?kh ?kd ?ku ?_
              walk_at "ct_use"
              intro v' n23 h23 tk23 hP F23 N23
              obtain ⟨⟨td, ev⟩, rfl⟩ := hP
              obtain rfl : v' = .int 1 td := ev
              k_steps
              refine Hold.out ?_
              refine' Ct.use (pop0_ct (vs := []) (md := .normal) (op := 255) gs22.lay (by simp) gs22.can gs22.can2 hb (by decide) (fun x y => (paint_pm (paint_pm hzf htk) hdk x y).ok) (fun x y => (hfp x y).ok) gd.mm2.symm gd.m2l gd.ml) ?kB ?kF ?kX ?kN ?kT ?kA ?kf ?kk ?kh ?kd ?ku ?_
              walk_at "ct_use"
              intro v' n24 h24 tk24 hP F24 N24
              obtain ⟨rfl, hl24, hc24, k24⟩ := hP
              have hM24 : ∀ x, x ∉ R :: (ML ++ M ++ M2) → x ∉ ML ++ M := fun x h hm => h (.tail _ (List.mem_append_left _ hm))
              have hold24 : ∀ p ∈ news, (Chg p.2 → p.1 ∉ [S]) → p ∈ n24 := fun p hp q => k24 _ (hold22 p hp q) fun _ => hM24 _ (hfree2 p hp)
              have hs24 := gs22.src.keep k24 (hM24 _ gd.s)
              have ht24 := gs22.tab.keep k24 fun hm => (List.mem_append.mp hm).elim gd.rl gd.rm
              clear g1 g2 g4 g5 e9'
              obtain ⟨c9, d9, K9, o9, nn9, e9, e9', g1, g2, ⟨hs9, k9, nd9, rfl⟩, g4, g5⟩ := id hl24
              obtain rfl := Value.ref.inj e9
              k_steps
              refine Hold.out ?_
              refine' Ct.use (depth_ct hl24 (by simp)) ?kB ?kF ?kX ?kN ?kT ?kA ?kf ?kk ?kh ?kd ?ku ?_
              walk_at "ct_use"
              intro v' n25 h25 tk25 hP F25 N25
              obtain ⟨⟨td, ev⟩, rfl⟩ := hP
              obtain rfl : v' = .int 0 td := ev
              k_steps
              refine Hold.out ?_
              refine' Ct.use (told_ct hc24 hb) ?kB ?kF ?kX ?kN ?kT ?kA ?kf ?kk ?kh ?kd ?ku ?_
              walk_at "ct_use"
              intro v' n26 h26 tk26 hP F26 N26
              obtain ⟨R5, rfl, ht26, hs26⟩ := hP
              k_steps
              refine Hold.out ?_
              refine tab_eq (by assumption) (by assumption) (by assumption) (ht26.congr (full1 (?hq : f = zf ∨ (ds.map (·.1)).Nodup))) (ht24.sub hs26) (Nat.le_of_ble_eq_true rfl) ?_
              case hq =>
                cases hcl : cl with
                | true => exact .inl (hfz hcl)
                | false => exact .inr (by rw [hd2]; exact hqn hcl)
              k_steps
              exact hret _ _ _ _ ⟨rfl, hs24.sub hs26, fun p hp q => hs26 _ (hold24 p hp q)⟩ (by assumption) (by assumption)
            · have hcl : cl = true := hbc hb1
              have h3 : ∀ x, (∃ o, (x, o) ∈ n18) → x ∉ M3 := fun x ⟨o, e⟩ hm => hf19 _ hm _ e rfl
              have gd3 : GD S R bD D4 M M3 ML := ⟨gd.rm, h3 _ (let ⟨_, ⟨_, o, e, _⟩, _⟩ := gs18.tab; ⟨o, e⟩), gd.rl, fun x hx => h3 x (gs18.can.held x hx), gd.ml, fun x hx hm => h3 x (gs18.lay.held x hm) hx, off3 (fun q => gd.s ((List.mem_cons.mp q).elim (fun e => e ▸ .head _) fun y => .tail _ (List.mem_append_left _ y))) (h3 _ (let ⟨_, _, _, _, o, e, _, _⟩ := gs18.src; ⟨o, e⟩)), off3 (fun q => gd.b ((List.mem_cons.mp q).elim (fun e => e ▸ .head _) fun y => .tail _ (List.mem_append_left _ y))) (h3 _ (let ⟨_, e⟩ := gs18.some; ⟨_, e⟩)), off3 (fun q => gd.d ((List.mem_cons.mp q).elim (fun e => e ▸ .head _) fun y => .tail _ (List.mem_append_left _ y))) (h3 _ (let ⟨_, e⟩ := gs18.deeds; ⟨_, e⟩))⟩
              have h23 : Apart M2 M3 := fun x hx => h3 x (gs18.can2.held x hx)
              have offL : ∀ x, x ∉ R :: (ML ++ M ++ M2) → x ∉ ML := fun x h hm => h (.tail _ (List.mem_append_left _ (List.mem_append_left _ hm)))
              have gs19 : GS w n19 S uc u3 R bD D4 (.ref ly) M M3 ML bx f zf (paint (ds.take cut.toNat) f) us dv qf ds [.ref uc, .ref u2, .ref u3] := ⟨gs18.can.keep k19 gd.ml, hc19, gs18.tab.keep k19 gd.rl, hl19, gs18.src.keep k19 (offL _ gd.s), let ⟨_, e⟩ := gs18.some; ⟨_, k19 _ e fun _ => offL _ gd.b⟩, let ⟨_, e⟩ := gs18.deeds; ⟨_, k19 _ e fun _ => offL _ gd.d⟩, gs18.us.imp fun _ _ q => q.tk (TK.of_keeps k19), gs18.dv.imp fun _ _ q => q.tk (TK.of_keeps k19)⟩
              have hd19 := gs18.can2.keep k19 gd.m2l
              have hfree3 : ∀ p ∈ news, p.1 ∉ R :: (ML ++ M ++ M3) := fun p hp => off3 (fun q => hfree2 p hp ((List.mem_cons.mp q).elim (fun e => e ▸ .head _) fun y => .tail _ (List.mem_append_left _ y))) fun hm => by
                by_cases e : p.1 = S
                · exact h3 S (let ⟨_, _, _, _, o, e, _, _⟩ := gs18.src; ⟨o, e⟩) (e ▸ hm)
                · exact h3 _ ⟨_, hold18 p hp fun _ => by simpa using e⟩ hm
              have hold19 : ∀ p ∈ news, (Chg p.2 → p.1 ∉ [S]) → p ∈ n19 := fun p hp q => k19 _ (hold18 p hp q) fun _ => offL _ (hfree2 p hp)
              clear hSL hl hs1 hfr hSn hfL kc4 hSF hr4 hr5 hr6 hlw hlo r1a r1b hold hla5 hoS5 hD F7 N7 ho hlen hoS7 hqs hqf hbF hbs hoSb hsb hul2 hD4 F12 N12 ho12 hlen12 hd3 hoS12 F13 N13 hbc hs13' fs13 hs13 hl14 hc14 hfM2 hdF hSF2 hoS13 hdl14 hlD14 l15 hl16 hc16 ht16 k16 hbl16 hul3 hD6 ho17 hlen17 hj3 hj4 hf1 hf2 hf3 hel hel2 hR3 hdic3 hs18 hdic4 gs18 hap hbl18 hold18 e9' g1 g2 g4 g5 hML hRL hRM h3 hf19 hl19 hc19 k19
              rename_i Fz Nz
              clear Fz Nz
              obtain ⟨c9, d9, K9, o9, nn9, e9, e9', g1, g2, ⟨hs9, k9, nd9, rfl⟩, g4, g5⟩ := id gs19.lay
              obtain rfl := Value.ref.inj e9
              k_steps
              refine Hold.out ?_
              refine' Ct.use (depth_ct gs19.lay (by simp)) ?kB ?kF ?kX ?kN ?kT ?kA ?kf ?kk ?kh ?kd ?ku ?_
              walk_at "ct_use"
              intro v' n20 h20 tk20 hP F20 N20
              obtain ⟨⟨td, ev⟩, rfl⟩ := hP
              obtain rfl : v' = .int 2 td := ev
              k_steps
              refine Hold.out ?_
              obtain ⟨kd19, hdl19⟩ := gs19.deeds
              have hlD19 : LstO dv (listOf dv.toArray kd19) := ⟨rfl, _, rfl⟩
              refine' kms_slice_lit (zs := dv.drop cut.toNat) (its := dv.toArray) (by assumption) N20 (hlD19.isList (N20 _ hdl19).1) (.int _ _) .none (slice_from cut0) ?hh5 (by with_unfolding_all rfl) (by intro _; with_unfolding_all rfl) (by rw [List.size_toArray]; omega)
              intro D7 h21 F21 N21 l21
              have hD7M : D7 ∉ M3 := fun hm => let ⟨o, e⟩ := gs19.can2.held _ hm; Nat.lt_irrefl _ (l21 _ e)
              have hD7R : D7 ≠ R := fun e => by obtain ⟨_, ⟨_, o, e', _⟩, _⟩ := gs19.tab; exact Nat.lt_irrefl _ (by have := l21 _ e'; rw [← e] at this; exact this)
              have gs21 := gs19.sub fun p hp => (.tail _ hp : p ∈ (D7, listOf (dv.drop cut.toNat).toArray 0) :: n20)
              have hd21 := hd19.sub fun p hp => (.tail _ hp : p ∈ (D7, listOf (dv.drop cut.toNat).toArray 0) :: n20)
              k_steps
              refine Hold.out ?_
              refine' Ct.useN (by k_asm) (painted_ct (vs := [.ref uc, .ref u2]) (ds := ds.drop cut.toNat) gs21.lay (by simp) gs21.can2 hb gs21.tab (.head _) (gs21.dv.drop _) (fun d hd => hdp d (List.mem_of_mem_drop hd)) hzf (paint_pm hfp htk) gd3.m2l gd3.rm2 gd3.rl hD7M hD7R) ?kB ?kF ?kX ?kT ?kA ?kf ?kk ?kh ?kd ?ku ?_
              walk_at "ct_useN"
              intro v' n22 h22 tk22 hP F22 N22
              obtain ⟨rfl, hl22, hc22, ht22, k22⟩ := hP
              have gs22 := gs21.paint gd3 k22 hc22 ht22
              have hd22 := hd21.keep k22 fun x hx q => (List.mem_cons.mp q).elim (fun e => gd.rm2 (e ▸ hx)) fun y => h23 x hx y
              clear hD7R hD7M gs19 gs21 hd19 hd21
              have hold22 : ∀ p ∈ news, (Chg p.2 → p.1 ∉ [S]) → p ∈ n22 := fun p hp q => k22 _ (.tail _ (hold19 p hp q)) fun _ hm => hfree3 p hp ((List.mem_cons.mp hm).elim (fun e => e ▸ .head _) fun y => .tail _ (List.mem_append_right _ y))
              clear g1 g2 g4 g5 e9'
              obtain ⟨c9, d9, K9, o9, nn9, e9, e9', g1, g2, ⟨hs9, k9, nd9, rfl⟩, g4, g5⟩ := id gs22.lay
              obtain rfl := Value.ref.inj e9
              k_steps
              refine Hold.out ?_
              refine whl_start 5 ?_
              k_steps
              refine Hold.out ?_
              refine' Ct.use (depth_ct gs22.lay (by simp)) ?kB ?kF ?kX ?kN ?kT ?kA ?kf ?kk ?kh ?kd ?ku ?_
              walk_at "ct_use"
              intro v' n23 h23' tk23 hP F23 N23
              obtain ⟨⟨td, ev⟩, rfl⟩ := hP
              obtain rfl : v' = .int 2 td := ev
              k_steps
              refine Hold.out ?_
              refine' Ct.use (pop0_ct (vs := [.ref uc]) (md := .normal) (op := 255) gs22.lay (by simp) hd22 gs22.can2 hb (by decide) (fun x y => (paint_pm hzf hdk x y).ok) (fun x y => (paint_pm hzf htk x y).ok) (fun x hx hm => h23 x hm hx) gd3.m2l gd.m2l) ?kB ?kF ?kX ?kN ?kT ?kA ?kf ?kk ?kh ?kd ?ku ?_
              walk_at "ct_use"
              intro v' n24 h24 tk24 hP F24 N24
              obtain ⟨rfl, hl24, hc24, k24⟩ := hP
              have hM24 : ∀ x, x ∉ R :: (ML ++ M ++ M2) → x ∉ ML ++ M2 := fun x h hm => h (.tail _ ((List.mem_append.mp hm).elim (fun y => List.mem_append_left _ (List.mem_append_left _ y)) fun y => List.mem_append_right _ y))
              have hold24 : ∀ p ∈ news, (Chg p.2 → p.1 ∉ [S]) → p ∈ n24 := fun p hp q => k24 _ (hold22 p hp q) fun _ => hM24 _ (hfree2 p hp)
              have hs24 := gs22.src.keep k24 (hM24 _ gd.s)
              have ht24 := gs22.tab.keep k24 fun hm => (List.mem_append.mp hm).elim gd.rl gd.rm2
              have hu24 := gs22.can.keep k24 fun x hx hm => (List.mem_append.mp hm).elim (gd.ml x hx) (gd.mm2 x hx)
              clear g1 g2 g4 g5 e9' gs22 hd22
              obtain ⟨c9, d9, K9, o9, nn9, e9, e9', g1, g2, ⟨hs9, k9, nd9, rfl⟩, g4, g5⟩ := id hl24
              obtain rfl := Value.ref.inj e9
              k_steps
              refine Hold.out ?_
              refine' Ct.use (depth_ct hl24 (by simp)) ?kB ?kF ?kX ?kN ?kT ?kA ?kf ?kk ?kh ?kd ?ku ?_
              walk_at "ct_use"
              intro v' n25 h25 tk25 hP F25 N25
              obtain ⟨⟨td, ev⟩, rfl⟩ := hP
              obtain rfl : v' = .int 1 td := ev
              k_steps
              refine Hold.out ?_
              refine' Ct.use (pop0_ct (vs := []) (md := .normal) (op := 255) hl24 (by simp) hu24 hc24 hb (by decide) (fun x y => (pop_pm (paint_pm hzf hdk) (paint_pm hzf htk) x y).ok) (fun x y => (hfp x y).ok) gd.mm2.symm gd.m2l gd.ml) ?kB ?kF ?kX ?kN ?kT ?kA ?kf ?kk ?kh ?kd ?ku ?_
              walk_at "ct_use"
              intro v' n26 h26 tk26 hP F26 N26
              obtain ⟨rfl, hl26, hc26, k26⟩ := hP
              have hM26 : ∀ x, x ∉ R :: (ML ++ M ++ M2) → x ∉ ML ++ M := fun x h hm => h (.tail _ (List.mem_append_left _ hm))
              have hold26 : ∀ p ∈ news, (Chg p.2 → p.1 ∉ [S]) → p ∈ n26 := fun p hp q => k26 _ (hold24 p hp q) fun _ => hM26 _ (hfree2 p hp)
              have hs26 := hs24.keep k26 (hM26 _ gd.s)
              have ht26 := ht24.keep k26 fun hm => (List.mem_append.mp hm).elim gd.rl gd.rm
              clear g1 g2 g4 g5 e9' hl24 hu24 hc24
              obtain ⟨c9, d9, K9, o9, nn9, e9, e9', g1, g2, ⟨hs9, k9, nd9, rfl⟩, g4, g5⟩ := id hl26
              obtain rfl := Value.ref.inj e9
              k_steps
              refine Hold.out ?_
              refine' Ct.use (depth_ct hl26 (by simp)) ?kB ?kF ?kX ?kN ?kT ?kA ?kf ?kk ?kh ?kd ?ku ?_
              walk_at "ct_use"
              intro v' n27 h27 tk27 hP F27 N27
              obtain ⟨⟨td, ev⟩, rfl⟩ := hP
              obtain rfl : v' = .int 0 td := ev
              k_steps
              refine Hold.out ?_
              refine' Ct.use (told_ct hc26 hb) ?kB ?kF ?kX ?kN ?kT ?kA ?kf ?kk ?kh ?kd ?ku ?_
              walk_at "ct_use"
              intro v' n28 h28 tk28 hP F28 N28
              obtain ⟨R5, rfl, ht28, hs28⟩ := hP
              obtain rfl := hfz hcl
              k_steps
              refine Hold.out ?_
              refine tab_eq (by assumption) (by assumption) (by assumption) (ht28.congr (full2 (?hq5 : cut.toNat = 0 ∨ (ds.map (·.1)).Nodup))) (ht26.sub hs28) (Nat.le_of_ble_eq_true rfl) ?_
              case hq5 =>
                rcases hC with hC | hC
                · exact .inl (by rw [hC]; rfl)
                · exact .inr (by rw [hd2]; exact hC)
              k_steps
              exact hret _ _ _ _ ⟨rfl, hs26.sub hs28, fun p hp q => hs28 _ (hold26 p hp q)⟩ (by assumption) (by assumption)
end
section
set_option maxHeartbeats 8000000
theorem KeyIn.pl {w : World} {n : Led} {a : Addr} {p : Int × Int} (T : KeyIn w n [p.1, p.2] a) : PlIn w n (.ref a) p := by
  obtain ⟨vs, h, x⟩ := T
  cases h with
  | cons _ t1 h =>
    cases h with
    | cons _ t2 h =>
      cases h with
      | nil => exact ⟨a, t1, t2, rfl, x⟩
theorem kc_head {h₀ h : Heap} {L a : Addr} {x : Obj} {n : Led} (N : News h₀ L h n) (hx : (a, x) ∈ n) (cx : CellO x) : KC n (n.filter fun p => p.1 != a) := fun p hp q => List.mem_filter.mpr ⟨hp, by
  have : p.1 ≠ a := fun e => q (by rw [news_same N (show (a, p.2) ∈ n by rw [← e]; exact hp) hx]; exact cx)
  simpa using this⟩
theorem LayIn.kc {n n' : Led} {ly : Value} {ML : List Addr} {vs : List Value} (T : LayIn n ly ML vs) (k : KC n n') : LayIn n' ly ML vs :=
  let ⟨c, d, K, o, m, e1, e2, h1, h2, h3, h4, h5⟩ := T; ⟨c, d, K, o, m, e1, e2, k _ h1 no_cell_inst, k _ h2 (by obtain ⟨_, _, _, rfl⟩ := h3; exact no_cell_dict rfl), h3, k _ h4 (no_cell_seq rfl), h5⟩
/-- a group over a canvas -/
structure WG (w : World) (n : Led) (uc u2 R : Addr) (ly : Value) (M M2 ML : List Addr) (bx : Box) (f f2 : Int → Int → Col) (vs : List Value) : Prop where
  can : CanIn w n (.ref uc) M bx f
  can2 : CanIn w n (.ref u2) M2 bx f2
  tab : TabIn w n R (placesOf bx) f
  lay : LayIn n ly ML vs
structure WD (R : Addr) (M M2 ML : List Addr) : Prop where
  rm : R ∉ M
  rm2 : R ∉ M2
  rl : R ∉ ML
  mm2 : Apart M M2
  ml : Apart M ML
  m2l : Apart M2 ML
variable {w : World} {n n' : Led} {uc u2 R : Addr} {ly : Value} {M M2 ML M' : List Addr} {bx : Box} {f f2 f2' : Int → Int → Col} {vs : List Value}
theorem WG.keep (T : WG w n uc u2 R ly M M2 ML bx f f2 vs) (k : Keeps M' n n') (h : ∀ x ∈ M', x ∉ R :: (ML ++ M ++ M2)) : WG w n' uc u2 R ly M M2 ML bx f f2 vs where
  can := T.can.keep k fun x hx q => h x q (.tail _ (List.mem_append_left _ (List.mem_append_right _ hx)))
  can2 := T.can2.keep k fun x hx q => h x q (.tail _ (List.mem_append_right _ hx))
  tab := T.tab.keep k fun q => h _ q (.head _)
  lay := T.lay.keep k fun x hx q => h x q (.tail _ (List.mem_append_left _ (List.mem_append_left _ hx)))
theorem WG.sub (T : WG w n uc u2 R ly M M2 ML bx f f2 vs) (k : ∀ p ∈ n, p ∈ n') : WG w n' uc u2 R ly M M2 ML bx f f2 vs := T.keep (M' := []) (Keeps.of_sub k) fun _ h => nomatch h
theorem WG.kc (T : WG w n uc u2 R ly M M2 ML bx f f2 vs) (k : KC n n') : WG w n' uc u2 R ly M M2 ML bx f f2 vs := ⟨T.can.kc k, T.can2.kc k, T.tab.kc k, T.lay.kc k⟩
theorem WG.held (T : WG w n uc u2 R ly M M2 ML bx f f2 vs) : ∀ x ∈ R :: (ML ++ M ++ M2), ∃ o, (x, o) ∈ n := fun x hx => by
  rcases List.mem_cons.mp hx with rfl | hx
  · obtain ⟨_, ⟨_, o, e, _⟩, _⟩ := T.tab; exact ⟨o, e⟩
  rcases List.mem_append.mp hx with hx | hx
  · rcases List.mem_append.mp hx with hx | hx
    · exact T.lay.held x hx
    · exact T.can.held x hx
  · exact T.can2.held x hx
theorem WG.paint {R2 : Addr} (T : WG w n uc u2 R ly M M2 ML bx f f2 vs) (D : WD R M M2 ML) (hR : R2 ∉ R :: (ML ++ M ++ M2)) (k : Keeps (R2 :: M2) n n') (h1 : CanIn w n' (.ref u2) M2 bx f2') : WG w n' uc u2 R ly M M2 ML bx f f2' vs where
  can := T.can.keep k fun x hx q => (List.mem_cons.mp q).elim (fun e => hR (e ▸ .tail _ (List.mem_append_left _ (List.mem_append_right _ hx)))) fun y => D.mm2 x hx y
  can2 := h1
  tab := T.tab.keep k fun q => (List.mem_cons.mp q).elim (fun e => hR (e ▸ .head _)) D.rm2
  lay := T.lay.keep k fun x hx q => (List.mem_cons.mp q).elim (fun e => hR (e ▸ .tail _ (List.mem_append_left _ (List.mem_append_left _ hx)))) fun y => D.m2l x y hx
theorem tab_not_chg {ps : Array Value} : ¬ Chg (tabObj ps) := fun c => by rcases c with c | c <;> cases c
theorem DicIn.keyOf {w : World} {n : Led} {R : Addr} {xs : List Ent} {e : Ent} {i : Nat} (T : DicIn w n R xs) (h : xs[i]? = some e) : KeyIn w n e.1 e.2.1 := let ⟨_, _, _, _, k⟩ := T; k _ (List.mem_of_getElem? h)
end
section
set_option maxHeartbeats 8000000
theorem dm_0 (c : Col) : dm c 0 = zc := by
  unfold dm wt zc
  simp
theorem bl_zc {md : Mode} {d : Col} : bl md zc d = d := by
  have h : ∀ u b : Int, bp md 0 0 u b = u := fun u b => by
    cases md <;> unfold bp inn <;> dsimp only
    · rw [Int.zero_mul, Int.zero_mul]; omega
    · rw [Int.zero_mul, Int.zero_mul]; omega
    · rw [Int.zero_mul, Int.zero_mul, Int.mul_zero]; omega
    · rw [Int.zero_mul, Int.zero_mul, Int.mul_zero, if_neg (by decide)]; omega
  unfold bl
  show Col.mk (bp md 0 0 d.r d.a) (bp md 0 0 d.g d.a) (bp md 0 0 d.b d.a) (mx 0 255 d.a (255 - 0)) = d
  rw [h, h, h]
  unfold mx
  have : (2 * (0 * 255 + d.a * (255 - 0)) + 255) / 510 = d.a := by omega
  rw [this]
theorem VTup.same_ne {prog : Program} {w : World} {A : Around} {E : Value → Shared → Prop} {s : Shared} {h₀ : Heap} {L : Addr} {m : Str → Option Value} {news : Led} {a b : Addr} {c : Col} {Q : Value → Shared → Prop} (F : Fr h₀ L s.heap m) (X : (hd.heap_1 w.params).In h₀) (N : News h₀ L s.heap news) (T : ColIn w news (.ref a) c) (U : ColIn w news (.ref b) c) (hu : A.units < cLine) (h : Q (.bool false) s) :
    wpAny (model prog w) A (compareOp .NotEq (.ref a) (.ref b)) Q E s := by
  obtain ⟨a', t1, t2, t3, t4, e, T⟩ := T
  obtain rfl := Value.ref.inj e
  obtain ⟨b', u1, u2, u3, u4, e, U⟩ := U
  obtain rfl := Value.ref.inj e
  refine PySem.SeqAt.RcNeAt.tuples (e := fun _ => true) (T.tuple F X N) (U.tuple F X N) hu (fun j h1 h2 => ?_) prog w E Q h
  have q : ∀ (x : Int) (t u : Tok), PySem.SeqAt.EqAt A.in1 s (.int x t) (.int x u) true := fun x t u => by
    have := PySem.SeqAt.EqAt.int_int (A := A.in1) (s := s) x t x u
    rwa [beq_self_eq_true] at this
  match j, h1, h2 with
  | 0, _, _ => exact q _ _ _
  | 1, _, _ => exact q _ _ _
  | 2, _, _ => exact q _ _ _
  | 3, _, _ => exact q _ _ _
theorem get4 {a b c d v : Value} {i : Nat} (h : [a, b, c, d][i]? = some v) : v = a ∨ v = b ∨ v = c ∨ v = d := by
  match i, h with
  | 0, h => exact .inl (Option.some.inj h).symm
  | 1, h => exact .inr (.inl (Option.some.inj h).symm)
  | 2, h => exact .inr (.inr (.inl (Option.some.inj h).symm))
  | 3, h => exact .inr (.inr (.inr (Option.some.inj h).symm))
theorem get3 {a b c v : Value} {i : Nat} (h : [a, b, c][i]? = some v) : v = a ∨ v = b ∨ v = c := by
  match i, h with
  | 0, h => exact .inl (Option.some.inj h).symm
  | 1, h => exact .inr (.inl (Option.some.inj h).symm)
  | 2, h => exact .inr (.inr (Option.some.inj h).symm)
theorem ops_of {t1 t2 t3 t4 : Tok} {v : Value} (h : ∃ i : Nat, [Value.int 0 t1, .int 1 t2, .int 100 t3, .int 255 t4][i]? = some v) : ∃ op t, v = .int op t ∧ 0 ≤ op ∧ op ≤ 255 := by
  obtain ⟨i, h⟩ := h
  rcases get4 h with rfl | rfl | rfl | rfl
  · exact ⟨_, _, rfl, by decide⟩
  · exact ⟨_, _, rfl, by decide⟩
  · exact ⟨_, _, rfl, by decide⟩
  · exact ⟨_, _, rfl, by decide⟩
theorem few_of {t1 t2 t3 : Tok} {v : Value} (h : ∃ i : Nat, [Value.int 0 t1, .int 90 t2, .int 255 t3][i]? = some v) : ∃ op t, v = .int op t ∧ 0 ≤ op ∧ op ≤ 255 := by
  obtain ⟨i, h⟩ := h
  rcases get3 h with rfl | rfl | rfl
  · exact ⟨_, _, rfl, by decide⟩
  · exact ⟨_, _, rfl, by decide⟩
  · exact ⟨_, _, rfl, by decide⟩
theorem modes_of {t1 t2 t3 t4 : Tok} {v : Value} (h : ∃ i : Nat, [Value.str "normal" t1, .str "multiply" t2, .str "screen" t3, .str "difference" t4][i]? = some v) : ∃ (md : Mode) (t : Tok), v = .str md.name t := by
  obtain ⟨i, h⟩ := h
  rcases get4 h with rfl | rfl | rfl | rfl
  · exact ⟨.normal, _, rfl⟩
  · exact ⟨.multiply, _, rfl⟩
  · exact ⟨.screen, _, rfl⟩
  · exact ⟨.difference, _, rfl⟩
end
section
set_option maxHeartbeats 8000000
local macro_rules | `(tactic| walk_at "call ref") => `(tactic| (k_here; refine Hold.of ?_))
local macro_rules | `(tactic| walk_at "call type:dict") => `(tactic| (k_here; refine Hold.of ?_))
local macro_rules | `(tactic| walk_at "subscriptTail Name Slice ref ref") => `(tactic| (k_here; refine Hold.of ?_))
local macro_rules | `(tactic| walk_at "subscriptTail Call Slice ref ref") => `(tactic| (k_here; refine Hold.of ?_))
local macro_rules | `(tactic| walk_at "subscriptTail") => `(tactic| (k_here; (with_reducible show wpAny _ _ (subscriptTail _ (PySem.Expr.Name _ _) (Value.ref _) (Value.ref _)) _ _ _); refine Hold.of ?_))
local macro_rules | `(tactic| walk_at "exec For") => `(tactic| (k_here; refine Hold.of ?_))
local macro_rules | `(tactic| walk_at "compareOp NotEq ref ref") => `(tactic| (k_here; refine Hold.of ?_))
noncomputable def clipAt (few x y : Int) : Int := if (x + y).fmod 2 = 0 then few else 255
theorem clipAt_bd {few : Int} (h : 0 ≤ few ∧ few ≤ 255) (x y : Int) : 0 ≤ clipAt few x y ∧ clipAt few x y ≤ 255 := by
  unfold clipAt
  split
  · exact h
  · decide
noncomputable def JWei (n17 : Led) (m₀ : Str → Option Value) (i : Nat) (m' : Str → Option Value) (n' : Led) : Prop :=
  (∃ vx vy va, m' = bnd3 m₀ (Str.ofString "due") (Str.ofString "alpha") (Str.ofString "place") va vy vx) ∧ ∀ p ∈ n17, p ∈ n'
theorem weighed_ct {w : World} {news : Led} {S : Addr} (hs : SrcIn news S) (h362 : ((362, tabObj #[]) : Addr × Obj) ∈ news) :
    Ct w 365 [.ref S] 20 200 news fun v' n' => v' = .bool true ∧ ∃ ps, ((362, tabObj ps) : Addr × Obj) ∈ n' := by
  obtain ⟨oS, hS⟩ : ∃ o, (S, o) ∈ news := let ⟨_, _, _, _, o, e, _, _⟩ := hs; ⟨o, e⟩
  refine Ct.of fun prog p loose mean mg mb A₀ env outer base h₀ L m s Q E B F X N T hf hk hret => ?_
  walk_at "ct_enterC"
  intro g' L' h' tk' cells' FG' F' N' Y' B' X' T' l1
  replace l1 : Above _ L' := l1
  k_cells Y'
  (try simp only [List.cons_append, List.nil_append] at N')
  (try dsimp only)
  (try k_lift B')
  (try k_fold)
  have codeHd := code_hd X'
  have hSL : S < L' := l1 _ hS
  have hS1 : L' + 1 ≠ S := Nat.ne_of_gt (Nat.lt_succ_of_lt hSL)
  have hS2 : L' + 1 + 1 ≠ S := Nat.ne_of_gt (Nat.lt_succ_of_lt (Nat.lt_succ_of_lt hSL))
  k_steps
  refine Hold.out ?_
  refine' Ct.useN (by k_asm) (begun_ct (cl := false) (hs.sub (by walk_at "ct_sub"))) ?kB ?kF ?kX ?kT ?kA ?kf ?kk ?kh ?kd ?ku ?_
  walk_at "ct_useN"
  intro v' n1 h1 tk1 hP F1 N1
  obtain ⟨l, R, uc, M, bx, f, k, rfl, hl, hb, hc, ht, hfp, _, hs1, k1, hfr, hRM⟩ := hP
  have hxm1 : L' + 1 + 1 ∉ R :: M := hfr _ (.head _)
  have y1 := k1 _ (.head _) fun _ => by simpa using hS2
  have y2 := k1 _ (.tail _ (.head _)) fun _ => by simpa using hS1
  have y3 := k1 _ (.tail _ (.tail _ h362)) fun c => (by rcases c with c | c <;> cases c)
  obtain ⟨du, ou, hiu, hdu, us1, us2, us3, us4, us5, uk1, uk2, uk3, uk4, uk5, ut1, ut2, ut3, ut4, un, rfl⟩ := hc.inst
  k_steps
  refine Hold.out ?_
  refine' Ct.use (lay_ct (news := n1) (u := uc)) ?kB ?kF ?kX ?kN ?kT ?kA ?kf ?kk ?kh ?kd ?ku ?_
  walk_at "ct_use"
  intro v' n2 h2 tk2 hP F2 N2
  obtain ⟨ML, hlay, hfL, hsub2⟩ := hP
  obtain ⟨ly, rfl⟩ : ∃ c, v' = .ref c := let ⟨c, _, _, _, _, e, _, _, _, _, _, _⟩ := hlay; ⟨c, e⟩
  have hx1 : L' + 1 + 1 ∉ ML := fun hm => hfL _ hm _ y1 rfl
  have hx2 : L' + 1 ∉ ML := fun hm => hfL _ hm _ y2 rfl
  have y1 := hsub2 _ y1
  have y2 := hsub2 _ y2
  have y3 := hsub2 _ y3
  have hs2 := hs1.sub hsub2
  have hc2 := hc.sub hsub2
  have ht2 := ht.sub hsub2
  k_steps
  refine Hold.out ?_
  rename_i lt1
  obtain ⟨oS2, hoS2⟩ : ∃ o, (S, o) ∈ n2 := let ⟨_, _, _, _, o, e, _, _⟩ := hs2; ⟨o, e⟩
  refine' Ct.useN (by k_asm) (one_ct (hs2.sub fun p hp => .tail _ hp) (.head _) (by exact ⟨rfl, _, rfl⟩) (by exact ⟨Nat.le_of_ble_eq_true rfl, Nat.le_of_ble_eq_true rfl⟩) (Nat.ne_of_gt (lt1 _ hoS2))) ?kB ?kF ?kX ?kT ?kA ?kf ?kk ?kh ?kd ?ku ?_
  walk_at "ct_useN"
  intro v' n3 h3 tk3 hP F3 N3
  obtain ⟨hv, hs3, k3⟩ := hP
  obtain ⟨op, top, rfl, hop⟩ := ops_of hv
  replace k3 : Keeps [S] n2 n3 := fun p hp q => k3 p (.tail _ hp) q
  have w1 := k3 _ y1 fun _ => by simpa using hS2
  have w2 := k3 _ y2 fun _ => by simpa using hS1
  k_steps
  refine Hold.out ?_
  rename_i lt2
  obtain ⟨oS3, hoS3⟩ : ∃ o, (S, o) ∈ n3 := let ⟨_, _, _, _, o, e, _, _⟩ := hs3; ⟨o, e⟩
  refine' Ct.useN (by k_asm) (one_ct (hs3.sub (by walk_at "ct_sub")) (.head _) (by exact ⟨rfl, _, rfl⟩) (by exact ⟨Nat.le_of_ble_eq_true rfl, Nat.le_of_ble_eq_true rfl⟩) (Nat.ne_of_gt (kst_ltOf lt2.2 _ hoS3))) ?kB ?kF ?kX ?kT ?kA ?kf ?kk ?kh ?kd ?ku ?_
  walk_at "ct_useN"
  intro v' n4 h4 tk4 hP F4 N4
  obtain ⟨hv, hs4, k4⟩ := hP
  obtain ⟨md, tmd, rfl⟩ := modes_of hv
  replace k4 : Keeps [S] n2 n4 := k3.trans fun p hp q => k4 p (by walk_at "ct_tail") q
  have w1 := k4 _ y1 fun _ => by simpa using hS2
  have w2 := k4 _ y2 fun _ => by simpa using hS1
  k_steps
  refine Hold.out ?_
  rename_i lt3
  obtain ⟨oS4, hoS4⟩ : ∃ o, (S, o) ∈ n4 := let ⟨_, _, _, _, o, e, _, _⟩ := hs4; ⟨o, e⟩
  refine' Ct.useN (by k_asm) (one_ct (hs4.sub (by walk_at "ct_sub")) (.head _) (by exact ⟨rfl, _, rfl⟩) (by exact ⟨Nat.le_of_ble_eq_true rfl, Nat.le_of_ble_eq_true rfl⟩) (Nat.ne_of_gt ((by first | exact lt3.2 | exact lt3 : ∀ p ∈ n4, p.1 < _) _ hoS4))) ?kB ?kF ?kX ?kT ?kA ?kf ?kk ?kh ?kd ?ku ?_
  walk_at "ct_useN"
  intro v' n5 h5 tk5 hP F5 N5
  obtain ⟨hv, hs5, k5⟩ := hP
  obtain ⟨few, tfew, rfl, hfew⟩ := few_of hv
  replace k5 : Keeps [S] n2 n5 := k4.trans fun p hp q => k5 p (by walk_at "ct_tail") q
  have hSM : S ∉ R :: M := hfr (S, oS) (.tail _ (.tail _ hS))
  have hSL : S ∉ ML := fun hm => by obtain ⟨_, _, _, _, o, e, _⟩ := id hs1; exact hfL _ hm _ e rfl
  have hML : Apart M ML := hc.held.apart hfL
  have hRL : R ∉ ML := fun hm => by obtain ⟨_, ⟨_, o, e, _⟩, _⟩ := id ht; exact hfL _ hm _ e rfl
  have y1 := k5 _ y1 fun _ => by simpa using hS2
  have y2 := k5 _ y2 fun _ => by simpa using hS1
  have y3 := k5 _ y3 fun c => absurd c tab_not_chg
  have off : ∀ x ∈ R :: (ML ++ M), x ∉ [S] := fun x hx hm => by
    obtain rfl := List.mem_singleton.mp hm
    rcases List.mem_cons.mp hx with hx | hx
    · exact hSM (hx ▸ .head _)
    rcases List.mem_append.mp hx with hx | hx
    · exact hSL hx
    · exact hSM (.tail _ hx)
  have hc5 := hc2.keep k5 fun x hx => off x (.tail _ (List.mem_append_right _ hx))
  have ht5 := ht2.keep k5 (off _ (.head _))
  have hlay5 := hlay.keep k5 fun x hx => off x (.tail _ (List.mem_append_left _ hx))
  obtain ⟨n6, N6, hr4, hr5, hr6⟩ := news_front2 N5 y1 y2
  have kc6 := kc_front N5 y1 y2 (.inl ⟨_, by assumption⟩) (.inl ⟨_, by assumption⟩) hr4
  have h362L : 362 < L' := l1 _ h362
  have z3 := hr4 _ y3 (Nat.ne_of_lt (Nat.lt_succ_of_lt (Nat.lt_succ_of_lt h362L))) (Nat.ne_of_lt (Nat.lt_succ_of_lt h362L))
  have hc6 := hc5.kc kc6
  have ht6 := ht5.kc kc6
  have hlay6 := hlay5.kc kc6
  have hs6 := hs5.kc kc6
  clear hc5 ht5 hlay5 hs5 k5 k4 k3 hc2 ht2 hlay hs2 hs3 hs4 y1 y2 y3 lt1 lt2 lt3 w1 w2 k1 hsub2 hs1 hl hiu hdu
  obtain ⟨du, ou, hiu, hdu, us1, us2, us3, us4, us5, uk1, uk2, uk3, uk4, uk5, ut1, ut2, ut3, ut4, un, rfl⟩ := hc6.inst
  obtain ⟨c9, d9, K9, o9, nn9, e9, e9', g1, g2, ⟨hs9, k9, nd9, rfl⟩, g4, g5⟩ := id hlay6
  obtain rfl := Value.ref.inj e9
  k_steps
  refine Hold.out ?_
  refine' Ct.useN (by k_asm) (push_ct (vs := []) (hlay6.sub (by walk_at "ct_sub")) (by simp) (hc6.sub (by walk_at "ct_sub")) hb) ?kB ?kF ?kX ?kT ?kA ?kf ?kk ?kh ?kd ?ku ?_
  walk_at "ct_useN"
  intro v' n7 h7 tk7 hP F7 N7
  obtain ⟨rfl, M2, u2, hl7, hc7, hfM2, k7⟩ := hP
  have x1 := k7 _ (.tail _ (.head _)) fun _ => hx1
  have x2 := k7 _ (.tail _ (.tail _ (.head _))) fun _ => hx2
  have hxb1 : L' + 1 + 1 ∉ M2 := fun hm => hfM2 _ hm _ (.tail _ (.head _)) rfl
  have hxb2 : L' + 1 ∉ M2 := fun hm => hfM2 _ hm _ (.tail _ (.tail _ (.head _))) rfl
  have hfM2' : Fresh M2 n6 := fun a ha p hp => hfM2 a ha p (by walk_at "ct_tail")
  replace k7 : Keeps ML n6 n7 := fun p hp q => k7 p (by walk_at "ct_tail") q
  have x3 := k7 _ z3 fun c => absurd c tab_not_chg
  have wg7 : WG w n7 uc u2 R (.ref ly) M M2 ML bx f zf [.ref uc, .ref u2] := ⟨hc6.keep k7 hML, hc7, ht6.keep k7 hRL, hl7⟩
  have hs7 := hs6.keep k7 hSL
  have hmM2 : ∀ x ∈ S :: R :: (ML ++ M), x ∉ M2 := fun x hx hm => by
    have : ∃ o, (x, o) ∈ n6 := by
      rcases List.mem_cons.mp hx with rfl | hx
      · obtain ⟨_, _, _, _, o, e, _⟩ := id hs6; exact ⟨o, e⟩
      rcases List.mem_cons.mp hx with rfl | hx
      · obtain ⟨_, ⟨_, o, e, _⟩, _⟩ := id ht6; exact ⟨o, e⟩
      rcases List.mem_append.mp hx with hx | hx
      · exact hlay6.held x hx
      · exact hc6.held x hx
    obtain ⟨o, e⟩ := this
    exact hfM2' x hm _ e rfl
  have wd : WD R M M2 ML := ⟨hRM, hmM2 _ (.tail _ (.head _)), hRL, fun x hx => hmM2 x (.tail _ (.tail _ (List.mem_append_right _ hx))), hML, fun x hx hm => hmM2 x (.tail _ (.tail _ (List.mem_append_left _ hm))) hx⟩
  have offS : ∀ x ∈ [S], x ∉ R :: (ML ++ M ++ M2) := fun x hx hm => by
    obtain rfl := List.mem_singleton.mp hx
    rcases List.mem_cons.mp hm with hm | hm
    · exact off x (hm ▸ .head _) (.head _)
    rcases List.mem_append.mp hm with hm | hm
    · exact off x (.tail _ hm) (.head _)
    · exact hmM2 x (.head _) hm
  clear hc6 ht6 hlay6 hs6 hc7 hl7 hfM2 hfM2' hmM2 hiu hdu z3 g1 g2 g4 g5 e9' hfL hc ht hr4 hr5 hr6
  obtain ⟨xs, hdx, hxs⟩ := id wg7.tab
  have hxl : xs.length = bx.h * bx.w := hxs.len.trans placesTo_len
  have hlw : bx.h * bx.w ≤ 3 * 4 := Nat.mul_le_mul hb.2.1.2 hb.1.2
  have big : 1000 ≤ sizeLine := by decide
  k_steps
  refine Hold.out ?_
  refine' ListComp_fr (L := L') (h₀ := g') ?hclos ?hcell ?hkind ?hnames ?hx ?_
  case hclos => with_unfolding_all rfl
  case hcell => decide
  case hkind => with_unfolding_all rfl
  case hnames => decide
  case hx => with_unfolding_all rfl
  k_steps
  refine Hold.out ?_
  refine' compAt_dic rfl hdx (by omega) (by assumption) (by assumption) (JTold w n7 bx zf) ⟨.nil, fun p hp => hp⟩ ?step1 ?done1
  case step1 =>
    intro C D wr i e ys nn oC mC own news₁ h tk hC hD hw hi hlen hJ ho hown hns hmx F'' N''
    obtain ⟨hj1, hj2⟩ := hJ
    obtain ⟨p, hp, e1, _⟩ := hxs.get hi
    have hkx := hdx.keyOf hi
    rw [e1] at hkx
    have hpl := hkx.pl
    k_steps
    have hon : ∀ (T U : Addr) (oT oU : Obj), ∀ p ∈ (C, oC) :: (D, listOf ys.toArray nn) :: own, p ∈ (T, oT) :: (U, oU) :: (C, oC) :: (D, listOf ys.toArray nn) :: (own ++ news₁) := fun T U oT oU p hp => .tail _ (.tail _ (by
      rcases List.mem_cons.mp hp with rfl | hp
      · exact .head _
      rcases List.mem_cons.mp hp with rfl | hp
      · exact .tail _ (.head _)
      · exact .tail _ (.tail _ (List.mem_append_left _ hp))))
    refine CompEnd.filt (by assumption) (by assumption) (hon _ _ _ _) ⟨?_, fun p hp => filt_mem (.tail _ (.tail _ (.tail _ (.tail _ (List.mem_append_right own (hj2 p hp)))))) (Nat.ne_of_lt (hC p hp)) (Nat.ne_of_lt (hD p hp)) (hw.old hp)⟩
    have tkf := TK.filt hw (by assumption) (fun p hp => hon _ _ _ _ p (.tail _ (.tail _ hp))) (hon _ _ _ _ _ (.head _)) hns (hon _ _ _ _ _ (.tail _ (.head _))) (⟨rfl, _, rfl⟩ : LstO ys _)
    have tks : TK news₁ _ := (TK.of_sub fun p hp => .tail _ (.tail _ (.tail _ (.tail _ (List.mem_append_right own hp))))).trans tkf
    rw [take_next hp]
    exact All2.app (hj1.imp fun v p ⟨t, a, c, k, e, m, pl, q⟩ => ⟨t, a, c, k, e, tks _ _ _ m, pl.tk tks, q.tk tks⟩) (.one ⟨_, e.2.1, _, _, rfl, tkf _ _ _ (.head _), (hpl.tk (TK.of_sub hj2)).tk tks, ColIn.tk ⟨_, _, _, _, _, rfl, .inl ⟨0, .tail _ (.head _)⟩⟩ tkf⟩)
  case done1 =>
    intro D h8 tk8 n8 ys nn hD F8 N8 ho hlen hJ
    obtain ⟨hj1, hj2⟩ := hJ
    rw [hxs.len, List.take_length] at hj1
    obtain ⟨es, he1, he2, he3⟩ := pairs_of hj1
    k_steps
    refine Hold.out ?_
    refine call_dictPairs rfl (Nat.le_of_ble_eq_true rfl) (by assumption) (by assumption) (by assumption) (.head _) (he1.imp fun v x ⟨t, k, e, q⟩ => ⟨t, k, e, .tail _ q⟩) (fun x hx => (he2 x hx).tk (TK.of_sub fun p hp => .tail _ hp)) (by rw [he3.len, show (placesOf bx).length = bx.h * bx.w from placesTo_len]; omega) ?_
    intro R2 o2 h9 tk9 hR2 F9 N9 hdic
    have htg := tab_of_pairs placesOf_nodup (he3.imp fun x p q => ⟨q.1, q.2.1.tk (TK.of_sub fun p hp => .tail _ hp), q.2.2.mono fun p hp => .tail _ hp⟩) hdic
    have hsb9 : ∀ p ∈ n7, p ∈ (R2, o2) :: (D, listOf ys.toArray nn) :: n8 := fun p hp => .tail _ (.tail _ (hj2 p hp))
    have wg9 := wg7.sub hsb9
    have hs9 := hs7.sub hsb9
    obtain ⟨oS7, hoS7⟩ : ∃ o, (S, o) ∈ n7 := let ⟨_, _, _, _, o, e, _, _⟩ := hs7; ⟨o, e⟩
    have hR2o : R2 ∉ R :: (ML ++ M ++ M2) := fun hm => by
      obtain ⟨o, e⟩ := wg7.held _ hm
      exact Nat.lt_irrefl _ (hR2 _ (.tail _ (hj2 _ e)))
    have hR2S : R2 ≠ S := Nat.ne_of_gt (hR2 _ (.tail _ (hj2 _ hoS7)))
    have hR21 : L' + 1 + 1 ≠ R2 := Nat.ne_of_lt (hR2 _ (.tail _ (hj2 _ x1)))
    have hR22 : L' + 1 ≠ R2 := Nat.ne_of_lt (hR2 _ (.tail _ (hj2 _ x2)))
    clear wg7 hs7 hdic he1 he2 he3 hdx hxs hxl
    obtain ⟨du, ou, hiu, hdu, us1, us2, us3, us4, us5, uk1, uk2, uk3, uk4, uk5, ut1, ut2, ut3, ut4, un, rfl⟩ := wg9.can.inst
    k_steps
    refine Hold.out ?_
    refine' ListComp_fr (L := L') (h₀ := g') ?hclos ?hcell ?hkind ?hnames ?hx ?_
    case hclos => with_unfolding_all rfl
    case hcell => decide
    case hkind => with_unfolding_all rfl
    case hnames => decide
    case hx => with_unfolding_all rfl
    k_steps
    refine Hold.out ?_
    refine' Ct.useN (by k_asm) (places_ct wg9.can hb) ?kB ?kF ?kX ?kT ?kA ?kf ?kk ?kh ?kd ?ku ?_
    walk_at "ct_useN"
    intro v' n10 h10 tk10 hP F10 N10
    obtain ⟨a, pls, kp, rfl, hpl, hlt, hall, hsub⟩ := hP
    have hlP : LstO pls (listOf pls.toArray kp) := ⟨rfl, _, rfl⟩
    have hlen : pls.length = bx.h * bx.w := hall.len.trans placesTo_len
    k_steps
    refine Hold.out ?_
    refine' kms_slice_lit (zs := pls.take 2) (its := pls.toArray) (by assumption) N10 (hlP.isList (N10 _ hpl).1) .none (.int _ _) (slice_to (by decide)) ?hh (by with_unfolding_all rfl) (by intro _; with_unfolding_all rfl) (by rw [List.size_toArray]; omega)
    intro D5 h11 F11 N11 l11
    have hsb11 : ∀ p ∈ n7, p ∈ (D5, listOf (pls.take 2).toArray 0) :: n10 := fun p hp => .tail _ (hsub _ (hsb9 p hp))
    have hu : All2 (PlIn w ((D5, listOf (pls.take 2).toArray 0) :: n10)) (pls.take 2) ((placesOf bx).take 2) := (hall.take 2).imp fun v p q => q.tk (TK.of_sub fun p hp => .tail _ hp)
    have v1 := hsb11 _ x1
    have v2 := hsb11 _ x2
    have v3 := hsb11 _ x3
    have hoS11 := hsb11 _ hoS7
    have hD5S : D5 ≠ S := Nat.ne_of_gt (l11 _ (hsub _ (hsb9 _ hoS7)))
    have wg11 := wg9.sub (fun p hp => .tail _ (hsub p hp) : ∀ p ∈ _, p ∈ (D5, listOf (pls.take 2).toArray 0) :: n10)
    have htg11 := htg.sub (fun p hp => .tail _ (hsub p hp) : ∀ p ∈ _, p ∈ (D5, listOf (pls.take 2).toArray 0) :: n10)
    have hs11 := hs9.sub (fun p hp => .tail _ (hsub p hp) : ∀ p ∈ _, p ∈ (D5, listOf (pls.take 2).toArray 0) :: n10)
    obtain ⟨oR2, hoR2⟩ : ∃ o, (R2, o) ∈ n10 := ⟨_, hsub _ (.head _)⟩
    clear wg9 hs9 htg x1 x2 x3 hall
    k_steps
    refine Hold.out ?_
    refine' compAt_list rfl (.head _) ⟨rfl, _, rfl⟩ (by rw [List.length_take]; omega) (by assumption) (by assumption) (JDeed w S ((D5, listOf (pls.take 2).toArray 0) :: n10) ((placesOf bx).take 2)) ⟨⟨[], .nil, rfl, by simp⟩, hs11, fun p hp _ => hp⟩ ?step3 ?done3
    case step3 =>
      intro C D2 wr i v ys3 nn3 oC mC own news₁ h tk hC hD2 hw hi hlen3 hJ ho3 hown hns hmx F'' N''
      obtain ⟨p, hp, hpl⟩ := hu.get hi
      obtain ⟨tp, tx, ty, rfl, hvt⟩ := id hpl
      have z1 := hJ.2.2 _ v1 fun _ => by simpa using hS2
      have z2 := hJ.2.2 _ v2 fun _ => by simpa using hS1
      k_steps
      refine Hold.out ?_
      refine' Ct.useN (by k_asm) (colour_ct (hJ.2.1.sub fun p hp => .tail _ (.tail _ (List.mem_append_right own hp)))) ?kB ?kF ?kX ?kT ?kA ?kf ?kk ?kh ?kd ?ku ?_
      walk_at "ct_useN"
      intro v' n11 h11 tk11 hP F11 N11
      obtain ⟨⟨cc, hcp, hcol⟩, hs11, k11⟩ := hP
      k_steps
      have hj := JDeed.next hw (by assumption) k11 hoS11 (fun p hp => (hown p hp).elim (fun e => by rw [e]; exact hD5S) (fun f => Nat.ne_of_gt (f _ hoS11))) hC hD2 hns hJ hs11 hp hpl hcol hcp
      exact CompEnd.filt (by assumption) (by assumption) hj.1 hj.2
    case done3 =>
      intro D4 h12 tk12 n12 dv nd hD4 F12 N12 ho12 hlen12 hJ
      obtain ⟨⟨ds, hd1, hd2, hd3⟩, hs12, k12⟩ := hJ
      rw [hu.len, List.take_length] at hd2
      have u1 := k12 _ v1 fun _ => by simpa using hS2
      have u2' := k12 _ v2 fun _ => by simpa using hS1
      have u3 := k12 _ v3 fun c => absurd c tab_not_chg
      have wg12 := (wg11.keep k12 offS).sub (fun p hp => .tail _ hp : ∀ p ∈ n12, p ∈ (D4, listOf dv.toArray nd) :: n12)
      have htg12 := (htg11.keep k12 (by simpa using hR2S)).sub (fun p hp => .tail _ hp : ∀ p ∈ n12, p ∈ (D4, listOf dv.toArray nd) :: n12)
      have hd12 := hd1.imp fun v d q => q.tk (TK.of_sub (fun p hp => .tail _ hp : ∀ p ∈ n12, p ∈ (D4, listOf dv.toArray nd) :: n12))
      have hD4M : D4 ∉ M2 := fun hm => let ⟨o, e⟩ := wg11.can2.held _ hm; Nat.lt_irrefl _ (hD4 _ e)
      have hD4R : D4 ≠ R2 := Nat.ne_of_gt (hD4 _ (.tail _ hoR2))
      have hdp : ∀ d ∈ ds, d.1 ∈ placesOf bx ∧ d.2.Pm := fun d hd => ⟨List.mem_of_mem_take (by rw [← hd2]; exact List.mem_map_of_mem (f := (·.1)) hd), hd3 d hd⟩
      clear wg11 htg11 hs11 hs12 hd1 v1 v2 v3 hu
      k_steps
      refine Hold.out ?_
      refine' Ct.useN (by k_asm) (painted_ct (vs := [.ref uc]) wg12.lay (by simp) wg12.can2 hb htg12 (.head _) hd12 hdp (fun _ _ => zc_pm) (fun _ _ => zc_pm) wd.m2l (fun hm => hR2o (.tail _ (List.mem_append_right _ hm))) (fun hm => hR2o (.tail _ (List.mem_append_left _ (List.mem_append_left _ hm)))) hD4M hD4R) ?kB ?kF ?kX ?kT ?kA ?kf ?kk ?kh ?kd ?ku ?_
      walk_at "ct_useN"
      intro v' n13 h13 tk13 hP F13 N13
      obtain ⟨rfl, _, hc13, htg13, k13⟩ := hP
      have wg13 := wg12.paint wd hR2o k13 hc13
      have t1 := k13 _ (.tail _ u1) fun _ hm => (List.mem_cons.mp hm).elim hR21 hxb1
      have t2 := k13 _ (.tail _ u2') fun _ hm => (List.mem_cons.mp hm).elim hR22 hxb2
      have t3 := k13 _ (.tail _ u3) fun c => absurd c tab_not_chg
      obtain ⟨n14, N14, kc14, off14, sub14⟩ : ∃ n14, News g' L' h13 ((362, tabObj #[]) :: n14) ∧ KC n13 n14 ∧ (∀ p ∈ n14, p.1 ≠ 362) ∧ ∀ p ∈ n13, p.1 ≠ 362 → p ∈ n14 := ⟨_, news_head N13 t3, kc_head N13 t3 (.inr ⟨_, rfl⟩), off_filter, fun p hp q => List.mem_filter.mpr ⟨hp, by simpa using q⟩⟩
      have t1' := sub14 _ t1 (Nat.ne_of_gt (Nat.lt_succ_of_lt (Nat.lt_succ_of_lt h362L)))
      have t2' := sub14 _ t2 (Nat.ne_of_gt (Nat.lt_succ_of_lt h362L))
      have wg14 := wg13.kc kc14
      have htg14 := htg13.kc kc14
      clear wg13 wg12 htg12 htg13 k12 k13 hd12
      obtain ⟨c9, d9, K9, o9, nn9, e9, e9', g1, g2, ⟨hs9, k9, nd9, rfl⟩, g4, g5⟩ := id wg14.lay
      obtain rfl := Value.ref.inj e9
      clear hD4M hD4R hD5S hR2S hR21 hR22 hS1 hS2 t1 t2 t3 kc14 sub14
      k_steps
      refine Hold.out ?_
      rename_i f' c' oc' vs' t' ct' dc' h8' tk8' d1 d2 q1 q2 h15 F15 N15
      have hc14 : ∀ p ∈ n14, p.1 < c' := kst_ltOf q1.2
      have hofc : c' ∉ ML ++ M := fun hm => (List.mem_append.mp hm).elim (fun e => let ⟨o, x⟩ := wg14.lay.held _ e; Nat.lt_irrefl _ (hc14 _ x)) fun e => let ⟨o, x⟩ := wg14.can.held _ e; Nat.lt_irrefl _ (hc14 _ x)
      have hwlay : ∀ {led : Led}, (∀ p ∈ n14, p ∈ led) → WG w led uc u2 R (.ref ly) M M2 ML bx f (paint ds zf) [.ref uc, .ref u2] := fun h => wg14.sub h
      obtain ⟨led, N16, ⟨nm, qual, params, body, scope, clos, doc, pm, c2, ctv, hfo⟩, hclip, hsubL, ps, h362'⟩ : ∃ led, News g' L' h15 led ∧ (∃ nm qual params body scope clos doc pm c2 ctv, (f', fnMade nm qual params body scope clos doc pm c2 ctv) ∈ led) ∧ (∀ n', Keeps (ML ++ M) led n' → ∀ x y tx ty, Ct w f' [.int x tx, .int y ty] 60 450 n' fun v n'' => (∃ t, v = .int (clipAt few x y) t) ∧ n'' = n') ∧ (∀ p ∈ n14, p ∈ led) ∧ ∃ ps, ((362, tabObj ps) : Addr × Obj) ∈ led := by
        refine ⟨_, N15, ⟨_, _, _, _, _, _, _, _, _, _, .head _⟩, ?_, fun p hp => .tail _ (.tail _ (.tail _ hp)), _, .tail _ (.tail _ (.head _))⟩
        intro n' hk x y tx ty
        have z1 := hk _ (.head _) fun c => by rcases c with c | c <;> exact absurd c (by simp)
        have z2 := hk _ (.tail _ (.head _)) fun _ => hofc
        have z3 := hk _ (.tail _ (.tail _ (.tail _ t1'))) fun _ hm => (List.mem_append.mp hm).elim hx1 fun e => hxm1 (.tail _ e)
        refine Ct.of fun prog p loose mean mg mb A₀ env outer base h₀ L m s Q E B F X N T hf hk hret => ?_
        refine wpAny_call ?_
        refine' code_nest ?j1 ?j2 ?j3 ?j4 ?j5 ?jA ?jF ?jK ?j6 ?j7 ?j8 ?j9 ?jB ?_ ?i2 ?i3 ?i4 ?i5; (case jA => exact rfl); (case jF => assumption); (case jK => assumption); (case j1 => k_asm); (case j2 => k_asm); (case j3 => k_asm); (case j4 => k_asm); (case j5 => k_asm); (case j6 => k_mem); (case j7 => exact codeRec_news (by k_asm) (by k_mem) (by assumption) (by assumption)); (case j8 => k_room); (case j9 => exact BindsTo.of_eq rfl); (case i5 => decide); (case jB => exact locs rfl); (case i2 => exact rfl); (case i3 => exact rfl); (case i4 => exact rfl); k_whole; intro g' L' h' FG' F' N' B' X' T'; (try dsimp only); (try k_lift B'); (try k_fold)
        k_steps
        · exact hret _ _ _ _ ⟨post_int (if_pos (by assumption)).symm, rfl⟩ (by assumption) (by walk_at "ct_news")
        · exact hret _ _ _ _ ⟨post_int (if_neg (by assumption)).symm, rfl⟩ (by assumption) (by walk_at "ct_news")
      clear N15 d1 d2 q1 q2 t1' t2' hc14 hofc hxb1 hxb2 hx1 hx2 hxm1 off14
      have wg16 := wg14.sub hsubL
      have htg16 := htg14.sub hsubL
      clear wg14 htg14 hwlay hsubL g1 g2 g4 g5 e9'
      refine' Ct.useN N16 (pop1_ct (vs := []) (md := md) (cf := clipAt few) wg16.lay (by simp) wg16.can wg16.can2 hb hop hfo (clipAt_bd hfew) (fun n' hk x y tx ty _ => hclip n' hk x y tx ty) (fun x y => (paint_pm (fun _ _ => zc_pm) (fun d hd => (hdp d hd).2) x y).ok) (fun x y => (hfp x y).ok) wd.mm2.symm wd.m2l wd.ml) ?kB ?kF ?kX ?kT ?kA ?kf ?kk ?kh ?kd ?ku ?_
      walk_at "ct_useN"
      intro v' n17 h17 tk17 hP F17 N17
      obtain ⟨rfl, hl17, hc17, k17⟩ := hP
      have ht17 := wg16.tab.keep k17 fun hm => (List.mem_append.mp hm).elim wd.rl wd.rm
      have hg17 := htg16.keep k17 fun hm => hR2o (.tail _ (List.mem_append_left _ hm))
      have hfo17 := k17 _ hfo fun c => by rcases c with c | c <;> exact absurd c (by simp)
      have h362b := k17 _ h362' fun c => absurd c tab_not_chg
      have hclip17 : ∀ n', (∀ p ∈ n17, p ∈ n') → ∀ x y tx ty, Ct w f' [.int x tx, .int y ty] 60 450 n' fun v n'' => (∃ t, v = .int (clipAt few x y) t) ∧ n'' = n' := fun n' hs => hclip n' fun p hp q => hs p (k17 p hp q)
      clear wg16 htg16 hclip k17 hfo h362' N16
      obtain ⟨xs, hdx, hxs⟩ := id ht17
      obtain ⟨gs, hdg, hgs⟩ := id hg17
      have hgn := hdg.nodup
      have hxn := hdx.nodup
      k_steps
      refine Hold.out ?_
      refine For_fr (h₀ := g') (L := L') ?_
      k_steps
      refine Hold.out ?_
      refine' forAt_dic rfl hdx (by assumption) (by assumption) (JWei n17 ?m0) ⟨⟨_, _, _, bnd3_none rfl rfl rfl⟩, fun p hp => hp⟩ ?step ?done
      case step =>
        intro wr i e m₁ own news₁ h tk hw hi hJ ho hown F₁ N₁
        obtain ⟨⟨vx, vy, va, rfl⟩, hj⟩ := hJ
        obtain ⟨⟨px, py⟩, hp, e1, hcx⟩ := hxs.get hi
        have hkx := hdx.keyOf hi
        rw [e1] at hkx
        obtain ⟨tp, tx, ty, etp, hvt⟩ := hkx.pl
        obtain rfl := Value.ref.inj etp
        have sr : ∀ p ∈ n17, p ∈ own ++ news₁ := fun p hp => List.mem_append_right own (hj p hp)
        have hhas := has_placesOf (List.mem_of_getElem? hp)
        have hfo18 := sr _ hfo17
        have hvt1 := hvt.mono sr
        have hc18 := hc17.sub sr
        have hdx18 := hdx.sub sr
        have hdg18 := hdg.sub sr
        obtain ⟨qg, hqg, hqgc⟩ := tab_get hgn hgs (List.mem_of_getElem? hp)
        obtain ⟨qx, hqx, hqxc⟩ := tab_get hxn hxs (List.mem_of_getElem? hp)
        obtain ⟨du, ou, hiu, hdu, us1, us2, us3, us4, us5, uk1, uk2, uk3, uk4, uk5, ut1, ut2, ut3, ut4, un, rfl⟩ := hc18.inst
        k_steps
        refine Hold.out ?_
        refine' Ct.use (hclip17 _ sr px py _ _) ?kB ?kF ?kX ?kN ?kT ?kA ?kf ?kk ?kh ?kd ?ku ?_
        walk_at "ct_use"
        intro v' n20 h20 tk20 hP F20 N20
        obtain ⟨⟨tc1, rfl⟩, rfl⟩ := hP
        have hal := wt_bd hop (clipAt_bd hfew px py)
        k_steps
        refine Hold.out ?_
        refine' getDic (by assumption) (by assumption) (by assumption) hdg18 (hkx.tk (TK.of_sub sr)) (Nat.le_of_ble_eq_true rfl) hqg ?_
        intro tkq
        have hale : (2 * op * clipAt few px py + 255).fdiv 510 = wt op (clipAt few px py) := by unfold wt; exact Int.fdiv_eq_ediv_of_nonneg _ (by decide)
        have hqg18 := hqgc.mono sr
        have hqx18 := hqxc.mono sr
        k_steps
        refine Hold.out ?_
        refine' Ct.use (lawWeighted_ct (alpha := (2 * op * clipAt few px py + 255).fdiv 510) hqg18 (paint_pm (fun _ _ => zc_pm) (fun d hd => (hdp d hd).2) px py).ok (by rw [hale]; exact hal)) ?kB ?kF ?kX ?kN ?kT ?kA ?kf ?kk ?kh ?kd ?ku ?_
        walk_at "ct_use"
        intro v' n21 h21 tk21 hP F21 N21
        obtain ⟨a1, s1, s2, s3, s4, rfl, rfl, hlt1⟩ := hP
        k_steps
        have hdm : (dm (paint ds zf px py) (wt op (clipAt few px py))).Ok := dm_ok (paint_pm (fun _ _ => zc_pm) (fun d hd => (hdp d hd).2) px py).ok hal
        obtain ⟨n22, N22, hs22, hcA⟩ : ∃ n22, News g' L' h21 n22 ∧ (∀ p ∈ own ++ news₁, p ∈ n22) ∧ ColIn w n22 (.ref a1) (dm (paint ds zf px py) (wt op (clipAt few px py))) := ⟨_, N21, fun p hp => .tail _ hp, ⟨a1, s1, s2, s3, s4, rfl, by rw [hale]; exact .inl ⟨0, .head _⟩⟩⟩
        clear N21 hlt1
        refine Hold.out ?_
        refine' getDic (by assumption) (by assumption) (by assumption) (hdx18.sub hs22) (hkx.tk (TK.of_sub fun p hp => hs22 _ (sr p hp))) (Nat.le_of_ble_eq_true rfl) hqx ?_
        intro tkr
        have hqx22 := hqx18.mono hs22
        k_steps
        refine Hold.out ?_
        refine' Ct.use (blended_ct (md := md) hcA hqx22 hdm (hfp px py).ok) ?kB ?kF ?kX ?kN ?kT ?kA ?kf ?kk ?kh ?kd ?ku ?_
        walk_at "ct_use"
        intro v' n23 h23' tk23 hP F23 N23
        obtain ⟨a2, r1, r2, r3, r4, rfl, rfl, hlt2⟩ := hP
        obtain ⟨n24, N24, hs24, hcB⟩ : ∃ n24, News g' L' h23' n24 ∧ (∀ p ∈ n22, p ∈ n24) ∧ ColIn w n24 (.ref a2) (bl md (dm (paint ds zf px py) (wt op (clipAt few px py))) (f px py)) := ⟨_, N23, fun p hp => .tail _ hp, ⟨a2, _, _, _, _, rfl, .inl ⟨0, .head _⟩⟩⟩
        clear N23 hlt2
        have hsA : ∀ p ∈ own ++ news₁, p ∈ n24 := fun p hp => hs24 p (hs22 p hp)
        have hvt24 := hvt1.mono hsA
        have hiu24 := hsA _ hiu
        have hdu24 := hsA _ hdu
        have hc24 := hc18.sub hsA
        have hdx24 := hdx18.sub hsA
        have hqx24 := hqx18.mono hsA
        have hkx24 := hkx.tk (TK.of_sub fun p hp => hsA _ (sr p hp))
        clear hvt1 hiu hdu hdx18 hdg18 hqg18 hqx18 hqx22 hcA hfo18 hc18
        k_steps
        refine Hold.out ?_
        refine' Ct.use (get_ct hc24 hb hhas) ?kB ?kF ?kX ?kN ?kT ?kA ?kf ?kk ?kh ?kd ?ku ?_
        walk_at "ct_use"
        intro v' n25 h25 tk25 hP F25 N25
        obtain ⟨hcv, rfl⟩ := hP
        rw [popTo_at (List.mem_of_getElem? hp)] at hcv
        obtain ⟨a3, rfl⟩ : ∃ b, v' = .ref b := let ⟨a, _, _, _, _, e, _⟩ := hcv; ⟨a, e⟩
        k_steps
        refine Hold.out ?_
        refine VTup.same_ne (by assumption) (by assumption) (by assumption) hcv hcB (Nat.le_of_ble_eq_true rfl) ?_
        k_steps
        · refine Hold.out ?_
          refine' getDic (by assumption) (by assumption) (by assumption) hdx24 hkx24 (Nat.le_of_ble_eq_true rfl) hqx ?_
          intro tkr2
          obtain ⟨a4, ea4⟩ : ∃ b, qx.2 = .ref b := let ⟨a, _, _, _, _, e, _⟩ := hqx24; ⟨a, e⟩
          rw [ea4] at hqx24 ⊢
          k_steps
          refine Hold.out ?_
          refine VTup.same_ne (by assumption) (by assumption) (by assumption) (c := f px py) (by rw [← hale, (by assumption : (2 * op * clipAt few px py + 255).fdiv 510 = 0), dm_0, bl_zc] at hcB; exact hcB) hqx24 (Nat.le_of_ble_eq_true rfl) ?_
          k_steps
          exact ForStep.intro news₁ (by assumption) (fun p hp => (by assumption : News g' L' _ n25) p (hsA p hp)) ho ⟨⟨_, _, _, bnd3_again⟩, hj⟩
        · exact ForStep.intro news₁ (by assumption) (fun p hp => (by assumption : News g' L' _ n25) p (hsA p hp)) ho ⟨⟨_, _, _, bnd3_again⟩, hj⟩
      case done =>
        intro h30 tk30 m30 n30 F30 N30 hJ
        obtain ⟨⟨vx, vy, va, rfl⟩, hj⟩ := hJ
        have hl30 := hl17.sub hj
        obtain ⟨c9, d9, K9, o9, nn9, e9, e9', g1, g2, ⟨hs9, k9, nd9, rfl⟩, g4, g5⟩ := id hl30
        obtain rfl := Value.ref.inj e9
        k_steps
        refine Hold.out ?_
        refine' Ct.use (depth_ct hl30 (by simp)) ?kB ?kF ?kX ?kN ?kT ?kA ?kf ?kk ?kh ?kd ?ku ?_
        walk_at "ct_use"
        intro v' n31 h31 tk31 hP F31 N31
        obtain ⟨⟨td, ev⟩, rfl⟩ := hP
        obtain rfl : v' = .int 0 td := ev
        k_steps
        exact hret _ _ _ _ ⟨rfl, ps, hj _ h362b⟩ (by assumption) (by assumption)
end
section
set_option maxHeartbeats 8000000
noncomputable def JSub (base : Led) (_ : Nat) (_ : List Value) (n : Led) : Prop := ∀ p ∈ base, p ∈ n
theorem canvas1_ct {w : World} {news : Led} {t1 t2 : Tok} :
    Ct w 301 [.int 1 t1, .int 1 t2] 80 450 news fun v' n' => (∃ c, v' = .ref c) ∧ ∀ p ∈ news, p ∈ n' := by
  refine Ct.of fun prog p loose mean mg mb A₀ env outer base h₀ L m s Q E B F X N T hf hk hret => ?_
  walk_at "ct_cls"
  intro x' d' h' F' N' l1 l2
  walk_at "ct_goC"
  intro g' L' h' tk' cells' FG' F' N' Y' B' X' T' l3
  replace l1 : Above news d' := l1
  (try k_lt2 l2)
  (try k_lt l3)
  k_cells Y'
  (try simp only [List.cons_append, List.nil_append] at N')
  (try dsimp only)
  (try k_lift B')
  (try k_fold)
  k_steps
  refine Hold.out ?_
  with_reducible refine plainObj_wpAny_Assign_Attribute ?_ ?_
  rotate_left
  · with_unfolding_all rfl
  refine' ListComp_fr (L := L') (h₀ := g') ?hclos ?hcell ?hkind ?hnames ?hx ?_
  case hclos => with_unfolding_all rfl
  case hcell => decide
  case hkind => with_unfolding_all rfl
  case hnames => decide
  case hx => with_unfolding_all rfl
  k_steps
  refine Hold.out ?_
  refine' compAt_range (n := 1) rfl (by assumption) (small_of (by omega) (by omega)) (range_small (by omega)) (by show 1 ≤ 2 ^ 24; omega) (by assumption) (by assumption) (JSub ?base) (fun p hp => hp) ?step2 ?done2
  case step2 =>
    intro C D wr' i2 t2 ys nn oC mC own' n1 h tk hC hD hw2 hi2 hlen hJ2 ho2 hns hmx F3 N3
    have hy := hJ2 _ (.head _)
    k_steps
    (rename News _ _ _ _ => Nx)
    (rename Fr _ _ _ _ => Fx)
    refine KMa.mul (vs := [.ref 233]) (ws := [.ref 233]) Fx Nx ⟨_, (Nx _ (.head _)).1, rfl, _, rfl⟩ (by decide) (by decide) (by decide) rfl ?_
    intro D' h' F' N' l1'
    refine CompEnd.filt F' N' ?_ (fun p hp => filt_mem (.tail _ (.tail _ (.tail _ (.tail _ (List.mem_append_right _ (hJ2 p hp)))))) (Nat.ne_of_lt (hC p hp)) (Nat.ne_of_lt (hD p hp)) (hw2.old hp))
    walk_at "ct_sub"
  case done2 =>
    intro D h3 tk3 n2 ys nn hD F3 N3 ho hlen hJ
    obtain ⟨R, N4, hR2, hR3, hR4⟩ := news_front2 N3 (.tail _ (hJ _ (.tail _ (.tail _ (.head _))))) (.tail _ (hJ _ (.tail _ (.head _))))
    have hnR : ∀ p ∈ news, p ∈ R := fun p hp => hR2 _ (.tail _ (hJ _ (.tail _ (.tail _ (.tail _ hp))))) (Nat.ne_of_lt (l1 p hp)) (Nat.ne_of_lt (Nat.lt_trans (l1 p hp) l2))
    k_steps
    exact hret _ _ _ _ ⟨⟨_, rfl⟩, fun p hp => .tail _ (.tail _ (hnR p hp))⟩ (by assumption) (by assumption)
end
section
set_option maxHeartbeats 8000000
local macro_rules | `(tactic| walk_at "call ref") => `(tactic| (k_here; (first | (with_reducible refine' hC 312 ?_) | (with_reducible refine' hC 360 ?_) | (with_reducible refine' hC 365 ?_) | (with_reducible refine' hC 372 ?_) | (with_reducible refine' hC 301 ?_) | (with_reducible refine' hC 228 ?_) | (with_reducible refine' hC 211 ?_) | (with_reducible refine' hC 63 ?_)); refine Hold.of ?_))
local macro_rules | `(tactic| walk_at "exec Raise some none") => `(tactic| (k_here; refine Hold.of ?_))
local macro_rules | `(tactic| walk_at "setAttr ref") => `(tactic| (k_here; (with_reducible show wpAny _ _ (setAttr (Value.ref _) (Str.ofString "message") _) _ _ _); refine Hold.of ?_))
local macro_rules | `(tactic| walk_at "LeaveS0") => `(tactic| (refine Hold.of ?_))
theorem src_of {S : Addr} {a b : Int} {t1 t2 : Tok} {n : Nat} {news : Led} (ha : 0 ≤ a) (hb : 0 ≤ b ∧ b < 2147483647) : SrcIn ((S, listOf #[.int a t1, .int b t2] n) :: news) S := ⟨a, b, t1, t2, _, .head _, ⟨rfl, _, rfl⟩, ha, hb.1, hb.2⟩
theorem pool_a {c : Int} {p : Prop} [Decidable p] : 0 ≤ (if -1 - c > c then -1 - c else c) * (if p then 1 else 0) := by
  split
  · split <;> omega
  · split <;> omega
theorem pool_b {x : Int} : 0 ≤ x.fmod 2147483647 ∧ x.fmod 2147483647 < 2147483647 := ⟨Int.fmod_nonneg_of_pos _ (by decide), Int.fmod_lt_of_pos _ (by decide)⟩
inductive GPool (v : Value) (n' : Led) : Prop
  | mk (S : Addr) (e : v = .ref S) (s : SrcIn n' S) (z : ((362, tabObj #[]) : Addr × Obj) ∈ n')
theorem fin : PySem.Challenge.rw_nu0016_01.Holds := hd (by
  k_go0
  (all_goals try k_fold)
  k_steps
  refine Hold.out ?_
  (rename Fr _ _ _ _ => F0)
  refine mid_val F0 GPool ?wpool ?rpool
  case wpool =>
    refine wpAny_call ?_
    walk_at "ct_go"
    intro gp Lp hp FGp Fp Np Bp Xp Tp
    (try dsimp only)
    (try k_lift Bp)
    (try k_fold)
    k_steps
    all_goals exact MidV.intro (by assumption) (by assumption) (GPool.mk _ rfl (src_of pool_a pool_b) (.tail _ (.head _)))
  case rpool =>
    intro v h0 tk0 n0 F0 N0 hG
    obtain ⟨S, rfl, hs0, z0⟩ := hG
    k_steps
    refine Hold.out ?_
    refine' Ct.use (full_ct (cl := true) hs0) ?kB ?kF ?kX ?kN ?kT ?kA ?kf ?kk ?kh ?kd ?ku ?_
    walk_at "ct_use"
    intro v' n1 h1 tk1 hP F1 N1
    obtain ⟨rfl, hs1, k1⟩ := hP
    have z1 := k1 _ z0 fun c => absurd c tab_not_chg
    k_steps
    refine Hold.out ?_
    refine' Ct.use (full_ct (cl := false) hs1) ?kB ?kF ?kX ?kN ?kT ?kA ?kf ?kk ?kh ?kd ?ku ?_
    walk_at "ct_use"
    intro v' n2 h2 tk2 hP F2 N2
    obtain ⟨rfl, hs2, k2⟩ := hP
    have z2 := k2 _ z1 fun c => absurd c tab_not_chg
    k_steps
    refine Hold.out ?_
    refine' Ct.use (weighed_ct hs2 z2) ?kB ?kF ?kX ?kN ?kT ?kA ?kf ?kk ?kh ?kd ?ku ?_
    walk_at "ct_use"
    intro v' n3 h3 tk3 hP F3 N3
    obtain ⟨rfl, ps, z3⟩ := hP
    clear k1 k2 z0 z1 z2 hs0 hs1 hs2
    k_steps
    refine Hold.out ?_
    refine wpAny_call ?_
    kts_go
    k_steps
    refine Hold.out ?_
    refine' Ct.use canvas1_ct ?kB ?kF ?kX ?kN ?kT ?kA ?kf ?kk ?kh ?kd ?ku ?_
    walk_at "ct_use"
    intro v' n4 h4 tk4 hP F4 N4
    obtain ⟨⟨c, rfl⟩, s4⟩ := hP
    k_steps
    refine Hold.out ?_
    refine' Ct.use (lay_ct (u := c)) ?kB ?kF ?kX ?kN ?kT ?kA ?kf ?kk ?kh ?kd ?ku ?_
    walk_at "ct_use"
    intro v' n5 h5 tk5 hP F5 N5
    obtain ⟨ML, hlay, _, s5⟩ := hP
    obtain ⟨c9, d9, K9, o9, nn9, rfl, e9', g1, g2, ⟨hs9, k9, nd9, rfl⟩, g4, g5⟩ := id hlay
    k_steps
    refine Hold.out ?_
    refine' Ct.use (depth_ct hlay (by simp)) ?kB ?kF ?kX ?kN ?kT ?kA ?kf ?kk ?kh ?kd ?ku ?_
    walk_at "ct_use"
    intro v' n6 h6 tk6 hP F6 N6
    obtain ⟨⟨td, ev⟩, rfl⟩ := hP
    obtain rfl : v' = .int 0 td := ev
    k_steps
    refine Hold.out ?_
    refine Raise_err rfl ?_
    k_steps
    refine Hold.out ?_
    refine call_err (by assumption) ?X N6 (by show 1 ≤ _; decide) ?_
    case X => k_asm
    intro x t h7 F7 N7 l1 l2
    walk_at "ct_go"
    intro g8 L8 h8 FG8 F8 N8 B8 X8 T8
    (try dsimp only)
    (try k_lift B8)
    (try k_fold)
    k_steps
    refine Hold.out ?_
    refine err_set (by assumption) (by assumption) N8 (.head _) ?_
    intro h9 tk9 dx F9 N9
    k_steps
    (rename News _ _ _ _ => Nx)
    (rename Fr _ _ _ _ => Fx)
    refine ⟨x, t, dx, rfl, err_cls (Frag.In.keeps (by assumption) Fx.keep), (Nx _ (.head _)).1, ?_⟩
    k_steps
    refine leave_err (by assumption) Fx Nx (.head _) (upd_other (p := (t, argTup _)) (.tail _ (.head _)) (Nat.ne_of_lt l2)) ?_
    intro h10 R10 U10
    refine' caught_SO0 R10 ?cF ?cK U10 ?cXB ?cTB ?cD KtsTurn.refl ?cex ?cq ?ck ?chk ?chx ?chd ?chE
    case cF => assumption
    case cK => assumption
    case cXB => assumption
    case cTB => assumption
    case cD => assumption
    case cex => k_is
    case cq => kts_isx
    case chk => rfl
    case chx => rfl
    case chd => decide
    case chE => passes_own
    intro h11 g11 n11 T11 F11 Nn G11 N11 B11 X11 P11 D11
    clear Nn R10 U10 Nx Fx F9 N9 N8 F8 FG8 B8 X8 T8 N7 F7 hlay g1 g2 g4 g5 G11
    k_steps
    refine Hold.out ?_
    refine leaveS0_ F11 N11 T11 ?_
    intro kF kN
    have hm6 : ((362, tabObj ps) : Addr × Obj) ∈ n6 := s5 _ (s4 _ z3)
    have hx6 : (362 : Addr) < t := l1 _ hm6
    refine ⟨goodW_bool kF (by assumption) (fun _ => rfl) (postW_of rfl (w_eq_bool (w_res rfl) w_lit) rfl) rfl, GrownAt.of kN (List.mem_filter.mpr ⟨upd_other (p := ((362, tabObj ps) : Addr × Obj)) (.tail _ (.tail _ hm6)) (Nat.ne_of_lt (Nat.lt_trans hx6 l2)), decide_eq_true ⟨Nat.ne_of_lt (Nat.lt_trans hx6 l2), Nat.ne_of_lt hx6⟩⟩), trivial⟩)
end
end
end Mine

theorem PySem.Challenge.cw_nu0016_01_holds : PySem.Challenge.rw_nu0016_01.Holds := by
  exact Mine.fin
