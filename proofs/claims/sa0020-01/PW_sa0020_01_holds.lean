import PyProof.Rows.All
import Wide.All
import OpenK.AllK
import Wide.FinOn
import Lean
import PySem.Challenge.RW_sa0020_01
set_option Elab.async false
set_option compiler.extract_closed false
set_option linter.all false
set_option maxRecDepth 100000
set_option maxHeartbeats 8000000
section
open PySem PySem.W PyProof.Rows
namespace Mine
noncomputable def keepH : List Nat := [0, 2, 3, 4, 6, 7, 8, 10, 12, 13, 14, 15, 17, 18, 19, 20, 21, 22, 23, 24, 25, 26]
noncomputable def hd.view_39 : Program := { PySem.Challenge.rw_sa0020_01.row.toRowW.1 with main := { PySem.Challenge.rw_sa0020_01.row.toRowW.1.main with body := keepH.filterMap fun i => PySem.Challenge.rw_sa0020_01.row.toRowW.1.main.body[i]? } }
noncomputable def halfOf {p q : Program} {loose : List Str} {Xt : Shared → Bool} {α : Type} {Yf : Shared → α} {Ya : World → α} {N : Nat} {g0 : Bool} {W C : Prop} (_ : LeftO p q loose Xt Yf Ya N g0 ∧ W → C) (row : String) (b : Bool) : Prop :=
  ∀ w : World, (openEnds treeTable p (w.withFollow row b) N).map (fun s => (openSeen q loose (importedModules p.main.body) Xt g0 s, Yf s)) = some (openGood q loose, Ya (w.withFollow row b))
theorem both_halves {p q : Program} {loose : List Str} {Xt : Shared → Bool} {α : Type} {Yf : Shared → α} {Ya : World → α} {N : Nat} {g0 : Bool} {W C : Prop} (f : LeftO p q loose Xt Yf Ya N g0 ∧ W → C) (row : String)
    (hf : halfOf f row false) (ht : halfOf f row true) (h : W) : C := f ⟨fun w => by
  have e := World.withFollow_self w row
  cases hb : w.params.followText row <;> rw [hb] at e
  · have := hf w; rwa [e] at this
  · have := ht w; rwa [e] at this, h⟩
noncomputable def xt0 (s : Shared) : Bool := xlAt hd.view_39 [(Str.ofString "A", WData.tuple [WData.str { cps := #[63, 97] }]), (Str.ofString "B", WData.tuple [WData.str { cps := #[63, 98] }]), (Str.ofString "C", WData.tuple [WData.str { cps := #[63, 99] }])] s && recOk (RowW.records PySem.Challenge.rw_sa0020_01.row.toRowW) s
theorem o_wrap (H : Hook) {d : DefRec} {kwd : List (Str × Expr)} (hdef : defOf hd.view_39 PySem.Challenge.rw_sa0020_01.row.name = some (d, kwd)) (hp : PySem.Challenge.rw_sa0020_01.row.prog.theDef PySem.Challenge.rw_sa0020_01.row.name = some (d.params, d.body, d.scope)) (hk : kwWritten? d.params.kwonlyargs d.params.kw_defaults = some kwd)
    (k1 : PySem.Challenge.rw_sa0020_01.row.wellSaid = true) (hw : PySem.Challenge.rw_sa0020_01.row.toRowW.promised)
    (hh : LeftO PySem.Challenge.rw_sa0020_01.row.prog hd.view_39 [Str.ofString "A", Str.ofString "B", Str.ofString "C"] xt0 H.obs H.val 3784 ∧
      WalkO hd.view_39 [Str.ofString "A", Str.ofString "B", Str.ofString "C"] (XL hd.view_39 [(Str.ofString "A", WData.tuple [WData.str { cps := #[63, 97] }]), (Str.ofString "B", WData.tuple [WData.str { cps := #[63, 98] }]), (Str.ofString "C", WData.tuple [WData.str { cps := #[63, 99] }])]) H.says PySem.Challenge.rw_sa0020_01.row.toRowW d kwd fun f vs => PySem.call f vs) : PySem.Challenge.rw_sa0020_01.row.Holds :=
  holds_open hh.1 H.of H.keeps (fun s e => xl_of s (Bool.and_eq_true_iff.mp e).1) XL.keeps hdef hp hk (fun s e => recFacts_of (Bool.and_eq_true_iff.mp e).2) (by rfl) k1 (by decide +kernel) ⟨rfl, rfl, rfl, rfl, rfl, by decide +kernel⟩ hw hh.2
local macro_rules | `(tactic| o_head $H) => `(tactic| refine o_wrap $H (by rfl) (by rfl) (by rfl) (by assumption) ?hw ?hc)
local macro_rules | `(tactic| o_law) => `(tactic| refine holds_law (by kernel_rfl) fun said => ?_)
open_top hd for PySem.Challenge.rw_sa0020_01
theorem hd.f : halfOf hd "special-get-raises" false := by
  delta halfOf
  intro w
  kernel_rfl
theorem hd.t : halfOf hd "special-get-raises" true := by
  delta halfOf
  intro w
  kernel_rfl
noncomputable def hdW := both_halves hd "special-get-raises" hd.f hd.t
end Mine
end
section
open PySem PySem.W PyProof.Rows PySem.Spec PySem.Calls
namespace Mine
noncomputable def lse : List Str := looseW hd.view_39 [Str.ofString "A", Str.ofString "B", Str.ofString "C"]
/-- a contract of the def at f: called by any def's frame over the ledger news it hands back what P says -/
noncomputable def Con (w : World) (mean : ExcName → Option Value) (mg mb : Str → Option Value) (f : Addr) (sz : Nat) (vs : List Value) (news : List (Addr × Obj)) (P : Value → List (Addr × Obj) → Prop) : Prop :=
  ∀ (dp un : Nat) (gd : Option (List Code)) (cn : Str) (cs : Scope) (a : Addr) (ccd : Value) (cl : List (Str × Addr)) (outer : List Env) (A₀ : Around) (base h₀ : Heap) (L : Addr) (m : Str → Option Value) (s : Shared)
    (Q E : Value → Shared → Prop),
    Below A₀ base outer h₀ → Fr h₀ L s.heap m → (hd.heap_1 w.params).In h₀ → News h₀ L s.heap news → Top hd.view_39 lse mean mg mb h₀ → cs.kind = .function → dp + sz < recursionLimit → un + 8 * sz < cLine →
    (∀ r news' h' tk', Fr h₀ L h' m → News h₀ L h' news' → P r news' → Q r { s with heap := h', toks := tk' }) →
    wpAny (model PySem.Challenge.rw_sa0020_01.row.toRowW.prog w) (ktrTop dp un gd cn cs L a ccd cl outer) (call (.ref f) vs) Q E s
theorem News.sub {h₀ h : Heap} {L : Addr} {news news' : List (Addr × Obj)} (N : News h₀ L h news') (hs : ∀ p ∈ news, p ∈ news') : News h₀ L h news := fun p hp => N p (hs p hp)
theorem con_use {w : World} {mean : ExcName → Option Value} {mg mb : Str → Option Value} {f : Addr} {sz : Nat} {vs : List Value} {news news₁ : List (Addr × Obj)} {P : Value → List (Addr × Obj) → Prop}
    {dp un : Nat} {gd : Option (List Code)} {cn : Str} {cs : Scope} {a : Addr} {ccd : Value} {cl : List (Str × Addr)} {outer : List Env} {A₀ : Around} {base h₀ : Heap} {L : Addr} {m : Str → Option Value} {s : Shared}
    {Q E : Value → Shared → Prop} (C : Con w mean mg mb f sz vs news P)
    (B : Below A₀ base outer h₀) (F : Fr h₀ L s.heap m) (X : (hd.heap_1 w.params).In h₀) (N : News h₀ L s.heap news₁) (T : Top hd.view_39 lse mean mg mb h₀) (hs : ∀ p ∈ news, p ∈ news₁) (hk : cs.kind = .function) (hd : dp + sz < recursionLimit) (hu : un + 8 * sz < cLine)
    (ret : ∀ r news' h' tk', Fr h₀ L h' m → News h₀ L h' news' → P r news' → Q r { s with heap := h', toks := tk' }) :
    wpAny (model PySem.Challenge.rw_sa0020_01.row.toRowW.prog w) (ktrTop dp un gd cn cs L a ccd cl outer) (call (.ref f) vs) Q E s := C _ _ _ _ _ _ _ _ _ _ _ _ _ _ _ _ _ B F X (News.sub N hs) T hk hd hu ret
theorem room_kid {dp k t c R : Nat} (hd : dp + (2 * t + 10) < R) (h : k < t) (hc : Nat.ble c 2 = true) : dp + c + (2 * k + 10) < R := by
  have := Nat.le_of_ble_eq_true hc
  omega
theorem units_kid {un k t c R : Nat} (hu : un + 8 * (2 * t + 10) < R) (h : k < t) (hc : Nat.ble c 16 = true) : un + c + 8 * (2 * k + 10) < R := by
  have := Nat.le_of_ble_eq_true hc
  omega
theorem ex2 {α0 α1 : Type} {P : α0 → α1 → Prop} {G : Prop} (h : ∃ a b, P a b) (k : ∀ a b, P a b → G) : G := by
  obtain ⟨a, b, h⟩ := h
  exact k a b h
theorem ex3 {α0 α1 α2 : Type} {P : α0 → α1 → α2 → Prop} {G : Prop} (h : ∃ a b c, P a b c) (k : ∀ a b c, P a b c → G) : G := by
  obtain ⟨a, b, c, h⟩ := h
  exact k a b c h
theorem ex4 {α0 α1 α2 α3 : Type} {P : α0 → α1 → α2 → α3 → Prop} {G : Prop} (h : ∃ a b c d, P a b c d) (k : ∀ a b c d, P a b c d → G) : G := by
  obtain ⟨a, b, c, d, h⟩ := h
  exact k a b c d h
theorem ex5 {α0 α1 α2 α3 α4 : Type} {P : α0 → α1 → α2 → α3 → α4 → Prop} {G : Prop} (h : ∃ a b c d e, P a b c d e) (k : ∀ a b c d e, P a b c d e → G) : G := by
  obtain ⟨a, b, c, d, e, h⟩ := h
  exact k a b c d e h
theorem ex6 {α0 α1 α2 α3 α4 α5 : Type} {P : α0 → α1 → α2 → α3 → α4 → α5 → Prop} {G : Prop} (h : ∃ a b c d e f, P a b c d e f) (k : ∀ a b c d e f, P a b c d e f → G) : G := by
  obtain ⟨a, b, c, d, e, f, h⟩ := h
  exact k a b c d e f h
theorem ex7 {α0 α1 α2 α3 α4 α5 α6 : Type} {P : α0 → α1 → α2 → α3 → α4 → α5 → α6 → Prop} {G : Prop} (h : ∃ a b c d e f g, P a b c d e f g) (k : ∀ a b c d e f g, P a b c d e f g → G) : G := by
  obtain ⟨a, b, c, d, e, f, g, h⟩ := h
  exact k a b c d e f g h
theorem and3 {p0 p1 p2 G : Prop} (h : p0 ∧ p1 ∧ p2) (k : p0 → p1 → p2 → G) : G := by
  obtain ⟨h0, h1, h2⟩ := h
  exact k h0 h1 h2
theorem and4 {p0 p1 p2 p3 G : Prop} (h : p0 ∧ p1 ∧ p2 ∧ p3) (k : p0 → p1 → p2 → p3 → G) : G := by
  obtain ⟨h0, h1, h2, h3⟩ := h
  exact k h0 h1 h2 h3
theorem and5 {p0 p1 p2 p3 p4 G : Prop} (h : p0 ∧ p1 ∧ p2 ∧ p3 ∧ p4) (k : p0 → p1 → p2 → p3 → p4 → G) : G := by
  obtain ⟨h0, h1, h2, h3, h4⟩ := h
  exact k h0 h1 h2 h3 h4
theorem and6 {p0 p1 p2 p3 p4 p5 G : Prop} (h : p0 ∧ p1 ∧ p2 ∧ p3 ∧ p4 ∧ p5) (k : p0 → p1 → p2 → p3 → p4 → p5 → G) : G := by
  obtain ⟨h0, h1, h2, h3, h4, h5⟩ := h
  exact k h0 h1 h2 h3 h4 h5
theorem and7 {p0 p1 p2 p3 p4 p5 p6 G : Prop} (h : p0 ∧ p1 ∧ p2 ∧ p3 ∧ p4 ∧ p5 ∧ p6) (k : p0 → p1 → p2 → p3 → p4 → p5 → p6 → G) : G := by
  obtain ⟨h0, h1, h2, h3, h4, h5, h6⟩ := h
  exact k h0 h1 h2 h3 h4 h5 h6
theorem mv0 {q : Addr × Obj} {r : List (Addr × Obj)} : ∀ p ∈ q :: r, p ∈ q :: r := fun _ h => h
theorem mvS {q x : Addr × Obj} {r l : List (Addr × Obj)} (h : ∀ p ∈ q :: r, p ∈ l) : ∀ p ∈ q :: x :: r, p ∈ x :: l := fun p hp => by
  rcases List.mem_cons.mp hp with rfl | hp
  · exact List.mem_cons_of_mem _ (h _ List.mem_cons_self)
  · rcases List.mem_cons.mp hp with rfl | hp
    · exact List.mem_cons_self
    · exact List.mem_cons_of_mem _ (h _ (List.mem_cons_of_mem _ hp))
end Mine
end
section
open PySem PySem.W PyProof.Rows PySem.Spec PySem.Calls
namespace Mine
/-! A comprehension over a source that walks, turn by turn, over a ledger; a turn may raise. -/
section
variable {M : Model} {A : Around} {E : Value → Shared → Prop} {s : Shared} {env : Env}
/-- what is asked of the block's run: its ends, and a raise with the block's own frame named -/
noncomputable def zPost (M : Model) (A : Around) (E : Value → Shared → Prop) (use : Option (Value → Sem Unit)) (Q : Value → Shared → Prop) (acc : Value) (cenv : Env) (r : Result) (s' : Shared) : Prop :=
  match r with
  | .ok f => compPost M A E use Q acc cenv.locals (.ok f) s'
  | .error x => ∃ m, s'.heap.Ns cenv.locals m ∧ ∀ h', Heap.SameBut cenv.locals s'.heap h' → wpAny M A (passOn "comprehension.variables-let-go" x cenv : Sem Value) (fun _ _ => False) E { s' with heap := h' }
theorem z_comprehension {e : Expr} {scope : Scope} {pos : Pos} {newAcc first : Sem Value} {g : Comprehension} {gs : List Comprehension} {cl : List (Str × Addr)} {use : Option (Value → Sem Unit)}
    {Q : Value → Shared → Prop}
    (hcl : clausesOf e = g :: gs) (hs : ∀ x, foldedSetIterable g.iter env x = pure x) (hclos : closureFor scope env = pure cl)
    (hkind : scope.kind = .function) (hnames : ∀ x ∈ scope.names, x.2 = .local → scope.names.lookup x.1 = some .local)
    (h : wpAny M A first (fun x s₁ => wpAny M A (pyIter x) (fun it s₂ => wpAny M A newAcc (fun acc s₃ =>
      wpAny M A (newFunctionEnv scope env.globals cl [] env.qual none .none (some env)) (fun cenv s₄ =>
        codeAny M A (.compStart e 0 it acc { cenv with scope := relabel scope env }) (zPost M A E use Q acc { cenv with scope := relabel scope env }) s₄) E s₃) E s₂) E s₁) E s) :
    wpAny M A (comprehension e scope env pos newAcc false first use) Q E s := by
  unfold comprehension
  rw [hclos, hcl]
  refine wpAny_bind (wpAny_mono h (fun x s₁ h₁ => wpAny_bind (wpAny_standAt (wpAny_bind (wpAny_of_eq (hs x) (wpAny_bind (wpAny_holding (wpAny_mono h₁ (fun it s₂ h₂ =>
    wpAny_standIf (wpAny_bind (wpAny_mono h₂ (fun acc s₃ h₃ => wpAny_bind (wpAny_pure (wpAny_bind (wpAny_mono h₃ (fun cenv s₄ h₄ => ?_) fun _ _ q => q)))) fun _ _ q => q)))
      fun _ _ q => q))))))) fun _ _ q => q)
  dsimp only
  have hv : ∀ x ∈ (scope.names.filter fun x => (x.2 == .local || x.2 == .cell) && x.1 != (".0" : Str)).reverse, x.2 = .local →
      Env.kindOf { cenv with scope := relabel scope env } x.1 = some .local := fun x hx hl => lookup_relabel_local (hnames x (List.mem_filter.mp (List.mem_reverse.mp hx)).1 hl)
  have hv' : ∀ x ∈ (scope.names.filter fun x => (x.2 == .local || x.2 == .cell) && x.1 != (".0" : Str)).reverse.drop 1 ++ (scope.names.filter fun x => (x.2 == .local || x.2 == .cell) && x.1 != (".0" : Str)).reverse.take 1,
      x.2 = .local → Env.kindOf { cenv with scope := relabel scope env } x.1 = some .local := fun x hx hl => by
    rcases List.mem_append.mp hx with h1 | h1
    · exact hv x (List.mem_of_mem_drop h1) hl
    · exact hv x (List.mem_of_mem_take h1) hl
  refine wpAny_holding (wpAny_bind (wpAny_attempt (wpAny_holding (wpAny_run (codeAny_mono h₄ fun r s' hr => ?_)))))
  cases r with
  | ok f =>
    cases use with
    | none =>
      obtain ⟨m, hn, hr⟩ := hr
      exact wpAny_bind (wpAny_holding (wpAny_comp_letGo (cenv := { cenv with scope := relabel scope env }) hkind _ s' m hv hn fun h' m' _ hs' => wpAny_pure (hr h' hs')))
    | some u =>
      refine wpAny_bind (wpAny_rule (wpAny_bind (wpAny_holding (wpAny_mono hr (fun _ s'' hr' => ?_) fun _ _ q => q))))
      obtain ⟨m, hn, hr'⟩ := hr'
      exact wpAny_bind (wpAny_comp_letGo (cenv := { cenv with scope := relabel scope env }) hkind _ s'' m hv' hn fun h' m' _ hs' => wpAny_pure (hr' h' hs'))
  | error x =>
    obtain ⟨m, hn, hr⟩ := hr
    exact wpAny_bind (wpAny_holding (wpAny_comp_letGo (cenv := { cenv with scope := relabel scope env }) hkind _ s' m hv hn fun h' m' _ hs' => wpAny_mono (hr h' hs') (fun _ _ f => f.elim) fun _ _ y => y))
end
/-- the ledger behind a turn: the block's three objects, what else is known, off the three -/
noncomputable def CBack (h₀ : Heap) (L : Addr) (m : Str → Option Value) (s₁ : Shared) (I : Addr) (oI : Obj) (C D : Addr) (oD : Obj) (S : List (Addr × Obj) → Prop) (rest : List (Addr × Obj) → Prop) (s₂ : Shared) : Prop :=
  ∃ h' tk oC' m₂' news', s₂ = { s₁ with heap := h', toks := tk } ∧ Fr h₀ L h' m ∧ LCg.NsObj oC' m₂' ∧ News h₀ L h' ((I, oI) :: (C, oC') :: (D, oD) :: news') ∧ LCg.Off3 I C D news' ∧ S news' ∧ rest news'
theorem CBack.intro {h₀ : Heap} {L I C D : Addr} {m m₂' : Str → Option Value} {s₁ : Shared} {oI oC' oD : Obj} {S : List (Addr × Obj) → Prop} {rest : List (Addr × Obj) → Prop} {h' : Heap} {tk : Nat} {all : List (Addr × Obj)}
    (F : Fr h₀ L h' m) (hC : LCg.NsObj oC' m₂') (N : News h₀ L h' all) (news' : List (Addr × Obj)) (sub : ∀ p ∈ (I, oI) :: (C, oC') :: (D, oD) :: news', p ∈ all) (off : LCg.Off3 I C D news') (hS : S news') (r : rest news') :
    CBack h₀ L m s₁ I oI C D oD S rest { s₁ with heap := h', toks := tk } := ⟨h', tk, oC', m₂', news', rfl, F, hC, fun p hp => N p (sub p hp), off, hS, r⟩
noncomputable abbrev zTests (ifs : List Expr) (cenv : Env) : Sem Bool := forIn ifs true fun c r => if r = true then do let ok ← isTrue c cenv (eval c cenv); pure (ForInStep.yield ok) else pure (ForInStep.yield r)
/-- the turns that are left: one for each property of ps; X: what is asked of a raise in the block's environment -/
noncomputable def CRest (prog : Program) (w : World) (A : Around) (h₀ : Heap) (L : Addr) (m : Str → Option Value) (env : Env) (elt target : Expr) (ifs : List Expr) (scope : Scope) (cl : List (Str × Addr)) (s : Shared) (S : List (Addr × Obj) → Prop)
    (X : Env → Value → Shared → Prop) (Fin : List Value → List (Addr × Obj) → Prop) : List (Value → Prop) → List Value → List (Addr × Obj) → Prop
  | [], ys, news => Fin ys news
  | p :: ps, ys, news => ∀ v I oI C oC D m₂ h tk, p v → LCg.NsObj oC m₂ → Fr h₀ L h m → News h₀ L h ((I, oI) :: (C, oC) :: (D, LCg.lst ys) :: news) → LCg.Off3 I C D news → ((@Ne Nat I C) ∧ (@Ne Nat I D) ∧ (@Ne Nat C D)) → S news →
      wpAny (model prog w) A (assign target (compEnvC scope cl C env) v) (fun _ s₂ => wpAny (model prog w) A (zTests ifs (compEnvC scope cl C env)) (fun ok s₃ =>
        if ok = true then wpAny (model prog w) A (eval elt (compEnvC scope cl C env)) (fun y => CBack h₀ L m { s with heap := h, toks := tk } I oI C D (LCg.lst ys) S (CRest prog w A h₀ L m env elt target ifs scope cl s S X Fin ps (ys ++ [y]))) (X (compEnvC scope cl C env)) s₃
        else CBack h₀ L m { s with heap := h, toks := tk } I oI C D (LCg.lst ys) S (CRest prog w A h₀ L m env elt target ifs scope cl s S X Fin ps ys) s₃)
        (X (compEnvC scope cl C env)) s₂) (X (compEnvC scope cl C env)) { s with heap := h, toks := tk }
section
variable {prog : Program} {w : World} {A : Around} {E : Value → Shared → Prop} {s : Shared} {h₀ : Heap} {L : Addr} {m : Str → Option Value} {env : Env}
/-- the iterator owns no tuple -/
noncomputable def NotOwn (h : Heap) (I : Addr) : Prop := ∃ o c, h.get? I = some o ∧ o.cls = .type c ∧ (["enumerate", "zip", "dict_itemiterator", "dict_reverseitemiterator", "odict_iterator", "itertools.zip_longest", "itertools.pairwise"].contains c) = false
theorem own_name {x : Str} {px : Pos} {I : Addr} {v : Value} {s' : Shared} {Q' : Unit → Shared → Prop} {E' : Value → Shared → Prop} (_ : NotOwn s'.heap I) (h : Q' () s') : wpAny (model prog w) A (letOwnedTupleGo (.Name x px) (.ref I) v) Q' E' s' := wpAny_pure h
theorem own_tuple {elts : List Expr} {k} {tp : Pos} {I : Addr} {v : Value} {s' : Shared} {Q' : Unit → Shared → Prop} {E' : Value → Shared → Prop} (n : NotOwn s'.heap I) (h : Q' () s') : wpAny (model prog w) A (letOwnedTupleGo (.Tuple elts k tp) (.ref I) v) Q' E' s' := by
  obtain ⟨o, c, ho, hc, hn⟩ := n
  unfold letOwnedTupleGo
  cases v with
  | ref a =>
    refine wpAny_bind (wpAny_load ho ?_)
    rw [hc]
    cases hdd : o.data with
    | fields vs =>
      show wpAny _ A (if (["enumerate", "zip", "dict_itemiterator", "dict_reverseitemiterator", "odict_iterator", "itertools.zip_longest", "itertools.pairwise"].contains c && vs[0]? == some (rawInt a)) = true then _ else _) Q' E' s'
      rw [if_neg (by rw [hn, Bool.false_and]; decide)]
      exact wpAny_pure h
    | _ => exact wpAny_pure h
  | _ => exact wpAny_pure h
theorem z_loop {elt target iter : Expr} {ifs : List Expr} {scope : Scope} {pos : Pos} {it acc : Value} {env : Env} {R : Result → Shared → Prop} (I : Nat → Shared → Prop)
    (turn : ∀ n s, I n s → wpAny (model prog w) A (pyNext it) (fun r s₁ => match r with
      | none => R (.ok .next) s₁
      | some v => wpAny (model prog w) A (letOwnedTupleGo target it v) (fun _ s₁' => wpAny (model prog w) A (assign target env v) (fun _ s₂ =>
          wpAny (model prog w) A (zTests ifs env) (fun ok s₃ =>
            if ok = true then wpAny (model prog w) A (eval elt env) (fun x s₄ =>
              wpAny (model prog w) A (call (.builtin "list.append") [acc, x]) (fun _ s₅ => ∃ m, m < n ∧ I m s₅) (notedBy (model prog w) A env fun e s' => R (.error e) s') s₄) (notedBy (model prog w) A env fun e s' => R (.error e) s') s₃
            else ∃ m, m < n ∧ I m s₃) (notedBy (model prog w) A env fun e s' => R (.error e) s') s₂) (notedBy (model prog w) A env fun e s' => R (.error e) s') s₁') (notedBy (model prog w) A env fun e s' => R (.error e) s') s₁) (notedBy (model prog w) A env fun e s' => R (.error e) s') s)
    (n : Nat) {s : Shared} (h : I n s) : codeAny (model prog w) A (.compLoop (.ListComp elt [⟨target, iter, ifs, 0⟩] scope pos) 0 it acc env) R s := by
  refine codeAny_loop rfl I (fun n s hI => ?_) n h
  show wpAny _ A ((compTurn (.ListComp elt [⟨target, iter, ifs, 0⟩] scope pos) 0 it acc env).onRaise (fun x => do noteFrame x env; theTreesLotGoes x)) _ _ s
  refine wpAny_noted ?_
  rw [compTurn_list]
  refine wpAny_bind (wpAny_standAt (wpAny_bind (wpAny_mono (turn n s hI) (fun r s₁ h₁ => ?_) fun _ _ h' => h')))
  cases r with
  | none => exact wpAny_pure h₁
  | some v =>
    refine wpAny_bind (wpAny_mono h₁ (fun _ s₁' h₁' => ?_) fun _ _ h' => h')
    refine wpAny_bind (wpAny_mono h₁' (fun _ s₂ h₂ => wpAny_bind (wpAny_mono h₂ (fun ok s₃ h₃ => ?_) fun _ _ h' => h')) fun _ _ h' => h')
    cases ok with
    | false => exact wpAny_pure ⟨rfl, h₃⟩
    | true =>
      exact wpAny_bind (wpAny_bind (wpAny_mono h₃ (fun x s₄ h₄ => wpAny_bind (wpAny_mono h₄ (fun _ s₅ h₅ => wpAny_pure (wpAny_pure ⟨rfl, h₅⟩)) fun _ _ h' => h')) fun _ _ h' => h'))
theorem z_block {elt target iter : Expr} {ifs : List Expr} {scope : Scope} {cl : List (Str × Addr)} {pos : Pos} {s₂ : Shared} {I : Addr} {fp : List Addr} {ps : List (Value → Prop)} {P : Nat → Value → Prop} {St : Nat → Heap → Prop} {S : List (Addr × Obj) → Prop} {news : List (Addr × Obj)}
    {X : Env → Value → Shared → Prop} {Fin : List Value → List (Addr × Obj) → Prop} {RR : Value → Env → Result → Shared → Prop}
    (W : Walks prog w A I fp [I] ps.length P St) (hsz : ps.length ≤ sizeLine) (hP : ∀ i v (hi : i < ps.length), P i v → ps[i] v) (hIo : ∀ i h, St i h → ∃ o, h.get? I = some o)
    (hSt : ∀ i h h' o nw, St i h → h.get? I = some o → h'.get? I = some o → (∀ b o, h₀.get? b = some o → h'.get? b = some o) → News h₀ L h' nw → S nw → St i h')
    (hcell : ∀ y ∈ scope.names, y.2 ≠ .cell) (hkind : scope.kind = .function) (hst : St 0 s₂.heap) (hfp : ∀ b ∈ fp, b < s₂.heap.objs.size)
    (F : Fr h₀ L s₂.heap m) (N : News h₀ L s₂.heap news) (hIL : L ≠ I) (hI₀ : h₀.get? I = none) (off : ∀ p ∈ news, p.1 ≠ I) (hS : S news)
    (R : CRest prog w A h₀ L m env elt target ifs scope cl s₂ S X Fin ps [] news)
    (hX : ∀ D C e s', X (compEnvC scope cl C env) e s' → notedBy (model prog w) A (compEnvC scope cl C env) (fun e s'' => RR (.ref D) (compEnvC scope cl C env) (.error e) s'') e s')
    (hRR : ∀ D C h tk m' ys news', Fr h₀ L h m → News h₀ L h ((D, LCg.lst ys) :: news') → LCg.Off1 D news' → h.Ns C m' → h₀.get? C = none → h₀.get? D = none → C ≠ L → D ≠ L → C ≠ D → (∀ p ∈ news', p.1 ≠ C) → Fin ys news' → RR (.ref D) (compEnvC scope cl C env) (.ok .next) { s₂ with heap := h, toks := tk })
    (ht : ∀ i v (s' : Shared) (Q' : Unit → Shared → Prop) (E' : Value → Shared → Prop), St i s'.heap → Q' () s' → wpAny (model prog w) A (letOwnedTupleGo target (.ref I) v) Q' E' s') :
    wpAny (model prog w) A (newList []) (fun acc s₃ => wpAny (model prog w) A (newFunctionEnv scope env.globals cl [] env.qual none .none (some env)) (fun cenv s₄ =>
      codeAny (model prog w) A (.compStart (.ListComp elt [⟨target, iter, ifs, 0⟩] scope pos) 0 (.ref I) acc { cenv with scope := relabel scope env }) (RR acc { cenv with scope := relabel scope env }) s₄) E s₃) E s₂ := by
  refine wpAny_newObj_type (wpAny_newFunctionEnv hcell (by intro y hy; simp at hy) (fun h₁ hns₁ hsb₁ => ?_) hkind)
  dsimp only at hns₁ hsb₁ ⊢
  generalize hH2 : s₂.heap.push { cls := .type "list", dict := none, data := .seq ([] : List Value).toArray } = H2 at hns₁ hsb₁ ⊢
  have hC : H2.objs.size = s₂.heap.objs.size + 1 := by rw [← hH2, Heap.size_push]
  have hDC : s₂.heap.objs.size ≠ H2.objs.size := by rw [hC]; exact Nat.ne_of_lt (Nat.lt_succ_self _)
  have below : ∀ b, b < s₂.heap.objs.size → b ≠ H2.objs.size ∧ b ≠ s₂.heap.objs.size := fun b hb => ⟨by rw [hC]; exact Nat.ne_of_lt (Nat.lt_succ_of_lt hb), Nat.ne_of_lt hb⟩
  have hDf : s₂.heap.objs.size ∉ fp := fun hm => Nat.lt_irrefl _ (hfp _ hm)
  have hCf : H2.objs.size ∉ fp := fun hm => by have := hfp _ hm; rw [hC] at this; exact Nat.lt_irrefl _ (Nat.lt_of_succ_lt this)
  have hIf : I ∈ fp := W.sub I (List.mem_singleton.mpr rfl)
  have hIlt : I < s₂.heap.objs.size := hfp I hIf
  have old : ∀ b o, s₂.heap.get? b = some o → h₁.get? b = some o := fun b o e => hsb₁.extBut b o (below b (Heap.lt_size e)).1 (Heap.get?_push_of_some _ (hH2 ▸ Heap.get?_push_of_some _ e))
  have hacc : h₁.get? s₂.heap.objs.size = some (LCg.lst []) := hsb₁.extBut _ _ hDC (Heap.get?_push_of_some _ (hH2 ▸ Heap.get?_push_size _ rfl))
  have hst₁ : St 0 h₁ := W.frame _ _ _ hst fun b _ o e => old b o e
  have fresh : ∀ a, s₂.heap.objs.size ≤ a → s₂.heap.get? a = none := fun a ha => by
    cases e : s₂.heap.get? a with
    | none => rfl
    | some o' => exact absurd (Heap.lt_size e) (Nat.not_lt.mpr ha)
  have fresh₀ : ∀ a, s₂.heap.objs.size ≤ a → h₀.get? a = none := fun a ha => by
    cases e : h₀.get? a with
    | none => rfl
    | some o' => have := F.keep a o' e; rw [fresh a ha] at this; cases this
  have hD₀ : h₀.get? s₂.heap.objs.size = none := fresh₀ _ (Nat.le_refl _)
  have hC₀ : h₀.get? H2.objs.size = none := fresh₀ _ (by rw [hC]; exact Nat.le_succ _)
  have hLlt : L < s₂.heap.objs.size := F.ns.lt
  have hDL : s₂.heap.objs.size ≠ L := Ne.symm (below L hLlt).2
  have hCL : H2.objs.size ≠ L := Ne.symm (below L hLlt).1
  have hCI : I ≠ H2.objs.size := (below I hIlt).1
  have hDI : I ≠ s₂.heap.objs.size := (below I hIlt).2
  have off₀ : LCg.Off3 I H2.objs.size s₂.heap.objs.size news := LCg.Off3.of fun p hp => ⟨off p hp, (below _ (Heap.lt_size (N p hp).1)).1, (below _ (Heap.lt_size (N p hp).1)).2⟩
  have loop : ∀ s₃ : Shared, s₃ = { s₂ with heap := h₁, toks := s₂.toks + ([] : List (Str × Value)).length } →
      codeAny (model prog w) A (.compLoop (.ListComp elt [⟨target, iter, ifs, 0⟩] scope pos) 0 (.ref I) (.ref s₂.heap.objs.size) (compEnvC scope cl H2.objs.size env))
        (RR (.ref s₂.heap.objs.size) (compEnvC scope cl H2.objs.size env)) s₃ := by
    rintro s₃ rfl
    refine z_loop
      (fun k s' => ∃ h' tk i ys m' news', s' = { s₂ with heap := h', toks := tk } ∧ i ≤ ps.length ∧ k = ps.length + 1 - i ∧ ys.length ≤ i ∧ St i h' ∧ Fr h₀ L h' m ∧ h'.Ns H2.objs.size m' ∧ News h₀ L h' ((s₂.heap.objs.size, LCg.lst ys) :: news') ∧
        LCg.Off3 I H2.objs.size s₂.heap.objs.size news' ∧ S news' ∧ CRest prog w A h₀ L m env elt target ifs scope cl s₂ S X Fin (ps.drop i) ys news') ?_ (ps.length + 1)
      ⟨h₁, _, 0, [], _, news, rfl, Nat.zero_le _, rfl, Nat.le_refl _, hst₁, F.keeps old, hns₁, fun p hp => ?_, off₀, hS, R⟩
    · rintro k s' ⟨h', tk, i, ys, m', news', rfl, hi, rfl, hyl, hst', F', hn', N', off', hS', R'⟩
      by_cases hlt : i < ps.length
      · rw [List.drop_eq_getElem_cons hlt] at R'
        refine W.item i _ _ _ hlt hst' fun v h₂ tk₂ hPv hst₂ hk₂ => ?_
        have hn₂ : h₂.Ns H2.objs.size m' := hn'.at' fun o e => hk₂ _ o (by simpa using Ne.symm hCI) e
        obtain ⟨oI, heI⟩ := hIo _ _ hst₂
        obtain ⟨oC, heC, hoC⟩ := LCg.ns_obj hn₂
        have F₂ : Fr h₀ L h₂ m := LCg.fr_but F' hk₂ hIL hI₀
        have off3 := off'.mem
        have N₂ : News h₀ L h₂ ((s₂.heap.objs.size, LCg.lst ys) :: news') := LCg.news_but N' hk₂ fun p hp => by
          rcases List.mem_cons.mp hp with rfl | hp
          · exact Ne.symm hDI
          · exact (off3 p hp).1
        have N₃ : News h₀ L h₂ ((I, oI) :: (H2.objs.size, oC) :: (s₂.heap.objs.size, LCg.lst ys) :: news') := fun p hp => by
          rcases List.mem_cons.mp hp with rfl | hp
          · exact ⟨heI, Ne.symm hIL, hI₀⟩
          · rcases List.mem_cons.mp hp with rfl | hp
            · exact ⟨heC, hCL, hC₀⟩
            · exact N₂ p hp
        have back : ∀ ys' s₄, (ys'.length ≤ i + 1) → (∃ h₄ tk₄ oC' m₂' news₄, s₄ = { s₂ with heap := h₄, toks := tk₄ } ∧ Fr h₀ L h₄ m ∧ LCg.NsObj oC' m₂' ∧ News h₀ L h₄ ((I, oI) :: (H2.objs.size, oC') :: (s₂.heap.objs.size, LCg.lst ys') :: news₄) ∧ LCg.Off3 I H2.objs.size s₂.heap.objs.size news₄ ∧ S news₄ ∧
            CRest prog w A h₀ L m env elt target ifs scope cl s₂ S X Fin (ps.drop (i + 1)) ys' news₄) →
            ∃ m₁, m₁ < ps.length + 1 - i ∧ ∃ h' tk i' ys m' news', s₄ = { s₂ with heap := h', toks := tk } ∧ i' ≤ ps.length ∧ m₁ = ps.length + 1 - i' ∧ ys.length ≤ i' ∧ St i' h' ∧ Fr h₀ L h' m ∧ h'.Ns H2.objs.size m' ∧ News h₀ L h' ((s₂.heap.objs.size, LCg.lst ys) :: news') ∧
              LCg.Off3 I H2.objs.size s₂.heap.objs.size news' ∧ S news' ∧ CRest prog w A h₀ L m env elt target ifs scope cl s₂ S X Fin (ps.drop i') ys news' := by
          rintro ys' s₄ hl' ⟨h₄, tk₄, oC', m₂', news₄, rfl, F₄, hC', N₄, off₄, hS₄, R₄⟩
          have zI := (N₄ (I, oI) List.mem_cons_self).1
          have zC := (N₄ (H2.objs.size, oC') (List.mem_cons_of_mem _ List.mem_cons_self)).1
          have N₄' : News h₀ L h₄ ((s₂.heap.objs.size, LCg.lst ys') :: news₄) := fun p hp => N₄ p (List.mem_cons_of_mem _ (List.mem_cons_of_mem _ hp))
          exact ⟨ps.length + 1 - (i + 1), by omega, h₄, tk₄, i + 1, ys', m₂', news₄, rfl, hlt, rfl, hl', hSt _ _ _ _ _ hst₂ heI zI F₄.keep (fun p hp => N₄' p (List.mem_cons_of_mem _ hp)) hS₄, F₄, hC'.ns zC, N₄', off₄, hS₄, R₄⟩
        have hXn := hX s₂.heap.objs.size H2.objs.size
        refine ht (i + 1) v _ _ _ hst₂ ?_
        refine wpAny_mono (R' v I oI H2.objs.size oC s₂.heap.objs.size _ h₂ tk₂ (hP i v hlt hPv) hoC F₂ N₃ off' ⟨hCI, hDI, Ne.symm hDC⟩ hS') (fun _ s₃ h₃ => ?_) hXn
        refine wpAny_mono h₃ (fun ok s₅ h₅ => ?_) hXn
        split
        · rename_i hok
          rw [if_pos hok] at h₅
          refine wpAny_mono h₅ (fun y s₆ h₆ => ?_) hXn
          obtain ⟨h₄, tk₄, oC', m₂', news₄, rfl, F₄, hC', N₄, off₄, hS₄, R₄⟩ := h₆
          have zD := (N₄ (s₂.heap.objs.size, LCg.lst ys) (List.mem_cons_of_mem _ (List.mem_cons_of_mem _ List.mem_cons_self))).1
          have off4 := off₄.mem
          refine append_at (hsz := by show ys.toArray.size ≤ sizeLine; rw [List.size_toArray]; omega) zD fun h₅ hs₅ hD₅ => ?_
          refine back (ys ++ [y]) _ (by rw [List.length_append, List.length_singleton]; omega) ⟨h₅, tk₄, oC', m₂', news₄, rfl, F₄.change hs₅ hDL hD₀, hC', fun p hp => ?_, off₄, hS₄, R₄⟩
          rcases List.mem_cons.mp hp with rfl | hp
          · exact ⟨hs₅.extBut _ _ hDI (N₄ _ List.mem_cons_self).1, (N₄ _ List.mem_cons_self).2⟩
          · rcases List.mem_cons.mp hp with rfl | hp
            · have z := N₄ (H2.objs.size, oC') (List.mem_cons_of_mem _ List.mem_cons_self)
              exact ⟨hs₅.extBut _ _ (Ne.symm hDC) z.1, z.2⟩
            · rcases List.mem_cons.mp hp with rfl | hp
              · exact ⟨hD₅.trans (congrArg some (LCg.lst_snoc ys y)), hDL, hD₀⟩
              · have z := N₄ p (List.mem_cons_of_mem _ (List.mem_cons_of_mem _ (List.mem_cons_of_mem _ hp)))
                exact ⟨hs₅.extBut _ _ (off4 p hp).2.2 z.1, z.2⟩
        · rename_i hok
          rw [if_neg hok] at h₅
          obtain ⟨h₄, tk₄, oC', m₂', news₄, rfl, r⟩ := h₅
          exact back ys _ (by omega) ⟨h₄, tk₄, oC', m₂', news₄, rfl, r⟩
      · obtain rfl : i = ps.length := Nat.le_antisymm hi (Nat.not_lt.mp hlt)
        rw [List.drop_length] at R'
        refine W.done _ _ _ hst' fun h₂ tk₂ hk₂ => ?_
        have off3 := off'.mem
        exact hRR _ _ h₂ tk₂ _ ys news' (LCg.fr_but F' hk₂ hIL hI₀) (LCg.news_but N' hk₂ fun p hp => by
          rcases List.mem_cons.mp hp with rfl | hp
          · exact Ne.symm hDI
          · exact (off3 p hp).1) off'.one (hn'.at' fun o e => hk₂ _ o (by simpa using Ne.symm hCI) e) hC₀ hD₀ hCL hDL (Ne.symm hDC) (fun p hp => (off3 p hp).2.1) R'
    · rcases List.mem_cons.mp hp with rfl | hp
      · exact ⟨hacc, hDL, hD₀⟩
      · exact ⟨old _ _ (N p hp).1, (N p hp).2⟩
  exact codeAny_compStart_list (loop _ rfl) (W.self 0 _ _ _ hst₁ (loop _ rfl))
/-- the source is a list (c: "list") or a tuple of the written part or of the ledger -/
noncomputable def SeqIn (c : String) (h₀ : Heap) (ax : Addr) (its : List Value) (news : List (Addr × Obj)) : Prop :=
  ∃ o, (h₀.get? ax = some o ∨ (ax, o) ∈ news) ∧ o.cls = .type c ∧ ∃ n, o.data = .seq its.toArray n
theorem SeqIn.at {c : String} {h₀ h : Heap} {L ax : Addr} {its : List Value} {news : List (Addr × Obj)} (x : SeqIn c h₀ ax its news) (k : ∀ b o, h₀.get? b = some o → h.get? b = some o) (N : News h₀ L h news) : ∃ o, h.get? ax = some o ∧ o.cls = .type c ∧ ∃ n, o.data = .seq its.toArray n := by
  obtain ⟨o, e, r⟩ := x
  exact ⟨o, e.elim (k _ _) fun hm => (N _ hm).1, r⟩
theorem SeqIn.list {h₀ : Heap} {ax : Addr} {its : List Value} {news : List (Addr × Obj)} {n : Nat} (hm : (ax, ({ cls := .type "list", data := .seq its.toArray n } : Obj)) ∈ news) : SeqIn "list" h₀ ax its news := ⟨_, .inr hm, rfl, _, rfl⟩
theorem SeqIn.tup {h₀ : Heap} {ax : Addr} {its : List Value} {news : List (Addr × Obj)} {n : Nat} (hm : (ax, ({ cls := .type "tuple", data := .seq its.toArray n } : Obj)) ∈ news) : SeqIn "tuple" h₀ ax its news := ⟨_, .inr hm, rfl, _, rfl⟩
theorem SeqIn.base {c : String} {h₀ : Heap} {ax : Addr} {its : List Value} {news : List (Addr × Obj)} (h : ∃ o, h₀.get? ax = some o ∧ o.cls = .type c ∧ ∃ n, o.data = .seq its.toArray n) : SeqIn c h₀ ax its news := let ⟨o, e, r⟩ := h; ⟨o, .inl e, r⟩
noncomputable def eqs (its : List Value) : List (Value → Prop) := its.map fun v x => x = v
theorem eqs_length (its : List Value) : (eqs its).length = its.toArray.size := by rw [eqs, List.length_map, List.size_toArray]
theorem eqs_at {its : List Value} {i : Nat} {v : Value} (hi : i < (eqs its).length) (h : its.toArray[i]? = some v) : (eqs its)[i] v := by
  have h' : its[i]? = some v := by simpa using h
  have hi' : i < its.length := by simpa [eqs] using hi
  rw [List.getElem?_eq_getElem hi'] at h'
  have e : (eqs its)[i] = fun x => x = its[i] := by simp [eqs]
  rw [e]
  exact (Option.some.inj h').symm
/-- what the iterable must be: a sequence, or range(n) -/
noncomputable def ZSrc (prog : Program) (w : World) (A : Around) (h₀ : Heap) (L : Addr) (m : Str → Option Value) (env : Env) (elt target : Expr) (ifs : List Expr) (scope : Scope) (cl : List (Str × Addr)) (X : Env → Value → Shared → Prop) (Fin : Shared → List Value → List (Addr × Obj) → Prop) (xv : Value) (s₁ : Shared) : Prop :=
  (∃ c ax its news, (c = "list" ∨ c = "tuple") ∧ xv = .ref ax ∧ A.handled = none ∧ Fr h₀ L s₁.heap m ∧ News h₀ L s₁.heap news ∧ SeqIn c h₀ ax its news ∧ its.length ≤ sizeLine ∧
    ∀ g, CRest prog w A h₀ L m env elt target ifs scope cl { s₁ with heap := g } (SeqIn c h₀ ax its) X (Fin { s₁ with heap := g }) (eqs its) [] news) ∨
  (∃ r a b t u v n news, xv = .ref r ∧ A.handled = none ∧ Fr h₀ L s₁.heap m ∧ News h₀ L s₁.heap news ∧ IsRange s₁.heap r a b 1 t u v ∧ Builtin.Range.small a b 1 = true ∧ Builtin.Range.rangeSize a b 1 = ((n : Nat) : Int) ∧ n ≤ sizeLine ∧
    ∀ g, CRest prog w A h₀ L m env elt target ifs scope cl { s₁ with heap := g } (fun _ => True) X (Fin { s₁ with heap := g }) (List.replicate n fun v => ∃ i t, v = .int i t) [] news)
theorem ZSrc.lst {prog : Program} {w : World} {A : Around} {h₀ : Heap} {L : Addr} {m : Str → Option Value} {env : Env} {elt target : Expr} {ifs : List Expr} {scope : Scope} {cl : List (Str × Addr)} {X : Env → Value → Shared → Prop} {Fin : Shared → List Value → List (Addr × Obj) → Prop} {s₁ : Shared} {ax : Addr} {its : List Value} {news : List (Addr × Obj)} (hh : A.handled = none) (F : Fr h₀ L s₁.heap m) (N : News h₀ L s₁.heap news) (S : SeqIn "list" h₀ ax its news) (hz : its.length ≤ sizeLine)
    (R : ∀ g, CRest prog w A h₀ L m env elt target ifs scope cl { s₁ with heap := g } (SeqIn "list" h₀ ax its) X (Fin { s₁ with heap := g }) (eqs its) [] news) : ZSrc prog w A h₀ L m env elt target ifs scope cl X Fin (.ref ax) s₁ := .inl ⟨"list", ax, its, news, .inl rfl, rfl, hh, F, N, S, hz, R⟩
theorem ZSrc.tup {prog : Program} {w : World} {A : Around} {h₀ : Heap} {L : Addr} {m : Str → Option Value} {env : Env} {elt target : Expr} {ifs : List Expr} {scope : Scope} {cl : List (Str × Addr)} {X : Env → Value → Shared → Prop} {Fin : Shared → List Value → List (Addr × Obj) → Prop} {s₁ : Shared} {ax : Addr} {its : List Value} {news : List (Addr × Obj)} (hh : A.handled = none) (F : Fr h₀ L s₁.heap m) (N : News h₀ L s₁.heap news) (S : SeqIn "tuple" h₀ ax its news) (hz : its.length ≤ sizeLine)
    (R : ∀ g, CRest prog w A h₀ L m env elt target ifs scope cl { s₁ with heap := g } (SeqIn "tuple" h₀ ax its) X (Fin { s₁ with heap := g }) (eqs its) [] news) : ZSrc prog w A h₀ L m env elt target ifs scope cl X Fin (.ref ax) s₁ := .inl ⟨"tuple", ax, its, news, .inr rfl, rfl, hh, F, N, S, hz, R⟩
theorem ZSrc.rng {prog : Program} {w : World} {A : Around} {h₀ : Heap} {L : Addr} {m : Str → Option Value} {env : Env} {elt target : Expr} {ifs : List Expr} {scope : Scope} {cl : List (Str × Addr)} {X : Env → Value → Shared → Prop} {Fin : Shared → List Value → List (Addr × Obj) → Prop} {s₁ : Shared} {r : Addr} {a b : Int} {t u v : Tok} (n : Nat) {news : List (Addr × Obj)} (hh : A.handled = none) (F : Fr h₀ L s₁.heap m) (N : News h₀ L s₁.heap news) (hr : IsRange s₁.heap r a b 1 t u v) (hs : Builtin.Range.small a b 1 = true) (hn : Builtin.Range.rangeSize a b 1 = ((n : Nat) : Int)) (hz : n ≤ sizeLine)
    (R : ∀ g, CRest prog w A h₀ L m env elt target ifs scope cl { s₁ with heap := g } (fun _ => True) X (Fin { s₁ with heap := g }) (List.replicate n fun v => ∃ i t, v = .int i t) [] news) : ZSrc prog w A h₀ L m env elt target ifs scope cl X Fin (.ref r) s₁ := .inr ⟨r, a, b, t, u, v, n, news, rfl, hh, F, N, hr, hs, hn, hz, R⟩
theorem z_src {elt target iter : Expr} {ifs : List Expr} {scope : Scope} {cl : List (Str × Addr)} {pos : Pos} {X : Env → Value → Shared → Prop} {Fin : Shared → List Value → List (Addr × Obj) → Prop} {RR : Value → Env → Result → Shared → Prop} {xv : Value} {s₁ : Shared}
    (hcell : ∀ y ∈ scope.names, y.2 ≠ .cell) (hkind : scope.kind = .function) (h : ZSrc prog w A h₀ L m env elt target ifs scope cl X Fin xv s₁)
    (hX : ∀ D C e s', X (compEnvC scope cl C env) e s' → notedBy (model prog w) A (compEnvC scope cl C env) (fun e s'' => RR (.ref D) (compEnvC scope cl C env) (.error e) s'') e s')
    (hRR : ∀ g D C h tk m' ys news', Fr h₀ L h m → News h₀ L h ((D, LCg.lst ys) :: news') → LCg.Off1 D news' → h.Ns C m' → h₀.get? C = none → h₀.get? D = none → C ≠ L → D ≠ L → C ≠ D → (∀ p ∈ news', p.1 ≠ C) → Fin { s₁ with heap := g } ys news' → RR (.ref D) (compEnvC scope cl C env) (.ok .next) { s₁ with heap := h, toks := tk })
    (ht : ∀ (I : Addr) (v : Value) (s' : Shared) (Q' : Unit → Shared → Prop) (E' : Value → Shared → Prop), NotOwn s'.heap I → Q' () s' → wpAny (model prog w) A (letOwnedTupleGo target (.ref I) v) Q' E' s') :
    wpAny (model prog w) A (pyIter xv) (fun it s₂ => wpAny (model prog w) A (newList []) (fun acc s₃ => wpAny (model prog w) A (newFunctionEnv scope env.globals cl [] env.qual none .none (some env)) (fun cenv s₄ =>
      codeAny (model prog w) A (.compStart (.ListComp elt [⟨target, iter, ifs, 0⟩] scope pos) 0 it acc { cenv with scope := relabel scope env }) (RR acc { cenv with scope := relabel scope env }) s₄) E s₃) E s₂) E s₁ := by
  rcases h with ⟨c, ax, its, news, hc, rfl, hh, F, N, S, hsz, R⟩ | ⟨r, a, b, t, u, v, n, news, rfl, hh, F, N, hr, hsm, hn, hsz, R⟩
  · have hl := S.at F.keep N
    have hlt : ax < s₁.heap.objs.size := by obtain ⟨_, e, _⟩ := hl; exact Heap.lt_size e
    rcases hc with rfl | rfl
    · refine wpAny_pyIter_list hl ?_
      have up : ∀ b o, s₁.heap.get? b = some o → (s₁.heap.push { cls := .type "list_iterator", data := .fields #[.ref ax, .int 0 0] }).get? b = some o := fun b o e => Heap.get?_push_of_some _ e
      have W : Walks prog w A s₁.heap.objs.size [s₁.heap.objs.size, ax] [s₁.heap.objs.size] (eqs its).length (fun i v => its.toArray[i]? = some v) (fun i h => h.IsListIter s₁.heap.objs.size ax i ∧ h.IsList ax its.toArray) := by
        rw [eqs_length]; exact Walks.list hh s₁.heap.objs.size ax (Nat.ne_of_lt hlt) its.toArray
      refine z_block W (by rw [eqs_length, List.size_toArray]; exact hsz) (fun i v hi e => eqs_at hi e) (fun i h st => by obtain ⟨o, e, _⟩ := st.1; exact ⟨o, e⟩)
        (S := SeqIn "list" h₀ ax its) (fun i h h' o nw st e e' k N S => ⟨by obtain ⟨o', q, r⟩ := st.1; rw [e] at q; cases q; exact ⟨o, e', r⟩, S.at k N⟩) hcell hkind ⟨⟨_, Heap.get?_push_size _ rfl, rfl, rfl⟩, Heap.IsList.push hl _⟩ (fun b hb => ?_)
        (F.keeps up) (N.grown up) (Nat.ne_of_lt F.ns.lt) (next_is_new F) (fun p hp => Nat.ne_of_lt (Heap.lt_size (N p hp).1)) S (R _) hX (hRR _) (fun i v s' Q' E' st q => ht _ v s' Q' E' (by obtain ⟨o, e, c, _⟩ := st.1; exact ⟨o, _, e, c, by decide⟩) q)
      show b < (s₁.heap.push _).objs.size
      rw [Heap.size_push]
      rcases List.mem_cons.mp hb with rfl | hb
      · exact Nat.lt_succ_self _
      · rw [List.mem_singleton.mp hb]; exact Nat.lt_succ_of_lt hlt
    · refine wpAny_pyIter_tuple hl ?_
      have up : ∀ b o, s₁.heap.get? b = some o → (s₁.heap.push { cls := .type "tuple_iterator", data := .fields #[.ref ax, .int 0 0] }).get? b = some o := fun b o e => Heap.get?_push_of_some _ e
      have W : Walks prog w A s₁.heap.objs.size [s₁.heap.objs.size, ax] [s₁.heap.objs.size] (eqs its).length (fun i v => its.toArray[i]? = some v) (fun i h => h.IsTupleIter s₁.heap.objs.size ax i ∧ h.IsTuple ax its.toArray) := by
        rw [eqs_length]; exact Walks.tuple hh s₁.heap.objs.size ax (Nat.ne_of_lt hlt) its.toArray
      refine z_block W (by rw [eqs_length, List.size_toArray]; exact hsz) (fun i v hi e => eqs_at hi e) (fun i h st => by obtain ⟨o, e, _⟩ := st.1; exact ⟨o, e⟩)
        (S := SeqIn "tuple" h₀ ax its) (fun i h h' o nw st e e' k N S => ⟨by obtain ⟨o', q, r⟩ := st.1; rw [e] at q; cases q; exact ⟨o, e', r⟩, S.at k N⟩) hcell hkind ⟨⟨_, Heap.get?_push_size _ rfl, rfl, rfl⟩, let ⟨o, e, r⟩ := hl; ⟨o, up _ _ e, r⟩⟩ (fun b hb => ?_)
        (F.keeps up) (N.grown up) (Nat.ne_of_lt F.ns.lt) (next_is_new F) (fun p hp => Nat.ne_of_lt (Heap.lt_size (N p hp).1)) S (R _) hX (hRR _) (fun i v s' Q' E' st q => ht _ v s' Q' E' (by obtain ⟨o, e, c, _⟩ := st.1; exact ⟨o, _, e, c, by decide⟩) q)
      show b < (s₁.heap.push _).objs.size
      rw [Heap.size_push]
      rcases List.mem_cons.mp hb with rfl | hb
      · exact Nat.lt_succ_self _
      · rw [List.mem_singleton.mp hb]; exact Nat.lt_succ_of_lt hlt
  · refine wpAny_pyIter_range hr hsm ?_
    have W : Walks prog w A s₁.heap.objs.size [s₁.heap.objs.size] [s₁.heap.objs.size] (List.replicate n fun v : Value => ∃ i t, v = .int i t).length (fun i v => ∃ t, v = .int (a + (i : Int)) t) (fun i h => IsRangeIter h s₁.heap.objs.size (a + (i : Nat) * 1) ((n : Int) - (i : Nat)) 1) := by
      rw [List.length_replicate]; exact LCg.range_walks hh a n
    refine z_block W (by rw [List.length_replicate]; exact hsz) (fun i v hi e => by obtain ⟨t, rfl⟩ := e; rw [List.getElem_replicate]; exact ⟨_, _, rfl⟩) (fun i h st => ⟨_, st⟩) LCg.range_st hcell hkind (by show IsRangeIter _ _ _ _ _; rw [hn]; simpa using Heap.get?_push_size _ rfl) (fun b hb => ?_)
      (F.keeps fun _ _ e => Heap.get?_push_of_some _ e) (N.grown fun _ _ e => Heap.get?_push_of_some _ e) (Nat.ne_of_lt F.ns.lt) (next_is_new F) (fun p hp => Nat.ne_of_lt (Heap.lt_size (N p hp).1)) trivial (R _) hX (hRR _) (fun i v s' Q' E' st q => ht _ v s' Q' E' ⟨_, _, st, rfl, by decide⟩ q)
    rw [List.mem_singleton.mp hb]
    show s₁.heap.objs.size < (s₁.heap.push _).objs.size
    rw [Heap.size_push]; exact Nat.lt_succ_self _
/-- a raise in the block, as its surroundings hear of it -/
noncomputable def zX (prog : Program) (w : World) (A : Around) (E : Value → Shared → Prop) (cenv : Env) : Value → Shared → Prop :=
  notedBy (model prog w) A cenv (fun e s' => ∃ m, s'.heap.Ns cenv.locals m ∧ ∀ h', Heap.SameBut cenv.locals s'.heap h' → wpAny (model prog w) A (passOn "comprehension.variables-let-go" e cenv : Sem Value) (fun _ _ => False) E { s' with heap := h' })
theorem z_ListComp {elt target iter : Expr} {ifs : List Expr} {scope : Scope} {cl : List (Str × Addr)} {pos : Pos} {Q : Value → Shared → Prop} (_F₀ : Fr h₀ L s.heap m)
    (hclos : closureFor scope env = pure cl) (hcell : ∀ y ∈ scope.names, y.2 ≠ .cell) (hkind : scope.kind = .function)
    (hnames : ∀ y ∈ scope.names, y.2 = .local → scope.names.lookup y.1 = some .local)
    (h : wpAny (model prog w) A (eval iter env) (ZSrc prog w A h₀ L m env elt target ifs scope cl (zX prog w A E) (fun s₂ => LCg.FinE h₀ L m s₂ Q)) E s)
    (hs : ∀ x, foldedSetIterable iter env x = pure x := by intro _; rfl) (ht : ∀ (I : Addr) (v : Value) (s' : Shared) (Q' : Unit → Shared → Prop) (E' : Value → Shared → Prop), NotOwn s'.heap I → Q' () s' → wpAny (model prog w) A (letOwnedTupleGo target (.ref I) v) Q' E' s') :
    wpAny (model prog w) A (eval (.ListComp elt [⟨target, iter, ifs, 0⟩] scope pos) env) Q E s := by
  rw [eval_ListComp]
  refine z_comprehension (use := none) rfl hs hclos hkind hnames (wpAny_mono h (fun xv s₁ h₁ => ?_) fun _ _ e => e)
  refine z_src hcell hkind h₁ (fun D C e s' x => x) (fun g D C h tk m' ys news' F' N' o1 hn hC₀ hD₀ hCL hDL hCD offC fin => ?_) ht
  refine ⟨m', hn, fun h'' hs'' => fin D h'' tk (F'.change hs'' hCL hC₀) (fun p hp => ?_) o1⟩
  refine ⟨hs''.extBut _ _ ?_ (N' p hp).1, (N' p hp).2⟩
  rcases List.mem_cons.mp hp with rfl | hp
  · exact Ne.symm hCD
  · exact offC p hp
theorem z_Assign {elt target iter : Expr} {ifs : List Expr} {y : Str} {py : Pos} {scope : Scope} {cl : List (Str × Addr)} {pos spos : Pos} {Q : Flow → Shared → Prop} (_F₀ : Fr h₀ L s.heap m) (hLe : env.locals = L)
    (hsw : swapsWith (.ListComp elt [⟨target, iter, ifs, 0⟩] scope pos) (some (.Name y py)) spos.line env = pure true)
    (hclos : closureFor scope env = pure cl) (hcell : ∀ z ∈ scope.names, z.2 ≠ .cell) (hkind : scope.kind = .function)
    (hnames : ∀ z ∈ scope.names, z.2 = .local → scope.names.lookup z.1 = some .local)
    (hy : env.kindOf y = some .local) (hp : (env.scope.kind == .class || (env.scope.kind == .module && env.locals != env.globals)) = false)
    (h : wpAny (model prog w) A (eval iter env) (ZSrc prog w A h₀ L m env elt target ifs scope cl (zX prog w A E) (fun s₂ => LCg.FinA h₀ L m s₂ y Q)) E s)
    (hs : ∀ x, foldedSetIterable iter env x = pure x := by intro _; rfl) (ht : ∀ (I : Addr) (v : Value) (s' : Shared) (Q' : Unit → Shared → Prop) (E' : Value → Shared → Prop), NotOwn s'.heap I → Q' () s' → wpAny (model prog w) A (letOwnedTupleGo target (.ref I) v) Q' E' s') :
    wpAny (model prog w) A (exec (.Assign [.Name y py] (.ListComp elt [⟨target, iter, ifs, 0⟩] scope pos) spos) env) Q E s := by
  subst hLe
  rw [exec_Assign_Name_used _ _ _ _ hsw]
  refine wpAny_bind (wpAny_standAt (wpAny_bind ?_))
  show wpAny _ A (do let _ ← comprehension (.ListComp elt [⟨target, iter, ifs, 0⟩] scope pos) scope env _ (newList []) false (eval iter env) (some (assign (.Name y py) env))) _ _ s
  refine wpAny_bind (wpAny_mono (z_comprehension (use := some (assign (.Name y py) env)) (Q := fun _ s' => Q .next s') rfl hs hclos hkind hnames
    (wpAny_mono h (fun xv s₁ h₁ => ?_) fun _ _ e => e)) (fun _ s' hq => wpAny_pure (wpAny_pure hq)) fun _ _ e => e)
  refine z_src hcell hkind h₁ (fun D C e s' x => x) (fun g D C h' tk m' ys news' F' N' o1 hn hC₀ hD₀ hCL hDL hCD offC fin => ?_) ht
  show wpAny _ A (assign (.Name y py) env (.ref D)) _ _ _
  refine wpAny_assign_Name (wpAny_storeName_local hy F'.ns (fun h₂ hn₂ hs₂ => ?_) hp)
  have hL₀ : h₀.get? env.locals = none := Heap.get?_none_of_le F'.above
  have F₂ : Fr h₀ env.locals h₂ (fun z => if z = y then some (.ref D) else m z) := ⟨hn₂, fun b o e => hs₂.extBut b o (fun q => by rw [q, hL₀] at e; cases e) (F'.keep b o e), F'.above⟩
  refine ⟨m', hn.sameBut hs₂ hCL, fun h'' hs'' => fin D h'' _ (F₂.change hs'' hCL hC₀) (fun p hp => ?_) o1⟩
  have z : h₂.get? p.1 = some p.2 := hs₂.extBut _ _ (N' p hp).2.1 (N' p hp).1
  refine ⟨hs''.extBut _ _ ?_ z, (N' p hp).2⟩
  rcases List.mem_cons.mp hp with rfl | hp
  · exact Ne.symm hCD
  · exact offC p hp
/-- a turn whose target is one name, without a test -/
theorem z_turn1 {elt : Expr} {x : Str} {px : Pos} {scope : Scope} {cl : List (Str × Addr)} {S : List (Addr × Obj) → Prop} {X : Env → Value → Shared → Prop} {Fin : List Value → List (Addr × Obj) → Prop} {p : Value → Prop} {ps : List (Value → Prop)} {ys : List Value} {news : List (Addr × Obj)}
    (hx : scope.names.lookup x = some .local) (hkind : scope.kind = .function)
    (h : ∀ v I oI C oC D m₂ h tk, p v → LCg.NsObj oC m₂ → m₂ x = some v → Fr h₀ L h m → News h₀ L h ((I, oI) :: (C, oC) :: (D, LCg.lst ys) :: news) → LCg.Off3 I C D news → ((@Ne Nat I C) ∧ (@Ne Nat I D) ∧ (@Ne Nat C D)) → S news →
      wpAny (model prog w) A (eval elt (compEnvC scope cl C env)) (fun y s₂ => ∃ tk', CBack h₀ L m { s with heap := h, toks := tk' } I oI C D (LCg.lst ys) S (CRest prog w A h₀ L m env elt (.Name x px) [] scope cl s S X Fin ps (ys ++ [y])) s₂) (X (compEnvC scope cl C env)) { s with heap := h, toks := tk }) :
    CRest prog w A h₀ L m env elt (.Name x px) [] scope cl s S X Fin (p :: ps) ys news := by
  intro v I oI C oC D m₂ hh tk hv hC F N off ne hS
  have zC := (N (C, oC) (List.mem_cons_of_mem _ List.mem_cons_self))
  have off3 := off.mem
  refine wpAny_assign_Name (wpAny_storeName_local (lookup_relabel_local hx) (hC.ns zC.1) (fun h₃ hn₃ hs₃ => ?_) (by simp [compEnvC, relabel, hkind]))
  refine wpAny_tests_nil ?_
  simp only [if_true]
  obtain ⟨oC', heC, hoC⟩ := LCg.ns_obj hn₃
  have N₃ : News h₀ L h₃ ((I, oI) :: (C, oC') :: (D, LCg.lst ys) :: news) := fun p hp => by
    rcases List.mem_cons.mp hp with rfl | hp
    · have z := N (I, oI) List.mem_cons_self
      exact ⟨hs₃.extBut _ _ ne.1 z.1, z.2⟩
    · rcases List.mem_cons.mp hp with rfl | hp
      · exact ⟨heC, zC.2⟩
      · have z := N p (List.mem_cons_of_mem _ (List.mem_cons_of_mem _ hp))
        refine ⟨hs₃.extBut _ _ ?_ z.1, z.2⟩
        rcases List.mem_cons.mp hp with rfl | hp
        · exact Ne.symm ne.2.2
        · exact (off3 p hp).2.1
  refine wpAny_mono (h v I oI C oC' D _ h₃ _ hv hoC (by simp) (F.change hs₃ zC.2.1 zC.2.2) N₃ off ne hS) (fun y s₄ h₄ => ?_) fun _ _ e => e
  obtain ⟨tk', h₄, tk₄, a, b, c, rfl, r⟩ := h₄
  exact ⟨h₄, tk₄, a, b, c, rfl, r⟩
/-- each item gives its value over an unchanged ledger, or raises (none) -/
theorem z_vals {elt : Expr} {x : Str} {px : Pos} {scope : Scope} {cl : List (Str × Addr)} {S : List (Addr × Obj) → Prop} {X : Env → Value → Shared → Prop} {Fin : List Value → List (Addr × Obj) → Prop} {news : List (Addr × Obj)}
    (hx : scope.names.lookup x = some .local) (hkind : scope.kind = .function) (hS : S news) : ∀ (ps : List (Value × Option Value)) (ys₀ : List Value)
    (_he : ∀ q ∈ ps, ∀ I oI C oC D oD m₂ h tk, LCg.NsObj oC m₂ → m₂ x = some q.1 → Fr h₀ L h m → News h₀ L h ((I, oI) :: (C, oC) :: (D, oD) :: news) → LCg.Off3 I C D news → ((@Ne Nat I C) ∧ (@Ne Nat I D) ∧ (@Ne Nat C D)) →
      wpAny (model prog w) A (eval elt (compEnvC scope cl C env)) (fun y s₂ => q.2 = some y ∧ ∃ h' tk', s₂ = { s with heap := h', toks := tk' } ∧ Fr h₀ L h' m ∧ News h₀ L h' ((I, oI) :: (C, oC) :: (D, oD) :: news)) (X (compEnvC scope cl C env)) { s with heap := h, toks := tk })
    (_hf : ∀ ys, ps.map (·.2) = ys.map some → Fin (ys₀ ++ ys) news),
    CRest prog w A h₀ L m env elt (.Name x px) [] scope cl s S X Fin (eqs (ps.map (·.1))) ys₀ news
  | [], ys₀, _, hf => by
    have := hf [] rfl
    rw [List.append_nil] at this
    exact this
  | q :: ps, ys₀, he, hf => by
    refine z_turn1 (p := fun v => v = q.1) (ps := eqs (ps.map (·.1))) hx hkind ?_
    rintro v I oI C oC D m₂ h tk rfl hC hx' F N off ne hS'
    refine wpAny_mono (he q List.mem_cons_self I oI C oC D _ m₂ h tk hC hx' F N off ne) (fun y s₂ h₂ => ?_) fun _ _ e => e
    obtain ⟨hy, h', tk', rfl, F', N'⟩ := h₂
    refine ⟨tk, h', tk', oC, m₂, news, rfl, F', hC, N', off, hS, ?_⟩
    refine z_vals hx hkind hS ps (ys₀ ++ [y]) (fun q' hq' => he q' (List.mem_cons_of_mem _ hq')) fun ys hys => ?_
    have := hf (y :: ys) (by rw [List.map_cons, List.map_cons, hy, hys])
    rw [List.append_assoc]
    exact this
inductive All2 {β : Type} (R : β → List (Addr × Obj) → Value → Prop) (l : List (Addr × Obj)) : List Value → List β → Prop where
  | nil : All2 R l [] []
  | cons {v : Value} {b : β} {vs : List Value} {bs : List β} : R b l v → All2 R l vs bs → All2 R l (v :: vs) (b :: bs)
theorem All2.mono {β : Type} {R : β → List (Addr × Obj) → Value → Prop} {l l' : List (Addr × Obj)} {vs : List Value} {bs : List β} (mono : ∀ b v, R b l v → R b l' v) (h : All2 R l vs bs) : All2 R l' vs bs := by
  induction h with
  | nil => exact .nil
  | cons x _ ih => exact .cons (mono _ _ x) ih
theorem All2.length {β : Type} {R : β → List (Addr × Obj) → Value → Prop} {l : List (Addr × Obj)} {vs : List Value} {bs : List β} (h : All2 R l vs bs) : vs.length = bs.length := by
  induction h with
  | nil => rfl
  | cons _ _ ih => simp [ih]
noncomputable def Fresh (tl led : List (Addr × Obj)) : Prop := ∀ p ∈ tl, ∀ q ∈ led, p.1 ≠ q.1
theorem Fresh.nil {led : List (Addr × Obj)} : Fresh [] led := fun _ h => nomatch h
theorem Fresh.app {tl tl' led : List (Addr × Obj)} (h : Fresh tl led) (h' : Fresh tl' led) : Fresh (tl ++ tl') led := fun p hp => (List.mem_append.mp hp).elim (h p) (h' p)
theorem Fresh.sub {tl led led' : List (Addr × Obj)} (h : Fresh tl led) (hs : ∀ p ∈ led', p ∈ led) : Fresh tl led' := fun p hp q hq => h p hp q (hs q hq)
theorem Fresh.one {D : Addr} {o : Obj} {led : List (Addr × Obj)} (h : ∀ q ∈ led, @LT.lt Nat _ q.1 D) : Fresh [(D, o)] led := fun p hp q hq => by
  rw [List.mem_singleton.mp hp]; exact Nat.ne_of_gt (h q hq)
theorem Fresh.off {I C D : Addr} {oI oC oD : Obj} {tl R : List (Addr × Obj)} (off : LCg.Off3 I C D R) (h : Fresh tl ((I, oI) :: (C, oC) :: (D, oD) :: R)) : LCg.Off3 I C D (tl ++ R) := by
  refine LCg.Off3.of fun p hp => ?_
  rcases List.mem_append.mp hp with hp | hp
  · exact ⟨h p hp (I, oI) (by simp), h p hp (C, oC) (by simp), h p hp (D, oD) (by simp)⟩
  · exact off.mem p hp
/-- behind such an item: what was made (tl) over the whole ledger (full), and what holds of the value -/
noncomputable def GBack (h₀ : Heap) (L : Addr) (m : Str → Option Value) (s₁ : Shared) (full : List (Addr × Obj)) (P : List (Addr × Obj) → Value → Prop) (y : Value) (s₂ : Shared) : Prop :=
  ∃ tl h' tk', s₂ = { s₁ with heap := h', toks := tk' } ∧ Fr h₀ L h' m ∧ News h₀ L h' (tl ++ full) ∧ Fresh tl full ∧ P tl y
theorem GBack.intro {h₀ : Heap} {L : Addr} {m : Str → Option Value} {s₁ : Shared} {full : List (Addr × Obj)} {P : List (Addr × Obj) → Value → Prop} {y : Value} {h' : Heap} {tk' : Nat} (tl : List (Addr × Obj))
    (F : Fr h₀ L h' m) (N : News h₀ L h' (tl ++ full)) (h1 : Fresh tl full) (h2 : P tl y) : GBack h₀ L m s₁ full P y { s₁ with heap := h', toks := tk' } := ⟨tl, h', tk', rfl, F, N, h1, h2⟩
/-- each item gives a value over a ledger that grows -/
theorem z_grow {β : Type} {elt : Expr} {x : Str} {px : Pos} {scope : Scope} {cl : List (Str × Addr)} {S : List (Addr × Obj) → Prop} {X : Env → Value → Shared → Prop} {Fin : List Value → List (Addr × Obj) → Prop} {dat led : List (Addr × Obj)} {R : β → List (Addr × Obj) → Value → Prop}
    (mono : ∀ b l l' v, R b l v → (∀ p ∈ l, p ∈ l') → R b l' v) (hx : scope.names.lookup x = some .local) (hkind : scope.kind = .function) (hS : ∀ tl, S (tl ++ led)) : ∀ (ps : List (Value × β)) (ys₀ : List Value) (bs₀ : List β) (tl₀ : List (Addr × Obj)) (_h₀ : Fresh tl₀ led) (_hR : All2 R (tl₀ ++ dat) ys₀ bs₀)
    (_he : ∀ q ∈ ps, ∀ tl₀ I oI C oC D oD m₂ h tk, LCg.NsObj oC m₂ → m₂ x = some q.1 → Fr h₀ L h m → News h₀ L h ((I, oI) :: (C, oC) :: (D, oD) :: (tl₀ ++ led)) → LCg.Off3 I C D (tl₀ ++ led) → ((@Ne Nat I C) ∧ (@Ne Nat I D) ∧ (@Ne Nat C D)) →
      wpAny (model prog w) A (eval elt (compEnvC scope cl C env)) (GBack h₀ L m s ((I, oI) :: (C, oC) :: (D, oD) :: (tl₀ ++ led)) fun tl y => R q.2 (tl ++ dat) y) (X (compEnvC scope cl C env)) { s with heap := h, toks := tk })
    (_hf : ∀ ys tl, Fresh tl led → All2 R (tl ++ dat) ys (bs₀ ++ ps.map (·.2)) → Fin ys (tl ++ led)),
    CRest prog w A h₀ L m env elt (.Name x px) [] scope cl s S X Fin (eqs (ps.map (·.1))) ys₀ (tl₀ ++ led)
  | [], ys₀, bs₀, tl₀, hfr, hR, _, hf => hf ys₀ tl₀ hfr (by rw [List.map_nil, List.append_nil]; exact hR)
  | q :: ps, ys₀, bs₀, tl₀, hfr, hR, he, hf => by
    refine z_turn1 (p := fun v => v = q.1) (ps := eqs (ps.map (·.1))) hx hkind ?_
    rintro v I oI C oC D m₂ h tk rfl hC hx' F N off ne hS'
    refine wpAny_mono (he q List.mem_cons_self tl₀ I oI C oC D _ m₂ h tk hC hx' F N off ne) (fun y s₂ h₂ => ?_) fun _ _ e => e
    obtain ⟨tl, h', tk', rfl, F', N', hft, hy⟩ := h₂
    have e3 : tl ++ (tl₀ ++ led) = (tl ++ tl₀) ++ led := (List.append_assoc ..).symm
    refine ⟨tk, h', tk', oC, m₂, (tl ++ tl₀) ++ led, rfl, F', hC, fun p hp => N' p ?_, e3 ▸ hft.off off, hS _, ?_⟩
    · simp only [List.mem_cons, List.mem_append] at hp ⊢
      rcases hp with h | h | h | (h | h) | h <;> simp [h]
    · refine z_grow mono hx hkind hS ps (ys₀ ++ [y]) (bs₀ ++ [q.2]) (tl ++ tl₀) ((hft.sub (by intro p hp; simp [hp])).app hfr) ?_ (fun q' hq' => he q' (List.mem_cons_of_mem _ hq')) fun ys tl' hf' hA => ?_
      · have step : ∀ {ys : List Value} {bs : List β}, All2 R (tl₀ ++ dat) ys bs → All2 R ((tl ++ tl₀) ++ dat) (ys ++ [y]) (bs ++ [q.2]) := by
          intro ys bs hA
          induction hA with
          | nil => exact .cons (mono _ _ _ _ hy (by intro p hp; simp only [List.mem_append] at hp ⊢; rcases hp with h | h <;> simp [h])) .nil
          | cons x _ ih => exact .cons (mono _ _ _ _ x (by intro p hp; simp only [List.mem_append] at hp ⊢; rcases hp with h | h <;> simp [h])) ih
        exact step hR
      · refine hf ys tl' hf' ?_
        rw [List.map_cons, ← List.singleton_append, ← List.append_assoc]
        exact hA
end
end Mine
end
section
open PySem PySem.W PyProof.Rows PySem.Spec PySem.Calls PyProof.V
namespace Mine
/-- a term: an op over none to three parts -/
inductive Tr where
  | n0 (op : Str)
  | n1 (op : Str) (a : Tr)
  | n2 (op : Str) (a b : Tr)
  | n3 (op : Str) (a b c : Tr)
noncomputable def Tr.dep : Tr → Nat
  | .n0 _ => 1
  | .n1 _ a => a.dep + 1
  | .n2 _ a b => max a.dep b.dep + 1
  | .n3 _ a b c => max (max a.dep b.dep) c.dep + 1
noncomputable def Tr.py : Tr → PyData
  | .n0 op => .tuple [.str op]
  | .n1 op a => .tuple [.str op, a.py]
  | .n2 op a b => .tuple [.str op, a.py, b.py]
  | .n3 op a b c => .tuple [.str op, a.py, b.py, c.py]
/-- every op of the term is one of ops -/
noncomputable def Tr.over (ok : Str → Prop) : Tr → Prop
  | .n0 op => ok op
  | .n1 op a => ok op ∧ a.over ok
  | .n2 op a b => ok op ∧ a.over ok ∧ b.over ok
  | .n3 op a b c => ok op ∧ a.over ok ∧ b.over ok ∧ c.over ok
noncomputable abbrev tupO (vs : List Value) (n : Nat) : Obj := { cls := .type "tuple", data := .seq vs.toArray n }
/-- the ledger bears the term at v -/
inductive TIn (news : List (Addr × Obj)) : Value → Tr → Prop where
  | n0 {a : Addr} {op : Str} {tk : Tok} {n : Nat} : (a, tupO [.str op tk] n) ∈ news → TIn news (.ref a) (.n0 op)
  | n1 {a : Addr} {op : Str} {tk : Tok} {n : Nat} {v : Value} {t : Tr} : (a, tupO [.str op tk, v] n) ∈ news → TIn news v t → TIn news (.ref a) (.n1 op t)
  | n2 {a : Addr} {op : Str} {tk : Tok} {n : Nat} {v v' : Value} {t t' : Tr} : (a, tupO [.str op tk, v, v'] n) ∈ news → TIn news v t → TIn news v' t' → TIn news (.ref a) (.n2 op t t')
  | n3 {a : Addr} {op : Str} {tk : Tok} {n : Nat} {v v' v'' : Value} {t t' t'' : Tr} : (a, tupO [.str op tk, v, v', v''] n) ∈ news → TIn news v t → TIn news v' t' → TIn news v'' t'' → TIn news (.ref a) (.n3 op t t' t'')
theorem TIn.mono {news news' : List (Addr × Obj)} {v : Value} {t : Tr} (h : TIn news v t) (hs : ∀ p ∈ news, p ∈ news') : TIn news' v t := by
  induction h with
  | n0 hm => exact .n0 (hs _ hm)
  | n1 hm _ ih => exact .n1 (hs _ hm) ih
  | n2 hm _ _ i1 i2 => exact .n2 (hs _ hm) i1 i2
  | n3 hm _ _ _ i1 i2 i3 => exact .n3 (hs _ hm) i1 i2 i3
theorem TIn.reads {h₀ h : Heap} {L : Addr} {news : List (Addr × Obj)} {v : Value} {t : Tr} (x : TIn news v t) (N : News h₀ L h news) : Reads h v t.py [] := by
  induction x with
  | n0 hm => exact .tuple (as := []) (N.get hm) rfl rfl (.cons (as := []) (bs := []) (.str _ _) .nil)
  | n1 hm _ ih => exact .tuple (as := []) (N.get hm) rfl rfl (.cons (as := []) (bs := []) (.str _ _) (.cons (as := []) (bs := []) ih .nil))
  | n2 hm _ _ i1 i2 => exact .tuple (as := []) (N.get hm) rfl rfl (.cons (as := []) (bs := []) (.str _ _) (.cons (as := []) (bs := []) i1 (.cons (as := []) (bs := []) i2 .nil)))
  | n3 hm _ _ _ i1 i2 i3 => exact .tuple (as := []) (N.get hm) rfl rfl (.cons (as := []) (bs := []) (.str _ _) (.cons (as := []) (bs := []) i1 (.cons (as := []) (bs := []) i2 (.cons (as := []) (bs := []) i3 .nil))))
noncomputable def layS (op : Str) : Prop := PyData.canLay0 (.str op) = true
theorem Tr.canLay {t : Tr} (g : t.over layS) : t.py.canLay0 = true := by
  induction t with
  | n0 op => simp only [Tr.over, layS] at g; simp [Tr.py, PyData.canLay0, PyData.canLayAll0] at *; exact g
  | n1 op a ih => simp only [Tr.over, layS] at g; have := ih g.2; simp [Tr.py, PyData.canLay0, PyData.canLayAll0] at *; exact ⟨g.1, this⟩
  | n2 op a b i1 i2 => simp only [Tr.over, layS] at g; have h1 := i1 g.2.1; have h2 := i2 g.2.2; simp [Tr.py, PyData.canLay0, PyData.canLayAll0] at *; exact ⟨g.1, h1, h2⟩
  | n3 op a b c i1 i2 i3 => simp only [Tr.over, layS] at g; have h1 := i1 g.2.1; have h2 := i2 g.2.2.1; have h3 := i3 g.2.2.2; simp [Tr.py, PyData.canLay0, PyData.canLayAll0] at *; exact ⟨g.1, h1, h2, h3⟩
theorem Tr.depth_py (t : Tr) : t.py.depth = t.dep := by
  induction t with
  | n0 op => rfl
  | n1 op a ih => simp [Tr.py, PyData.depth, PyData.depthAll, ih, Tr.dep]
  | n2 op a b i1 i2 => simp [Tr.py, PyData.depth, PyData.depthAll, i1, i2, Tr.dep]
  | n3 op a b c i1 i2 i3 => simp [Tr.py, PyData.depth, PyData.depthAll, i1, i2, i3, Tr.dep]
theorem Tr.shaped {t : Tr} (g : t.over layS) (hd : t.dep ≤ 30) : SeqAt.shaped t.py = true := by
  simp only [SeqAt.shaped, Tr.canLay g, Bool.true_and, decide_eq_true_eq, Tr.depth_py]; omega
theorem Tr.over_mono {p q : Str → Prop} (hpq : ∀ s, p s → q s) : ∀ {t : Tr}, t.over p → t.over q
  | .n0 _, h => hpq _ h
  | .n1 _ _, h => ⟨hpq _ h.1, Tr.over_mono hpq h.2⟩
  | .n2 _ _ _, h => ⟨hpq _ h.1, Tr.over_mono hpq h.2.1, Tr.over_mono hpq h.2.2⟩
  | .n3 _ _ _ _, h => ⟨hpq _ h.1, Tr.over_mono hpq h.2.1, Tr.over_mono hpq h.2.2.1, Tr.over_mono hpq h.2.2.2⟩
noncomputable def Tr.op : Tr → Str
  | .n0 op => op
  | .n1 op _ => op
  | .n2 op _ _ => op
  | .n3 op _ _ _ => op
noncomputable def Tr.kids : Tr → List Tr
  | .n0 _ => []
  | .n1 _ a => [a]
  | .n2 _ a b => [a, b]
  | .n3 _ a b c => [a, b, c]
theorem Tr.kids_dep {t k : Tr} (h : k ∈ t.kids) : k.dep < t.dep := by
  cases t <;> simp only [Tr.kids, List.mem_cons, List.not_mem_nil, or_false] at h <;> simp only [Tr.dep]
  · subst h; omega
  · rcases h with rfl | rfl <;> omega
  · rcases h with rfl | rfl | rfl <;> omega
theorem Tr.kids_le (t : Tr) : t.kids.length ≤ 3 := by cases t <;> simp [Tr.kids]
theorem Tr.over_op {p : Str → Prop} {t : Tr} (h : t.over p) : p t.op := by cases t <;> simp only [Tr.over] at h <;> first | exact h | exact h.1
theorem Tr.over_kids {p : Str → Prop} {t k : Tr} (h : t.over p) (hk : k ∈ t.kids) : k.over p := by
  cases t <;> simp only [Tr.kids, List.mem_cons, List.not_mem_nil, or_false] at hk <;> simp only [Tr.over] at h
  · subst hk; exact h.2
  · rcases hk with rfl | rfl
    · exact h.2.1
    · exact h.2.2
  · rcases hk with rfl | rfl | rfl
    · exact h.2.1
    · exact h.2.2.1
    · exact h.2.2.2
theorem Tr.py_eq (t : Tr) : t.py = .tuple (.str t.op :: t.kids.map Tr.py) := by cases t <;> rfl
inductive TIns (news : List (Addr × Obj)) : List Value → List Tr → Prop where
  | nil : TIns news [] []
  | cons {v : Value} {t : Tr} {vs : List Value} {ts : List Tr} : TIn news v t → TIns news vs ts → TIns news (v :: vs) (t :: ts)
theorem TIns.length {news : List (Addr × Obj)} {vs : List Value} {ts : List Tr} (h : TIns news vs ts) : vs.length = ts.length := by
  induction h with
  | nil => rfl
  | cons _ _ ih => simp [ih]
theorem TIns.mono {news news' : List (Addr × Obj)} {vs : List Value} {ts : List Tr} (h : TIns news vs ts) (hs : ∀ p ∈ news, p ∈ news') : TIns news' vs ts := by
  induction h with
  | nil => exact .nil
  | cons x _ ih => exact .cons (x.mono hs) ih
theorem TIns.snoc {news : List (Addr × Obj)} {vs : List Value} {ts : List Tr} {v : Value} {t : Tr} (h : TIns news vs ts) (x : TIn news v t) : TIns news (vs ++ [v]) (ts ++ [t]) := by
  induction h with
  | nil => exact .cons x .nil
  | cons y _ ih => exact .cons y ih
/-- the term of an op over its parts -/
noncomputable def Tr.mk (op : Str) : List Tr → Tr
  | [a] => .n1 op a
  | [a, b] => .n2 op a b
  | [a, b, c] => .n3 op a b c
  | _ => .n0 op
theorem Tr.mk_in {l l' : List (Addr × Obj)} {D : Addr} {op : Str} {tk : Tok} {n : Nat} {vs : List Value} {ts : List Tr} (h : TIns l' vs ts) (hs : ∀ p ∈ l', p ∈ l) (hl : ts.length ≤ 3) (hm : (D, tupO (.str op tk :: vs) n) ∈ l) : TIn l (.ref D) (Tr.mk op ts) := by
  replace h := h.mono hs
  cases h with
  | nil => exact .n0 hm
  | cons x h => cases h with
    | nil => exact .n1 hm x
    | cons y h => cases h with
      | nil => exact .n2 hm x y
      | cons z h => cases h with
        | nil => exact .n3 hm x y z
        | cons _ h => simp only [List.length_cons] at hl; omega
theorem Tr.mk_all {P : Tr → Prop} {op : Str} {ts : List Tr} (h0 : P (.n0 op)) (h1 : ∀ a ∈ ts, P (.n1 op a)) (h2 : ∀ a ∈ ts, ∀ b ∈ ts, P (.n2 op a b)) (h3 : ∀ a ∈ ts, ∀ b ∈ ts, ∀ c ∈ ts, P (.n3 op a b c)) : P (Tr.mk op ts) := by
  match ts, h1, h2, h3 with
  | [], _, _, _ => exact h0
  | [a], h1, _, _ => exact h1 a (.head _)
  | [a, b], _, h2, _ => exact h2 a (.head _) b (.tail _ (.head _))
  | [a, b, c], _, _, h3 => exact h3 a (.head _) b (.tail _ (.head _)) c (.tail _ (.tail _ (.head _)))
  | _ :: _ :: _ :: _ :: _, _, _, _ => exact h0
theorem Tr.mk_dep {op : Str} {ts : List Tr} {N : Nat} (h : ∀ t ∈ ts, t.dep ≤ N) : (Tr.mk op ts).dep ≤ N + 1 :=
  Tr.mk_all (P := fun t => t.dep ≤ N + 1) (Nat.le_add_left _ _) (fun a ha => Nat.succ_le_succ (h a ha)) (fun a ha b hb => Nat.succ_le_succ (Nat.max_le.mpr ⟨h a ha, h b hb⟩)) fun a ha b hb c hc => Nat.succ_le_succ (Nat.max_le.mpr ⟨Nat.max_le.mpr ⟨h a ha, h b hb⟩, h c hc⟩)
theorem Tr.mk_over {P : Str → Prop} {op : Str} {ts : List Tr} (ho : P op) (h : ∀ t ∈ ts, t.over P) : (Tr.mk op ts).over P :=
  Tr.mk_all (P := fun t => t.over P) ho (fun a ha => ⟨ho, h a ha⟩) (fun a ha b hb => ⟨ho, h a ha, h b hb⟩) fun a ha b hb c hc => ⟨ho, h a ha, h b hb, h c hc⟩
theorem TIn.view {news : List (Addr × Obj)} {v : Value} {t : Tr} (h : TIn news v t) : ∃ a tk n vs, v = .ref a ∧ (a, tupO (.str t.op tk :: vs) n) ∈ news ∧ TIns news vs t.kids := by
  cases h with
  | n0 hm => exact ⟨_, _, _, [], rfl, hm, .nil⟩
  | n1 hm h => exact ⟨_, _, _, [_], rfl, hm, .cons h .nil⟩
  | n2 hm h h' => exact ⟨_, _, _, [_, _], rfl, hm, .cons h (.cons h' .nil)⟩
  | n3 hm h h' h'' => exact ⟨_, _, _, [_, _, _], rfl, hm, .cons h (.cons h' (.cons h'' .nil))⟩
noncomputable def Tr.leaf (t : Tr) (x : Str) : Bool := t.op == x && t.kids.isEmpty
/-- what is told of names -/
noncomputable abbrev toldD (T : List (Str × Bool)) : List (PyData × PyData) := T.map fun p => (.str p.1, .bool p.2)
noncomputable def ToldIn (w : World) (news : List (Addr × Obj)) (td : Addr) (T : List (Str × Bool)) : Prop :=
  ∃ o kvs, (td, o) ∈ news ∧ (td == sysModules) = false ∧ o.IsDictOf (strKind PySem.Challenge.rw_sa0020_01.row.toRowW.prog w) kvs ∧ PyProof.V.FlatPairs PyData.str kvs (toldD T)
theorem ToldIn.mono {w : World} {news news' : List (Addr × Obj)} {td : Addr} {T : List (Str × Bool)} (h : ToldIn w news td T) (hs : ∀ p ∈ news, p ∈ news') : ToldIn w news' td T :=
  let ⟨o, kvs, hm, r⟩ := h; ⟨o, kvs, hs _ hm, r⟩
noncomputable def oand : Option Bool → Option Bool → Option Bool
  | some a, some b => some (a && b)
  | _, _ => none
noncomputable def oor : Option Bool → Option Bool → Option Bool
  | some a, some b => some (a || b)
  | _, _ => none
noncomputable def oimp : Option Bool → Option Bool → Option Bool
  | some a, some b => some (!a || b)
  | _, _ => none
noncomputable def onot : Option Bool → Option Bool
  | some a => some (!a)
  | _ => none
noncomputable abbrev sAnd : Str := Str.ofString "and"
noncomputable abbrev sOr : Str := Str.ofString "or"
noncomputable abbrev sImp : Str := Str.ofString "imp"
noncomputable abbrev sNot : Str := Str.ofString "not"
noncomputable abbrev sTrue : Str := Str.ofString "true"
noncomputable abbrev sFalse : Str := Str.ofString "false"
/-- what a term is worth under what is told -/
noncomputable def worth (T : List (Str × Bool)) : Tr → Option Bool
  | .n0 op => if op = sTrue then some true else if op = sFalse then some false else T.lookup op
  | .n1 op a => if op = sNot then onot (worth T a) else none
  | .n2 op a b => if op = sAnd then oand (worth T a) (worth T b) else if op = sOr then oor (worth T a) (worth T b) else if op = sImp then oimp (worth T a) (worth T b) else none
  | .n3 _ _ _ _ => none
/-- the same, by an op and what the parts are worth -/
noncomputable def worthOf (T : List (Str × Bool)) (op : Str) : List (Option Bool) → Option Bool
  | [] => if op = sTrue then some true else if op = sFalse then some false else T.lookup op
  | [x] => if op = sNot then onot x else none
  | [x, y] => if op = sAnd then oand x y else if op = sOr then oor x y else if op = sImp then oimp x y else none
  | _ => none
theorem worth_eq (T : List (Str × Bool)) (t : Tr) : worth T t = worthOf T t.op (t.kids.map (worth T)) := by cases t <;> rfl
noncomputable def optVal : Option Bool → Value
  | some b => .bool b
  | none => .none
section
variable {w : World} {A : Around} {E : Value → Shared → Prop} {s : Shared} {h₀ : Heap} {L : Addr} {news : List (Addr × Obj)} {td : Addr} {T : List (Str × Bool)}
theorem ToldIn.tab (D : ToldIn w news td T) (N : News h₀ L s.heap news) : StrTab PySem.Challenge.rw_sa0020_01.row.toRowW.prog w s.heap td (toldD T) :=
  let ⟨_, _, hm, lo, hd, hf⟩ := D; TabAt.ofNews N hm lo hd hf
theorem toldD_lookup (x : Str) : ∀ T : List (Str × Bool), PySem.Spec.lookup (.str x) (toldD T) = (T.lookup x).map PyData.bool
  | [] => rfl
  | (y, b) :: r => by
    show (if PySem.Spec.same (.str y) (.str x) then some (PyData.bool b) else PySem.Spec.lookup (.str x) (toldD r)) = _
    rw [toldD_lookup x r]
    by_cases h : y = x
    · subst h
      simp [PySem.Spec.same, List.lookup_cons]
    · have h' : (x == y) = false := beq_eq_false_iff_ne.mpr (Ne.symm h)
      simp [PySem.Spec.same, List.lookup_cons, h, h']
theorem optVal_flat {x : Str} {v : Value} (h : PyProof.V.Flat v ((PySem.Spec.lookup (.str x) (toldD T)).getD .none)) : v = optVal (T.lookup x) := by
  rw [toldD_lookup] at h
  cases e : T.lookup x with
  | none => rw [e] at h; exact h.none_inv
  | some b => rw [e] at h; exact h.bool_inv
theorem r_get {x : Str} {t : Tok} {Q : Value → Shared → Prop} (N : News h₀ L s.heap news) (D : ToldIn w news td T) (h : Q (optVal (T.lookup x)) { s with toks := s.toks + 1 }) :
    wpAny (model PySem.Challenge.rw_sa0020_01.row.toRowW.prog w) A (call (.builtin "dict.get") [.ref td, .str x t]) Q E s :=
  call_get1_strTab (D.tab N) fun v hv => by rw [optVal_flat hv]; exact h
theorem r_getM {pl : Sem Bool} {Q : Value × List Value → Shared → Prop} (N : News h₀ L s.heap news) (D : ToldIn w news td T) (h : Q (.builtin "dict.get", [.ref td]) s) :
    wpAny (model PySem.Challenge.rw_sa0020_01.row.toRowW.prog w) A (getMethod (.ref td) "get" pl) Q E s := getMethod_strTab_get (D.tab N) h
theorem r_notin {x : Str} {t : Tok} {Q : Value → Shared → Prop} (N : News h₀ L s.heap news) (D : ToldIn w news td T) (h : Q (.bool (!(T.lookup x).isSome)) { s with toks := s.toks + 1 }) :
    wpAny (model PySem.Challenge.rw_sa0020_01.row.toRowW.prog w) A (compareOp .NotIn (.str x t) (.ref td)) Q E s :=
  notin_strTab (D.tab N) (by rw [toldD_lookup, Option.isSome_map]; exact h)
theorem r_item {value slice : Expr} {x : Str} {t : Tok} {b : Bool} {Q : Value → Shared → Prop} (N : News h₀ L s.heap news) (D : ToldIn w news td T) (hl : T.lookup x = some b) (h : Q (.bool b) { s with toks := s.toks + 1 })
    (hs : subscripted slice false (.ref td) (.str x t) = operate [.ref td, .str x t] (getItem (.ref td) (.str x t))) (hg : ∀ r, letTemporaryGo value (.ref td) r = pure ()) :
    wpAny (model PySem.Challenge.rw_sa0020_01.row.toRowW.prog w) A (subscriptTail value slice (.ref td) (.str x t)) Q E s :=
  item_strTab (D.tab N) (by rw [toldD_lookup, hl]; rfl) (fun v hv => by rw [hv.bool_inv]; exact h) hs hg
end
end Mine
end
section
open PySem PySem.W PyProof.Rows PySem.Spec PySem.Calls PySem.AutoSeq1
namespace Mine
/-! enumerate over a tuple, and a for over it: the library has the list alone. -/
section
variable {prog : Program} {w : World} {A : Around} {E : Value → Shared → Prop} {s : Shared}
theorem nextT_item {it l : Addr} {i : Nat} {items : Array Value} {x : Value} {Q : Value → Shared → Prop} (hit : s.heap.IsTupleIter it l i) (hl : s.heap.IsTuple l items) (hx : items[i]? = some x)
    (hQ : ∀ h', h'.IsTupleIter it l (i + 1) → Heap.SameBut it s.heap h' → Q x { s with heap := h' }) :
    wpAny (model prog w) A (Builtin.SmallTypes.nextOf (.ref it)) Q E s := by
  obtain ⟨o, ho, hc, hd⟩ := id hit
  obtain ⟨ol, hol, _, nl, hdl⟩ := hl
  unfold Builtin.SmallTypes.nextOf
  refine wpAny_bind (wpAny_callSpecial?_slot (name := Str.ofString "__next__") hit.typeIs F.slot_tuple_iterator_next
    (wpAny_call_entry F.slot_tuple_iterator_next hit.typeIs F.entry_tuple_iterator_next ?_ (F.args_tuple_iterator_next_1 _)))
  show wpAny _ _ (field (.ref it) 0 >>= _) _ _ s
  refine wpAny_bind (wpAny_field ho hd (x := .ref l) rfl ?_)
  show wpAny _ _ (if (Value.ref l == Value.none) = true then _ else _) _ _ s
  rw [if_neg (show ¬ ((Value.ref l == Value.none) = true) from Bool.false_ne_true)]
  show wpAny _ _ (field (.ref it) 1 >>= _) _ _ s
  refine wpAny_bind (wpAny_field ho hd (x := .int i 0) rfl ?_)
  show wpAny _ _ (seqItems? (.ref l) >>= _) _ _ s
  refine wpAny_bind (wpAny_seqItems hol hdl ?_)
  simp only [Int.toNat_natCast, hx]
  refine wpAny_bind (wpAny_setField ho hd (by simp) (wpAny_pure ⟨x, rfl, wpAny_pure (hQ _ ?_ (Heap.SameBut.update ..))⟩))
  exact ⟨_, Heap.get?_update_self _ ho (Obj.isFreed_of_fields (Obj.data_mapFields hd _)), (Obj.cls_mapFields ..).trans hc, by
    rw [Obj.data_mapFields hd]; simp [rawInt]⟩
theorem nextT_end {it l : Addr} {i : Nat} {items : Array Value} {Q : Value → Shared → Prop} (hh : A.handled = none) (hit : s.heap.IsTupleIter it l i) (hl : s.heap.IsTuple l items) (hx : items[i]? = none)
    (hE : ∀ h' e, Heap.ExtBut it s.heap h' → (∃ o, h'.get? e = some o ∧ o.cls = .type "StopIteration") → E (.ref e) { s with heap := h' }) :
    wpAny (model prog w) A (Builtin.SmallTypes.nextOf (.ref it)) Q E s := by
  obtain ⟨o, ho, hc, hd⟩ := id hit
  obtain ⟨ol, hol, _, nl, hdl⟩ := hl
  unfold Builtin.SmallTypes.nextOf
  refine wpAny_bind (wpAny_callSpecial?_slot (name := Str.ofString "__next__") hit.typeIs F.slot_tuple_iterator_next
    (wpAny_call_entry F.slot_tuple_iterator_next hit.typeIs F.entry_tuple_iterator_next ?_ (F.args_tuple_iterator_next_1 _)))
  show wpAny _ _ (field (.ref it) 0 >>= _) _ _ s
  refine wpAny_bind (wpAny_field ho hd (x := .ref l) rfl ?_)
  show wpAny _ _ (if (Value.ref l == Value.none) = true then _ else _) _ _ s
  rw [if_neg (show ¬ ((Value.ref l == Value.none) = true) from Bool.false_ne_true)]
  show wpAny _ _ (field (.ref it) 1 >>= _) _ _ s
  refine wpAny_bind (wpAny_field ho hd (x := .int i 0) rfl ?_)
  show wpAny _ _ (seqItems? (.ref l) >>= _) _ _ s
  refine wpAny_bind (wpAny_seqItems hol hdl ?_)
  simp only [Int.toNat_natCast, hx]
  refine wpAny_bind (wpAny_rule (wpAny_bind (wpAny_setField ho hd (by simp) ?_)))
  show wpAny _ _ (newExc (.type "StopIteration") [] >>= _) _ _ _
  refine wpAny_bind ?_
  simp only [newExc, newTuple]
  refine wpAny_bind (wpAny_newObj_type ?_ (by size_fits))
  refine wpAny_bind (m := firstArgMember _ _) (wpAny_of_eq (a := Value.none) (by first | rfl | (simp only [firstArgMember]; rfl)) ?_)
  refine wpAny_newObj_type ?_ (by size_fits)
  simp only [raiseNew]
  refine wpAny_bind (wpAny_handled ?_)
  first | rw [show A.in1.handled = none from hh] | rw [hh]
  refine wpAny_bind (wpAny_pure (wpAny_throw ?_))
  exact hE _ _ (((Heap.SameBut.update ..).extBut.push _).push _) ⟨_, Heap.get?_push_size _ rfl, rfl⟩
theorem drawsT {it l : Addr} (hh : A.handled = none) (hne : l ≠ it) (items : Array Value) :
    Draws prog w A it [it, l] items.size (fun i v => items[i]? = some v) (fun i h => h.IsTupleIter it l i ∧ h.IsTuple l items) where
  live := fun _ _ st => let ⟨o, ho, _⟩ := st.1; ⟨o, ho⟩
  frame := fun _ _ _ st hk => ⟨st.1.at fun o e => hk it (by simp) o e, st.2.at fun o e => hk l (by simp) o e⟩
  item := fun i s Q E hi st hQ => by
    refine nextT_item st.1 st.2 (x := items[i]) (by simp [hi]) fun h' hit' hs' => ?_
    exact hQ _ h' s.toks (by simp [hi]) ⟨hit', st.2.extBut hs'.extBut hne⟩ hs'
  done := fun s Q E st hE => nextT_end hh st.1 st.2 (by simp) hE
theorem meets_enumT (l : Addr) (items : Array Value) (n : Nat) (dct : Option Addr) (sl : Array (Option Value)) :
    Meets (Builtin.«enumerate.__new__» ⟨[.type "enumerate", .ref l], []⟩) (fun _ R s => s.heap.get? l = some { cls := .type "tuple", dict := dct, data := .seq items n, slots := sl } ∧
      R (.ok (.ret (.ref (s.heap.push { cls := .type "tuple_iterator", data := .fields #[.ref l, .int 0 0] }).objs.size)))
        { s with heap := (s.heap.push { cls := .type "tuple_iterator", data := .fields #[.ref l, .int 0 0] }).push { cls := .type "enumerate", data := .fields #[.none, .bool false, .ref s.heap.objs.size, rawInt 0, .none, .none] } }) :=
  .of_wp fun prog w A R s h => by
    obtain ⟨hp, g, d, tk, os⟩ := s; obtain ⟨hl, h⟩ := h
    have hsub := sub_enumerate
    have hL : Heap.IsTuple (Shared.heap ⟨hp, g, d, tk, os⟩) l items := ⟨_, hl, rfl, n, rfl⟩
    wp_walk using wpAny_loadPart' hl
    refine wpAny_stack_any fun st => wpAny_pure ?_
    split
    · rename_i c _ _ _ _ _
      cases (c == Value.type "enumerate")
      · wp_walk using wpAny_loadPart' hl, wpAny_pyIter_tuple hL
        exact ⟨_, rfl, h⟩
      · wp_walk using wpAny_loadPart' hl, wpAny_pyIter_tuple hL
        exact ⟨_, rfl, h⟩
    · wp_walk using wpAny_loadPart' hl, wpAny_pyIter_tuple hL
      exact ⟨_, rfl, h⟩
theorem call_enumT {l : Addr} {items : Array Value} {Q : Value → Shared → Prop} (hL : s.heap.IsTuple l items)
    (h : ∀ h', IsEnum h' (s.heap.objs.size + 1) s.heap.objs.size 0 .none → h'.IsTupleIter s.heap.objs.size l 0 → h'.objs.size = s.heap.objs.size + 2 →
      (∀ b o, s.heap.get? b = some o → h'.get? b = some o) → Q (.ref (s.heap.objs.size + 1)) { s with heap := h' }) :
    wpAny (model prog w) A (call (.type "enumerate") [.ref l]) Q E s := by
  obtain ⟨⟨c, dct, dt, sl⟩, hl, hc, n, hd⟩ := hL
  replace hc : c = .type "tuple" := hc
  replace hd : dt = .seq items n := hd
  subst hc hd
  refine callType_new F.called_enumerate (by decide) (F.typeCall_enumerate_1 _) (F.newCall_enumerate_1 _) (fun obj => F.args_object_init_2 obj _) F.entry_enumerate_new
    (meets_enumT l items n dct sl) ⟨hl, ?_⟩
  have hz : (s.heap.push { cls := .type "tuple_iterator", data := .fields #[.ref l, .int 0 0] }).objs.size = s.heap.objs.size + 1 := Heap.size_push ..
  show _ ∧ _
  rw [hz]
  have he : IsEnum ((s.heap.push { cls := .type "tuple_iterator", data := .fields #[.ref l, .int 0 0] }).push
      { cls := .type "enumerate", data := .fields #[.none, .bool false, .ref s.heap.objs.size, rawInt 0, .none, .none] }) (s.heap.objs.size + 1) s.heap.objs.size 0 .none := by
    have := Heap.get?_push_size (s.heap.push { cls := .type "tuple_iterator", data := .fields #[.ref l, .int 0 0] })
      (o := { cls := .type "enumerate", data := .fields #[.none, .bool false, .ref s.heap.objs.size, rawInt 0, .none, .none] }) rfl
    rw [hz] at this; exact this
  refine ⟨⟨_, he, rfl⟩, h _ he ⟨_, Heap.get?_push_of_some _ (Heap.get?_push_size _ rfl), rfl, rfl⟩ (by rw [Heap.size_push, hz]) fun b o x => Heap.get?_push_of_some _ (Heap.get?_push_of_some _ x)⟩
variable {env : Env} {h₀ : Heap} {body : List Stmt} {Q : Flow → Shared → Prop}
theorem enum_turns {elts : List Expr} {k : Nat} {pos : Pos} {l : Addr} {lo : Obj} {vs : List Value} {n : Nat} {m₀ : Str → Option Value} {news : List (Addr × Obj)}
    (hh : A.handled = none) (F : Fr h₀ env.locals s.heap m₀) (N : News h₀ env.locals s.heap news) (hm : (l, lo) ∈ news) (hc : lo.cls = .type "tuple") (hd : lo.data = .seq vs.toArray n)
    (rest₀ : ∀ I : Addr, (∀ p ∈ news, p.1 < I) → ItemsRest prog w A E h₀ env (.Tuple elts k pos) body Q s [(I + 1, "enumerate"), (I, "tuple_iterator")] [(l, lo)] (enumItems 0 vs) m₀ news) :
    wpAny (model prog w) A (call (.type "enumerate") [.ref l]) (fun xv s₁ => wpAny (model prog w) A (pyIter xv) (fun it s₂ => TurnsAt prog w A h₀ env (.Tuple elts k pos) body Q E it s₂) E s₁) E s := by
  have hax := N _ hm
  have hl : s.heap.IsTuple l vs.toArray := ⟨lo, hax.1, hc, n, hd⟩
  have hlt : l < s.heap.objs.size := Heap.lt_size hax.1
  have hLs : env.locals < s.heap.objs.size := F.ns.lt
  refine call_enumT hl fun h' hE hI hsz hk => ?_
  refine wpAny_pyIter_enum hE ?_
  have W := (WalksT.enumerateD (drawsT (prog := prog) (w := w) (A := A.in1) (it := s.heap.objs.size) (l := l) hh (Nat.ne_of_lt hlt) vs.toArray) (s.heap.objs.size + 1) (Nat.succ_ne_self _) (by
    intro hmm
    have hb' : s.heap.objs.size + 1 = s.heap.objs.size ∨ s.heap.objs.size + 1 = l := by simpa using hmm
    rcases hb' with e | e
    · exact Nat.succ_ne_self _ e
    · exact ktu_ne 1 hlt e.symm) (by simp)).toU
  refine ktu_core (tk0 := s.toks) (keep := [(l, lo)]) (KTurns.ofWalksU W) (by simp [enumItems_length]) ?_ ?_ ?_ ?_ ?_ ?_ ?_ ?_ (F.keeps hk) (N.grown hk) (And.intro hm trivial) (rest₀ _ fun p hp => Heap.lt_size (N p hp).1)
  · rintro i v h ⟨T, vals, rfl, ⟨t, x, hx, rfl⟩, hT⟩
    refine ⟨_, enumItems_get vs 0 i (v := x) (by simpa using hx), T, t, rfl, ?_⟩
    show IsTup h T #[.int ((0 + i : Nat) : Int) t, x]
    rw [Nat.zero_add]
    exact hT
  · rintro i h ⟨⟨old, he⟩, ⟨oi, hoi, hic, _⟩, _⟩
    have he' : ∃ oe : Obj, h.get? (s.heap.objs.size + 1) = some oe ∧ oe.cls = .type "enumerate" := ⟨_, he, rfl⟩
    obtain ⟨oe, h1, h2⟩ := he'
    refine ⟨[(s.heap.objs.size + 1, oe), (s.heap.objs.size, oi)], ⟨⟨rfl, h2⟩, ⟨rfl, hic⟩, trivial⟩, fun p hp => ?_⟩
    rcases List.mem_cons.mp hp with rfl | hp
    · exact h1
    · rw [List.mem_singleton.mp hp]; exact hoi
  · intro b hb
    have hb' : b = s.heap.objs.size + 1 ∨ b = s.heap.objs.size := by simpa using hb
    rcases hb' with rfl | rfl
    · exact ⟨by simp, ktu_new F (Nat.le_add_right _ _)⟩
    · exact ⟨by simp, ktu_new F (Nat.le_refl _)⟩
  · intro b hb
    simpa using hb
  · intro b hb
    have hb' : b = s.heap.objs.size + 1 ∨ b = s.heap.objs.size ∨ b = l := by simpa using hb
    rcases hb' with rfl | rfl | rfl
    · exact .inl (by simp)
    · exact .inl (by simp)
    · exact .inr ⟨lo, by simp⟩
  · intro hI'
    have hb' : env.locals = s.heap.objs.size + 1 ∨ env.locals = s.heap.objs.size ∨ env.locals = l := by simpa using hI'
    rcases hb' with e | e | e
    · exact ktu_ne 1 hLs e
    · exact Nat.ne_of_lt hLs e
    · exact hax.2.1 e.symm
  · intro p hp hI'
    have hb' : p.1 = s.heap.objs.size + 1 ∨ p.1 = s.heap.objs.size := by simpa using hI'
    have hlp := Heap.lt_size (N p hp).1
    rcases hb' with e | e
    · exact ktu_ne 1 hlp e
    · exact Nat.ne_of_lt hlp e
  · exact ⟨⟨.none, hE⟩, hI, hl.at fun o e => hk l o e⟩
end
end Mine
end
section
open PySem PySem.W PyProof.Rows PySem.Spec PySem.Calls
namespace Mine
section
variable {prog : Program} {w : World} {A : Around} {E : Value → Shared → Prop} {s : Shared} {h₀ : Heap} {L : Addr} {m : Str → Option Value} {env : Env}
/-- a name of the comprehension's own is stored -/
theorem c_store {x : Str} {px : Pos} {v : Value} {scope : Scope} {cl : List (Str × Addr)} {I C D : Addr} {oI oC oD : Obj} {m₂ : Str → Option Value} {news : List (Addr × Obj)} {Q : Unit → Shared → Prop}
    (hx : scope.names.lookup x = some .local) (hkind : scope.kind = .function) (hC : LCg.NsObj oC m₂) (F : Fr h₀ L s.heap m) (N : News h₀ L s.heap ((I, oI) :: (C, oC) :: (D, oD) :: news)) (off : LCg.Off3 I C D news) (ne : (@Ne Nat I C) ∧ (@Ne Nat I D) ∧ (@Ne Nat C D))
    (h : ∀ h₃ oC' tk, LCg.NsObj oC' (fun z => if z = x then some v else m₂ z) → Fr h₀ L h₃ m → News h₀ L h₃ ((I, oI) :: (C, oC') :: (D, oD) :: news) → Q () { s with heap := h₃, toks := tk }) :
    wpAny (model prog w) A (assign (.Name x px) (compEnvC scope cl C env) v) Q E s := by
  have zC := (N (C, oC) (List.mem_cons_of_mem _ List.mem_cons_self))
  have off3 := off.mem
  refine wpAny_assign_Name (wpAny_storeName_local (lookup_relabel_local hx) (hC.ns zC.1) (fun h₃ hn₃ hs₃ => ?_) (by simp [compEnvC, relabel, hkind]))
  obtain ⟨oC', heC, hoC⟩ := LCg.ns_obj hn₃
  have N₃ : News h₀ L h₃ ((I, oI) :: (C, oC') :: (D, oD) :: news) := fun p hp => by
    rcases List.mem_cons.mp hp with rfl | hp
    · have z := N (I, oI) List.mem_cons_self
      exact ⟨hs₃.extBut _ _ ne.1 z.1, z.2⟩
    · rcases List.mem_cons.mp hp with rfl | hp
      · exact ⟨heC, zC.2⟩
      · have z := N p (List.mem_cons_of_mem _ (List.mem_cons_of_mem _ hp))
        refine ⟨hs₃.extBut _ _ ?_ z.1, z.2⟩
        rcases List.mem_cons.mp hp with rfl | hp
        · exact Ne.symm ne.2.2
        · exact (off3 p hp).2.1
  exact h h₃ oC' _ hoC (F.change hs₃ zC.2.1 zC.2.2) N₃
/-- a turn with a target of two names: the item is a tuple of the ledger -/
theorem z_turnT {elt : Expr} {x y : Str} {px py pt : Pos} {k} {ifs : List Expr} {scope : Scope} {cl : List (Str × Addr)} {S : List (Addr × Obj) → Prop} {X : Env → Value → Shared → Prop} {Fin : List Value → List (Addr × Obj) → Prop} {v a b : Value} {ps : List (Value → Prop)} {ys : List Value} {news : List (Addr × Obj)}
    (hx : scope.names.lookup x = some .local) (hy : scope.names.lookup y = some .local) (hxy : x ≠ y) (hkind : scope.kind = .function) (hh : A.handled = none) (hp : ∃ t n, v = .ref t ∧ (t, tupO [a, b] n) ∈ news)
    (h : ∀ I oI C oC D m₂ h tk, LCg.NsObj oC m₂ → m₂ x = some a → m₂ y = some b → Fr h₀ L h m → News h₀ L h ((I, oI) :: (C, oC) :: (D, LCg.lst ys) :: news) → LCg.Off3 I C D news → ((@Ne Nat I C) ∧ (@Ne Nat I D) ∧ (@Ne Nat C D)) → S news →
      wpAny (model prog w) A (zTests ifs (compEnvC scope cl C env)) (fun ok s₃ =>
        if ok = true then wpAny (model prog w) A (eval elt (compEnvC scope cl C env)) (fun z s₂ => ∃ tk', CBack h₀ L m { s with heap := h, toks := tk' } I oI C D (LCg.lst ys) S (CRest prog w A h₀ L m env elt (.Tuple [.Name x px, .Name y py] k pt) ifs scope cl s S X Fin ps (ys ++ [z])) s₂) (X (compEnvC scope cl C env)) s₃
        else ∃ tk', CBack h₀ L m { s with heap := h, toks := tk' } I oI C D (LCg.lst ys) S (CRest prog w A h₀ L m env elt (.Tuple [.Name x px, .Name y py] k pt) ifs scope cl s S X Fin ps ys) s₃)
        (X (compEnvC scope cl C env)) { s with heap := h, toks := tk }) :
    CRest prog w A h₀ L m env elt (.Tuple [.Name x px, .Name y py] k pt) ifs scope cl s S X Fin ((fun u => u = v) :: ps) ys news := by
  rintro v' I oI C oC D m₂ hh' tk rfl hC F N off ne hS
  obtain ⟨t, n, rfl, hm⟩ := hp
  refine unpackN_ F N (News.isTup N (List.mem_cons_of_mem _ (List.mem_cons_of_mem _ (List.mem_cons_of_mem _ hm)))) hh rfl rfl fun h₁ F₁ N₁ => ?_
  refine wpAny_assignInOrder_more ?_
  refine c_store hx hkind hC F₁ N₁ off ne fun h₃ oC₃ tk₃ hC₃ F₃ N₃ => ?_
  refine wpAny_assignInOrder_more ?_
  refine c_store hy hkind hC₃ F₃ N₃ off ne fun h₄ oC₄ tk₄ hC₄ F₄ N₄ => ?_
  refine wpAny_assignInOrder_none ?_
  refine wpAny_mono (h I oI C oC₄ D _ h₄ tk₄ hC₄ (by simp [hxy]) (by simp) F₄ N₄ off ne hS) (fun ok s₄ h₅ => ?_) fun _ _ e => e
  by_cases hok : ok = true
  · simp only [hok, if_true] at h₅ ⊢
    refine wpAny_mono h₅ (fun y s₅ h₆ => ?_) fun _ _ e => e
    obtain ⟨tk', h₆, tk₆, a, b, c, rfl, r⟩ := h₆
    exact ⟨h₆, tk₆, a, b, c, rfl, r⟩
  · simp only [hok] at h₅ ⊢
    obtain ⟨tk', h₆, tk₆, a, b, c, rfl, r⟩ := h₅
    exact ⟨h₆, tk₆, a, b, c, rfl, r⟩
/-- a target of two names: each item gives a value over a ledger that grows, or is left out by the tests (none) -/
theorem z_growT {β : Type} {elt : Expr} {x y : Str} {px py pt : Pos} {k} {ifs : List Expr} {scope : Scope} {cl : List (Str × Addr)} {S : List (Addr × Obj) → Prop} {X : Env → Value → Shared → Prop} {Fin : List Value → List (Addr × Obj) → Prop} {dat led : List (Addr × Obj)} {R : β → List (Addr × Obj) → Value → Prop}
    (mono : ∀ b l l' v, R b l v → (∀ p ∈ l, p ∈ l') → R b l' v) (hx : scope.names.lookup x = some .local) (hy : scope.names.lookup y = some .local) (hxy : x ≠ y) (hkind : scope.kind = .function) (hh : A.handled = none) (hS : ∀ tl, S (tl ++ led)) : ∀ (ps : List (Value × (Value × Value) × Option β)) (ys₀ : List Value) (bs₀ : List β) (tl₀ : List (Addr × Obj)) (_h₀ : Fresh tl₀ led) (_hR : All2 R (tl₀ ++ dat) ys₀ bs₀)
    (_hp : ∀ q ∈ ps, ∃ t n, q.1 = .ref t ∧ (t, tupO [q.2.1.1, q.2.1.2] n) ∈ led)
    (_he : ∀ q ∈ ps, ∀ tl₀ I oI C oC D oD m₂ h tk, LCg.NsObj oC m₂ → m₂ x = some q.2.1.1 → m₂ y = some q.2.1.2 → Fr h₀ L h m → News h₀ L h ((I, oI) :: (C, oC) :: (D, oD) :: (tl₀ ++ led)) → LCg.Off3 I C D (tl₀ ++ led) → ((@Ne Nat I C) ∧ (@Ne Nat I D) ∧ (@Ne Nat C D)) →
      wpAny (model prog w) A (zTests ifs (compEnvC scope cl C env)) (fun ok s₃ =>
        if ok = true then wpAny (model prog w) A (eval elt (compEnvC scope cl C env)) (GBack h₀ L m s ((I, oI) :: (C, oC) :: (D, oD) :: (tl₀ ++ led)) fun tl v => ∃ b, q.2.2 = some b ∧ R b (tl ++ dat) v) (X (compEnvC scope cl C env)) s₃
        else GBack h₀ L m s ((I, oI) :: (C, oC) :: (D, oD) :: (tl₀ ++ led)) (fun _ _ => q.2.2 = none) .none s₃) (X (compEnvC scope cl C env)) { s with heap := h, toks := tk })
    (_hf : ∀ ys tl, Fresh tl led → All2 R (tl ++ dat) ys (bs₀ ++ ps.filterMap (·.2.2)) → Fin ys (tl ++ led)),
    CRest prog w A h₀ L m env elt (.Tuple [.Name x px, .Name y py] k pt) ifs scope cl s S X Fin (eqs (ps.map (·.1))) ys₀ (tl₀ ++ led)
  | [], ys₀, bs₀, tl₀, hfr, hR, _, _, hf => hf ys₀ tl₀ hfr (by rw [List.filterMap_nil, List.append_nil]; exact hR)
  | q :: ps, ys₀, bs₀, tl₀, hfr, hR, hp, he, hf => by
    obtain ⟨t, n, e1, hm⟩ := hp q List.mem_cons_self
    refine z_turnT (v := q.1) (a := q.2.1.1) (b := q.2.1.2) (ps := eqs (ps.map (·.1))) hx hy hxy hkind hh ⟨t, n, e1, List.mem_append_right _ hm⟩ ?_
    intro I oI C oC D m₂ h tk hC hx' hy' F N off ne hS'
    have all2 : ∀ {tl : List (Addr × Obj)} {ys : List Value} {bs : List β}, All2 R (tl₀ ++ dat) ys bs → All2 R ((tl ++ tl₀) ++ dat) ys bs := by
      intro tl ys bs hA
      induction hA with
      | nil => exact .nil
      | cons x _ ih => exact .cons (mono _ _ _ _ x (by intro p hp; simp only [List.mem_append] at hp ⊢; rcases hp with h | h <;> simp [h])) ih
    refine wpAny_mono (he q List.mem_cons_self tl₀ I oI C oC D _ m₂ h tk hC hx' hy' F N off ne) (fun ok s₃ h₃ => ?_) fun _ _ e => e
    by_cases hok : ok = true
    · simp only [hok, if_true] at h₃ ⊢
      refine wpAny_mono h₃ (fun z s₂ h₂ => ?_) fun _ _ e => e
      obtain ⟨tl, h', tk', rfl, F', N', hft, b, hqb, hz⟩ := h₂
      have e3 : tl ++ (tl₀ ++ led) = (tl ++ tl₀) ++ led := (List.append_assoc ..).symm
      refine ⟨tk, h', tk', oC, m₂, (tl ++ tl₀) ++ led, rfl, F', hC, fun p hp => N' p ?_, e3 ▸ hft.off off, hS _, ?_⟩
      · simp only [List.mem_cons, List.mem_append] at hp ⊢
        rcases hp with h | h | h | (h | h) | h <;> simp [h]
      · refine z_growT mono hx hy hxy hkind hh hS ps (ys₀ ++ [z]) (bs₀ ++ [b]) (tl ++ tl₀) ((hft.sub (by intro p hp; simp [hp])).app hfr) ?_ (fun q' hq' => hp q' (List.mem_cons_of_mem _ hq')) (fun q' hq' => he q' (List.mem_cons_of_mem _ hq')) fun ys tl' hf' hA => ?_
        · have step : ∀ {ys : List Value} {bs : List β}, All2 R (tl₀ ++ dat) ys bs → All2 R ((tl ++ tl₀) ++ dat) (ys ++ [z]) (bs ++ [b]) := by
            intro ys bs hA
            induction hA with
            | nil => exact .cons (mono _ _ _ _ hz (by intro p hp; simp only [List.mem_append] at hp ⊢; rcases hp with h | h <;> simp [h])) .nil
            | cons x _ ih => exact .cons (mono _ _ _ _ x (by intro p hp; simp only [List.mem_append] at hp ⊢; rcases hp with h | h <;> simp [h])) ih
          exact step hR
        · refine hf ys tl' hf' ?_
          rw [List.filterMap_cons_some (f := fun q : Value × (Value × Value) × Option β => q.2.2) hqb, ← List.singleton_append, ← List.append_assoc]
          exact hA
    · simp only [hok] at h₃ ⊢
      obtain ⟨tl, h', tk', rfl, F', N', hft, hqb⟩ := h₃
      have e3 : tl ++ (tl₀ ++ led) = (tl ++ tl₀) ++ led := (List.append_assoc ..).symm
      refine ⟨tk, h', tk', oC, m₂, (tl ++ tl₀) ++ led, rfl, F', hC, fun p hp => N' p ?_, e3 ▸ hft.off off, hS _, ?_⟩
      · simp only [List.mem_cons, List.mem_append] at hp ⊢
        rcases hp with h | h | h | (h | h) | h <;> simp [h]
      · refine z_growT mono hx hy hxy hkind hh hS ps ys₀ bs₀ (tl ++ tl₀) ((hft.sub (by intro p hp; simp [hp])).app hfr) (all2 hR) (fun q' hq' => hp q' (List.mem_cons_of_mem _ hq')) (fun q' hq' => he q' (List.mem_cons_of_mem _ hq')) fun ys tl' hf' hA => ?_
        refine hf ys tl' hf' ?_
        rw [List.filterMap_cons_none (f := fun q : Value × (Value × Value) × Option β => q.2.2) hqb]
        exact hA
end
end Mine
end
section
open PySem PySem.W PyProof.Rows PySem.Spec PySem.Calls
namespace Mine
/-! Rules for the comparisons of the text, over what the ledger reads. -/
section
variable {prog : Program} {w : World} {A : Around} {E : Value → Shared → Prop} {s : Shared} {h₀ : Heap} {L : Addr} {m : Str → Option Value} {news : List (Addr × Obj)} {Q : Value → Shared → Prop}
theorem room_min {A : Around} {a b : Nat} (h : b ≤ 50) (hu : A.units + 64 < cLine) : A.units + 1 + min a b < cLine := by
  have := Nat.min_le_right a b
  omega
theorem r_inT {c x : Value} {xs : List PyData} {d : PyData} {as bs : List Addr} (rc : Reads s.heap c (.tuple xs) as) (rx : Reads s.heap x d bs) (hxs : PyData.canLayAll0 xs = true) (hd : d.canLay0 = true) (hdep : d.depth ≤ 50) (hu : A.units + 64 < cLine)
    (h : Q (.bool (xs.any fun y => PyData.eqv y d)) s) : wpAny (model prog w) A (compareOp .In x c) Q E s := SeqAt.in_tuple_reads rc rx hxs hd (room_min hdep hu) h
theorem r_notinT {c x : Value} {xs : List PyData} {d : PyData} {as bs : List Addr} (rc : Reads s.heap c (.tuple xs) as) (rx : Reads s.heap x d bs) (hxs : PyData.canLayAll0 xs = true) (hd : d.canLay0 = true) (hdep : d.depth ≤ 50) (hu : A.units + 64 < cLine)
    (h : Q (.bool (!xs.any fun y => PyData.eqv y d)) s) : wpAny (model prog w) A (compareOp .NotIn x c) Q E s := SeqAt.notIn_tuple_reads rc rx hxs hd (room_min hdep hu) h
theorem r_inL {c x : Value} {xs : List PyData} {d : PyData} {as bs : List Addr} (rc : Reads s.heap c (.list xs) as) (rx : Reads s.heap x d bs) (hxs : PyData.canLayAll0 xs = true) (hd : d.canLay0 = true) (hdep : d.depth ≤ 50) (hu : A.units + 64 < cLine)
    (h : Q (.bool (xs.any fun y => PyData.eqv y d)) s) : wpAny (model prog w) A (compareOp .In x c) Q E s := SeqAt.in_list_reads rc rx hxs hd (room_min hdep hu) h
/-- what reads as the parts of a display -/
theorem reads_tupN {a : Addr} {vs : List Value} {n : Nat} {xs : List PyData} (N : News h₀ L s.heap news) (hm : (a, tupO vs n) ∈ news) (r : ReadsAll s.heap vs xs []) : Reads s.heap (.ref a) (.tuple xs) [] := .tuple (N.get hm) rfl rfl r
theorem reads_lstN {a : Addr} {vs : List Value} {n : Nat} {xs : List PyData} (N : News h₀ L s.heap news) (hm : (a, ({ cls := .type "list", data := .seq vs.toArray n } : Obj)) ∈ news) (r : ReadsAll s.heap vs xs []) : Reads s.heap (.ref a) (.list xs) [a] := .list (N.get hm) rfl rfl r
theorem ra_nil : ReadsAll s.heap [] [] [] := .nil
theorem ra_cons {v : Value} {d : PyData} {vs : List Value} {ds : List PyData} (h : Reads s.heap v d []) (k : ReadsAll s.heap vs ds []) : ReadsAll s.heap (v :: vs) (d :: ds) [] := .cons (as := []) (bs := []) h k
theorem canS {op : Str} (h : layS op) : PyData.canLay0 (.str op) = true := h
theorem r_eqLeaf {t : Tr} {v : Value} {D : Addr} {x : Str} {tk : Tok} {n : Nat} {news' : List (Addr × Obj)} (N : News h₀ L s.heap news) (hT : TIn news' v t) (hs : ∀ p ∈ news', p ∈ news) (g : t.over layS) (hdp : t.dep ≤ 30) (hm : (D, tupO [.str x tk] n) ∈ news) (hx : layS x)
    (hu : A.units + 64 < cLine) (h : Q (.bool (t.leaf x)) s) : wpAny (model prog w) A (compareOp .Eq v (.ref D)) Q E s := by
  have e : PyData.eqv t.py (.tuple [.str x]) = t.leaf x := by
    rw [Tr.py_eq]
    cases t <;> simp [PyData.eqv, PyData.eqvAll, Tr.leaf, Tr.kids]
  refine eq_dataH ((hT.mono hs).reads N) (reads_tupN N hm (ra_cons (.str _ _) ra_nil)) (Tr.shaped g hdp) ?_ hu (by rw [e]; exact h)
  have h1 : PyData.canLay0 (.tuple [.str x]) = true := by
    simp only [layS] at hx
    simp [PyData.canLay0, PyData.canLayAll0] at *; exact hx
  simp only [SeqAt.shaped, h1, Bool.true_and, PyData.depth, PyData.depthAll]
  rfl
noncomputable def optData : Option Bool → PyData
  | some b => .bool b
  | none => .none
theorem ra_opts : ∀ ws : List (Option Bool), ReadsAll s.heap (ws.map optVal) (ws.map optData) []
  | [] => .nil
  | w :: ws => ra_cons (by cases w; exact .none; exact .bool _) (ra_opts ws)
theorem can_opts : ∀ ws : List (Option Bool), PyData.canLayAll0 (ws.map optData) = true
  | [] => rfl
  | w :: ws => by
    have := can_opts ws
    cases w <;> simp [PyData.canLayAll0, PyData.canLay0, optData, this]
theorem dep_opts : ∀ ws : List (Option Bool), PyData.depthAll (ws.map optData) ≤ 1
  | [] => by simp [PyData.depthAll]
  | w :: ws => by
    have := dep_opts ws
    cases w <;> simp [PyData.depthAll, PyData.depth, optData] <;> omega
theorem r_noneIn {D : Addr} {ws : List (Option Bool)} (N : News h₀ L s.heap news) (hm : (D, LCg.lst (ws.map optVal)) ∈ news) (hu : A.units + 64 < cLine) (h : Q (.bool (ws.any Option.isNone)) s) : wpAny (model prog w) A (compareOp .In .none (.ref D)) Q E s := by
  refine r_inL (d := .none) (reads_lstN N hm (ra_opts ws)) .none (can_opts ws) rfl (by decide) hu ?_
  have e : (ws.map optData).any (fun y => PyData.eqv y .none) = ws.any Option.isNone := by
    rw [List.any_map]
    congr 1
    funext w
    cases w <;> rfl
  rw [e]; exact h
theorem r_eqNil {D D' : Addr} {n : Nat} {ws : List (Option Bool)} (N : News h₀ L s.heap news) (hm : (D, LCg.lst (ws.map optVal)) ∈ news) (hm' : (D', ({ cls := .type "list", data := .seq (([] : List Value).toArray) n } : Obj)) ∈ news) (hu : A.units + 64 < cLine) (h : Q (.bool ws.isEmpty) s) :
    wpAny (model prog w) A (compareOp .Eq (.ref D) (.ref D')) Q E s := by
  refine eq_dataH (reads_lstN N hm (ra_opts ws)) (reads_lstN N hm' ra_nil) ?_ rfl hu ?_
  · have h1 : PyData.canLay0 (.list (ws.map optData)) = true := by simp only [PyData.canLay0]; exact can_opts ws
    have h2 := dep_opts ws
    simp only [SeqAt.shaped, h1, Bool.true_and, PyData.depth]
    exact decide_eq_true (by omega)
  · have e : PyData.eqv (.list (ws.map optData)) (.list []) = ws.isEmpty := by cases ws <;> simp [PyData.eqv, PyData.eqvAll]
    rw [e]; exact h
theorem r_slice1 {value slice : Expr} {t : Addr} {v : Value} {vs : List Value} {n : Nat} {u : Tok} (F : Fr h₀ L s.heap m) (N : News h₀ L s.heap news) (hm : (t, tupO (v :: vs) n) ∈ news) (hsz : vs.length ≤ 1000)
    (h : ∀ D h', Fr h₀ L h' m → News h₀ L h' ((D, tupO vs 0) :: news) → (∀ p ∈ news, p.1 < D) → Q (.ref D) { s with heap := h' })
    (hs : subscripted slice false (.ref t) (.ref s.heap.objs.size) = operate [.ref s.heap.objs.size, .ref t] (getItem (.ref t) (.ref s.heap.objs.size))) (hg : ∀ r, letTemporaryGo value (.ref t) r = pure ()) :
    wpAny (model prog w) A (subscriptTail value slice (.ref t) (.ref s.heap.objs.size)) Q E { s with heap := s.heap.push { cls := .type "slice", data := .fields #[.int ((1 : Nat) : Int) u, .none, .none] } } :=
  slice_tuple_from (a := 1) F N (News.isTup N hm) (Nat.le_refl 1) (by simp) (fun h' F' N' => h _ h' F' N' fun p hp => Nat.lt_succ_of_lt (Heap.lt_size (N p hp).1)) hs hg (by
    have : (v :: vs).toArray.size = vs.length + 1 := by simp
    rw [this, sizeLine_eq]; omega)
theorem r_item0 {value slice : Expr} {t : Addr} {v : Value} {vs : List Value} {n : Nat} {u : Tok} (N : News h₀ L s.heap news) (hm : (t, tupO (v :: vs) n) ∈ news) (h : Q v s)
    (hs : subscripted slice false (.ref t) (.int 0 u) = operate [.ref t, .int 0 u] (getItem (.ref t) (.int 0 u))) :
    wpAny (model prog w) A (subscriptTail value slice (.ref t) (.int 0 u)) Q E s :=
  item_tupleT (j := 0) (x := v) (News.isTup N hm) (by decide) (by decide) (by simp [seqIndex?]) rfl h hs
theorem r_lenL {D : Addr} {vs : List Value} {n : Nat} (N : News h₀ L s.heap news) (hm : (D, ({ cls := .type "list", data := .seq vs.toArray n } : Obj)) ∈ news) (hsz : vs.length ≤ 1000) (h : Q (.int (vs.length : Nat) (s.toks + 1)) { s with toks := s.toks + 1 + 1 }) :
    wpAny (model prog w) A (call (.builtin "len") [.ref D]) Q E s := len_list (News.isList N hm) (by rw [List.size_toArray]; omega) (by rw [List.size_toArray]; exact h)
theorem r_lenT {D : Addr} {vs : List Value} {n : Nat} (N : News h₀ L s.heap news) (hm : (D, tupO vs n) ∈ news) (hsz : vs.length ≤ 1000) (h : Q (.int (vs.length : Nat) (s.toks + 1)) { s with toks := s.toks + 1 + 1 }) :
    wpAny (model prog w) A (call (.builtin "len") [.ref D]) Q E s := len_tuple (News.isTup N hm) (by rw [List.size_toArray]; omega) (by rw [List.size_toArray]; exact h)
theorem r_addT {t b : Addr} {v v' : Value} {vs ws : List Value} {n n' : Nat} (F : Fr h₀ L s.heap m) (N : News h₀ L s.heap news) (ht : (t, tupO (v :: vs) n) ∈ news) (hb : (b, tupO (v' :: ws) n') ∈ news) (hsz : vs.length + ws.length ≤ 1000)
    (h : ∀ D h', Fr h₀ L h' m → News h₀ L h' ((D, tupO (v :: (vs ++ v' :: ws)) 0) :: news) → (∀ p ∈ news, p.1 < D) → Q (.ref D) { s with heap := h' }) : wpAny (model prog w) A (binaryOp .Add (.ref t) (.ref b)) Q E s :=
  add_tuples F N (News.isTup N ht) (News.isTup N hb) (fun q => nomatch q) (fun _ q => nomatch q) (fun _ _ h' F' N' => h _ h' F' N' fun p hp => Heap.lt_size (N p hp).1) (by simp only [List.length_cons]; rw [sizeLine_eq]; omega)
theorem r_tupleL {D : Addr} {ys : List Value} {n : Nat} (F : Fr h₀ L s.heap m) (N : News h₀ L s.heap news) (hm : (D, ({ cls := .type "list", data := .seq ys.toArray n } : Obj)) ∈ news) (hsz : ys.length ≤ 1000)
    (h : ∀ D' h', Fr h₀ L h' m → News h₀ L h' ((D', tupO ys 0) :: news) → (∀ p ∈ news, p.1 < D') → Q (.ref D') { s with heap := h' }) : wpAny (model prog w) A (call (.type "tuple") [.ref D]) Q E s := by
  refine call_tuple_list (News.isList N hm) (fun h' hk => ?_) (by rw [List.size_toArray, sizeLine_eq]; omega)
  have F' : Fr h₀ L h' m := F.keeps hk
  have N' : News h₀ L h' news := fun p hp => ⟨hk _ _ (N p hp).1, (N p hp).2⟩
  exact h _ _ (F'.push _) (N'.push F' _) fun p hp => Heap.lt_size (N' p hp).1
theorem r_addT1 {t b : Addr} {v : Value} {vs : List Value} {n n' : Nat} (F : Fr h₀ L s.heap m) (N : News h₀ L s.heap news) (ht : (t, tupO (v :: vs) n) ∈ news) (hb : (b, tupO [] n') ∈ news) (hsz : vs.length ≤ 1000) (h : Q (.ref t) s) : wpAny (model prog w) A (binaryOp .Add (.ref t) (.ref b)) Q E s :=
  add_tuples F N (News.isTup N ht) (News.isTup N hb) (fun q => nomatch q) (fun _ _ => h) (fun _ q => absurd rfl q) (by simp only [List.length_cons, List.length_nil]; rw [sizeLine_eq]; omega)
theorem r_addTG {t b : Addr} {v : Value} {vs ws : List Value} {n n' : Nat} (F : Fr h₀ L s.heap m) (N : News h₀ L s.heap news) (ht : (t, tupO (v :: vs) n) ∈ news) (hb : (b, tupO ws n') ∈ news) (hsz : vs.length + ws.length ≤ 1000)
    (h : ∀ D h' k, Fr h₀ L h' m → News h₀ L h' ((D, tupO (v :: (vs ++ ws)) k) :: news) → (D = t ∨ ∀ p ∈ news, p.1 < D) → Q (.ref D) { s with heap := h' }) : wpAny (model prog w) A (binaryOp .Add (.ref t) (.ref b)) Q E s := by
  cases ws with
  | nil =>
    refine r_addT1 F N ht hb hsz (h t _ n F (fun p hp => ?_) (.inl rfl))
    rcases List.mem_cons.mp hp with rfl | hp
    · rw [List.append_nil]; exact N _ ht
    · exact N p hp
  | cons w ws => exact r_addT F N ht hb (by rw [List.length_cons] at hsz; omega) fun D h' F' N' l => h D h' 0 F' N' (.inr l)
theorem adjust_to (b n : Nat) (hb : b ≤ n) : Builtin.Slice.sliceAdjust none (some (b : Int)) 1 (n : Int) = (0, (b : Int)) := by
  unfold Builtin.Slice.sliceAdjust
  have h1 : ¬ ((1 : Int) < 0) := by omega
  have h2 : ¬ ((b : Int) < 0) := by omega
  simp only [h1, h2, if_false]
  congr 1
  omega
theorem places_to (b : Nat) : Builtin.Slice.slicePlaces 0 (b : Int) 1 = b := by
  unfold Builtin.Slice.slicePlaces
  have h1 : (1 : Int) > 0 := by omega
  simp only [h1, if_true, Int.ediv_one]
  split <;> omega
theorem sliceApplied_to {sl : Addr} {b n : Nat} {u : Tok} {Q : Int × Int × Nat → Shared → Prop} (hs : s.heap.IsSliceOf sl .none (.int b u) .none) (hb : b ≤ n) (h : Q ((0 : Int), 1, b) s) :
    wpAny (model prog w) A (Builtin.Slice.sliceApplied (.ref sl) (pure (n : Int))) Q E s := by
  obtain ⟨os, hos, hcs, hds⟩ := id hs
  unfold Builtin.Slice.sliceApplied Builtin.Slice.sliceFields
  refine wpAny_bind (wpAny_bind (wpAny_field hos hds (x := .none) rfl (wpAny_bind (wpAny_field hos hds (x := .int b u) rfl (wpAny_bind (wpAny_field hos hds (x := .none) rfl (wpAny_pure ?_)))))))
  refine wpAny_bind (slicePart_none ?_)
  show wpAny _ _ (if ((1 : Int) == 0) = true then _ else _) _ _ s
  rw [if_neg (by decide)]
  refine wpAny_bind (slicePart_none (wpAny_bind (slicePart_int (wpAny_bind (wpAny_pure ?_)))))
  show wpAny _ _ (match Builtin.Slice.sliceAdjust none (some (b : Int)) 1 (n : Int) with | (lo, hi) => pure (lo, (1 : Int), Builtin.Slice.slicePlaces lo hi 1)) _ _ s
  rw [adjust_to b n hb]
  show wpAny _ _ (pure ((0 : Int), (1 : Int), Builtin.Slice.slicePlaces (0 : Int) (b : Int) 1)) _ _ s
  rw [places_to b]
  exact wpAny_pure h
theorem pick_to (xs : Array Value) (b : Nat) : ((List.range b).filterMap fun (k : Nat) => xs[((0 : Int) + (k : Int) * 1).toNat]?).toArray = (xs.toList.take b).toArray := by
  have e : (fun (k : Nat) => xs[((0 : Int) + (k : Int) * 1).toNat]?) = fun k => xs[0 + k]? := by
    funext k
    have : ((0 : Int) + (k : Int) * 1).toNat = 0 + k := by omega
    rw [this]
  rw [e]
  have := pick_run xs 0 b
  rw [List.filterMap_map] at this
  have e2 : ((fun x => xs[x]?) ∘ fun x => 0 + x) = fun k => xs[0 + k]? := rfl
  rw [e2] at this
  rw [this, List.drop_zero]
theorem getItem_tuple_to {t sl : Addr} {items : Array Value} {b : Nat} {u : Tok} {Q : Value → Shared → Prop} (ht : IsTup s.heap t items) (hs : s.heap.IsSliceOf sl .none (.int b u) .none) (hb : b < items.size)
    (h : Q (.ref s.heap.objs.size) { s with heap := s.heap.push { cls := .type "tuple", data := .seq (items.toList.take b).toArray } })
    (hsz : items.size ≤ sizeLine) : wpAny (model prog w) A (getItem (.ref t) (.ref sl)) Q E s := by
  have hdrop : sizeOk (.seq (items.toList.take b).toArray) := by
    show (items.toList.take b).toArray.size ≤ sizeLine
    rw [List.size_toArray, List.length_take, Array.length_toList]
    omega
  obtain ⟨os, hos, hcs, hds⟩ := id hs
  have hTs : s.TypeIs (.ref sl) "slice" := ⟨os, hos, hcs⟩
  unfold getItem
  try with_reducible refine wpAny_holding ?_
  first | refine wpAny_bind (wpAny_pure ?_) | skip
  refine wpAny_bind (wpAny_sequenceKey ht.typeIs (by decide) ?_)
  refine wpAny_bind (wpAny_callSpecial?_slot (name := Str.ofString "__getitem__") ht.typeIs slot_tuple_getitem
    (wpAny_call_entry slot_tuple_getitem ht.typeIs entry_tuple_getitem ?_ (args_tuple_getitem _ _)))
  show wpAny _ _ (Builtin.Tuple.tupleItemsOf (.ref t) >>= _) _ _ s
  refine wpAny_bind (tupleItemsOf_ ht ?_)
  refine wpAny_bind (wpAny_typeOf hTs ?_)
  rw [if_pos (by decide)]
  refine wpAny_bind (sliceApplied_to hs (Nat.le_of_lt hb) ?_)
  have hno : ¬ (((0 : Int) == 0 && (1 : Int) == 1 && b == items.size) = true) := by
    have : (b == items.size) = false := by rw [beq_eq_false_iff_ne]; omega
    rw [this]; simp
  show wpAny _ _ (if ((0 : Int) == 0 && (1 : Int) == 1 && b == items.size) = true then _ else _) _ _ s
  rw [if_neg hno, pick_to items b]
  first
    | exact wpAny_bind (m := Builtin.Tuple.tupleExact _) (wpAny_newObj_type (wpAny_pure ⟨_, rfl, wpAny_pure h⟩) hdrop)
    | exact wpAny_bind (m := Builtin.Tuple.tupleExact _) (wpAny_newObj_type (wpAny_bind (wpAny_pure (wpAny_pure ⟨_, rfl, wpAny_pure h⟩))) hdrop)
    | exact wpAny_bind (wpAny_bind (m := Builtin.Tuple.tupleExact _) (wpAny_newObj_type (wpAny_pure (wpAny_pure ⟨_, rfl, wpAny_pure h⟩)) hdrop))
    | exact wpAny_bind (wpAny_bind (m := Builtin.Tuple.tupleExact _) (wpAny_newObj_type (wpAny_pure ⟨_, rfl, wpAny_pure h⟩) hdrop))
theorem r_sliceTo {value slice : Expr} {t : Addr} {its xs : List Value} {b : Nat} {i : Int} {n : Nat} {u : Tok} (F : Fr h₀ L s.heap m) (N : News h₀ L s.heap news) (hm : (t, tupO its n) ∈ news) (hi : i = (b : Nat)) (hb : b < its.length) (hsz : its.length ≤ 1000) (hx : its.take b = xs)
    (h : ∀ D h', Fr h₀ L h' m → News h₀ L h' ((D, tupO xs 0) :: news) → (∀ p ∈ news, p.1 < D) → Q (.ref D) { s with heap := h' })
    (hs : subscripted slice false (.ref t) (.ref s.heap.objs.size) = operate [.ref s.heap.objs.size, .ref t] (getItem (.ref t) (.ref s.heap.objs.size))) (hg : ∀ r, letTemporaryGo value (.ref t) r = pure ()) :
    wpAny (model prog w) A (subscriptTail value slice (.ref t) (.ref s.heap.objs.size)) Q E { s with heap := s.heap.push { cls := .type "slice", data := .fields #[.none, .int i u, .none] } } := by
  subst hi hx
  have ht := News.isTup N hm
  have ht' : IsTup (s.heap.push { cls := .type "slice", data := .fields #[.none, .int (b : Int) u, .none] }) t its.toArray := ht.keeps fun _ _ e => Heap.get?_push_of_some _ e
  refine subscriptTail_ops (s := { s with heap := s.heap.push { cls := .type "slice", data := .fields #[.none, .int (b : Int) u, .none] } }) ht'.typeIs slot_tuple_getitem.lookup
    (getItem_tuple_to ht' (Heap.IsSliceOf.new ..) (by rw [List.size_toArray]; exact hb) ?_ (by rw [List.size_toArray, sizeLine_eq]; omega)) hs hg
  have N1 := News.push (F.push { cls := .type "slice", data := .fields #[.none, .int (b : Int) u, .none] }) (N.grown fun _ _ e => Heap.get?_push_of_some _ e) { cls := .type "tuple", data := .seq (its.take b).toArray }
  rw [Heap.size_push] at N1
  show Q (.ref (s.heap.push _).objs.size) _
  rw [Heap.size_push]
  exact h _ _ ((F.push _).push _) N1 fun p hp => Nat.lt_succ_of_lt (Heap.lt_size (N p hp).1)
theorem r_sliceFrom {value slice : Expr} {t : Addr} {its xs : List Value} {a : Nat} {i : Int} {n : Nat} {u : Tok} (F : Fr h₀ L s.heap m) (N : News h₀ L s.heap news) (hm : (t, tupO its n) ∈ news) (hi : i = (a : Nat)) (h1 : 1 ≤ a) (ha : a ≤ its.length) (hsz : its.length ≤ 1000) (hx : its.drop a = xs)
    (h : ∀ D h', Fr h₀ L h' m → News h₀ L h' ((D, tupO xs 0) :: news) → (∀ p ∈ news, p.1 < D) → Q (.ref D) { s with heap := h' })
    (hs : subscripted slice false (.ref t) (.ref s.heap.objs.size) = operate [.ref s.heap.objs.size, .ref t] (getItem (.ref t) (.ref s.heap.objs.size))) (hg : ∀ r, letTemporaryGo value (.ref t) r = pure ()) :
    wpAny (model prog w) A (subscriptTail value slice (.ref t) (.ref s.heap.objs.size)) Q E { s with heap := s.heap.push { cls := .type "slice", data := .fields #[.int i u, .none, .none] } } := by
  subst hi hx
  exact slice_tuple_from (a := a) F N (News.isTup N hm) h1 (by rw [List.size_toArray]; exact ha) (fun h' F' N' => h _ h' F' N' fun p hp => Nat.lt_succ_of_lt (Heap.lt_size (N p hp).1)) hs hg (by rw [List.size_toArray, sizeLine_eq]; omega)
theorem r_itemT {value slice : Expr} {t : Addr} {its : List Value} {j : Nat} {i : Int} {v : Value} {n : Nat} {u : Tok} (N : News h₀ L s.heap news) (hm : (t, tupO its n) ∈ news) (hi : i = (j : Nat)) (hj : j < 1000) (hv : its[j]? = some v) (h : Q v s)
    (hs : subscripted slice false (.ref t) (.int i u) = operate [.ref t, .int i u] (getItem (.ref t) (.int i u))) :
    wpAny (model prog w) A (subscriptTail value slice (.ref t) (.int i u)) Q E s := by
  subst hi
  have hl : j < its.length := by
    rcases Nat.lt_or_ge j its.length with h | h
    · exact h
    · rw [List.getElem?_eq_none h] at hv; cases hv
  refine item_tupleT (j := j) (x := v) (News.isTup N hm) (by omega) (by omega) ?_ hv h hs
  have h0 : ¬ ((j : Int) < 0) := by omega
  simp [seqIndex?, h0, hl]
theorem r_addL {t b : Addr} {vs ws : List Value} {n n' : Nat} (F : Fr h₀ L s.heap m) (N : News h₀ L s.heap news) (ht : (t, ({ cls := .type "list", data := .seq vs.toArray n } : Obj)) ∈ news) (hb : (b, ({ cls := .type "list", data := .seq ws.toArray n' } : Obj)) ∈ news) (hsz : vs.length + ws.length ≤ 1000)
    (h : ∀ D h', Fr h₀ L h' m → News h₀ L h' ((D, ({ cls := .type "list", data := .seq (vs ++ ws).toArray 0 } : Obj)) :: news) → (∀ p ∈ news, p.1 < D) → Q (.ref D) { s with heap := h' }) : wpAny (model prog w) A (binaryOp .Add (.ref t) (.ref b)) Q E s :=
  add_lists F N (News.isList N ht) (News.isList N hb) (fun h' F' N' => h _ h' F' N' fun p hp => Heap.lt_size (N p hp).1) (by rw [sizeLine_eq]; omega)
end
theorem allNe1 {l : List (Addr × Obj)} {L : Addr} (h : ∀ p ∈ l, @LT.lt Nat _ p.1 L) : ∀ p ∈ l, p.1 ≠ L + 1 := fun p hp => Nat.ne_of_lt (Nat.lt_succ_of_lt (h p hp))
theorem allNe2 {l : List (Addr × Obj)} {L : Addr} (h : ∀ p ∈ l, @LT.lt Nat _ p.1 L) : ∀ p ∈ l, p.1 ≠ L + 1 + 1 := fun p hp => Nat.ne_of_lt (Nat.lt_succ_of_lt (Nat.lt_succ_of_lt (h p hp)))
theorem allNe3 {l : List (Addr × Obj)} {L : Addr} (h : ∀ p ∈ l, @LT.lt Nat _ p.1 L) : ∀ p ∈ l, p.1 ≠ L + 1 + 1 + 1 := fun p hp => Nat.ne_of_lt (Nat.lt_succ_of_lt (Nat.lt_succ_of_lt (Nat.lt_succ_of_lt (h p hp))))
theorem updF_app {d : Addr} {o : Obj} {r : List (Addr × Obj)} {g : Obj → List (Addr × Obj)} : ∀ {pre : List (Addr × Obj)}, (∀ p ∈ pre, p.1 ≠ d) → UpdF d o r g → UpdF d o (pre ++ r) (fun o' => pre ++ g o')
  | [], _, u => u
  | _ :: _, h, u => .tail (h _ List.mem_cons_self) (updF_app (fun p hp => h p (List.mem_cons_of_mem _ hp)) u)
end Mine
end
section
open PySem PySem.W PyProof.Rows PySem.Spec PySem.Calls
namespace Mine
/-! An exception on its way through frames and comprehensions, over a ledger that stays. -/
noncomputable def XFly (base : Heap) (l : List Env) (e : Addr) (cls : Value) (news : List (Addr × Obj)) (h : Heap) : Prop :=
  ∃ B a0, base.StaysIn B ∧ (∀ q ∈ news, B.get? q.1 = some q.2 ∧ base.get? q.1 = none) ∧ Heap.FlyingW B l e cls a0 h
noncomputable def XHeld (base : Heap) (l : List Env) (e : Addr) (cls : Value) (L : Addr) (news : List (Addr × Obj)) (h : Heap) : Prop :=
  ∃ B a0, base.StaysIn B ∧ (∀ q ∈ news, B.get? q.1 = some q.2 ∧ base.get? q.1 = none) ∧ Heap.HeldW B l e cls a0 L h
theorem XFly.sub {base : Heap} {l : List Env} {e : Addr} {cls : Value} {news news' : List (Addr × Obj)} {h : Heap} (x : XFly base l e cls news h) (hs : ∀ p ∈ news', p ∈ news) : XFly base l e cls news' h :=
  let ⟨B, a0, h1, h2, h3⟩ := x; ⟨B, a0, h1, fun q hq => h2 q (hs q hq), h3⟩
theorem funFrames_tail {base h : Heap} {env : Env} {l : List Env} (x : h.FunFrames base (env :: l)) : h.FunFrames base l := x.2.2
section
variable {M : Model} {A : Around} {E : Value → Shared → Prop} {s' : Shared} {base g g₂ h : Heap} {outer : List Env} {env : Env} {L e : Addr} {cls : Value} {m : Str → Option Value} {Q : Unit → Shared → Prop} {news news' : List (Addr × Obj)}
theorem below_pushX (K : Below A base outer g) (F : Fr g L h m) (hf : env.frame = some L) (hk : env.scope.kind = .function) : Below (A.deeper env) base (env :: outer) h := by
  have hnew : base.get? L = none := by
    cases hq : base.get? L with
    | none => rfl
    | some o => exact absurd (Nat.lt_of_lt_of_le (Heap.lt_size (K.stays L o hq)) F.above) (Nat.lt_irrefl _)
  refine ⟨Around.frames_deeper K.stack, fun b o e => F.keep b o (K.stays b o e), ?_⟩
  exact .cons (by rw [hk]; decide) hf F.ns hnew (K.frames.of_keeps fun b o e _ => ⟨o, F.keep b o e, rfl⟩)
/-- the frame is left by an exception that the ledger bears -/
theorem x_leave_made {oe : Obj} {vs : Array Value} {a0 : Value} (K : Below A base outer g) (F : Fr g L s'.heap m) (N : News g L s'.heap news) (hf : env.frame = some L) (hk : env.scope.kind = .function)
    (he : (e, oe) ∈ news) (hc : oe.cls = cls) (hd : oe.data = .fields vs) (h0 : vs[0]? = some a0) (h1 : vs[1]? = some .none) (sub : ∀ p ∈ news', p ∈ news ∧ p.1 ≠ e)
    (hQ : ∀ h', XFly base outer e cls news' h' → g.UpToSlots h' → Q () { s' with heap := h' }) :
    wpAny M (A.deeper env) (leaving env (.ref e)) Q E s' := by
  subst hc
  have K' := below_pushX K F hf hk
  have hne : ∀ b, b ∈ (env :: outer).filterMap (·.frame) → b ≠ e := fun b hb q => by
    obtain ⟨o, ho, hnf⟩ := (K'.frames.mem hb).2
    rw [q, (N _ he).1] at ho
    cases ho
    exact hnf _ hd
  have hin : ∀ env' ∈ (env :: outer), ∀ b, env'.frame = some b → b ∈ e :: (env :: outer).filterMap (·.frame) := fun env' h b hb => List.mem_cons_of_mem _ (List.mem_filterMap.mpr ⟨env', h, hb⟩)
  have eb : base.get? e = none := fresh_of_stays K.stays (N _ he).2.2
  have st : base.StaysIn (hideAll s'.heap (e :: (env :: outer).filterMap (·.frame))) := fun b o q => hideAll_get _ (K'.stays b o q) fun hm => by
    rcases List.mem_cons.mp hm with rfl | hm
    · rw [eb] at q; cases q
    · rw [(K'.frames.mem hm).1] at q; cases q
  have hl : ∀ q ∈ news', (hideAll s'.heap (e :: (env :: outer).filterMap (·.frame))).get? q.1 = some q.2 ∧ base.get? q.1 = none := fun q hq => by
    obtain ⟨hq, hqe⟩ := sub q hq
    refine ⟨hideAll_get _ (N q hq).1 fun hm => ?_, fresh_of_stays K.stays (N q hq).2.2⟩
    rcases List.mem_cons.mp hm with h | hm
    · exact hqe h
    · obtain ⟨env', he', hf'⟩ := List.mem_filterMap.mp hm
      rcases List.mem_cons.mp he' with rfl | he'
      · rw [hf] at hf'; exact (N q hq).2.1 (Option.some.inj hf').symm
      · obtain ⟨o, ho, _⟩ := (K.frames.mem (List.mem_filterMap.mpr ⟨env', he', hf'⟩)).2
        rw [(N q hq).2.2] at ho; cases ho
  refine wpAny_leaving_firstW (base := hideAll s'.heap (e :: (env :: outer).filterMap (·.frame))) (a0 := a0) K'.stack (funFrames_hide K'.frames hin) hf (N _ he).1 (fun b o q => of_hideAll _ q) (hideAll_none _ List.mem_cons_self) hd h1 h0 fun h' hL => ?_
  obtain ⟨k1, k2, k3, k4⟩ := hL
  exact hQ h' ⟨_, a0, st, hl, k1, hideAll_none _ List.mem_cons_self, funFrames_tail k2, k3⟩ ((Heap.UpToSlots.of_keeps F.keep).trans k4)
/-- it goes on through a frame -/
theorem x_leave_on (K : Below A base outer g) (hf : env.frame = some L) (X : XFly base (env :: outer) e cls news s'.heap) (U : g.UpToSlots s'.heap)
    (hQ : ∀ h', XFly base outer e cls news h' → g.UpToSlots h' → Q () { s' with heap := h' }) :
    wpAny M (A.deeper env) (leaving env (.ref e)) Q E s' := by
  obtain ⟨B, a0, hB, hl, hfl⟩ := X
  exact wpAny_leaves_onW (Around.frames_deeper K.stack) hf hfl fun h' x1 x2 => hQ h' ⟨B, a0, hB, hl, x1⟩ (U.trans x2)
theorem x_leave_held (hf : env.frame = some L) (X : XHeld base (env :: outer) e cls L news s'.heap) (U : g.UpToSlots s'.heap)
    (hQ : ∀ h', XFly base outer e cls news h' → g.UpToSlots h' → Q () { s' with heap := h' }) : wpAny M A (leaving env (.ref e)) Q E s' := by
  obtain ⟨B, a0, hB, hl, hh⟩ := X
  unfold leaving
  refine wpAny_bind (wpAny_noteFrame_againW hf hh.2.2.2 ?_)
  refine wpAny_landsW hh fun h' hfl u => ?_
  obtain ⟨k1, k2, ⟨_, _, k3⟩, k4⟩ := hfl
  exact hQ h' ⟨B, a0, hB, hl, k1, k2, k3, k4⟩ (U.trans u)
theorem held_again {B : Heap} {l : List Env} {a0 : Value} (hh : Heap.HeldW B l e cls a0 L s'.heap) (hQ : ∀ h', Heap.HeldW B l e cls a0 L h' → s'.heap.UpToSlots h' → Q () { s' with heap := h' }) :
    wpAny M A (setFlight (.ref e) (some L)) Q E s' := by
  obtain ⟨f1, f2, f3, oe, vs, T, oT, ts, he, hcls, hd, h1, hnT, hTe, hT, hdT, h3⟩ := hh
  have hsz3 : 3 < ts.size := (Array.getElem?_eq_some_iff.mp h3).1
  have other : ∀ b, b ≠ T → (s'.heap.update T (Obj.mapFields (·.setIfInBounds 3 (rawInt L)))).get? b = s'.heap.get? b := fun b hb => Heap.get?_update_other _ _ (Ne.symm hb)
  have noRecord : ∀ b o, s'.heap.get? b = some o → (∀ vs, o.data ≠ .fields vs) → b ≠ T := fun b o hb hnf q => by
    rw [q, hT] at hb; injection hb with hb; subst hb; exact hnf ts hdT
  unfold setFlight
  refine wpAny_bind (wpAny_field he hd h1 ?_)
  rw [if_pos (show (Value.ref T != Value.none) = true from by simp)]
  refine wpAny_setField hT hdT hsz3 (hQ _ ⟨fun b o hbo => (other b fun q => by rw [q, hnT] at hbo; cases hbo).trans (f1 b o hbo), f2,
    f3.of_keeps fun b o hb hnf => ⟨o, (other b (noRecord b o hb hnf)).trans hb, rfl⟩, ?_⟩ fun b o hb hnf => ⟨o.slots, (other b (noRecord b o hb hnf)).trans hb⟩)
  exact ⟨oe, vs, T, _, _, (other e (Ne.symm hTe)).trans he, hcls, hd, h1, hnT, hTe, Heap.get?_update_self _ hT (Obj.isFreed_of_fields (Obj.data_mapFields hdT _)), Obj.data_mapFields hdT _, by simp [hsz3]⟩
theorem held_same {C : Addr} {oC : Obj} {l : List Env} {h' : Heap} (X : XHeld base l e cls L news h) (hs : Heap.SameBut C h h') (hC : (C, oC) ∈ news) (sub : ∀ p ∈ news', p ∈ news ∧ p.1 ≠ C) : XHeld base l e cls L news' h' := by
  obtain ⟨B, a0, hB, hl, f1, f2, f3, oe, vs, T, oT, ts, he, hcls, hd, h1, hnT, hTe, hT, hdT, h3⟩ := X
  have cB := (hl _ hC).1
  have nC : ∀ b, B.get? b = none → b ≠ C := fun b hb q => by rw [q, cB] at hb; cases hb
  have hid : ∀ b, B.get? b = none → (hideAll B [C]).get? b = none := fun b hb => by
    cases q : (hideAll B [C]).get? b with
    | none => rfl
    | some o => have := of_hideAll _ q; rw [hb] at this; cases this
  refine ⟨hideAll B [C], a0, fun b o q => hideAll_get _ (hB b o q) fun hm => ?_, fun q hq => ?_, fun b o q => ?_, hid e f2, ?_, oe, vs, T, oT, ts, ?_, hcls, hd, h1, hid T hnT, hTe, ?_, hdT, h3⟩
  · rw [List.mem_singleton.mp hm, (hl _ hC).2] at q; cases q
  · obtain ⟨hq, hqC⟩ := sub q hq
    exact ⟨hideAll_get _ (hl q hq).1 fun hm => hqC (List.mem_singleton.mp hm), (hl q hq).2⟩
  · have hbC : b ≠ C := fun q' => by rw [q', hideAll_none _ List.mem_cons_self] at q; cases q
    exact (hs.2 b hbC).trans (f1 b o (of_hideAll _ q))
  · have go : ∀ {l : List Env}, h.FunFrames B l → h'.FunFrames (hideAll B [C]) l := by
      intro l
      induction l with
      | nil => exact fun _ => trivial
      | cons env r ih =>
        rintro ⟨hk, ⟨L', o, hf, hn, ho, hdd⟩, hr⟩
        exact ⟨hk, ⟨L', o, hf, hid L' hn, (hs.2 L' (nC L' hn)).trans ho, hdd⟩, ih hr⟩
    exact go f3
  · exact (hs.2 e (nC e f2)).trans he
  · exact (hs.2 T (nC T hnT)).trans hT
end
section
variable {prog : Program} {w : World} {A : Around} {E : Value → Shared → Prop} {s : Shared} {base g : Heap} {outer : List Env} {env₀ env : Env} {L e C : Addr} {cls : Value} {news news' : List (Addr × Obj)} {oC : Obj} {m₂ : Str → Option Value} {scope : Scope} {cl : List (Str × Addr)}
/-- a raise in a comprehension's block: what is asked of the comprehension's surroundings -/
theorem x_comp (hfr : A.frames = some (env₀ :: outer)) (hf₀ : env₀.frame = some L) (hf : env.frame = some L) (X : XFly base (env₀ :: outer) e cls news s.heap) (U : g.UpToSlots s.heap) (hC : (C, oC) ∈ news) (hoC : LCg.NsObj oC m₂) (hg : g.get? C = none)
    (sub : ∀ p ∈ news', p ∈ news ∧ p.1 ≠ C) (hE : ∀ h', XHeld base (env₀ :: outer) e cls L news' h' → g.UpToSlots h' → E (.ref e) { s with heap := h' }) :
    zX prog w A E (compEnvC scope cl C env) (.ref e) s := by
  obtain ⟨B, a0, hB, hl, hfl⟩ := X
  unfold zX notedBy
  have hn : (noteFrame (.ref e) (compEnvC scope cl C env)) = noteFrame (.ref e) env₀ := by
    unfold noteFrame PySem.frameOf compEnvC
    simp only [hf, hf₀]
  rw [hn]
  refine wpAny_looks_onW hfr hf₀ hfl fun h₄ hh u => ?_
  refine ⟨m₂, hoC.ns (hh.1 _ _ (hl _ hC).1), fun h₅ hs => ?_⟩
  have X5 : XHeld base (env₀ :: outer) e cls L news' h₅ := held_same ⟨B, a0, hB, hl, hh⟩ hs hC sub
  have U5 : g.UpToSlots h₅ := by
    intro b o hb hnf
    obtain ⟨sl, q⟩ := (U.trans u) b o hb hnf
    exact ⟨sl, (hs.2 b fun q' => by have q' : b = C := q'; rw [q', hg] at hb; cases hb).trans q⟩
  obtain ⟨B5, a5, hB5, hl5, hh5⟩ := X5
  unfold PySem.passOn
  obtain ⟨f1, f2, f3, oe, vs, T, oT, ts, he, hcls, hd, h1, r⟩ := id hh5
  refine wpAny_bind (wpAny_field he hd h1 ?_)
  rw [if_neg (show ¬ (Value.ref T == Value.none) = true from by simp)]
  show wpAny _ A (setFlight (.ref e) env.frame >>= _) _ _ _
  rw [hf]
  refine wpAny_bind (held_again hh5 fun h₆ hh6 u6 => ?_)
  exact wpAny_throw (hE h₆ ⟨B5, a5, hB5, hl5, hh6⟩ (U5.trans u6))
end
end Mine
end
section
open PySem PySem.W PyProof.Rows PySem.Spec PySem.Calls
namespace Mine
/-! The making of a TermFault (its base's own __init__ is a def). -/
noncomputable abbrev mroF : List Value := [.ref 47, .type "Exception", .type "BaseException", .type "object"]
noncomputable abbrev clsF : Obj := excClassObj (Str.ofString "TermFault") (Str.ofString "TermFault") 60 59 [.ref 47] mroF true [] [] false none none (some (.ref 51)) none (some (.str (Str.ofString "TermFault") 234)) (some (.str (Str.ofString "TermFault") 242)) (some (.bool true)) "Exception.__new__"
theorem cls60 {p : Params} {h : Heap} (X : (hd.heap_1 p).In h) : h.get? 60 = some clsF := X _ _ (by kernel_rfl)
theorem init60 {p : Params} : findIn (hd.heap_1 p) (.ref 60) "__init__" = some (some (.ref 37)) := by kernel_rfl
theorem fn37 {p : Params} : typeIn (hd.heap_1 p) (.ref 37) = some (.type "function") := by kernel_rfl
noncomputable abbrev excO (t : Addr) (d : Option Addr) : Obj := { cls := .ref 60, dict := d, data := .fields #[.ref t, .none, .none, .none, .bool false, .none] }
section
variable {M : Model} {A : Around} {E : Value → Shared → Prop} {h : Heap} {g : Array GenState} {d : Drawn} {t : Nat} {os : OsState}
theorem chk_new {rest : List Value} {Q : Unit → Shared → Prop} (hC : h.get? 60 = some clsF) (hq : Q () ⟨h, g, d, t, os⟩) : wpAny M A (checkBuiltinCall "Exception.__new__" ⟨.ref 60 :: rest, []⟩) Q E ⟨h, g, d, t, os⟩ := by
  have F := PySem.F.excBase_Exception
  have hcont : (Value.ref 60 :: mroF).contains (.type "Exception") = true := by decide +kernel
  have hstar := F.noStar
  simp only [checkBuiltinCall, F.newKind, F.newSplit, F.newRow]
  repeat (first | refine wpAny_loadPart_at hC ?_ | (refine wpAny_isSubtype_exc hC ?_; rw [hcont]) | refine wpAny_staticBase_exc hC ?_ | refine wpAny_madeBy_exc hC ?_ | simp only [bne_self_eq_false, Bool.false_eq_true, if_false] | wp_step)
  exact hq
end
section
variable {prog : Program} {w : World} {A : Around} {R : Result → Shared → Prop} {E : Value → Shared → Prop} {h : Heap} {g : Array GenState} {d : Drawn} {t : Nat} {os : OsState}
theorem new_fault {rest : List Value} (hC : h.get? 60 = some clsF)
    (hq : R (.ok (.ret (.ref (h.objs.size + 1)))) ⟨(h.push { cls := .type "tuple", data := .seq rest.toArray }).push (excO h.objs.size none), g, d, t, os⟩) (hrest : rest.length ≤ sizeLine) :
    codeAny (model prog w) A (.builtin "Exception.__new__" ⟨.ref 60 :: rest, []⟩) R ⟨h, g, d, t, os⟩ := by
  have F := PySem.F.excBase_Exception
  have hends := F.ends
  have hcB : (Value.ref 60 :: mroF).contains (.type "Exception") = true := by decide +kernel
  have hcA : (Value.ref 60 :: mroF).contains (.type "AttributeError") = false := by decide +kernel
  have hcN : (Value.ref 60 :: mroF).contains (.type "NameError") = false := by decide +kernel
  refine codeAny_builtinAt F.entry ?_
  unfold Builtin.«BaseException.__new__»
  refine PySem.wpAt_bind ?_
  show PySem.wpAt _ _ _ (stack >>= _) _ _ _
  refine PySem.wpAt_bind (PySem.wpAt_stack fun p below => PySem.wpAt_of_wpAny ?_)
  wp_walk
  refine PySem.wpAt_of_wpAny ?_
  rw [F.owner]
  repeat (first | with_reducible refine wpAny_madeHere_exc F.canon hC ?_ | with_reducible refine wpAny_loadPart_at hC ?_ | (with_reducible refine wpAny_isSubtype_exc hC ?_; first | rw [hcB] | rw [hcA] | rw [hcN]) | wp_step)
  show R _ _
  rw [Heap.size_push]
  exact hq
theorem bind37 {p : Params} (X : (hd.heap_1 p).In h) (self : Value) : Looks (model prog w) h (bindSpecial (.ref 37) self) (.ref 37, [self]) := bind_fn X self fn37
theorem type_call_fault {p : Params} {rest : List Value} {Q : Fin → Shared → Prop} (X : (hd.heap_1 p).In h)
    (hq : codeAny (model prog w) A (.call (.ref 37) ⟨.ref (h.objs.size + 1) :: rest, []⟩) (InitBack (h.objs.size + 1) fun r s' => match r with | .ok f => Q (.done f) s' | .error e => E e s') ⟨(h.push { cls := .type "tuple", data := .seq rest.toArray }).push (excO h.objs.size none), g, d, t, os⟩)
    (hrest : rest.length ≤ sizeLine) : wpAny (model prog w) A (Builtin.«type.__call__» ⟨.ref 60 :: rest, []⟩) Q E ⟨h, g, d, t, os⟩ := by
  have F := PySem.F.excBase_Exception
  have hC := cls60 X
  repeat (first | with_reducible refine wpAny_loadPart_at hC ?_ | with_reducible refine wpAny_madeBy_exc hC ?_ | wp_step)
  refine codeAny_call_builtin_code (Code.quiet_builtin _ F.quiet) (chk_new hC ?_)
  refine new_fault hC ?_ hrest
  show wpAny _ _ _ _ _ _
  have k : ∀ b o, h.get? b = some o → ((h.push { cls := .type "tuple", data := .seq rest.toArray }).push (excO h.objs.size none)).get? b = some o := fun b o e => Heap.get?_push_of_some _ (Heap.get?_push_of_some _ e)
  have hC₁ := k _ _ hC
  have hget : ((h.push { cls := .type "tuple", data := .seq rest.toArray }).push (excO h.objs.size none)).get? (h.objs.size + 1) = some (excO h.objs.size none) := by heap_get
  have hcC : (Value.ref 60 :: mroF).contains (.ref 60) = true := by simp
  have X₁ := X.keeps k
  unfold isInstance
  repeat (first | with_reducible refine wpAny_loadPart_at hget ?_ | (with_reducible refine wpAny_isSubtype_exc hC₁ ?_; rw [hcC]) | wp_step)
  refine (looks_findIn X₁ init60).at ?_
  dsimp only
  refine wpAny_holding (wpAny_bind ((bind37 X₁ _).at ?_))
  dsimp only
  refine wpAny_bind (wpAny_call (codeAny_mono hq fun r s' z => ?_))
  cases r with
  | error e => exact z
  | ok f => cases f with
    | next => exact z.elim
    | brk => exact z.elim
    | cont => exact z.elim
    | ret v =>
  obtain ⟨rfl, z⟩ := z
  refine wpAny_pure ?_
  show wpAny _ _ (if (Value.none != Value.none) = true then _ else _) _ _ _
  rw [if_neg (by decide)]
  exact wpAny_pure z
theorem call_fault {p : Params} {rest : List Value} {Q : Value → Shared → Prop} (X : (hd.heap_1 p).In h)
    (hq : codeAny (model prog w) (A.under (.builtin "type.__call__" ⟨.ref 60 :: rest, []⟩)) (.call (.ref 37) ⟨.ref (h.objs.size + 1) :: rest, []⟩) (InitBack (h.objs.size + 1) fun r s' => match r with | .ok (.ret v) => Q v s' | .ok _ => False | .error e => E e s') ⟨(h.push { cls := .type "tuple", data := .seq rest.toArray }).push (excO h.objs.size none), g, d, t, os⟩)
    (hrest : rest.length ≤ sizeLine) : wpAny (model prog w) A (call (.ref 60) rest) Q E ⟨h, g, d, t, os⟩ := by
  have hC := cls60 X
  have f1 := tc_lookup
  have f2 := tc_bind (.ref 60)
  have hT : (⟨h, g, d, t, os⟩ : Shared).TypeIs (.ref 60) "type" := ⟨_, hC, rfl⟩
  refine wpAny_call (codeAny_of_tree ?_)
  show wpAny _ _ (callAny (.ref 60) _) _ _ _
  repeat (any_goals (first | assumption | with_reducible refine wpAny_loadPart_at hC ?_ | wp_step))
  refine ⟨rfl, ?_⟩
  refine codeAny_call_builtin_at (Code.quiet_builtin _ (by decide +kernel)) entry_typeCall (wpAny_check_type_call_sub hC (type_call_fault X ?_ hrest))
  refine codeAny_mono hq fun r s' z => ?_
  cases r with
  | error e => exact z
  | ok f => cases f with
    | ret v => exact ⟨z.1, z.2⟩
    | _ => exact z.elim
end
section
variable {prog : Program} {w : World} {A : Around} {E : Value → Shared → Prop} {s : Shared} {h₀ : Heap} {L : Addr} {m : Str → Option Value} {news : List (Addr × Obj)} {Q : Value → Shared → Prop}
/-- the class's call over a ledger, up to its base's def -/
theorem r_fault {p : Params} {v : Value} (F : Fr h₀ L s.heap m) (N : News h₀ L s.heap news) (X : (hd.heap_1 p).In h₀)
    (h : ∀ e t h', Fr h₀ L h' m → News h₀ L h' ((e, excO t none) :: (t, tupO [v] 0) :: news) → (∀ p ∈ news, p.1 < t) → t < e →
      codeAny (model prog w) (A.under (.builtin "type.__call__" ⟨[.ref 60, v], []⟩)) (.call (.ref 37) ⟨[.ref e, v], []⟩) (InitBack e fun r s' => match r with | .ok (.ret v) => Q v s' | .ok _ => False | .error e => E e s') { s with heap := h' }) :
    wpAny (model prog w) A (call (.ref 60) [v]) Q E s := by
  obtain ⟨hh, g, d, t, os⟩ := s
  refine call_fault (p := p) (rest := [v]) (X.keeps F.keep) (h (hh.objs.size + 1) hh.objs.size _ ((F.push _).push _) ?_ (fun p hp => Heap.lt_size (N p hp).1) (Nat.lt_succ_self _)) (by rw [sizeLine_eq]; simp)
  have N1 := News.push (F.push { cls := .type "tuple", data := .seq (List.toArray [v]) }) (N.push F { cls := .type "tuple", data := .seq (List.toArray [v]) }) (excO hh.objs.size none)
  rw [Heap.size_push] at N1
  exact N1
end
end Mine
end
section
open PySem PySem.W PyProof.Rows PySem.Spec PySem.Calls
open PySem.Builtin.ObjectAttr PySem.Builtin
namespace Mine
/-! super().__init__ of a def whose base is a built-in exception. -/
theorem sw_slot : Slot "wrapper_descriptor" "__get__" "wrapper_descriptor.__get__" := .of (owner := "wrapper_descriptor") (n := "__get__") (by rw [typeLookup_type, builtinLookup_eq_fast]; kernel_rfl) (by decide +kernel) (by decide +kernel) (by decide +kernel)
  (by first | exact .inl (by decide +kernel) | exact .inr (by decide +kernel)) (by rw [isSubtype_type]; kernel_rfl)
theorem sw_entry : entryFor table "wrapper_descriptor.__get__" = some Builtin.«wrapper_descriptor.__get__» := entryFor_of_tree (by kernel_rfl)
theorem sw_args (a b c : Value) : argsOk "wrapper_descriptor.__get__" ⟨[a, b, c], []⟩ := by unfold argsOk; kernel_rfl
theorem sw_along {p : Params} : alongIn (hd.heap_1 p) "__init__" [.type "Exception", .type "BaseException", .type "object"] = some (some (.builtin "Exception.__init__")) := by kernel_rfl
theorem sw_opq {p : Params} : nsIn (hd.heap_1 p) cStatics "thirdparty.any" = some none := by kernel_rfl
theorem sw_type (s : Shared) : s.TypeIs (.builtin "Exception.__init__") "wrapper_descriptor" := by
  show builtinType "Exception.__init__" = pure (.type "wrapper_descriptor")
  rw [builtinType_eq_fast]; kernel_rfl
theorem sw_ow : (".".intercalate ("Exception.__init__".cutAt '.').dropLast) = "Exception" := by decide +kernel
noncomputable abbrev mwO (x : Addr) : Obj := { cls := .type "method-wrapper", data := .fields #[.builtin "Exception.__init__", .ref x] }
section
variable {prog : Program} {w : World} {A : Around} {E : Value → Shared → Prop} {h : Heap} {g : Array GenState} {d : Drawn} {t : Nat} {os : OsState}
theorem sw_ga {K : Frag} {so D x C : Addr} {ox : Obj} {l₀ l : List Value} {name : Str} {tk : Tok} {Q : Fin → Shared → Prop} (X : K.In h) (hso : h.get? so = some (ks_superObj D x C)) (hno : Looks (model prog w) h (opaqueClassAbove (.ref C)) none)
    (hC : Looks (model prog w) h (mroOf (.ref C)) l₀) (hl : (l₀.dropWhile (· != .ref D)).drop 1 = l) (hf : alongIn K name l = some (some (.builtin "Exception.__init__"))) (hxC : x ≠ C) (hn : (name == ("__class__" : Str)) = false)
    (hx : h.get? x = some ox) (hc : ox.cls = .ref C) (hs : Looks (model prog w) h (isSubtype (.ref C) (.type "Exception")) true)
    (hq : Q (.done (.ret (.ref h.objs.size))) ⟨h.push (mwO x), g, d, t, os⟩) :
    wpAny (model prog w) A (Builtin.«super.__getattribute__» ⟨[.ref so, .str name tk], []⟩) Q E ⟨h, g, d, t, os⟩ := by
  have hlk := sw_slot.lookup
  have hne : (Value.ref x == Value.ref C) = false := by simp [hxC]
  have hTf := sw_type ⟨h, g, d, t, os⟩
  have hdt : (ks_superObj D x C).data = .fields #[.ref D, .ref x, .ref C] := rfl
  have f0 : (#[.ref D, .ref x, .ref C] : Array Value)[0]? = some (.ref D) := rfl
  have f1 : (#[.ref D, .ref x, .ref C] : Array Value)[1]? = some (.ref x) := rfl
  have f2 : (#[.ref D, .ref x, .ref C] : Array Value)[2]? = some (.ref C) := rfl
  unfold Builtin.«super.__getattribute__»
  repeat (first
    | (with_reducible refine wpAny_field hso hdt f0 ?_) | (with_reducible refine wpAny_field hso hdt f1 ?_) | (with_reducible refine wpAny_field hso hdt f2 ?_)
    | (with_reducible refine ks_wpAny_notOpaque hno ?_)
    | (with_reducible refine Looks.at hC ?_; rw [hl])
    | (refine ks_forIn_along X (fun _ _ => rfl) rfl ?_ hf)
    | (with_reducible refine wpAny_typeOf hTf ?_)
    | (with_reducible refine wpAny_call_entry sw_slot hTf sw_entry ?_ (sw_args _ _ _))
    | (with_reducible refine wpAny_loadPart_at hx ?_; rw [hc])
    | (rw [sw_ow]; with_reducible refine Looks.at hs ?_)
    | (with_reducible refine ⟨_, rfl, ?_⟩)
    | (simp only [hn, hne, Bool.or_false, Bool.false_eq_true, if_false])
    | wp_step
    | dsimp only)
  all_goals exact hq
theorem sw_getMethod {K : Frag} {so D x C : Addr} {ox : Obj} {l₀ l : List Value} {name : Str} {pl : Sem Bool} {Q : Value × List Value → Shared → Prop} (X : K.In h) (hso : h.get? so = some (ks_superObj D x C)) (hno : Looks (model prog w) h (opaqueClassAbove (.ref C)) none)
    (hC : Looks (model prog w) h (mroOf (.ref C)) l₀) (hl : (l₀.dropWhile (· != .ref D)).drop 1 = l) (hf : alongIn K name l = some (some (.builtin "Exception.__init__"))) (hxC : x ≠ C) (hn : (name == ("__class__" : Str)) = false)
    (hx : h.get? x = some ox) (hc : ox.cls = .ref C) (hs : Looks (model prog w) h (isSubtype (.ref C) (.type "Exception")) true)
    (hq : Q (.ref h.objs.size, []) ⟨h.push (mwO x), g, d, t + 1, os⟩) : wpAny (model prog w) A (getMethod (.ref so) name pl) Q E ⟨h, g, d, t, os⟩ := by
  have hlk := PySem.F.ks_slot_super_ga.lookup
  have hcan := PySem.F.ks_canon_super_ga
  have hT : ∀ t', (⟨h, g, d, t', os⟩ : Shared).TypeIs (.ref so) "super" := fun _ => ⟨_, hso, rfl⟩
  unfold getMethod
  refine wpAny_bind (wpAny_specialOf (hT _) hlk ?_)
  show wpAny _ _ (if (Manifest.canonical "super.__getattribute__" != "object.__getattribute__") = true then _ else _) _ _ _
  rw [if_pos hcan]
  unfold getAttr getAttrBy
  refine wpAny_bind (wpAny_bind (wpAny_mkText (wpAny_holding (wpAny_bind (wpAny_typeOf (hT _) (wpAny_bind (wpAny_of_eq hlk ?_)))))))
  show wpAny _ _ (getAttrByItsOwn (.ref so) (.str name t) (.type "super") (.builtin "super.__getattribute__") true false) _ _ _
  unfold getAttrByItsOwn hookBefore callGetattribute boundAndCalled
  refine wpAny_bind (wpAny_of_eq (show (if onTheHeap (.type "super") then typeLookup (.type "super") "__getattr__" else pure none) = pure none from rfl) ?_)
  refine wpAny_bind (wpAny_attempt (wpAny_holding ?_))
  show wpAny _ _ (bindSpecial (.builtin "super.__getattribute__") (.ref so) >>= _) _ _ _
  refine wpAny_bind (wpAny_of_eq (PySem.F.ks_slot_super_ga.bind _) ?_)
  refine wpAny_mono (Q := fun v s' => v = .ref h.objs.size ∧ s' = ⟨h.push (mwO x), g, d, t + 1, os⟩) (E := fun _ _ => False)
    (wpAny_call_entry PySem.F.ks_slot_super_ga (hT _) PySem.F.ks_entry_super_ga (sw_ga X hso hno hC hl hf hxC hn hx hc hs ⟨_, rfl, rfl, rfl⟩) (PySem.F.ks_gaArgs_super _ _)) (fun v s' hv => ?_) fun _ _ z => z.elim
  obtain ⟨rfl, rfl⟩ := hv
  exact wpAny_pure (wpAny_pure hq)
/-- the bound slot is called: the exception's args are put anew -/
theorem sw_call {q x t0 : Addr} {rest : List Value} {Q : Value → Shared → Prop} (hq' : h.get? q = some (mwO x)) (hC : h.get? 60 = some clsF) (hx : h.get? x = some (excO t0 none))
    (hq : ∀ h', (∀ b o, b ≠ x → h.get? b = some o → h'.get? b = some o) → h'.objs.size = h.objs.size + 1 → h'.get? h.objs.size = some { cls := .type "tuple", data := .seq rest.toArray } → h'.get? x = some (excO h.objs.size none) → Q .none ⟨h', g, d, t, os⟩)
    (hrest : rest.length ≤ sizeLine) : wpAny (model prog w) A (call (.ref q) rest) Q E ⟨h, g, d, t, os⟩ := by
  have F := PySem.F.excBase_Exception
  have hcB : (Value.ref 60 :: mroF).contains (.type "Exception") = true := by decide +kernel
  refine wpAny_call (codeAny_of_tree ?_)
  show wpAny _ _ (callAny (.ref q) _) _ _ _
  unfold callAny
  refine wpAny_bind (wpAny_load hq' ?_)
  repeat (first | wp_step | dsimp only)
  refine wpAny_onRaise ?_
  rw [show ∀ (a b : String) (n : Nat), Bind.check ⟨.positional, "*", "Exception", .self, [⟨"args", .varPos, false⟩]⟩ a b n (List.map (fun x => x.fst) ([] : List (Str × Value))) = pure () from fun a b n => check_star_args _ _ _ _ _ _]
  refine wpAny_pure (wpAny_pure ⟨Code.quiet_builtin _ (by decide +kernel), codeAny_builtin F.initEntry ?_⟩)
  wp_walk
  have hlt := Heap.lt_size hx
  refine hq _ (fun b o hb e => ?_) ?_ ?_ ?_
  · rw [Heap.get?_update_other _ _ (Ne.symm hb)]; exact Heap.get?_push_of_some _ e
  · rw [Heap.size_update, Heap.size_push]
  · rw [Heap.get?_update_other _ _ (Nat.ne_of_lt hlt)]; exact Heap.get?_push_size _ rfl
  · rw [Heap.get?_update_self _ (Heap.get?_push_of_some _ hx) rfl]; rfl
end
section
variable {prog : Program} {w : World} {A : Around} {E : Value → Shared → Prop} {h : Heap} {g : Array GenState} {d : Drawn} {t : Nat} {os : OsState}
theorem sa60 {p : Params} : findIn (hd.heap_1 p) (.ref 60) "__setattr__" = some (some (.builtin "object.__setattr__")) := by kernel_rfl
theorem wh60 {p : Params} : findIn (hd.heap_1 p) (.ref 60) (Str.ofString "what") = some none := by kernel_rfl
theorem obj60 {p : Params} : mroIn (hd.heap_1 p) 60 (.type "object") = some true := by kernel_rfl
theorem set_what {p : Params} {e t0 : Addr} {v : Value} {Q : Unit → Shared → Prop} (X : (hd.heap_1 p).In h) (he : h.get? e = some (excO t0 none))
    (hq : ∀ h' dx tk, (∀ b o, b ≠ e → h.get? b = some o → h'.get? b = some o) → h'.get? e = some (excO t0 (some dx)) → Q () ⟨h', g, d, tk, os⟩) :
    wpAny (model prog w) A (setAttr (.ref e) (Str.ofString "what") v) Q E ⟨h, g, d, t, os⟩ := by
  have hC := cls60 X
  have SF := PySem.F.store_Exception
  have I : InstAt h e (excO t0 none) 60 none := ⟨he, rfl, rfl, trivial⟩
  refine set_plain (s := ⟨h, g, d, t, os⟩) X I sa60 ?_
  have ty := I.type (M := model prog w)
  have hm : Looks (model prog w) h (mroOf (.ref 60)) (.ref 60 :: mroF) := fun A Q E s k q => wpAny_mroOf_exc (k _ _ hC) q
  have sub : Looks (model prog w) h (isInstance (.ref e) (.type "object")) true := ty.andThen (looks_mroIn X obj60)
  refine codeAny_call_builtin SF.slot.plain SF.entry (@check_slot (model prog w) _ _ ⟨h, g, d, t + 1, os⟩ "object.__setattr__" "object" "__setattr__" (.ref e) [.str (Str.ofString "what") t, v] [] _ SF.kind SF.split sub (SF.args (.ref e) (.str (Str.ofString "what") t) v) ?_)
  rw [osa_eq, refuse_eq]
  refine wpAny_bind (wpAny_bind (ty.at (wpAny_bind (hm.at ?_))))
  rw [refuseLoop_ref, refuseLoop_ref, SF.passes]
  refine wpAny_pure (wpAny_bind (ty.at (wpAny_bind ((looks_findIn X wh60).at ?_))))
  refine wpAny_bind (wpAny_pure ?_)
  show wpAny _ _ (storeInOwnDict (.ref e) (.ref 60) (.str (Str.ofString "what") t) (Str.ofString "what") v false) _ _ _
  unfold storeInOwnDict ownDictForStores instanceDict storeInDict nsSet
  repeat (first | (with_reducible refine wpAny_loadPart_at he ?_) | (with_reducible refine wpAny_loadPart_at hC ?_) | wp_step | dsimp only)
  have hlt := Heap.lt_size he
  have hne : e ≠ h.objs.size := Nat.ne_of_lt hlt
  have D : ((h.push { cls := .type "dict", data := .dict #[] }).update e fun o => { cls := o.cls, dict := some h.objs.size, data := o.data, slots := o.slots }).get? h.objs.size = some { cls := .type "dict", data := .dict #[] } := by
    rw [Heap.get?_update_other _ _ hne]; exact Heap.get?_push_size _ rfl
  have De : ((h.push { cls := .type "dict", data := .dict #[] }).update e fun o => { cls := o.cls, dict := some h.objs.size, data := o.data, slots := o.slots }).get? e = some (excO t0 (some h.objs.size)) :=
    Heap.get?_update_self _ (Heap.get?_push_of_some _ he) rfl
  refine wpAny_askSetting (wpAny_pure (wpAny_bind (wpAny_mkText (wpAny_bind (wpAny_loadPart D ?_)))))
  dsimp only
  have c : aRefKeyMayBeTheName (Str.ofString "what") #[] = false := by rw [aRefKeyMayBeTheName_at]; simp
  rw [c]
  refine wpAny_updatePart D ?_
  have D' := Heap.get?_update_self (Obj.putName (Str.ofString "what") (PyData.keyHash w.params (Str.ofString "what")) (.str (Str.ofString "what") (t + 1)) v) D rfl
  refine wpAny_bind (wpAny_lookBehind D' ?_ ?_)
  · have q : ∀ (hh : Int) (k : Value), (Obj.putName (Str.ofString "what") hh k v { cls := .type "dict", data := .dict #[] }) = { cls := .type "dict", data := .dict #[⟨hh, k, v⟩] 1 } := by
      intro hh k
      rw [Obj.putName_eq]
      simp [Obj.putNameByArray]
    rw [q]
    exact pastItsLine_dict (by rw [sizeLine_eq]; simp)
  refine wpAny_pure (hq _ h.objs.size _ (fun b o hb q => ?_) ?_)
  · have hbs : b ≠ h.objs.size := Nat.ne_of_lt (Heap.lt_size q)
    rw [Heap.get?_update_other _ _ (Ne.symm hbs), Heap.get?_update_other _ _ (Ne.symm hb)]; exact Heap.get?_push_of_some _ q
  · rw [Heap.get?_update_other _ _ (Ne.symm hne)]; exact De
end
end Mine
end
section
open PySem PySem.W PyProof.Rows PySem.Spec PySem.Calls
namespace Mine
/-! The same over a ledger. -/
theorem ex60 {p : Params} : mroIn (hd.heap_1 p) 60 (.type "Exception") = some true := by kernel_rfl
section
variable {prog : Program} {w : World} {A : Around} {E : Value → Shared → Prop} {s : Shared} {h₀ : Heap} {L : Addr} {m : Str → Option Value} {news : List (Addr × Obj)} {p : Params}
theorem r_swM {so x t0 : Addr} {d : Option Addr} {pl : Sem Bool} {Q : Value × List Value → Shared → Prop} (F : Fr h₀ L s.heap m) (X₀ : (hd.heap_1 p).In h₀) (N : News h₀ L s.heap news) (hso : (so, ks_superObj 47 x 60) ∈ news) (hx : (x, excO t0 d) ∈ news)
    (h : ∀ q h', Fr h₀ L h' m → News h₀ L h' ((q, mwO x) :: news) → (∀ p ∈ news, p.1 < q) → Q (.ref q, []) { s with heap := h', toks := s.toks + 1 }) : wpAny (model prog w) A (getMethod (.ref so) (Str.ofString "__init__") pl) Q E s := by
  obtain ⟨hh, g, dr, t, os⟩ := s
  have X : (hd.heap_1 p).In hh := X₀.keeps F.keep
  have hC := cls60 X
  have hm : Looks (model prog w) hh (mroOf (.ref 60)) (.ref 60 :: mroF) := fun A Q E s k q => wpAny_mroOf_exc (k _ _ hC) q
  refine sw_getMethod X (N _ hso).1 (looks_opaque X sw_opq) hm (l := [.type "Exception", .type "BaseException", .type "object"]) (by decide +kernel) sw_along ?_ (by decide +kernel) (N _ hx).1 rfl (looks_mroIn X ex60) ?_
  · rintro rfl
    have := (N _ hx).1
    rw [show hh.get? 60 = some clsF from hC] at this
    cases this
  · have N1 := N.push F (mwO x)
    exact h _ _ (F.push _) N1 fun p hp => Heap.lt_size (N p hp).1
theorem callWith_mw {M : Model} {pos : Pos} {u x : Addr} {first : List Value} {env : Env} {e : Expr} {rest : List Expr} {Q : Value → Shared → Prop} (_N : News h₀ L s.heap news) (_hm : (u, mwO x) ∈ news)
    (h : wpAny M A (spliced (backTo pos (starEach (e :: rest) env))) (fun vs s₁ => s₁.heap.get? u = some (mwO x) ∧ wpAny M A (call (.ref u) (first ++ vs)) Q E s₁) E s)
    (he : starEach (e :: rest) env = (false, eval e env) :: starEach rest env := by rfl) (hplain : (backTo pos (starEach rest env)).any (·.1) = false := by rfl) :
    wpAny M A (callWith pos (.ref u) first (backTo pos (starEach (e :: rest) env)) []) Q E s := by
  have hp : (backTo pos (starEach (e :: rest) env)).any (·.1) = false := by rw [he]; show (false || (backTo pos (starEach rest env)).any (·.1)) = false; rw [hplain]; rfl
  unfold callWith
  rw [he] at h hp ⊢
  refine wpAny_bind (wpAny_holding (Calls.evalArgs_plain (wpAny_mono h (fun vs s₁ h₁ => ?_) fun _ _ y => y)))
  refine wpAny_bind (wpAny_standAt ?_)
  obtain ⟨hu, hc⟩ := h₁
  obtain ⟨hh, g, d, t, os⟩ := s₁
  simp only [hp]
  unfold keeperOf
  refine wpAny_bind (wpAny_bind (wpAny_load hu ?_))
  refine wpAny_pure ?_
  refine wpAny_bind (wpAny_mono hc (fun r s₂ hr => wpAny_bind (wpAny_holding (wpAny_point (wpAny_pure hr)))) fun _ _ x => x)
theorem r_swC {q e t0 : Addr} {v : Value} {pre post : List (Addr × Obj)} {Q : Value → Shared → Prop} (F : Fr h₀ L s.heap m) (X₀ : (hd.heap_1 p).In h₀) (N : News h₀ L s.heap (pre ++ (e, excO t0 none) :: post)) (hq : (q, mwO e) ∈ pre) (h1 : ∀ p ∈ pre, p.1 ≠ e) (h2 : ∀ p ∈ post, p.1 ≠ e)
    (h : ∀ t' h', Fr h₀ L h' m → News h₀ L h' ((t', tupO [v] 0) :: (pre ++ (e, excO t' none) :: post)) → (∀ p ∈ pre ++ (e, excO t' none) :: post, p.1 < t') → Q .none { s with heap := h' }) : wpAny (model prog w) A (call (.ref q) [v]) Q E s := by
  obtain ⟨hh, g, dr, t, os⟩ := s
  have X : (hd.heap_1 p).In hh := X₀.keeps F.keep
  have he := N (e, excO t0 none) (by simp)
  refine sw_call (rest := [v]) (N _ (List.mem_append_left _ hq)).1 (cls60 X) he.1 (fun h' k ks kt ke => ?_) (by rw [sizeLine_eq]; simp)
  have keep₀ : ∀ b o, h₀.get? b = some o → h'.get? b = some o := fun b o z => k b o (fun q' => by rw [q', he.2.2] at z; cases z) (F.keep b o z)
  obtain ⟨oL, es, ep, hL, r⟩ := F.ns
  have F' : Fr h₀ L h' m := ⟨⟨oL, es, ep, k L oL (fun q' => he.2.1 q'.symm) hL, r⟩, keep₀, F.above⟩
  refine h hh.objs.size h' F' (fun p hp => ?_) (fun p hp => ?_)
  · have old : ∀ p ∈ pre ++ (e, excO t0 none) :: post, p.1 ≠ e → h'.get? p.1 = some p.2 ∧ p.1 ≠ L ∧ h₀.get? p.1 = none := fun p hp hne => ⟨k _ _ hne (N p hp).1, (N p hp).2⟩
    rcases List.mem_cons.mp hp with rfl | hp
    · refine ⟨kt, fun q' => ?_, none_at_size F⟩
      exact absurd (Heap.lt_size hL) (by rw [← q']; exact Nat.lt_irrefl _)
    · rcases List.mem_append.mp hp with hp | hp
      · exact old p (List.mem_append_left _ hp) (h1 p hp)
      · rcases List.mem_cons.mp hp with rfl | hp
        · exact ⟨ke, he.2⟩
        · exact old p (List.mem_append_right _ (List.mem_cons_of_mem _ hp)) (h2 p hp)
  · rcases List.mem_append.mp hp with hp | hp
    · exact Heap.lt_size (N p (List.mem_append_left _ hp)).1
    · rcases List.mem_cons.mp hp with rfl | hp
      · exact Heap.lt_size he.1
      · exact Heap.lt_size (N p (List.mem_append_right _ (List.mem_cons_of_mem _ hp))).1
theorem r_setW {e t0 : Addr} {v : Value} {news' : List (Addr × Obj)} {Q : Unit → Shared → Prop} (F : Fr h₀ L s.heap m) (X₀ : (hd.heap_1 p).In h₀) (N : News h₀ L s.heap news) (he : (e, excO t0 none) ∈ news) (sub : ∀ p ∈ news', p ∈ news ∧ p.1 ≠ e)
    (h : ∀ dx h' tk, Fr h₀ L h' m → News h₀ L h' ((e, excO t0 (some dx)) :: news') → Q () { s with heap := h', toks := tk }) : wpAny (model prog w) A (setAttr (.ref e) (Str.ofString "what") v) Q E s := by
  obtain ⟨hh, g, dr, t, os⟩ := s
  have X : (hd.heap_1 p).In hh := X₀.keeps F.keep
  have hE := N _ he
  refine set_what X hE.1 fun h' dx tk k ke => ?_
  have keep₀ : ∀ b o, h₀.get? b = some o → h'.get? b = some o := fun b o z => k b o (fun q' => by rw [q', hE.2.2] at z; cases z) (F.keep b o z)
  obtain ⟨oL, es, ep, hL, r⟩ := F.ns
  refine h dx h' tk ⟨⟨oL, es, ep, k L oL (fun q' => hE.2.1 q'.symm) hL, r⟩, keep₀, F.above⟩ fun p hp => ?_
  rcases List.mem_cons.mp hp with rfl | hp
  · exact ⟨ke, hE.2⟩
  · exact ⟨k _ _ (sub p hp).2 (N p (sub p hp).1).1, (N p (sub p hp).1).2⟩
end
end Mine
end
section
open PySem PySem.W PyProof.Rows PySem.Spec PySem.Calls
namespace Mine
/-! A set of texts: made of a list, walked in whatever order. -/
theorem layNew_led (t : SetTable) (es : Array (Int × Value)) (h : Int) (x : Value) : (layNew t es h x).2.1.led = t.led := by
  unfold layNew
  split
  · simp only [SetTable.put, SetTable.orStandIn, SetTable.standIn]
    (repeat' split) <;> rfl
  · rfl
theorem laid_led {mask finger moves : Nat} {led plain : Bool} {hs : Array Int} {t : SetTable} {o : Array Nat} (h : SetTable.laid mask finger moves led plain hs = some (t, o)) : t.led = led ∧ t.plain = plain := by
  unfold SetTable.laid at h
  cases hc : SetTable.layClean mask hs with
  | none => rw [hc] at h; simp at h
  | some ow =>
    rw [hc] at h
    have h := Option.some.inj h
    have h1 := congrArg Prod.fst h
    subst h1
    exact ⟨rfl, rfl⟩
theorem relayAll_led (t : SetTable) (es : Array (Int × Value)) (n : Nat) : (relayAll t es n).2.1.led = t.led ∧ (t.plain = false → (relayAll t es n).2.1.plain = false) := by
  unfold relayAll
  split
  · rename_i t' order hr
    have := laid_led hr
    dsimp only
    split
    · exact ⟨this.1, fun e => this.2.trans e⟩
    · exact ⟨rfl, fun _ => rfl⟩
  · exact ⟨rfl, fun _ => rfl⟩
section
variable {prog : Program} {w : World} {A : Around} {E : Value → Shared → Prop} {s : Shared}
/-- the set's elements are the texts ss, in some order -/
noncomputable def TSet (prog : Program) (w : World) (h : Heap) (a : Addr) (ss : List Str) : Prop :=
  ∃ o es ep t, h.get? a = some o ∧ o.ExactSet ∧ o.data = .set es ep t ∧ ElemsOf (PySem.strKind prog w) es.toList ∧ (∀ k, k ∈ ss ↔ ∃ e ∈ es.toList, (PySem.strKind prog w).is k e.2 = true) ∧ es.size ≤ ss.length ∧ t.fits es.size = true ∧
    t.led = (!w.params.followText "set-order") ∧ (es.size = 0 ∨ t.plain = false)
theorem tset_tail {g : Bool → Sem Unit} (hg : ∀ (b : Bool) (s₁ : Shared) (Q' : Unit → Shared → Prop), Q' () s₁ → wpAny (model prog w) A (g b) Q' E s₁)
    {a : Addr} {o : Obj} {es : Array (Int × Value)} {ep : Nat} {t : SetTable} (ho : s.heap.get? a = some o) (hex : o.ExactSet) (hd : o.data = .set es ep t)
    {es1 : Array (Int × Value)} {t2 : SetTable} {ss : List Str} (hel1 : ElemsOf (PySem.strKind prog w) es1.toList) (hmem1 : ∀ k, k ∈ ss ↔ ∃ e ∈ es1.toList, (PySem.strKind prog w).is k e.2 = true)
    (hn : es1.size ≤ ss.length) (hb : ss.length ≤ 1000) (hf2 : t2.fits es1.size = true) (hled : t2.led = (!w.params.followText "set-order")) (hpl : t2.plain = false) {wasDummy : Bool} {R : Option Bool → Shared → Prop}
    (h : ∀ h', Heap.SameBut a s.heap h' → TSet prog w h' a ss → R (some true) { s with heap := h' }) :
    wpAny (model prog w) A (do
        storeSet a es1 t2
        if (!wasDummy && t2.tooFull) = true then do
            g (relayAll t2 es1 (SetTable.grown es1.size)).2.2
            storeSet a (relayAll t2 es1 (SetTable.grown es1.size)).1 (relayAll t2 es1 (SetTable.grown es1.size)).2.1
            pure (some true)
          else pure (some true)) R E s := by
  have hb1 : es1.size < scanBound := by unfold scanBound; omega
  refine wpAny_bind (wpAny_storeSet_of ho hd ?_ (fits_of_scanBound hb1))
  obtain ⟨c1, c2, c3⟩ := hex
  have ho1 := Heap.get?_update_self (Obj.putSet es1 t2) ho (by rw [putSet_of _ _ hd]; rfl)
  rw [putSet_of _ _ hd] at ho1
  have hsb1 := Heap.SameBut.update s.heap a (Obj.putSet es1 t2)
  split
  · have hp := relayAll_perm t2 es1 (SetTable.grown es1.size)
    have hfr := relayAll_fits t2 es1 (SetTable.grown es1.size)
    have hlr := relayAll_led t2 es1 (SetTable.grown es1.size)
    generalize hRl : relayAll t2 es1 (SetTable.grown es1.size) = Rl at hp hfr hlr ⊢
    obtain ⟨es2, t3, gave2⟩ := Rl
    dsimp only at hp hfr hlr ⊢
    have hel2 : ElemsOf (PySem.strKind prog w) es2.toList := hel1.perm hp
    have hmem2 : ∀ k, k ∈ ss ↔ ∃ e ∈ es2.toList, (PySem.strKind prog w).is k e.2 = true := fun k' => (hmem1 k').trans ⟨fun ⟨e, he, q⟩ => ⟨e, hp.mem_iff.mpr he, q⟩, fun ⟨e, he, q⟩ => ⟨e, hp.mem_iff.mp he, q⟩⟩
    have hsz : es2.size = es1.size := by rw [← Array.length_toList, hp.length_eq, Array.length_toList]
    refine wpAny_bind (hg _ _ _ ?_)
    refine wpAny_bind (wpAny_storeSet_of ho1 rfl ?_ (fits_of_scanBound (by rw [hsz]; exact hb1)))
    have ho2 := Heap.get?_update_self (Obj.putSet es2 t3) ho1 (by rw [putSet_of (es := es1) (ep := ep + 1) (t := t2) _ _ rfl]; rfl)
    rw [putSet_of (es := es1) (ep := ep + 1) (t := t2) _ _ rfl] at ho2
    refine wpAny_pure (h _ (hsb1.trans (Heap.SameBut.update _ a _)) ⟨_, es2, _, t3, ho2, ⟨c1, c2, c3⟩, rfl, hel2, hmem2, by rw [hsz]; exact hn, hfr, hlr.1.trans hled, .inr (hlr.2 hpl)⟩)
  · exact wpAny_pure (h _ hsb1 ⟨_, es1, _, t2, ho1, ⟨c1, c2, c3⟩, rfl, hel1, hmem1, hn, hf2, hled, .inr hpl⟩)
theorem tset_add {a : Addr} {ss : List Str} {x : Str} {tk : Tok} {Q : Bool → Shared → Prop} (hS : TSet prog w s.heap a ss) (hb : ss.length ≤ 900)
    (h : ∀ b h', Heap.SameBut a s.heap h' → TSet prog w h' a (ss ++ [x]) → Q b { s with heap := h' }) :
    wpAny (model prog w) A (setAddHashed a (.str x tk) ((PySem.strKind prog w).hash x)) Q E s := by
  obtain ⟨o, es, ep, t, ho, hex, hd, hel, hmem, hn, hf, hled, hpl⟩ := hS
  have hkey : (PySem.strKind prog w).is x (.str x tk) = true := strKind_is _ _ _ _
  have hsc : (Value.str x tk).scannable = true := rfl
  have hb0 : es.size < scanBound := by unfold scanBound; omega
  unfold setAddHashed setAddHashedIn
  refine wpAny_holding (wpAny_bind (wpAny_setState_of ho hd hf ?_))
  dsimp only
  rw [byScan_of hsc hb0 hel]
  simp only [↓reduceIte]
  unfold setAddByScan
  refine wpAny_bind ?_
  refine wpAny_bind (wpAny_rule ?_)
  refine wpAny_bind (wpAny_setScan_of hkey ho hd hf hel ?_)
  cases hr : List.findIdx? (fun e => (PySem.strKind prog w).is x e.2) es.toList with
  | some j =>
    dsimp only
    obtain ⟨hj, hpj, _⟩ := List.findIdx?_eq_some_iff_getElem.mp hr
    refine wpAny_pure (wpAny_pure ?_)
    refine h _ s.heap (Heap.SameBut.refl a s.heap) ⟨o, es, ep, t, ho, hex, hd, hel, fun k => ?_, by rw [List.length_append]; omega, hf, hled, hpl⟩
    rw [List.mem_append, List.mem_singleton, hmem k]
    exact ⟨fun q => q.elim id fun e => e ▸ ⟨es.toList[j], List.getElem_mem hj, hpj⟩, .inl⟩
  | none =>
    dsimp only
    have hperm := layNew_perm t es ((PySem.strKind prog w).hash x) (.str x tk)
    have hfits := layNew_fits t es ((PySem.strKind prog w).hash x) (.str x tk)
    have hled2 := layNew_led t es ((PySem.strKind prog w).hash x) (.str x tk)
    generalize hL : layNew t es ((PySem.strKind prog w).hash x) (.str x tk) = LL at hperm hfits hled2 ⊢
    obtain ⟨es1, t1, wasDummy, gave⟩ := LL
    dsimp only at hperm hfits hled2 ⊢
    rw [Array.toList_push] at hperm
    have hel1 : ElemsOf (PySem.strKind prog w) es1.toList := (hel.push hkey hsc).perm hperm
    have hmem1 : ∀ k, k ∈ ss ++ [x] ↔ ∃ e ∈ es1.toList, (PySem.strKind prog w).is k e.2 = true := fun k => by
      rw [List.mem_append, List.mem_singleton, hmem k]
      constructor
      · rintro (⟨e, he, q⟩ | rfl)
        · exact ⟨e, hperm.mem_iff.mpr (List.mem_append_left _ he), q⟩
        · exact ⟨_, hperm.mem_iff.mpr (List.mem_append_right _ List.mem_cons_self), hkey⟩
      · rintro ⟨e, he, q⟩
        rcases List.mem_append.mp (hperm.mem_iff.mp he) with h1 | h1
        · exact .inl ⟨e, h1, q⟩
        · rw [List.mem_singleton.mp h1] at q
          exact .inr ((PySem.strKind prog w).inj _ _ _ q hkey)
    have hsz1 : es1.size = es.size + 1 := by rw [← Array.length_toList, hperm.length_eq, List.length_append, Array.length_toList]; rfl
    have hgw : ∀ (b : Bool) (s₁ : Shared) (Q' : Unit → Shared → Prop), Q' () s₁ → wpAny (model prog w) A (match b with | true => rule "set.scan.the-table-gave-way" | false => pure ()) Q' E s₁ :=
      fun b s₁ Q' hq => by cases b <;> first | exact wpAny_pure hq | exact wpAny_rule hq
    refine wpAny_bind (hgw _ _ _ ?_)
    split
    · refine wpAny_bind ?_
      rw [hashByValue_scannable 8 hsc]
      refine wpAny_pure ?_
      refine tset_tail hgw ho hex hd hel1 hmem1 (by rw [List.length_append]; simp only [List.length_cons, List.length_nil]; omega) (by rw [List.length_append]; simp only [List.length_cons, List.length_nil]; omega) ?_ ?_ ?_ ?_
      · split
        · rename_i hq; cases hq
        · exact SetTable.fits_plain_off hfits
      · split
        · rename_i hq; cases hq
        · exact hled2.trans hled
      · split
        · rename_i hq; cases hq
        · rfl
      · intro h' hsb hS'; dsimp only; exact wpAny_pure (h _ h' hsb hS')
    · rename_i hp1
      refine wpAny_bind (wpAny_pure ?_)
      simp only [↓reduceIte]
      refine tset_tail hgw ho hex hd hel1 hmem1 (by rw [List.length_append]; simp only [List.length_cons, List.length_nil]; omega) (by rw [List.length_append]; simp only [List.length_cons, List.length_nil]; omega) hfits (hled2.trans hled) (by simpa using hp1) ?_
      intro h' hsb hS'; dsimp only; exact wpAny_pure (h _ h' hsb hS')
end
theorem TSet.at {prog : Program} {w : World} {h h' : Heap} {a : Addr} {ss : List Str} (x : TSet prog w h a ss) (k : ∀ o, h.get? a = some o → h'.get? a = some o) : TSet prog w h' a ss :=
  let ⟨o, es, ep, t, ho, r⟩ := x; ⟨o, es, ep, t, k o ho, r⟩
section
variable {prog : Program} {w : World} {A : Around} {R : Result → Shared → Prop} {I : Addr} {fp wr : List Addr} {G : Array GenState → Array GenState → Prop} {n : Nat} {P : Nat → Value → Prop} {St : Nat → Shared → Prop}
theorem tset_loop (W : WalksS prog w A.in1 I fp wr G n P St) (S : Addr) (hSf : S ∉ fp) (val : Nat → Str) (hval : ∀ i v, P i v → ∃ t, v = .str (val i) t) (hb : n ≤ 900) :
    ∀ (k i : Nat) (s : Shared), n - i = k → i ≤ n → St i s → TSet prog w s.heap S ((List.range i).map val) →
      (∀ s', Moved (S :: wr) G s s' → TSet prog w s'.heap S ((List.range n).map val) → R (.ok (.ret .none)) s') →
      codeAny (model prog w) A (.builtin "set.update.loop" ⟨[.ref S, .ref I], []⟩) R s := by
  have hSw : S ∉ wr := fun h => hSf (W.sub _ h)
  have hsub : ∀ b ∈ wr, b ∈ S :: wr := fun b hb => List.mem_cons_of_mem _ hb
  intro k
  induction k with
  | zero =>
    intro i s hk hi hst hS hR
    have hin : i = n := by omega
    subst hin
    refine codeAny_builtin PyProof.Rows.F.entry_set_update_loop ?_
    rw [Around.under_plainId PyProof.Rows.F.plain_set_update_loop _]
    show wpAny _ A.in1 (pyNext (.ref I) >>= _) _ _ s
    refine wpAny_bind (W.done s _ _ hst fun s' hm => ?_)
    show wpAny _ A.in1 (ret Value.none) _ _ s'
    exact wpAny_pure (hR s' (hm.mono hsub) (hS.at fun o ho => hm.heap S _ hSw ho))
  | succ k ih =>
    intro i s hk hi hst hS hR
    have hlt : i < n := by omega
    refine codeAny_builtin PyProof.Rows.F.entry_set_update_loop ?_
    rw [Around.under_plainId PyProof.Rows.F.plain_set_update_loop _]
    show wpAny _ A.in1 (pyNext (.ref I) >>= _) _ _ s
    refine wpAny_bind (W.item i s _ _ hlt hst fun v s' hP hst' hm => ?_)
    obtain ⟨t, rfl⟩ := hval i v hP
    have hS' : TSet prog w s'.heap S ((List.range i).map val) := hS.at fun o ho => hm.heap S _ hSw ho
    show wpAny _ A.in1 (holding [Value.str (val i) t] (setAdd S (.str (val i) t)) >>= _) _ _ s'
    refine wpAny_bind (wpAny_holding ?_)
    unfold setAdd
    refine wpAny_holding ?_
    refine wpAny_bind ((PySem.strKind prog w).pyHash (k := val i) (strKind_is _ _ _ _) ?_)
    refine tset_add (s := { s' with toks := s'.toks + 1 }) hS' (by rw [List.length_map, List.length_range]; omega) fun b h' hsb hS2 => ?_
    have hSi : TSet prog w h' S ((List.range (i + 1)).map val) := by rw [List.range_succ, List.map_append]; exact hS2
    refine wpAny_pure ⟨plainId_quiet PyProof.Rows.F.plain_set_update_loop _, ih (i + 1) _ (by omega) hlt (W.frame _ s' _ _ hst' (Nat.le_succ _) fun b hb o e => ?_) hSi fun s'' hm'' hS'' => ?_⟩
    · rw [hsb.2 b (fun h : b = S => hSf (by rw [← h]; exact hb))]; exact e
    · refine hR s'' (Moved.trans W.gtrans ((hm.mono hsub).then_heap (Nat.le_succ _) fun b o hb e => ?_) hm'') hS''
      rw [hsb.2 b (fun h : b = S => hb (by rw [h]; exact List.mem_cons_self))]; exact e
end
section
variable {prog : Program} {w : World} {A : Around} {E : Value → Shared → Prop} {s : Shared}
theorem set_new_1 (a : Value) {Q₁ : Value → Shared → Prop}
    (h : Q₁ (.ref s.heap.objs.size) { s with heap := s.heap.push { cls := .type "set", dict := none, data := .set #[] 0 (.fresh 0 0 (!w.params.followText "set-order")) } }) :
    codeAny (model prog w) A (.call (.builtin "set.__new__") ⟨[.type "set", a], []⟩) (wants Q₁ E) s := by
  refine codeAny_of_tree ?_
  show wpAny _ A.in1 (do checkBuiltinCall "set.__new__" ⟨[.type "set", a], []⟩; again (.builtin "set.__new__" ⟨[.type "set", a], []⟩)) _ _ s
  refine wpAny_bind (wpAny_of_eq (PySem.F.newCall_set_1 a) (wpAny_pure ⟨plainId_quiet PySem.F.plain_set_new _, codeAny_builtin PySem.F.entry_set_new ?_⟩))
  rw [Around.under_plainId PySem.F.plain_set_new _]
  unfold Builtin.«set.__new__» Builtin.Frozenset.newClass
  have hsub := sub_set_self
  obtain ⟨hp, g, d, tk, os⟩ := s
  dsimp only
  wp_walk
  refine wpAny_askSetting (wpAny_pure ?_)
  dsimp only
  simp only [newObj]
  refine wpAny_bind (wpAny_alloc (wpAny_pure ?_))
  exact wpAny_pure h
set_option maxHeartbeats 3200000 in
theorem call_set_texts {l : Addr} {items : Array Value} {ss : List Str} {Q : Value → Shared → Prop}
    (hh : A.handled = none) (hl : s.heap.IsList l items) (hi : StrsAre items.toList ss) (hb : items.size ≤ 900)
    (h : ∀ (h' : Heap) (tk : Nat), TSet prog w h' s.heap.objs.size ss →
      (∀ b o, b < s.heap.objs.size → s.heap.get? b = some o → h'.get? b = some o) → Q (.ref s.heap.objs.size) { s with heap := h', toks := tk }) :
    wpAny (model prog w) A (call (.type "set") [.ref l]) Q E s := by
  obtain ⟨c, tl, hmro⟩ := PySem.F.called_set.mro
  have hmade := PySem.F.called_set.made
  have hsub := PySem.F.called_set.sub
  have hss : (List.range items.size).map (fun i => ss.getD i Str.empty) = ss := by
    have hlen := StrsAre.length hi
    rw [Array.length_toList] at hlen
    refine List.ext_getElem (by simp [hlen]) fun i h1 h2 => ?_
    simp [List.getD_eq_getElem?_getD, List.getElem?_eq_getElem h2]
  have hval : ∀ (i : Nat) (v : Value), items[i]? = some v → ∃ t, v = .str (ss.getD i Str.empty) t := by
    have go : ∀ {vs : List Value} {ss : List Str}, StrsAre vs ss → ∀ (i : Nat) (v : Value), vs[i]? = some v → ∃ t, v = .str (ss.getD i Str.empty) t := by
      intro vs ss hS
      induction hS with
      | nil => intro i v h; simp at h
      | cons y t _ ih =>
        intro i v h
        cases i with
        | zero => simp at h; exact ⟨t, h.symm⟩
        | succ i => simp at h; obtain ⟨t', e⟩ := ih i v h; exact ⟨t', by simpa using e⟩
    intro i v hv
    exact go hi i v (by rw [Array.getElem?_toList]; exact hv)
  refine wpAny_call (codeAny_of_tree ?_)
  show wpAny _ _ (callAny (.type "set") _) _ _ _
  refine wpAny_pure ⟨Code.quiet_builtin _ (by decide +kernel), codeAny_builtin PySem.F.entry_type_call ?_⟩
  rw [Around.under_plain (weight_type_call_type "set" [.ref l] []) rfl]
  have h1 := PySem.F.called_set.notType
  have h2 := PySem.F.called_set.canCreate
  have hct := PySem.F.typeCall_set_1 (.ref l)
  repeat (any_goals (first | assumption | wp_step))
  generalize hled : (!w.params.followText "set-order") = led
  refine codeAny_mono (set_new_1 (.ref l) (E := E) (Q₁ := fun obj s₁ => obj = .ref s.heap.objs.size ∧ s₁ = { s with heap := s.heap.push { cls := .type "set", dict := none, data := .set #[] 0 (.fresh 0 0 led) } }) (by rw [hled]; exact ⟨rfl, rfl⟩)) fun r s₁ hr => ?_
  cases r with
  | error e => exact hr
  | ok fl =>
    cases fl with
    | ret obj =>
      obtain ⟨rfl, rfl⟩ := hr
      have hS : (s.heap.push { cls := .type "set", dict := none, data := .set #[] 0 (.fresh 0 0 led) }).get? s.heap.objs.size = some { cls := .type "set", dict := none, data := .set #[] 0 (.fresh 0 0 led) } := Heap.get?_push_size _ rfl
      have hT : Shared.TypeIs { s with heap := s.heap.push { cls := .type "set", dict := none, data := .set #[] 0 (.fresh 0 0 led) } } (.ref s.heap.objs.size) "set" := ⟨_, hS, rfl⟩
      have hli := PySem.F.called_set.init.lookup
      have hbi := PySem.F.called_set.init.bind (.ref s.heap.objs.size)
      repeat (any_goals (first | assumption | wp_step))
      refine codeAny_mono (codeAny_call_builtin (R := wants (fun r s₂ => r = .none ∧ ∃ h' tk, s₂ = { s with heap := h', toks := tk } ∧
          TSet prog w h' s.heap.objs.size ss ∧ (∀ b o, b < s.heap.objs.size → s.heap.get? b = some o → h'.get? b = some o)) E) PySem.F.called_set.init.plain PySem.F.entry_set_init (check_set_init_1 hT ?_)) fun r₂ s₂ hr₂ => ?_
      · obtain ⟨ol, hol, hcl, nl, hdl⟩ := hl
        obtain ⟨ocls, odict, odata, oslots⟩ := ol
        simp only at hcl hdl
        subst hcl; subst hdl
        have hol' : (s.heap.push { cls := .type "set", dict := none, data := .set #[] 0 (.fresh 0 0 led) }).get? l = some { cls := .type "list", dict := odict, data := .seq items nl, slots := oslots } := Heap.get?_push_of_some _ hol
        have hsls := PySem.F.sub_list_set
        have hslf := PySem.F.sub_list_frozenset
        have hne : (Value.type "list" == Value.type "dict") = false := by decide
        have hl1 : (s.heap.push { cls := .type "set", dict := none, data := .set #[] 0 (.fresh 0 0 led) }).IsList l items := ⟨_, hol', rfl, nl, rfl⟩
        unfold Builtin.«set.__init__» noKeywords Builtin.Frozenset.updateFrom
        generalize hPI : pyIter = PI
        wp_walk
        subst hPI
        refine wpAny_pyIter_list hl1 ?_
        refine wpAny_bind (wpAny_runValue ?_)
        have hlS : l < s.heap.objs.size := Heap.lt_size hol
        have hh3 : A.in1.in1.in1.handled = none := by simp [hh]
        have hneI : l ≠ (s.heap.push { cls := .type "set", dict := none, data := .set #[] 0 (.fresh 0 0 led) }).objs.size := by
          rw [Heap.size_push]; exact Nat.ne_of_lt (Nat.lt_succ_of_lt hlS)
        have hSf : s.heap.objs.size ∉ [(s.heap.push { cls := .type "set", dict := none, data := .set #[] 0 (.fresh 0 0 led) }).objs.size, l] := by
          rw [Heap.size_push]; simp only [List.mem_cons, List.mem_singleton, List.not_mem_nil, or_false, not_or]
          exact ⟨Nat.ne_of_lt (Nat.lt_succ_self _), Nat.ne_of_gt hlS⟩
        refine tset_loop ((Walks.list hh3 _ l hneI items).toS) s.heap.objs.size
          hSf (fun i => ss.getD i Str.empty) hval hb (items.size - 0) 0 _ (by omega) (Nat.zero_le _)
          ⟨⟨_, Heap.get?_push_size _ rfl, rfl, rfl⟩, (hl1.push _)⟩ ?hS0 ?hR
        case hS0 =>
          have hget : ((s.heap.push { cls := .type "set", dict := none, data := .set #[] 0 (.fresh 0 0 led) }).push { cls := .type "list_iterator", data := .fields #[.ref l, .int 0 0] }).get? s.heap.objs.size
              = some { cls := .type "set", dict := none, data := .set #[] 0 (.fresh 0 0 led) } := Heap.get?_push_of_some _ hS
          exact ⟨_, #[], 0, _, hget, ⟨rfl, rfl, rfl⟩, rfl, fun e he => by simp at he, fun k => by simp, by simp, by rfl, hled.symm, .inl rfl⟩
        case hR =>
          intro s' hm hS'
          rw [hss] at hS'
          obtain ⟨h', g', d', tk', os'⟩ := s'
          have eg : g' = s.gens := hm.gens
          have ed : d' = s.drawn := hm.drawn
          have eo : os' = s.os := hm.os
          subst eg; subst ed; subst eo
          show wpAny _ _ _ _ _ _
          refine wpAny_pure ?_
          show wpAny _ _ (ret Value.none) _ _ _
          refine wpAny_pure ⟨rfl, h', tk', rfl, hS', fun b o hb e => ?_⟩
          have hb1 : b ≠ s.heap.objs.size := Nat.ne_of_lt hb
          have hb2 : b ≠ (s.heap.push { cls := .type "set", dict := none, data := .set #[] 0 (.fresh 0 0 led) }).objs.size := by
            rw [Heap.size_push]; exact Nat.ne_of_lt (Nat.lt_succ_of_lt hb)
          exact hm.heap b o (by simp only [List.mem_cons, List.mem_singleton, List.not_mem_nil, or_false, not_or]; exact ⟨hb1, hb2⟩) (Heap.get?_push_of_some _ (Heap.get?_push_of_some _ e))
      · cases r₂ with
        | error e => exact hr₂
        | ok fl₂ =>
          cases fl₂ with
          | ret r =>
            obtain ⟨rfl, h', tk, rfl, hS', hk'⟩ := hr₂
            repeat (any_goals (first | assumption | wp_step))
            exact h _ _ hS' hk'
          | _ => exact hr₂.elim
    | _ => exact hr.elim
end
end Mine
end
section
open PySem PySem.W PyProof.Rows PySem.Spec PySem.Calls
namespace Mine
theorem slot_si_next : Slot "set_iterator" "__next__" "set_iterator.__next__" := .of (owner := "set_iterator") (n := "__next__") (by rw [typeLookup_type, builtinLookup_eq_fast]; kernel_rfl) (by decide +kernel) (by decide +kernel) (by decide +kernel)
  (by first | exact .inl (by decide +kernel) | exact .inr (by decide +kernel)) (by rw [isSubtype_type]; kernel_rfl)
theorem entry_si_next : entryFor table "set_iterator.__next__" = some Builtin.«set_iterator.__next__» := entryFor_of_tree (by kernel_rfl)
theorem args_si_next (a : Value) : argsOk "set_iterator.__next__" ⟨[a], []⟩ := by unfold argsOk; kernel_rfl
theorem entry_set_iter : entryFor table "set.__iter__" = some Builtin.«frozenset.__iter__» := entryFor_alias (id' := "frozenset.__iter__") (by kernel_rfl) rfl (by decide +kernel) (by kernel_rfl)
section
variable {prog : Program} {w : World} {A : Around} {E : Value → Shared → Prop} {s : Shared}
theorem wpAny_choose' {M : Model} {src : Source} {n : Nat} {Q : Nat → Shared → Prop} (hn : n ≠ 0) (h : ∀ k d, k < n → Q k { s with drawn := d }) : wpAny M A (choose src n) Q E s := fun Γ p hΓ => by
  refine ⟨hn, ?_⟩
  exact h _ _ (Nat.mod_lt _ (Nat.pos_of_ne_zero hn))
theorem erase_perm {α : Type} : ∀ (l : List α) (k : Nat) (hk : k < l.length), (l[k] :: l.eraseIdx k).Perm l
  | x :: r, 0, _ => by simp
  | x :: r, k + 1, hk => by
    have := erase_perm r k (by simpa using hk)
    simp only [List.getElem_cons_succ, List.eraseIdx_cons_succ]
    exact (List.Perm.swap _ _ _).trans (this.cons _)
theorem drawOrder_perm {α : Type} {M : Model} : ∀ (n : Nat) (xs : List α) (s : Shared) (Q : List α → Shared → Prop), xs.length ≤ n → (∀ ys d, ys.Perm xs → Q ys { s with drawn := d }) → wpAny M A (drawOrder n xs) Q E s := by
  intro n
  induction n with
  | zero =>
    intro xs s Q hl h
    obtain rfl : xs = [] := List.eq_nil_of_length_eq_zero (Nat.le_zero.mp hl)
    unfold drawOrder
    exact wpAny_pure (h [] s.drawn (List.Perm.refl _))
  | succ n ih =>
    intro xs s Q hl h
    cases xs with
    | nil =>
      unfold drawOrder
      exact wpAny_pure (h [] s.drawn (List.Perm.refl _))
    | cons x r =>
      unfold drawOrder
      refine wpAny_bind (wpAny_choose' (by simp) fun k d hk => ?_)
      have e : (x :: r)[k]? = some (x :: r)[k] := List.getElem?_eq_getElem hk
      rw [e]
      dsimp only
      refine wpAny_bind (ih _ _ _ (by rw [List.length_eraseIdx_of_lt hk]; simp at hl ⊢; omega) fun ys d' hp => ?_)
      exact wpAny_pure (h _ d' ((List.Perm.cons _ hp).trans (erase_perm _ k hk)))
/-- the iterator's record -/
noncomputable abbrev siO (first : Value) (i : Nat) (a : Addr) (n ep : Nat) : Obj := { cls := .type "set_iterator", data := .fields #[first, rawInt i, .ref a, rawInt n, rawInt ep] }
theorem next_drawn {it a t : Addr} {i n ep : Nat} {oi os : Obj} {es : Array (Int × Value)} {tb : SetTable} {places : List Nat} {nt : Nat} {x : Value} {p : Nat} {Q : Option Value → Shared → Prop}
    (hi : s.heap.get? it = some oi) (hic : oi.cls = .type "set_iterator") (hid : oi.data = .fields #[.ref t, rawInt i, .ref a, rawInt n, rawInt ep]) (ha : s.heap.get? a = some os) (hd : os.data = .set es ep tb) (hf : tb.fits es.size = true) (hn : es.size = n)
    (ht : s.heap.get? t = some { cls := .type "tuple", data := .seq (places.map fun (k : Nat) => rawInt k).toArray nt }) (hp : places[i]? = some p) (hx : (es[p]?).map (·.2) = some x)
    (hQ : ∀ h', Heap.SameBut it s.heap h' → (∃ o', h'.get? it = some o' ∧ o'.cls = .type "set_iterator" ∧ o'.data = .fields #[.ref t, rawInt (i + 1 : Nat), .ref a, rawInt n, rawInt ep]) → Q (some x) { s with heap := h' }) :
    wpAny (model prog w) A (pyNext (.ref it)) Q E s := by
  have hT : s.TypeIs (.ref it) "set_iterator" := ⟨oi, hi, hic⟩
  unfold pyNext
  refine wpAny_bind (wpAny_attempt (wpAny_callSpecial?_slot (name := Str.ofString "__next__") hT slot_si_next (wpAny_call_entry slot_si_next hT entry_si_next ?_ (args_si_next _))))
  unfold Builtin.«set_iterator.__next__»
  show wpAny _ _ (fieldsOf (.ref it) >>= _) _ _ s
  refine wpAny_bind (wpAny_fieldsOf hi hid ?_)
  show wpAny _ _ (setEntries a >>= _) _ _ s
  refine wpAny_bind (wpAny_setEntries_of ha hd hf ?_)
  dsimp only
  rw [if_neg (by rw [hn]; simp)]
  show wpAny _ _ (seqItems? (.ref t) >>= _) _ _ s
  refine wpAny_bind (wpAny_seqItems ht rfl ?_)
  have e1 : ((places.map fun (k : Nat) => rawInt k).toArray)[((i : Int)).toNat]? = some (rawInt p) := by simp [hp]
  dsimp only
  rw [e1]
  dsimp only [rawInt]
  unfold setNextDrawn
  refine wpAny_bind (wpAny_bind (wpAny_setState_of ha hd hf ?_))
  dsimp only
  rw [if_neg (by simp)]
  cases hx' : es[p]? with
  | none => rw [hx'] at hx; cases hx
  | some e =>
    obtain ⟨hh, y⟩ := e
    rw [hx'] at hx
    obtain rfl : y = x := Option.some.inj hx
    have e2 : es[((p : Int)).toNat]? = some (hh, y) := by simpa using hx'
    rw [e2]
    refine wpAny_pure ?_
    refine wpAny_bind (wpAny_setField hi hid (by simp) ?_)
    refine wpAny_pure ⟨_, rfl, wpAny_pure (hQ _ (Heap.SameBut.update ..) ⟨_, Heap.get?_update_self _ hi (Obj.isFreed_of_fields (Obj.data_mapFields hid _)), (Obj.cls_mapFields ..).trans hic, ?_⟩)⟩
    rw [Obj.data_mapFields hid]; simp [rawInt]
theorem end_drawn {it a t : Addr} {i n ep : Nat} {oi os : Obj} {es : Array (Int × Value)} {tb : SetTable} {places : List Nat} {nt : Nat} {Q : Option Value → Shared → Prop} (hA : A.handled = none)
    (hi : s.heap.get? it = some oi) (hic : oi.cls = .type "set_iterator") (hid : oi.data = .fields #[.ref t, rawInt i, .ref a, rawInt n, rawInt ep]) (ha : s.heap.get? a = some os) (hd : os.data = .set es ep tb) (hf : tb.fits es.size = true) (hn : es.size = n)
    (ht : s.heap.get? t = some { cls := .type "tuple", data := .seq (places.map fun (k : Nat) => rawInt k).toArray nt }) (hp : places[i]? = none)
    (hQ : ∀ h', Heap.ExtBut it s.heap h' → Q none { s with heap := h' }) :
    wpAny (model prog w) A (pyNext (.ref it)) Q E s := by
  have hT : s.TypeIs (.ref it) "set_iterator" := ⟨oi, hi, hic⟩
  unfold pyNext
  refine wpAny_bind (wpAny_attempt (wpAny_callSpecial?_slot (name := Str.ofString "__next__") hT slot_si_next (wpAny_call_entry slot_si_next hT entry_si_next ?_ (args_si_next _))))
  unfold Builtin.«set_iterator.__next__»
  show wpAny _ _ (fieldsOf (.ref it) >>= _) _ _ s
  refine wpAny_bind (wpAny_fieldsOf hi hid ?_)
  show wpAny _ _ (setEntries a >>= _) _ _ s
  refine wpAny_bind (wpAny_setEntries_of ha hd hf ?_)
  dsimp only
  rw [if_neg (by rw [hn]; simp)]
  show wpAny _ _ (seqItems? (.ref t) >>= _) _ _ s
  refine wpAny_bind (wpAny_seqItems ht rfl ?_)
  have e1 : ((places.map fun (k : Nat) => rawInt k).toArray)[((i : Int)).toNat]? = none := by simpa using hp
  dsimp only
  rw [e1]
  dsimp only
  refine wpAny_bind (wpAny_setField hi hid (by simp) ?_)
  have h1 := Heap.get?_update_self (Obj.mapFields (·.setIfInBounds 0 (rawInt 0))) hi (Obj.isFreed_of_fields (Obj.data_mapFields hid _))
  refine wpAny_bind (wpAny_setField h1 (Obj.data_mapFields hid _) (by simp) ?_)
  have hsb : Heap.SameBut it s.heap ((s.heap.update it (Obj.mapFields (·.setIfInBounds 0 (rawInt 0)))).update it (Obj.mapFields (·.setIfInBounds 2 Value.none))) := (Heap.SameBut.update ..).trans (Heap.SameBut.update ..)
  show wpAny _ _ (newExc (.type "StopIteration") [] >>= _) _ _ _
  refine wpAny_bind ?_
  simp only [newExc, newTuple]
  refine wpAny_bind (wpAny_newObj_type ?_ (by size_fits))
  refine wpAny_bind (m := firstArgMember _ _) (wpAny_of_eq (a := Value.none) (by first | rfl | (simp only [firstArgMember]; rfl)) ?_)
  refine wpAny_newObj_type ?_ (by size_fits)
  simp only [raiseNew]
  refine wpAny_bind (wpAny_handled ?_)
  rw [show A.in1.handled = none from hA]
  refine wpAny_bind (wpAny_pure (wpAny_throw ?_))
  refine wpAny_bind (wpAny_isInstance (T := "StopIteration") (b := true) ⟨_, Heap.get?_push_size _ rfl, rfl⟩ isSubtype_stop ?_)
  rw [if_pos rfl]
  refine wpAny_pure ?_
  refine hQ _ ?_
  refine Heap.ExtBut.push ?_ _
  refine Heap.ExtBut.push ?_ _
  exact hsb.extBut
/-- by the text's own order -/
theorem next_text {it a : Addr} {i n ep : Nat} {oi os : Obj} {es : Array (Int × Value)} {tb : SetTable} {x : Value} {Q : Option Value → Shared → Prop} (hbt : w.params.followText "set-order" = true)
    (hi : s.heap.get? it = some oi) (hic : oi.cls = .type "set_iterator") (hid : oi.data = .fields #[rawInt 0, rawInt i, .ref a, rawInt n, rawInt ep]) (ha : s.heap.get? a = some os) (hd : os.data = .set es ep tb) (hf : tb.fits es.size = true) (hn : es.size = n)
    (hx : ((pickOrder (w.params.setOrder a ep) es)[i]?).map (·.2) = some x)
    (hQ : ∀ h', Heap.SameBut it s.heap h' → (∃ o', h'.get? it = some o' ∧ o'.cls = .type "set_iterator" ∧ o'.data = .fields #[rawInt 0, rawInt (i + 1 : Nat), .ref a, rawInt n, rawInt ep]) → Q (some x) { s with heap := h' }) :
    wpAny (model prog w) A (pyNext (.ref it)) Q E s := by
  have hT : s.TypeIs (.ref it) "set_iterator" := ⟨oi, hi, hic⟩
  unfold pyNext
  refine wpAny_bind (wpAny_attempt (wpAny_callSpecial?_slot (name := Str.ofString "__next__") hT slot_si_next (wpAny_call_entry slot_si_next hT entry_si_next ?_ (args_si_next _))))
  unfold Builtin.«set_iterator.__next__»
  show wpAny _ _ (fieldsOf (.ref it) >>= _) _ _ s
  refine wpAny_bind (wpAny_fieldsOf hi hid ?_)
  show wpAny _ _ (setEntries a >>= _) _ _ s
  refine wpAny_bind (wpAny_setEntries_of ha hd hf ?_)
  dsimp only
  rw [if_neg (by rw [hn]; simp)]
  show wpAny _ _ (setNext a ((0 : Int)).toNat ((i : Int)).toNat ((ep : Int)).toNat >>= _) _ _ s
  refine wpAny_bind ?_
  unfold setNext
  refine wpAny_bind (wpAny_setState_of ha hd hf ?_)
  dsimp only
  unfold setsByText
  refine wpAny_bind (wpAny_bind (wpAny_askSetting (wpAny_pure ?_)))
  show wpAny _ _ (if (w.params.followText "set-order") = true then _ else _) _ _ _
  rw [if_pos hbt, if_neg (by simp)]
  unfold setWalk
  refine wpAny_bind (wpAny_bind (wpAny_setState_of ha hd hf ?_))
  dsimp only
  unfold setsByText
  refine wpAny_bind (wpAny_bind (wpAny_askSetting (wpAny_pure ?_)))
  show wpAny _ _ (if (w.params.followText "set-order") = true then _ else _) _ _ _
  rw [if_pos hbt]
  refine wpAny_bind (wpAny_askSetting (wpAny_pure ?_))
  show wpAny _ _ (pure (Option.map (fun e => (e.2, Int.toNat 0)) (pickOrder (w.params.setOrder a ep) es)[i]?)) _ _ _
  cases hx' : (pickOrder (w.params.setOrder a ep) es)[i]? with
  | none => rw [hx'] at hx; cases hx
  | some e =>
    rw [hx'] at hx
    have hx : e.2 = x := Option.some.inj hx
    refine wpAny_pure ?_
    dsimp only [Option.map]
    rw [hx]
    refine wpAny_bind (wpAny_setField hi hid (by simp) ?_)
    have h1 := Heap.get?_update_self (Obj.mapFields (·.setIfInBounds 0 (rawInt ((Int.toNat 0 : Nat) : Int)))) hi (Obj.isFreed_of_fields (Obj.data_mapFields hid _))
    refine wpAny_bind (wpAny_setField h1 (Obj.data_mapFields hid _) (by simp) ?_)
    refine wpAny_pure ⟨_, rfl, ?_⟩
    refine wpAny_pure ?_
    refine hQ _ ((Heap.SameBut.update ..).trans (Heap.SameBut.update ..)) ⟨_, Heap.get?_update_self _ h1 (Obj.isFreed_of_fields (Obj.data_mapFields (Obj.data_mapFields hid _) _)), (Obj.cls_mapFields ..).trans ((Obj.cls_mapFields ..).trans hic), ?_⟩
    rw [Obj.data_mapFields (Obj.data_mapFields hid _)]
    simp [rawInt]
theorem end_text {it a : Addr} {i n ep : Nat} {oi os : Obj} {es : Array (Int × Value)} {tb : SetTable} {Q : Option Value → Shared → Prop} (hA : A.handled = none) (hbt : w.params.followText "set-order" = true)
    (hi : s.heap.get? it = some oi) (hic : oi.cls = .type "set_iterator") (hid : oi.data = .fields #[rawInt 0, rawInt i, .ref a, rawInt n, rawInt ep]) (ha : s.heap.get? a = some os) (hd : os.data = .set es ep tb) (hf : tb.fits es.size = true) (hn : es.size = n)
    (hx : (pickOrder (w.params.setOrder a ep) es)[i]? = none)
    (hQ : ∀ h', Heap.ExtBut it s.heap h' → Q none { s with heap := h' }) :
    wpAny (model prog w) A (pyNext (.ref it)) Q E s := by
  have hT : s.TypeIs (.ref it) "set_iterator" := ⟨oi, hi, hic⟩
  unfold pyNext
  refine wpAny_bind (wpAny_attempt (wpAny_callSpecial?_slot (name := Str.ofString "__next__") hT slot_si_next (wpAny_call_entry slot_si_next hT entry_si_next ?_ (args_si_next _))))
  unfold Builtin.«set_iterator.__next__»
  show wpAny _ _ (fieldsOf (.ref it) >>= _) _ _ s
  refine wpAny_bind (wpAny_fieldsOf hi hid ?_)
  show wpAny _ _ (setEntries a >>= _) _ _ s
  refine wpAny_bind (wpAny_setEntries_of ha hd hf ?_)
  dsimp only
  rw [if_neg (by rw [hn]; simp)]
  show wpAny _ _ (setNext a ((0 : Int)).toNat ((i : Int)).toNat ((ep : Int)).toNat >>= _) _ _ s
  refine wpAny_bind ?_
  unfold setNext
  refine wpAny_bind (wpAny_setState_of ha hd hf ?_)
  dsimp only
  unfold setsByText
  refine wpAny_bind (wpAny_bind (wpAny_askSetting (wpAny_pure ?_)))
  show wpAny _ _ (if (w.params.followText "set-order") = true then _ else _) _ _ _
  rw [if_pos hbt, if_neg (by simp)]
  unfold setWalk
  refine wpAny_bind (wpAny_bind (wpAny_setState_of ha hd hf ?_))
  dsimp only
  unfold setsByText
  refine wpAny_bind (wpAny_bind (wpAny_askSetting (wpAny_pure ?_)))
  show wpAny _ _ (if (w.params.followText "set-order") = true then _ else _) _ _ _
  rw [if_pos hbt]
  refine wpAny_bind (wpAny_askSetting (wpAny_pure ?_))
  show wpAny _ _ (pure (Option.map (fun e => (e.2, Int.toNat 0)) (pickOrder (w.params.setOrder a ep) es)[i]?)) _ _ _
  rw [hx]
  refine wpAny_pure ?_
  dsimp only [Option.map]
  refine wpAny_bind (wpAny_setField hi hid (by simp) ?_)
  have hsb : Heap.SameBut it s.heap (s.heap.update it (Obj.mapFields (·.setIfInBounds 2 Value.none))) := Heap.SameBut.update ..
  show wpAny _ _ (newExc (.type "StopIteration") [] >>= _) _ _ _
  refine wpAny_bind ?_
  simp only [newExc, newTuple]
  refine wpAny_bind (wpAny_newObj_type ?_ (by size_fits))
  refine wpAny_bind (m := firstArgMember _ _) (wpAny_of_eq (a := Value.none) (by first | rfl | (simp only [firstArgMember]; rfl)) ?_)
  refine wpAny_newObj_type ?_ (by size_fits)
  simp only [raiseNew]
  refine wpAny_bind (wpAny_handled ?_)
  rw [show A.in1.handled = none from hA]
  refine wpAny_bind (wpAny_pure (wpAny_throw ?_))
  refine wpAny_bind (wpAny_isInstance (T := "StopIteration") (b := true) ⟨_, Heap.get?_push_size _ rfl, rfl⟩ isSubtype_stop ?_)
  rw [if_pos rfl]
  refine wpAny_pure ?_
  refine hQ _ ?_
  refine Heap.ExtBut.push ?_ _
  refine Heap.ExtBut.push ?_ _
  exact hsb.extBut
/-- by places: at most one element -/
theorem setNext_place {a : Addr} {slot i ep : Nat} {os : Obj} {es : Array (Int × Value)} {tb : SetTable} {Q : Option (Value × Nat) → Shared → Prop} (hbt : w.params.followText "set-order" = false)
    (ha : s.heap.get? a = some os) (hd : os.data = .set es ep tb) (hf : tb.fits es.size = true) (hn : es.size ≤ 1) (hl : tb.led = true)
    (h : Q (match es[SetTable.below tb.place slot]?, tb.place[SetTable.below tb.place slot]? with | some (_, x), some j => some (x, j + 1) | _, _ => none) s) : wpAny (model prog w) A (setNext a slot i ep) Q E s := by
  unfold setNext
  refine wpAny_bind (wpAny_setState_of ha hd hf ?_)
  dsimp only
  unfold setsByText
  refine wpAny_bind (wpAny_bind (wpAny_askSetting (wpAny_pure ?_)))
  show wpAny _ _ (if (w.params.followText "set-order") = true then _ else _) _ _ _
  rw [if_neg (by rw [hbt]; decide)]
  have hdr : ¬ ((!tb.plain && decide (es.size > 1)) = true) := by
    have : decide (es.size > 1) = false := decide_eq_false (by omega)
    rw [this, Bool.and_false]; decide
  show wpAny _ _ (if (!tb.plain && decide (es.size > 1)) = true then _ else _) _ _ _
  rw [if_neg hdr]
  refine wpAny_bind ?_
  show wpAny _ _ (if (!tb.led && !es.isEmpty) = true then _ else _) _ _ _
  rw [if_neg (by rw [hl]; simp)]
  refine wpAny_pure ?_
  exact wpAny_pure h
theorem next_place {it a : Addr} {i n ep slot : Nat} {oi os : Obj} {es : Array (Int × Value)} {tb : SetTable} {x : Value} {j : Nat} {hh : Int} {Q : Option Value → Shared → Prop} (hbt : w.params.followText "set-order" = false)
    (hi : s.heap.get? it = some oi) (hic : oi.cls = .type "set_iterator") (hid : oi.data = .fields #[rawInt slot, rawInt i, .ref a, rawInt n, rawInt ep]) (ha : s.heap.get? a = some os) (hd : os.data = .set es ep tb) (hf : tb.fits es.size = true) (hn : es.size = n) (hn1 : n ≤ 1) (hl : tb.led = true)
    (hx : es[SetTable.below tb.place slot]? = some (hh, x)) (hj : tb.place[SetTable.below tb.place slot]? = some j)
    (hQ : ∀ h', Heap.SameBut it s.heap h' → (∃ o', h'.get? it = some o' ∧ o'.cls = .type "set_iterator" ∧ o'.data = .fields #[rawInt (j + 1 : Nat), rawInt (i + 1 : Nat), .ref a, rawInt n, rawInt ep]) → Q (some x) { s with heap := h' }) :
    wpAny (model prog w) A (pyNext (.ref it)) Q E s := by
  have hT : s.TypeIs (.ref it) "set_iterator" := ⟨oi, hi, hic⟩
  unfold pyNext
  refine wpAny_bind (wpAny_attempt (wpAny_callSpecial?_slot (name := Str.ofString "__next__") hT slot_si_next (wpAny_call_entry slot_si_next hT entry_si_next ?_ (args_si_next _))))
  unfold Builtin.«set_iterator.__next__»
  show wpAny _ _ (fieldsOf (.ref it) >>= _) _ _ s
  refine wpAny_bind (wpAny_fieldsOf hi hid ?_)
  show wpAny _ _ (setEntries a >>= _) _ _ s
  refine wpAny_bind (wpAny_setEntries_of ha hd hf ?_)
  dsimp only
  rw [if_neg (by rw [hn]; simp)]
  show wpAny _ _ (setNext a ((slot : Int)).toNat ((i : Int)).toNat ((ep : Int)).toNat >>= _) _ _ s
  refine wpAny_bind (setNext_place hbt ha hd hf (by omega) hl ?_)
  rw [Int.toNat_natCast, hx, hj]
  dsimp only
  refine wpAny_bind (wpAny_setField hi hid (by simp) ?_)
  have h1 := Heap.get?_update_self (Obj.mapFields (·.setIfInBounds 0 (rawInt ((j + 1 : Nat) : Int)))) hi (Obj.isFreed_of_fields (Obj.data_mapFields hid _))
  refine wpAny_bind (wpAny_setField h1 (Obj.data_mapFields hid _) (by simp) ?_)
  refine wpAny_pure ⟨_, rfl, ?_⟩
  refine wpAny_pure ?_
  refine hQ _ ((Heap.SameBut.update ..).trans (Heap.SameBut.update ..)) ⟨_, Heap.get?_update_self _ h1 (Obj.isFreed_of_fields (Obj.data_mapFields (Obj.data_mapFields hid _) _)), (Obj.cls_mapFields ..).trans ((Obj.cls_mapFields ..).trans hic), ?_⟩
  rw [Obj.data_mapFields (Obj.data_mapFields hid _)]
  simp [rawInt]
theorem end_place {it a : Addr} {i n ep slot : Nat} {oi os : Obj} {es : Array (Int × Value)} {tb : SetTable} {Q : Option Value → Shared → Prop} (hA : A.handled = none) (hbt : w.params.followText "set-order" = false)
    (hi : s.heap.get? it = some oi) (hic : oi.cls = .type "set_iterator") (hid : oi.data = .fields #[rawInt slot, rawInt i, .ref a, rawInt n, rawInt ep]) (ha : s.heap.get? a = some os) (hd : os.data = .set es ep tb) (hf : tb.fits es.size = true) (hn : es.size = n) (hn1 : n ≤ 1) (hl : tb.led = true)
    (hx : es[SetTable.below tb.place slot]? = none)
    (hQ : ∀ h', Heap.ExtBut it s.heap h' → Q none { s with heap := h' }) :
    wpAny (model prog w) A (pyNext (.ref it)) Q E s := by
  have hT : s.TypeIs (.ref it) "set_iterator" := ⟨oi, hi, hic⟩
  unfold pyNext
  refine wpAny_bind (wpAny_attempt (wpAny_callSpecial?_slot (name := Str.ofString "__next__") hT slot_si_next (wpAny_call_entry slot_si_next hT entry_si_next ?_ (args_si_next _))))
  unfold Builtin.«set_iterator.__next__»
  show wpAny _ _ (fieldsOf (.ref it) >>= _) _ _ s
  refine wpAny_bind (wpAny_fieldsOf hi hid ?_)
  show wpAny _ _ (setEntries a >>= _) _ _ s
  refine wpAny_bind (wpAny_setEntries_of ha hd hf ?_)
  dsimp only
  rw [if_neg (by rw [hn]; simp)]
  show wpAny _ _ (setNext a ((slot : Int)).toNat ((i : Int)).toNat ((ep : Int)).toNat >>= _) _ _ s
  refine wpAny_bind (setNext_place hbt ha hd hf (by omega) hl ?_)
  rw [Int.toNat_natCast, hx]
  dsimp only
  refine wpAny_bind (wpAny_setField hi hid (by simp) ?_)
  have hsb : Heap.SameBut it s.heap (s.heap.update it (Obj.mapFields (·.setIfInBounds 2 Value.none))) := Heap.SameBut.update ..
  show wpAny _ _ (newExc (.type "StopIteration") [] >>= _) _ _ _
  refine wpAny_bind ?_
  simp only [newExc, newTuple]
  refine wpAny_bind (wpAny_newObj_type ?_ (by size_fits))
  refine wpAny_bind (m := firstArgMember _ _) (wpAny_of_eq (a := Value.none) (by first | rfl | (simp only [firstArgMember]; rfl)) ?_)
  refine wpAny_newObj_type ?_ (by size_fits)
  simp only [raiseNew]
  refine wpAny_bind (wpAny_handled ?_)
  rw [show A.in1.handled = none from hA]
  refine wpAny_bind (wpAny_pure (wpAny_throw ?_))
  refine wpAny_bind (wpAny_isInstance (T := "StopIteration") (b := true) ⟨_, Heap.get?_push_size _ rfl, rfl⟩ isSubtype_stop ?_)
  rw [if_pos rfl]
  refine wpAny_pure ?_
  refine hQ _ ?_
  refine Heap.ExtBut.push ?_ _
  refine Heap.ExtBut.push ?_ _
  exact hsb.extBut
end
end Mine
end
section
open PySem PySem.W PyProof.Rows PySem.Spec PySem.Calls
namespace Mine
/-! The set's iterator as a walk over a list that is a reordering of its elements. -/
theorem slot_si_iter : Slot "set_iterator" "__iter__" "set_iterator.__iter__" := .of (owner := "set_iterator") (n := "__iter__") (by rw [typeLookup_type, builtinLookup_eq_fast]; kernel_rfl) (by decide +kernel) (by decide +kernel) (by decide +kernel)
  (by first | exact .inl (by decide +kernel) | exact .inr (by decide +kernel)) (by rw [isSubtype_type]; kernel_rfl)
theorem entry_si_iter : entryFor table "set_iterator.__iter__" = some Builtin.«dict_keyiterator.__iter__» := entryFor_alias (id' := "dict_keyiterator.__iter__") (by kernel_rfl) rfl (by decide +kernel) (by kernel_rfl)
theorem args_si_iter (a : Value) : argsOk "set_iterator.__iter__" ⟨[a], []⟩ := by unfold argsOk; kernel_rfl
theorem pickGo_perm {α : Type} (f : Nat → Nat) : ∀ (n k : Nat) (l : List α) (out : Array α), l.length ≤ n → (pickOrder.go f n k l out).toList.Perm (out.toList ++ l)
  | 0, k, l, out, h => by
    cases l with
    | nil => simp [pickOrder.go]
    | cons a r => simp at h
  | n + 1, k, l, out, h => by
    unfold pickOrder.go
    cases l with
    | nil => simp
    | cons a r =>
      have hk : f k % (a :: r).length < (a :: r).length := Nat.mod_lt _ (by simp)
      rw [List.getElem?_eq_getElem hk]
      refine (pickGo_perm f n (k + 1) _ _ (by rw [List.length_eraseIdx_of_lt hk]; simp at h ⊢; omega)).trans ?_
      rw [Array.toList_push, List.append_assoc]
      exact List.Perm.append_left _ (by simpa using erase_perm (a :: r) _ hk)
theorem pickOrder_perm {α : Type} (f : Nat → Nat) (es : Array α) : (pickOrder f es).toList.Perm es.toList := by
  unfold pickOrder
  simpa using pickGo_perm f es.size 0 es.toList #[] (by simp)
theorem items_ord {ord : List Value} {acc : Array Value} (h : ItemsOf (fun i v => ord[i]? = some v) acc ord.length) : acc.toList = ord := by
  refine List.ext_getElem? fun i => ?_
  rw [Array.getElem?_toList]
  cases hi : acc[i]? with
  | some v => exact (h.2 i v hi).symm
  | none =>
    have : acc.size ≤ i := Array.getElem?_eq_none_iff.mp hi
    rw [h.1] at this
    exact (List.getElem?_eq_none this).symm
/-- the values of texts' entries, reordered -/
theorem strs_ord {prog : Program} {w : World} {es : Array (Int × Value)} {ss : List Str} {ord : List Value} (hel : ElemsOf (PySem.strKind prog w) es.toList) (hmem : ∀ k, k ∈ ss ↔ ∃ e ∈ es.toList, (PySem.strKind prog w).is k e.2 = true)
    (hp : ord.Perm (es.toList.map (·.2))) : ∃ ys, StrsAre ord ys ∧ ∀ k, k ∈ ys ↔ k ∈ ss := by
  have shape : ∀ v ∈ ord, ∃ x t, v = .str x t := fun v hv => by
    obtain ⟨e, he, rfl⟩ := List.mem_map.mp (hp.mem_iff.mp hv)
    obtain ⟨⟨k, hk, _⟩, _⟩ := hel e he
    obtain ⟨t, ht⟩ := Value.isStrOf_shape hk
    exact ⟨k, t, ht⟩
  have go : ∀ l : List Value, (∀ v ∈ l, ∃ x t, v = .str x t) → ∃ ys, StrsAre l ys ∧ ∀ k, k ∈ ys ↔ ∃ t, Value.str k t ∈ l := by
    intro l
    induction l with
    | nil => exact fun _ => ⟨[], .nil, fun k => by simp⟩
    | cons v r ih =>
      intro h
      obtain ⟨x, t, rfl⟩ := h v List.mem_cons_self
      obtain ⟨ys, h1, h2⟩ := ih fun v hv => h v (List.mem_cons_of_mem _ hv)
      refine ⟨x :: ys, .cons x t h1, fun k => ?_⟩
      rw [List.mem_cons, h2 k]
      constructor
      · rintro (rfl | ⟨u, hu⟩)
        · exact ⟨t, List.mem_cons_self⟩
        · exact ⟨u, List.mem_cons_of_mem _ hu⟩
      · rintro ⟨u, hu⟩
        rcases List.mem_cons.mp hu with e | hu
        · injection e with e1 _; exact .inl e1
        · exact .inr ⟨u, hu⟩
  obtain ⟨ys, h1, h2⟩ := go ord shape
  refine ⟨ys, h1, fun k => ?_⟩
  rw [h2 k, hmem k]
  constructor
  · rintro ⟨t, ht⟩
    obtain ⟨e, he, e2⟩ := List.mem_map.mp (hp.mem_iff.mp ht)
    exact ⟨e, he, by rw [e2]; exact strKind_is _ _ _ _⟩
  · rintro ⟨e, he, hk⟩
    obtain ⟨t, ht⟩ := Value.isStrOf_shape hk
    exact ⟨t, hp.mem_iff.mpr (List.mem_map.mpr ⟨e, he, ht⟩)⟩
end Mine
end
section
open PySem PySem.W PyProof.Rows PySem.Spec PySem.Calls
namespace Mine
/-! The set's iterator as a Walks, in each of its three ways. -/
section
variable {prog : Program} {w : World} {A : Around} {E : Value → Shared → Prop} {s : Shared}
noncomputable abbrev IterAt (h : Heap) (I : Addr) (first : Value) (i : Nat) (a : Addr) (n ep : Nat) : Prop :=
  ∃ oi, h.get? I = some oi ∧ oi.cls = .type "set_iterator" ∧ oi.data = .fields #[first, rawInt i, .ref a, rawInt n, rawInt ep]
theorem iter_self {I a : Addr} {first : Value} {i n ep : Nat} {Q : Value → Shared → Prop} (h : IterAt s.heap I first i a n ep) (hQ : Q (.ref I) s) : wpAny (model prog w) A (pyIter (.ref I)) Q E s := by
  obtain ⟨oi, hi, hic, _⟩ := h
  have hT : s.TypeIs (.ref I) "set_iterator" := ⟨oi, hi, hic⟩
  refine wpAny_pyIter_slot hT slot_si_iter (wpAny_call_entry slot_si_iter hT entry_si_iter ?_ (args_si_iter _))
  exact wpAny_pure ⟨_, rfl, _, _, hT, slot_si_next.lookup, hQ⟩
theorem walks_drawn (hh : A.handled = none) {I a t : Addr} {os : Obj} {es : Array (Int × Value)} {ep : Nat} {tb : SetTable} {places : List Nat} {nt : Nat} {ord : List Value} (haI : a ≠ I) (htI : t ≠ I)
    (hd : os.data = .set es ep tb) (hf : tb.fits es.size = true) (hl : places.length = es.size) (ho : ∀ (i p : Nat), places[i]? = some p → ∃ e : Int × Value, es[p]? = some e ∧ ord[i]? = some e.2) :
    Walks prog w A I [I, a, t] [I] es.size (fun i v => ord[i]? = some v)
      (fun i h => IterAt h I (.ref t) i a es.size ep ∧ h.get? a = some os ∧ h.get? t = some { cls := .type "tuple", data := .seq (places.map fun (k : Nat) => rawInt k).toArray nt }) where
  sub := fun b hb => by simp at hb; simp [hb]
  frame := fun _ _ _ st hk => by
    obtain ⟨⟨oi, h1, h2, h3⟩, h4, h5⟩ := st
    exact ⟨⟨oi, hk I (by simp) _ h1, h2, h3⟩, hk a (by simp) _ h4, hk t (by simp) _ h5⟩
  item := fun i s Q E hi st hQ => by
    obtain ⟨⟨oi, h1, h2, h3⟩, h4, h5⟩ := st
    have hp : places[i]? = some places[i] := List.getElem?_eq_getElem (by omega)
    obtain ⟨e, he, hv⟩ := ho i _ hp
    refine next_drawn h1 h2 h3 h4 hd hf rfl h5 hp (x := e.2) (by rw [he]; rfl) fun h' hs' hit => ?_
    exact hQ _ h' s.toks hv ⟨hit, hs'.extBut a _ haI h4, hs'.extBut t _ htI h5⟩ fun b o hb e => hs'.extBut b o (fun h => hb (by simp [h])) e
  done := fun s Q E st hQ => by
    obtain ⟨⟨oi, h1, h2, h3⟩, h4, h5⟩ := st
    exact end_drawn hh h1 h2 h3 h4 hd hf rfl h5 (List.getElem?_eq_none (by omega)) fun h' he' => hQ h' s.toks fun b o hb e => he' b o (fun h => hb (by simp [h])) e
  self := fun _ _ _ _ st hQ => iter_self st.1 hQ
theorem walks_text (hh : A.handled = none) (hbt : w.params.followText "set-order" = true) {I a : Addr} {os : Obj} {es : Array (Int × Value)} {ep : Nat} {tb : SetTable} (haI : a ≠ I)
    (hd : os.data = .set es ep tb) (hf : tb.fits es.size = true) :
    Walks prog w A I [I, a] [I] es.size (fun i v => ((pickOrder (w.params.setOrder a ep) es).toList.map (·.2))[i]? = some v)
      (fun i h => IterAt h I (rawInt 0) i a es.size ep ∧ h.get? a = some os) where
  sub := fun b hb => by simp at hb; simp [hb]
  frame := fun _ _ _ st hk => by
    obtain ⟨⟨oi, h1, h2, h3⟩, h4⟩ := st
    exact ⟨⟨oi, hk I (by simp) _ h1, h2, h3⟩, hk a (by simp) _ h4⟩
  item := fun i s Q E hi st hQ => by
    obtain ⟨⟨oi, h1, h2, h3⟩, h4⟩ := st
    have hz : (pickOrder (w.params.setOrder a ep) es).size = es.size := by simpa using (pickOrder_perm (w.params.setOrder a ep) es).length_eq
    have hx : (pickOrder (w.params.setOrder a ep) es)[i]? = some (pickOrder (w.params.setOrder a ep) es)[i] := Array.getElem?_eq_getElem (by omega)
    refine next_text hbt h1 h2 h3 h4 hd hf rfl (x := (pickOrder (w.params.setOrder a ep) es)[i].2) (by rw [hx]; rfl) fun h' hs' hit => ?_
    refine hQ _ h' s.toks ?_ ⟨hit, hs'.extBut a _ haI h4⟩ fun b o hb e => hs'.extBut b o (fun h => hb (by simp [h])) e
    rw [List.getElem?_map, Array.getElem?_toList, hx]; rfl
  done := fun s Q E st hQ => by
    obtain ⟨⟨oi, h1, h2, h3⟩, h4⟩ := st
    have hz : (pickOrder (w.params.setOrder a ep) es).size = es.size := by simpa using (pickOrder_perm (w.params.setOrder a ep) es).length_eq
    exact end_text hh hbt h1 h2 h3 h4 hd hf rfl (Array.getElem?_eq_none (by omega)) fun h' he' => hQ h' s.toks fun b o hb e => he' b o (fun h => hb (by simp [h])) e
  self := fun _ _ _ _ st hQ => iter_self st.1 hQ
/-- the slot a walk by places of at most one element stands at -/
noncomputable def slotOf (tb : SetTable) : Nat → Nat
  | 0 => 0
  | _ => (tb.place[0]?.getD 0) + 1
theorem below_none {xs : Array Nat} (h : xs.size = 0) (j : Nat) : SetTable.below xs j = 0 := by
  unfold SetTable.below; rw [h]; rfl
theorem below_first {xs : Array Nat} (h : xs.size = 1) : SetTable.below xs 0 = 0 := by
  obtain ⟨x, rfl⟩ : ∃ x, xs = #[x] := by
    obtain ⟨l⟩ := xs
    match l, h with
    | [x], _ => exact ⟨x, rfl⟩
  unfold SetTable.below
  simp [SetTable.below.go]
theorem below_last {x : Nat} : SetTable.below #[x] (x + 1) = 1 := by
  unfold SetTable.below
  simp [SetTable.below.go]
theorem walks_place (hh : A.handled = none) (hbt : w.params.followText "set-order" = false) {I a : Addr} {os : Obj} {es : Array (Int × Value)} {ep : Nat} {tb : SetTable} (haI : a ≠ I)
    (hd : os.data = .set es ep tb) (hf : tb.fits es.size = true) (hn1 : es.size ≤ 1) (hl : tb.led = true) :
    Walks prog w A I [I, a] [I] es.size (fun i v => (es.toList.map (·.2))[i]? = some v)
      (fun i h => IterAt h I (rawInt (slotOf tb i : Nat)) i a es.size ep ∧ h.get? a = some os) where
  sub := fun b hb => by simp at hb; simp [hb]
  frame := fun _ _ _ st hk => by
    obtain ⟨⟨oi, h1, h2, h3⟩, h4⟩ := st
    exact ⟨⟨oi, hk I (by simp) _ h1, h2, h3⟩, hk a (by simp) _ h4⟩
  item := fun i s Q E hi st hQ => by
    obtain ⟨⟨oi, h1, h2, h3⟩, h4⟩ := st
    have e1 : es.size = 1 := by omega
    obtain rfl : i = 0 := by omega
    have hps : tb.place.size = 1 := by
      have : tb.place.size = es.size := by simp [SetTable.fits] at hf; exact hf.1
      omega
    have hb0 : SetTable.below tb.place 0 = 0 := below_first hps
    have hx : es[SetTable.below tb.place (slotOf tb 0)]? = some (es[0].1, es[0].2) := by show es[SetTable.below tb.place 0]? = _; rw [hb0]; exact Array.getElem?_eq_getElem (by omega)
    have hj : tb.place[SetTable.below tb.place (slotOf tb 0)]? = some tb.place[0] := by show tb.place[SetTable.below tb.place 0]? = _; rw [hb0]; exact Array.getElem?_eq_getElem (by omega)
    refine next_place hbt h1 h2 h3 h4 hd hf rfl hn1 hl hx hj fun h' hs' hit => ?_
    have e2 : tb.place[0] + 1 = slotOf tb (0 + 1) := by
      show _ = (tb.place[0]?.getD 0) + 1
      rw [Array.getElem?_eq_getElem (by omega)]; rfl
    rw [e2] at hit
    refine hQ _ h' s.toks ?_ ⟨hit, hs'.extBut a _ haI h4⟩ fun b o hb e => hs'.extBut b o (fun h => hb (by simp [h])) e
    rw [List.getElem?_map, Array.getElem?_toList, Array.getElem?_eq_getElem (by omega)]; rfl
  done := fun s Q E st hQ => by
    obtain ⟨⟨oi, h1, h2, h3⟩, h4⟩ := st
    have hps : tb.place.size = es.size := by simp [SetTable.fits] at hf; exact hf.1
    refine end_place hh hbt h1 h2 h3 h4 hd hf rfl hn1 hl ?_ fun h' he' => hQ h' s.toks fun b o hb e => he' b o (fun h => hb (by simp [h])) e
    rcases Nat.eq_zero_or_pos es.size with e0 | e0
    · rw [below_none (by omega)]; exact Array.getElem?_eq_none (by omega)
    · have e1 : es.size = 1 := by omega
      have : SetTable.below tb.place (slotOf tb es.size) = 1 := by
        rw [e1]
        show SetTable.below tb.place ((tb.place[0]?.getD 0) + 1) = 1
        obtain ⟨x, hx⟩ : ∃ x, tb.place = #[x] := by
          have : tb.place.size = 1 := by omega
          revert this
          generalize tb.place = xs
          intro h
          obtain ⟨l⟩ := xs
          match l, h with
          | [x], _ => exact ⟨x, rfl⟩
        rw [hx]
        exact below_last
      rw [this]; exact Array.getElem?_eq_none (by omega)
  self := fun _ _ _ _ st hQ => iter_self st.1 hQ
end
end Mine
end
section
open PySem PySem.W PyProof.Rows PySem.Spec PySem.Calls
namespace Mine
/-! A set of texts walked: iter, collect, sorted. -/
/-- an iterator over a set of texts, at its beginning -/
noncomputable def SetIt (prog : Program) (w : World) (h' : Heap) (I old a : Addr) (ss : List Str) : Prop :=
  ∃ fp n St ord ys, (∀ A : Around, A.handled = none → Walks prog w A I fp [I] n (fun i v => ord[i]? = some v) St) ∧ St 0 h' ∧ I ∈ fp ∧ (∀ b ∈ fp, b < h'.objs.size) ∧ (∀ b ∈ fp, old ≤ b ∨ b = a) ∧ old ≤ I ∧
    ord.length = n ∧ n ≤ ss.length ∧ StrsAre ord ys ∧ (∀ k, k ∈ ys ↔ k ∈ ss)
section
variable {prog : Program} {w : World} {A : Around} {E : Value → Shared → Prop} {s : Shared}
theorem setDrawn_of {a : Addr} {os : Obj} {es : Array (Int × Value)} {ep : Nat} {tb : SetTable} {Q : Bool → Shared → Prop} (ha : s.heap.get? a = some os) (hd : os.data = .set es ep tb) (hf : tb.fits es.size = true)
    (h : Q (!w.params.followText "set-order" && (!tb.plain && decide (es.size > 1))) s) : wpAny (model prog w) A (setDrawn a) Q E s := by
  unfold setDrawn
  refine wpAny_bind (wpAny_setState_of ha hd hf ?_)
  dsimp only
  unfold setsByText
  refine wpAny_bind (wpAny_bind (wpAny_askSetting (wpAny_pure ?_)))
  exact wpAny_pure h
theorem setEpoch_of {a : Addr} {os : Obj} {es : Array (Int × Value)} {ep : Nat} {tb : SetTable} {Q : Nat → Shared → Prop} (ha : s.heap.get? a = some os) (hd : os.data = .set es ep tb) (hf : tb.fits es.size = true)
    (h : Q ep s) : wpAny (model prog w) A (setEpoch a) Q E s := by
  unfold setEpoch
  exact wpAny_bind (wpAny_setState_of ha hd hf (wpAny_pure h))
theorem iter_set {a : Addr} {ss : List Str} (hS : TSet prog w s.heap a ss) (hb : ss.length ≤ 900) {Q : Value → Shared → Prop}
    (h : ∀ h' d I, (∀ b o, s.heap.get? b = some o → h'.get? b = some o) → SetIt prog w h' I s.heap.objs.size a ss → Q (.ref I) { s with heap := h', drawn := d }) :
    wpAny (model prog w) A (pyIter (.ref a)) Q E s := by
  obtain ⟨os, es, ep, tb, ha, hex, hd, hel, hmem, hsz, hf, hled, hpl⟩ := hS
  have hT : s.TypeIs (.ref a) "set" := ⟨os, ha, hex.1⟩
  have has : a < s.heap.objs.size := Heap.lt_size ha
  refine wpAny_pyIter_slot hT PySem.F.slot_set_iter (wpAny_call_entry PySem.F.slot_set_iter hT entry_set_iter ?_ (PySem.F.args_set_iter_1 _))
  unfold Builtin.«frozenset.__iter__»
  show wpAny _ _ (Builtin.Frozenset.sizeOf a >>= _) _ _ s
  unfold Builtin.Frozenset.sizeOf
  refine wpAny_bind (wpAny_bind (wpAny_setEntries_of ha hd hf (wpAny_pure ?_)))
  refine wpAny_bind (setDrawn_of ha hd hf ?_)
  cases hdr : (!w.params.followText "set-order" && (!tb.plain && decide (es.size > 1))) with
  | true =>
    rw [if_pos rfl]
    refine wpAny_bind (drawOrder_perm es.size (List.range es.size) _ _ (Nat.le_of_eq List.length_range) fun places d hp => ?_)
    have hpl' : places.length = es.size := by simpa using hp.length_eq
    refine wpAny_bind (wpAny_newTuple ?_ (by simp only [List.length_map]; rw [hpl', sizeLine_eq]; omega))
    have ha1 : ((s.heap.push { cls := .type "tuple", data := .seq (places.map fun (i : Nat) => rawInt i).toArray } : Heap)).get? a = some os := Heap.get?_push_of_some _ ha
    refine wpAny_bind (setEpoch_of ha1 hd hf ?_)
    refine wpAny_bind (wpAny_newObj_type ?_ (by size_fits))
    have hsI : (s.heap.push { cls := .type "tuple", data := .seq (places.map fun (i : Nat) => rawInt i).toArray } : Heap).objs.size = s.heap.objs.size + 1 := size_push' ..
    let ord := places.filterMap fun p => (es[p]?).map (·.2)
    have hall : ∀ p ∈ places, p < es.size := fun p hm => by simpa using hp.mem_iff.mp hm
    have hord : ord = places.map fun p => ((es[p]?).map (·.2)).getD .none := by
      show (places.filterMap fun p => (es[p]?).map (·.2)) = _
      have : ∀ l : List Nat, (∀ p ∈ l, p < es.size) → (l.filterMap fun p => (es[p]?).map (·.2)) = l.map fun p => ((es[p]?).map (·.2)).getD .none := by
        intro l
        induction l with
        | nil => intro _; rfl
        | cons p r ih =>
          intro hl
          have h0 := hl p List.mem_cons_self
          have h1 : es[p]? = some (es[p]'h0) := Array.getElem?_eq_getElem h0
          rw [List.filterMap_cons, List.map_cons, h1, ih fun q hq => hl q (List.mem_cons_of_mem _ hq)]
          rfl
      exact this places hall
    have hordp : ord.Perm (es.toList.map (·.2)) := by
      rw [hord]
      refine (hp.map _).trans ?_
      have : (List.range es.size).map (fun p => ((es[p]?).map (·.2)).getD Value.none) = es.toList.map (·.2) := by
        refine List.ext_getElem (by simp) fun i h1 h2 => ?_
        have : i < es.size := by simpa using h1
        simp [this]
      rw [this]
    obtain ⟨ys, hy1, hy2⟩ := strs_ord hel hmem hordp
    have hIa : a ≠ s.heap.objs.size + 1 := Nat.ne_of_lt (Nat.lt_succ_of_lt has)
    refine wpAny_pure ⟨_, rfl, "set_iterator", _, ⟨_, by exact Heap.get?_push_size _ rfl, rfl⟩, slot_si_next.lookup, ?_⟩
    have key := h (((s.heap.push { cls := .type "tuple", data := .seq (places.map fun (i : Nat) => rawInt i).toArray }).push { cls := .type "set_iterator", data := .fields [Value.ref s.heap.objs.size, rawInt 0, .ref a, rawInt es.size, rawInt ep].toArray })) d (s.heap.objs.size + 1)
      (fun b o e => Heap.get?_push_of_some _ (Heap.get?_push_of_some _ e))
    rw [← hsI] at key
    refine key ?_
    refine ⟨_, es.size, _, ord, ys, fun A' hA' => walks_drawn (t := s.heap.objs.size) (places := places) (nt := 0) hA' (by rw [hsI]; exact hIa) (by rw [hsI]; exact Nat.ne_of_lt (Nat.lt_succ_self _)) hd hf hpl' ?_, ⟨⟨_, Heap.get?_push_size _ rfl, rfl, rfl⟩, Heap.get?_push_of_some _ ha1, Heap.get?_push_of_some _ (Heap.get?_push_size _ rfl)⟩, by simp, ?_, ?_, by rw [hsI]; exact Nat.le_succ _, ?_, hsz, hy1, hy2⟩
    · intro i p hpi
      have hlt : p < es.size := hall p (List.mem_of_getElem? hpi)
      refine ⟨es[p], Array.getElem?_eq_getElem hlt, ?_⟩
      rw [hord, List.getElem?_map, hpi, Option.map_some, Array.getElem?_eq_getElem hlt]
      rfl
    · intro b hb
      have e1 : ((s.heap.push { cls := .type "tuple", data := .seq (places.map fun (i : Nat) => rawInt i).toArray }).push { cls := .type "set_iterator", data := .fields [Value.ref s.heap.objs.size, rawInt 0, .ref a, rawInt es.size, rawInt ep].toArray } : Heap).objs.size = s.heap.objs.size + 2 := by rw [size_push', hsI]
      rw [e1]
      simp only [List.mem_cons, List.not_mem_nil, or_false] at hb
      rcases hb with e | e | e <;> (rw [e]; try rw [hsI]) <;> first | exact Nat.lt_succ_self _ | exact Nat.lt_succ_of_lt (Nat.lt_succ_self _) | exact Nat.lt_succ_of_lt (Nat.lt_succ_of_lt has)
    · intro b hb
      simp only [List.mem_cons, List.not_mem_nil, or_false] at hb
      rcases hb with e | e | e
      · exact .inl (by rw [e, hsI]; exact Nat.le_succ _)
      · exact .inr e
      · exact .inl (by rw [e]; exact Nat.le_refl _)
    · rw [hord, List.length_map, hpl']
  | false =>
    rw [if_neg (by decide)]
    refine wpAny_bind (wpAny_pure ?_)
    refine wpAny_bind (setEpoch_of ha hd hf ?_)
    refine wpAny_bind (wpAny_newObj_type ?_ (by size_fits))
    have hIa : a ≠ s.heap.objs.size := Nat.ne_of_lt has
    refine wpAny_pure ⟨_, rfl, "set_iterator", _, ⟨_, Heap.get?_push_size _ rfl, rfl⟩, slot_si_next.lookup, ?_⟩
    refine h _ s.drawn _ (fun b o e => Heap.get?_push_of_some _ e) ?_
    have hfp : ∀ b ∈ [s.heap.objs.size, a], b < ((s.heap.push { cls := .type "set_iterator", data := .fields [rawInt 0, rawInt 0, .ref a, rawInt es.size, rawInt ep].toArray } : Heap)).objs.size := by
      intro b hb
      rw [size_push']
      simp only [List.mem_cons, List.not_mem_nil, or_false] at hb
      rcases hb with e | e <;> rw [e]
      · exact Nat.lt_succ_self _
      · exact Nat.lt_succ_of_lt has
    have hfo : ∀ b ∈ [s.heap.objs.size, a], s.heap.objs.size ≤ b ∨ b = a := by
      intro b hb
      simp only [List.mem_cons, List.not_mem_nil, or_false] at hb
      rcases hb with e | e
      · exact .inl (by rw [e]; exact Nat.le_refl _)
      · exact .inr e
    cases hbt : w.params.followText "set-order" with
    | true =>
      obtain ⟨ys, hy1, hy2⟩ := strs_ord hel hmem ((pickOrder_perm (w.params.setOrder a ep) es).map (·.2))
      refine ⟨_, es.size, _, _, ys, fun A' hA' => walks_text hA' hbt hIa hd hf, ⟨⟨_, Heap.get?_push_size _ rfl, rfl, rfl⟩, Heap.get?_push_of_some _ ha⟩, by simp, hfp, hfo, Nat.le_refl _, ?_, hsz, hy1, hy2⟩
      rw [List.length_map]
      simpa using (pickOrder_perm (w.params.setOrder a ep) es).length_eq
    | false =>
      obtain ⟨ys, hy1, hy2⟩ := strs_ord hel hmem (List.Perm.refl _)
      have hn1 : es.size ≤ 1 := by
        rcases hpl with e | e
        · omega
        · rw [hbt, e] at hdr
          simp at hdr
          exact hdr
      refine ⟨_, es.size, _, _, ys, fun A' hA' => walks_place hA' hbt hIa hd hf hn1 (by rw [hled, hbt]; rfl), ⟨⟨_, Heap.get?_push_size _ rfl, rfl, rfl⟩, Heap.get?_push_of_some _ ha⟩, by simp, hfp, hfo, Nat.le_refl _, by simp, hsz, hy1, hy2⟩
end
end Mine
end
section
open PySem PySem.W PyProof.Rows PySem.Spec PySem.Calls
namespace Mine
section
variable {prog : Program} {w : World} {A : Around} {E : Value → Shared → Prop} {s : Shared}
theorem collect_set {a : Addr} {ss : List Str} (hh : A.handled = none) (hS : TSet prog w s.heap a ss) (hb : ss.length ≤ 900) {Q : List Value → Shared → Prop}
    (h : ∀ h' d tk vs ys, (∀ b o, s.heap.get? b = some o → h'.get? b = some o) → s.heap.objs.size < h'.objs.size → StrsAre vs ys → (∀ k, k ∈ ys ↔ k ∈ ss) → vs.length ≤ ss.length → Q vs { s with heap := h', drawn := d, toks := tk }) :
    wpAny (model prog w) A (collect (.ref a)) Q E s := by
  have hS0 := hS
  obtain ⟨os, es, ep, tb, ha, hex, hd, hel, hmem, hsz, hf, hled, hpl⟩ := hS0
  have has : a < s.heap.objs.size := Heap.lt_size ha
  unfold collect
  refine wpAny_bind (wpAny_runValue (codeAny_builtin PySem.F.entry_proto_collect ?_))
  rw [Around.under_plainId PySem.F.plain_proto_collect _]
  show wpAny _ A.in1 (newList [] >>= fun l => again (.builtin "list.__iadd__" ⟨[l, .ref a], []⟩)) _ _ s
  refine wpAny_bind (wpAny_newObj_type ?_)
  refine wpAny_pure ⟨plainId_quiet PySem.F.plain_list_iadd _, codeAny_builtin PySem.F.entry_list_iadd ?_⟩
  rw [Around.under_plainId PySem.F.plain_list_iadd _]
  show wpAny _ A.in1 (Builtin.List.listExtendWith (.ref s.heap.objs.size) (.ref a) (.ref s.heap.objs.size)) _ _ _
  have hSa : s.heap.objs.size ≠ a := Ne.symm (Nat.ne_of_lt has)
  have hL : ((s.heap.push { cls := .type "list", data := .seq ([] : List Value).toArray } : Heap)).get? s.heap.objs.size = some { cls := .type "list", data := .seq ([] : List Value).toArray } := Heap.get?_push_size _ rfl
  have hold : ∀ b o, s.heap.get? b = some o → ((s.heap.push { cls := .type "list", data := .seq ([] : List Value).toArray } : Heap)).get? b = some o := fun b o e => Heap.get?_push_of_some _ e
  have hz1 : ((s.heap.push { cls := .type "list", data := .seq ([] : List Value).toArray } : Heap)).objs.size = s.heap.objs.size + 1 := size_push' ..
  have ha1 := hold a os ha
  have hS1 : TSet prog w ((s.heap.push { cls := .type "list", data := .seq ([] : List Value).toArray } : Heap)) a ss := hS.at fun o e => hold a o e
  revert hL hold hz1 ha1 hS1
  generalize ((s.heap.push { cls := .type "list", data := .seq ([] : List Value).toArray } : Heap)) = h1
  intro hL hold hz1 ha1 hS1
  have hT : ∀ (h' : Heap) (d : Drawn), h'.get? a = some os → ({ s with heap := h', drawn := d } : Shared).TypeIs (.ref a) "set" := fun h' d e => ⟨os, e, hex.1⟩
  unfold Builtin.List.listExtendWith
  refine wpAny_bind (wpAny_typeOf (hT _ s.drawn ha1) ?_)
  have e1 : Builtin.List.listSameRef (.ref s.heap.objs.size) (.ref a) = false := by simp [Builtin.List.listSameRef, hSa]
  have e2 : (Value.type "set" == Value.type "list") = false := by decide
  have e3 : (Value.type "set" == Value.type "tuple") = false := by decide
  simp only [e1, e2, e3, Bool.or_false, Bool.false_eq_true, if_false]
  refine wpAny_bind (iter_set hS1 hb fun h2 d I hk2 hit => ?_)
  obtain ⟨fp, n, St, ord, ys, W, hst, hIf, hfp, hfo, hIo, hln, hns, hy1, hy2⟩ := hit
  have ha2 := hk2 a os ha1
  have hL2 := hk2 _ _ hL
  refine wpAny_bind (wpAny_holding ?_)
  unfold Builtin.List.listLengthHint
  refine wpAny_bind (wpAny_specialOf (hT _ d ha2) PySem.F.slot_set_len.lookup ?_)
  generalize hid : ("set.__len__" : String) = id0
  wp_delta
  rw [show splitId id0 = some ("set", "__len__") from by subst hid; decide +kernel]
  subst hid
  refine wpAny_bind (wpAny_isInstance (T := "set") (b := true) (hT _ d ha2) sub_set_self ?_)
  refine wpAny_ite_split (fun hab => absurd hab (by decide)) (fun _ => ?_)
  refine wpAny_ite_split (fun _ => ?_) (fun hab => absurd (by decide +kernel) hab)
  refine wpAny_bind (wpAny_typeOf (hT _ d ha2) ?_)
  refine wpAny_pure ?_
  refine wpAny_ite_split (fun _ => ?_) (fun hab => absurd (by decide +kernel) hab)
  refine wpAny_bind (wpAny_rule ?_)
  refine wpAny_bind ?_
  show wpAny _ A.in1 (updateSeq s.heap.objs.size (·.push .none) >>= fun _ => updateSeq s.heap.objs.size (·.pop)) _ _ _
  have hSf : s.heap.objs.size ∉ fp := fun hm => by
    rcases hfo _ hm with e | e
    · rw [hz1] at e; exact absurd e (Nat.not_succ_le_self _)
    · exact hSa e
  refine wpAny_bind (wpAny_updateSeq hL2 rfl ?_)
  have hS₂ := Heap.get?_update_self (Obj.mapSeq (·.push Value.none)) hL2 rfl
  refine wpAny_updateSeq hS₂ rfl ?_
  have hS₃ := Heap.get?_update_self (Obj.mapSeq (·.pop)) hS₂ rfl
  have oth : ∀ b o, b ≠ s.heap.objs.size → h2.get? b = some o → ((h2.update s.heap.objs.size (Obj.mapSeq (·.push Value.none))).update s.heap.objs.size (Obj.mapSeq (·.pop))).get? b = some o :=
    fun b o hb e => (Heap.get?_update_other _ _ (Ne.symm hb)).trans ((Heap.get?_update_other _ _ (Ne.symm hb)).trans e)
  have WS := (W A.in1 hh).toS
  refine wpAny_pure ⟨plainId_quiet PySem.F.plain_extend_loop _, codeAny_extend_loopS WS (by rw [sizeLine_eq]; omega) _ hSf _ n 0 _ _ _ rfl (Nat.zero_le _)
    ((W A.in1 hh).frame 0 h2 _ hst fun b hb o e => oth b o (fun h => hSf (h ▸ hb)) e) hS₃ (ItemsOf.nil _) fun s' acc' c' hm hS' hacc => ?_⟩
  show wpAny _ A (load s.heap.objs.size >>= _) _ _ s'
  refine wpAny_bind (wpAny_load hS' ?_)
  refine wpAny_pure ?_
  rw [← hln] at hacc
  rw [items_ord hacc]
  rw [Moved.eq_with hm]
  refine h s'.heap d s'.toks ord ys (fun b o e => ?_) (Heap.lt_size hS') hy1 hy2 (by rw [hln]; exact hns)
  have hb : b < s.heap.objs.size := Heap.lt_size e
  refine hm.heap b o (fun hmem => ?_) (oth b o (Nat.ne_of_lt hb) (hk2 b o (hold b o e)))
  rcases List.mem_cons.mp hmem with e' | hmem
  · exact absurd e' (Nat.ne_of_lt hb)
  · rw [List.mem_singleton.mp hmem] at hb
    rw [hz1] at hIo
    exact absurd (Nat.lt_of_lt_of_le hb (Nat.le_of_succ_le hIo)) (Nat.lt_irrefl _)
theorem sorted_set {a : Addr} {ss : List Str} (hh : A.handled = none) (hS : TSet prog w s.heap a ss) (hb : ss.length < 64) {Q : Value → Shared → Prop}
    (h : ∀ h' d tk r out e ys, (∀ b o, s.heap.get? b = some o → h'.get? b = some o) → h'.get? r = some (seqObj "list" out e) → s.heap.objs.size ≤ r → StrsAre out.toList ys → (∀ k, k ∈ ys ↔ k ∈ ss) → out.size ≤ ss.length →
      Q (.ref r) { s with heap := h', drawn := d, toks := tk }) :
    wpAny (model prog w) A (call (.builtin "sorted") [.ref a]) Q E s := by
  refine Calls.call_function_entry kind_sorted plain_sorted entry_sorted (args_sorted1 _) ?_
  unfold Builtin.«sorted»
  refine wpAny_bind (m := checkCount "sorted" 1 1 _) (wpAny_pure ?_)
  refine wpAny_bind (collect_set (A := A.in1) hh hS (by omega) fun h1 d tk vs ys hk1 hsz hy1 hy2 hl => ?_)
  refine wpAny_bind (wpAny_newList ?_)
  have hoL : (h1.push (seqObj "list" vs.toArray 0)).get? h1.objs.size = some (seqObj "list" vs.toArray 0) := Heap.get?_push_size _ rfl
  refine wpAny_bind (wpAny_holding (wpAny_call_entry slot_list_sort ⟨_, hoL, rfl⟩ entry_list_sort (list_sort_treeK strKind_oneLt hoL hy1.keysOf (fun v₁ v₂ rest e => keyKind_strs (by rw [← e]; exact hy1)) (by omega) fun st' a1 a2 => ⟨_, rfl, ?_⟩) (args_list_sort _)))
  refine wpAny_pure ⟨_, rfl, ?_⟩
  obtain ⟨ys', z1, z2, z3⟩ := sorted_out_str hy1 a1 a2
  obtain ⟨e, he⟩ := sortedHeap_at (out := (arrOf st').map (·.2)) hoL
  have hzz : ((arrOf st').map (·.2)).size = vs.length := by rw [Array.size_map, a1.size_eq, pairsOf_size]
  refine h _ d tk _ _ e ys' (fun b o eo => ?_) he (Nat.le_of_lt hsz) z1 (fun k => (z2.mem_iff).trans (hy2 k)) (by rw [hzz]; exact hl)
  have hlt : b < h1.objs.size := Heap.lt_size (hk1 b o eo)
  rw [sortedHeap_old (Nat.ne_of_lt hlt) (by rw [size_push']; exact Nat.lt_succ_of_lt hlt)]
  exact Heap.get?_push_of_some _ (hk1 b o eo)
end
end Mine
end
section
open PySem PySem.W PyProof.Rows PySem.Spec PySem.Calls
namespace Mine
/-! a for over a list of one item whose turn may draw -/
section
variable {prog : Program} {w : World} {A : Around} {E : Value → Shared → Prop} {s : Shared} {env : Env} {h₀ : Heap} {target : Expr} {body : List Stmt} {Q : Flow → Shared → Prop}
noncomputable def OnceEnd (h₀ : Heap) (L : Addr) (s : Shared) (q : Addr × Obj) (p : Addr × Obj) (Q : Flow → Shared → Prop) (s₃ : Shared) : Prop :=
  ∃ h₂ d tk m' news', s₃ = { s with heap := h₂, drawn := d, toks := tk } ∧ Fr h₀ L h₂ m' ∧ News h₀ L h₂ (q :: news') ∧ p ∈ news' ∧ (∀ x ∈ news', x.1 ≠ q.1) ∧
    ∀ h₃ tk₃, Fr h₀ L h₃ m' → News h₀ L h₃ news' → Q .next { s with heap := h₃, drawn := d, toks := tk₃ }
noncomputable def OncePost (h₀ : Heap) (L : Addr) (s : Shared) (q : Addr × Obj) (p : Addr × Obj) (Q : Flow → Shared → Prop) (f : Flow) (s₃ : Shared) : Prop :=
  match f with
  | .ret v => Q (.ret v) s₃
  | .brk => Q .next s₃
  | _ => OnceEnd h₀ L s q p Q s₃
theorem OnceEnd.intro {L : Addr} {h₂ : Heap} {d : Drawn} {tk : Nat} {q p : Addr × Obj} {m' : Str → Option Value} {all : List (Addr × Obj)} (F : Fr h₀ L h₂ m') (N : News h₀ L h₂ all) (news' : List (Addr × Obj)) (sub : ∀ x ∈ q :: news', x ∈ all) (hp : p ∈ news') (off : ∀ x ∈ news', x.1 ≠ q.1)
    (r : ∀ h₃ tk₃, Fr h₀ L h₃ m' → News h₀ L h₃ news' → Q .next { s with heap := h₃, drawn := d, toks := tk₃ }) : OnceEnd h₀ L s q p Q { s with heap := h₂, drawn := d, toks := tk } :=
  ⟨h₂, d, tk, m', news', rfl, F, fun x hx => N x (sub x hx), hp, off, r⟩
theorem OncePost.next {L : Addr} {h₂ : Heap} {d : Drawn} {tk : Nat} {q p : Addr × Obj} {m' : Str → Option Value} {all : List (Addr × Obj)} (F : Fr h₀ L h₂ m') (N : News h₀ L h₂ all) (news' : List (Addr × Obj)) (sub : ∀ x ∈ q :: news', x ∈ all) (hp : p ∈ news') (off : ∀ x ∈ news', x.1 ≠ q.1)
    (r : ∀ h₃ tk₃, Fr h₀ L h₃ m' → News h₀ L h₃ news' → Q .next { s with heap := h₃, drawn := d, toks := tk₃ }) : OncePost h₀ L s q p Q .next { s with heap := h₂, drawn := d, toks := tk } := OnceEnd.intro F N news' sub hp off r
theorem for_once {l : Addr} {v : Value} {n : Nat} {m : Str → Option Value} {news : List (Addr × Obj)} (hh : A.handled = none) (F : Fr h₀ env.locals s.heap m) (N : News h₀ env.locals s.heap news)
    (hm : (l, ({ cls := .type "list", data := .seq (List.toArray [v]) n } : Obj)) ∈ news) (hE : PassesOwn (model prog w) A env E)
    (step : ∀ I oI h', (∀ p ∈ news, p.1 < I) → Fr h₀ env.locals h' m → News h₀ env.locals h' ((I, oI) :: news) →
      wpAny (model prog w) A (assign target env v) (fun _ s₂ => wpAny (model prog w) A (execs body env) (OncePost h₀ env.locals s (I, oI) (l, { cls := .type "list", data := .seq (List.toArray [v]) n }) Q) E s₂) E { s with heap := h' }) :
    wpAny (model prog w) A (pyIter (.ref l)) (fun it s₂ => codeAny (model prog w) A (.forLoop target it body [] env) (fun r s' => match r with | .ok f => Q f s' | .error e => cameBackBy (model prog w) A env E e s') s₂) E s := by
  have hl : s.heap.IsList l (List.toArray [v]) := ⟨_, (N _ hm).1, rfl, n, rfl⟩
  refine wpAny_pyIter_list hl ?_
  have hlt : l < s.heap.objs.size := Heap.lt_size (N _ hm).1
  have hne : l ≠ s.heap.objs.size := Nat.ne_of_lt hlt
  have hLlt : env.locals < s.heap.objs.size := F.ns.lt
  have F1 := F.push { cls := .type "list_iterator", data := .fields #[.ref l, .int 0 0] }
  have N1 : News h₀ env.locals (s.heap.push { cls := .type "list_iterator", data := .fields #[.ref l, .int 0 0] }) news := fun p hp => ⟨Heap.get?_push_of_some _ (N p hp).1, (N p hp).2⟩
  have hI0 : h₀.get? s.heap.objs.size = none := next_is_new F
  have hit : (s.heap.push { cls := .type "list_iterator", data := .fields #[.ref l, .int 0 0] }).IsListIter s.heap.objs.size l 0 := ⟨_, Heap.get?_push_size _ rfl, rfl, rfl⟩
  have hl1 : (s.heap.push { cls := .type "list_iterator", data := .fields #[.ref l, .int 0 0] }).IsList l (List.toArray [v]) := hl.at fun o e => Heap.get?_push_of_some _ e
  have hnl : ∀ p ∈ news, p.1 ≠ s.heap.objs.size := fun p hp => Nat.ne_of_lt (Heap.lt_size (N p hp).1)
  refine codeAny_forLoop_any (fun k s' => (k = 2 ∧ s' = { s with heap := s.heap.push { cls := .type "list_iterator", data := .fields #[.ref l, .int 0 0] } }) ∨
    (k = 1 ∧ ∃ oI : Obj, oI.cls = .type "list_iterator" ∧ oI.data = .fields #[.ref l, .int (1 : Nat) 0] ∧ OnceEnd h₀ env.locals s (s.heap.objs.size, oI) (l, { cls := .type "list", data := .seq (List.toArray [v]) n }) Q s')) ?_ 2 (.inl ⟨rfl, rfl⟩)
  rintro k s' (⟨rfl, rfl⟩ | ⟨rfl, oI, hoc, hod, h₂, d, tk, m', news', rfl, F', N', hp', off', r'⟩)
  · refine wpAny_pyNext_list_item hit hl1 (x := v) (by simp) fun h' hit' hs' => ?_
    have keep : ∀ b o, b ≠ s.heap.objs.size → (s.heap.push { cls := .type "list_iterator", data := .fields #[.ref l, .int 0 0] }).get? b = some o → h'.get? b = some o := fun b o hb e => hs'.extBut b o hb e
    refine letGo_listiter hit' ?_
    obtain ⟨oI, ho, hoc, hod⟩ := hit'
    have F2 : Fr h₀ env.locals h' m := ⟨F1.ns.extBut hs'.extBut (Nat.ne_of_lt hLlt), fun b o e => keep b o (fun q => by rw [q, hI0] at e; cases e) (F1.keep b o e), F1.above⟩
    have N2 : News h₀ env.locals h' ((s.heap.objs.size, oI) :: news) := fun p hp => by
      rcases List.mem_cons.mp hp with rfl | hp
      · exact ⟨ho, (Nat.ne_of_lt hLlt).symm, hI0⟩
      · exact ⟨keep _ _ (hnl p hp) (N1 p hp).1, (N1 p hp).2⟩
    refine wpAny_passesOwn hE (wpAny_mono (step s.heap.objs.size oI h' (fun p hp => Heap.lt_size (N p hp).1) F2 N2) (fun _ s₂ h₂ => wpAny_passesOwn hE (wpAny_mono h₂ (fun f s₃ h₃ => ?_) fun _ _ e => e)) fun _ _ e => e)
    cases f with
    | ret v => exact h₃
    | brk => exact h₃
    | next => exact ⟨1, by decide, .inr ⟨rfl, oI, hoc, hod, h₃⟩⟩
    | cont => exact ⟨1, by decide, .inr ⟨rfl, oI, hoc, hod, h₃⟩⟩
  · have hI2 : h₂.IsListIter s.heap.objs.size l 1 := ⟨oI, (N' _ List.mem_cons_self).1, hoc, hod⟩
    have hl2 : h₂.IsList l (List.toArray [v]) := ⟨_, (N' _ (List.mem_cons_of_mem _ hp')).1, rfl, n, rfl⟩
    refine wpAny_pyNext_list_end hh hI2 hl2 (by simp) fun h' he' => wpAny_execs_nil ?_
    refine r' h' _ ⟨F'.ns.extBut he' ?_, fun b o e => he' b o (fun q => ?_) (F'.keep b o e), F'.above⟩ fun p hp => ⟨he' _ _ (off' p hp) (N' p (List.mem_cons_of_mem _ hp)).1, (N' p (List.mem_cons_of_mem _ hp)).2⟩
    · exact Nat.ne_of_lt hLlt
    · rw [q, hI0] at e; cases e
noncomputable def OnceAt (prog : Program) (w : World) (A : Around) (E : Value → Shared → Prop) (env : Env) (h₀ : Heap) (target : Expr) (body : List Stmt) (Q : Flow → Shared → Prop) (xv : Value) (s₁ : Shared) : Prop :=
  ∃ l v n m news, xv = .ref l ∧ A.handled = none ∧ Fr h₀ env.locals s₁.heap m ∧ News h₀ env.locals s₁.heap news ∧ (l, ({ cls := .type "list", data := .seq (List.toArray [v]) n } : Obj)) ∈ news ∧
      ∀ I oI h', (∀ p ∈ news, p.1 < I) → Fr h₀ env.locals h' m → News h₀ env.locals h' ((I, oI) :: news) →
        wpAny (model prog w) A (assign target env v) (fun _ s₂ => wpAny (model prog w) A (execs body env) (OncePost h₀ env.locals s₁ (I, oI) (l, { cls := .type "list", data := .seq (List.toArray [v]) n }) Q) E s₂) E { s₁ with heap := h' }
theorem For_once {iter : Expr} {pos : Pos} {m : Str → Option Value} (_F : Fr h₀ env.locals s.heap m)
    (h : wpAny (model prog w) A (eval iter env) (OnceAt prog w A E env h₀ target body Q) E s)
    (hs : ∀ x, foldedSetIterable iter env x = pure x := by intro _; rfl)
    (hE : PassesOwn (model prog w) A env E := by passes_own) :
    wpAny (model prog w) A (exec (.For target iter body [] pos) env) Q E s := by
  refine wpAny_For (wpAny_mono h (fun xv s₁ h₁ => ?_) fun _ _ e => e) hs
  obtain ⟨l, v, n, m, news, rfl, hh, F, N, hm, st⟩ := h₁
  exact for_once hh F N hm hE st
end
section
variable {prog : Program} {w : World} {A : Around} {E : Value → Shared → Prop} {s : Shared} {h₀ : Heap} {L : Addr} {m : Str → Option Value} {env : Env}
noncomputable def NBack (h₀ : Heap) (L : Addr) (m : Str → Option Value) (s : Shared) (led : List (Addr × Obj)) (ok : Bool) (s₃ : Shared) : Prop := ok = false ∧ ∃ h' tk', s₃ = { s with heap := h', toks := tk' } ∧ Fr h₀ L h' m ∧ News h₀ L h' led
/-- a comprehension with a test that leaves every item out -/
theorem z_none {elt : Expr} {x : Str} {px : Pos} {ifs : List Expr} {scope : Scope} {cl : List (Str × Addr)} {S : List (Addr × Obj) → Prop} {X : Env → Value → Shared → Prop} {Fin : List Value → List (Addr × Obj) → Prop} {news : List (Addr × Obj)} {ys₀ : List Value}
    (hx : scope.names.lookup x = some .local) (hkind : scope.kind = .function) (hS : S news) : ∀ (vs : List Value)
    (_he : ∀ v ∈ vs, ∀ I oI C oC D oD m₂ h tk, LCg.NsObj oC m₂ → m₂ x = some v → Fr h₀ L h m → News h₀ L h ((I, oI) :: (C, oC) :: (D, oD) :: news) → LCg.Off3 I C D news → ((@Ne Nat I C) ∧ (@Ne Nat I D) ∧ (@Ne Nat C D)) →
      wpAny (model prog w) A (zTests ifs (compEnvC scope cl C env)) (NBack h₀ L m s ((I, oI) :: (C, oC) :: (D, oD) :: news)) (X (compEnvC scope cl C env)) { s with heap := h, toks := tk })
    (_hf : Fin ys₀ news), CRest prog w A h₀ L m env elt (.Name x px) ifs scope cl s S X Fin (eqs vs) ys₀ news
  | [], _, hf => hf
  | v :: vs, he, hf => by
    rintro v' I oI C oC D m₂ hh tk rfl hC F N off ne hS'
    refine c_store hx hkind hC F N off ne fun h₃ oC₃ tk₃ hC₃ F₃ N₃ => ?_
    refine wpAny_mono (he v' List.mem_cons_self I oI C oC₃ D _ _ h₃ tk₃ hC₃ (by simp) F₃ N₃ off ne) (fun ok s₄ h₄ => ?_) fun _ _ e => e
    obtain ⟨rfl, h', tk', rfl, F', N'⟩ := h₄
    simp only [Bool.false_eq_true, if_false]
    exact ⟨h', tk', oC₃, _, news, rfl, F', hC₃, N', off, hS, z_none hx hkind hS vs (fun u hu => he u (List.mem_cons_of_mem _ hu)) hf⟩
end
section
variable {prog : Program} {w : World} {A : Around} {E : Value → Shared → Prop} {s : Shared} {h₀ : Heap} {L : Addr} {m : Str → Option Value} {news : List (Addr × Obj)} {Q : Value → Shared → Prop}
theorem r_neNil {D D' : Addr} {n n' : Nat} (N : News h₀ L s.heap news) (hm : (D, ({ cls := .type "list", data := .seq (([] : List Value).toArray) n } : Obj)) ∈ news) (hm' : (D', ({ cls := .type "list", data := .seq (([] : List Value).toArray) n' } : Obj)) ∈ news) (hu : A.units + 64 < cLine) (h : Q (.bool false) s) :
    wpAny (model prog w) A (compareOp .NotEq (.ref D) (.ref D')) Q E s :=
  ne_dataH (reads_lstN N hm ra_nil) (reads_lstN N hm' ra_nil) (by decide +kernel) (by decide +kernel) hu h
end
end Mine
end
section
open PySem PySem.W PyProof.Rows PySem.Spec PySem.Calls
namespace Mine
local macro_rules | `(tactic| tb_start) => `(tactic| first | exact List.Mem.head _ | (refine List.mem_cons_of_mem _ ?_; tb_start) | ktr_member | (ktn_app; first | (refine List.mem_append.mpr (Or.inl ?_); tb_start) | (refine List.mem_append.mpr (Or.inr ?_); tb_start)))
local macro_rules | `(tactic| k_mem) => `(tactic| tb_start)
local macro_rules | `(tactic| news_mem) => `(tactic| k_mem)
local macro_rules | `(tactic| k_all) => `(tactic| first | assumption | exact allNe1 (by assumption) | exact allNe2 (by assumption) | exact allNe3 (by assumption))
local macro_rules | `(tactic| ke_room) => `(tactic| ktr_units)
local macro_rules | `(tactic| ke_shaped) => `(tactic| first | assumption | rfl | decide)
local macro_rules | `(tactic| size_fits) => `(tactic| exact Nat.le_of_ble_eq_true rfl)
local macro_rules | `(tactic| ktr_room) => `(tactic| ((try dsimp only [depth_under_make, depth_under_kw, depth_in1, depth_deeper, depth_caller, ktrTop]); first | exact room_kid (by with_reducible assumption) (by with_reducible assumption) rfl | ktr_units))
local macro_rules | `(tactic| ktr_units) => `(tactic| ((try dsimp only [units_in1, units_deeper, Around.mark_units, units_caller, ktrTop]); first | exact units_kid (by with_reducible assumption) (by with_reducible assumption) rfl | (refine Nat.lt_of_le_of_lt ?_ (by with_reducible assumption); first | exact Nat.le_refl _ | (simp +arith only; done))))
local macro_rules | `(tactic| ktd_sub) => `(tactic| ((repeat (first | exact mv0 | refine mvS ?_)); done))
local macro_rules | `(tactic| k_updF) => `(tactic| (refine' updF_app ?a ?b; (case a => assumption); (case b => k_updF)))
section
example : True := by (w_top off); trivial
open PySem PySem.W PyProof.Rows PySem.Spec PySem.Calls
noncomputable abbrev beltO (c : Addr) (k : Int) (tk : Tok) (n : Nat) : Obj := { cls := .type "list", data := .seq #[.ref c, .int k tk] n }
noncomputable abbrev cellsO (vs : List Value) (n : Nat) : Obj := { cls := .type "list", data := .seq vs.toArray n }
theorem feedC (w : World) (mean : ExcName → Option Value) (mg mb : Str → Option Value) (b c : Addr) (k many : Int) (tk tk2 : Tok) (n n' : Nat) (vs : List Value) (ns : List Int) (rest : List (Addr × Obj))
    (hI : IntsAre vs ns) (hns : ∀ i ∈ ns, 0 ≤ i ∧ i < 1000003) (hl : ns.length ≤ 50) (hk0 : 0 ≤ k) (hk : k < 100) (hm0 : 0 < many) (hm : many < 100) (hc : (c, cellsO vs n') ∈ rest) (hoff : ∀ p ∈ rest, p.1 ≠ b) :
    Con w mean mg mb 193 1 [.ref b, .int many tk2] ((b, beltO c k tk n) :: rest) (fun r news' => (∃ tk' n'', news' = (b, beltO c (k + 1) tk' n'') :: rest) ∧ ∃ i tk', r = .int i tk' ∧ 0 ≤ i ∧ i < many) := by
  unfold Con
  k_fill
  intro dp un gd cn cs a ccd cl outer A₀ base h₀ L m s Q E B F X N T hkf hd hu hret
  refine wpAny_call ?_
  k_dflt (first | (refine' code_def (by k_asm) (by k_asm) (by k_asm) (by k_asm) (by k_asm) rfl rfl (by first | assumption | exact rfl) (by k_is) (by k_is) (by ktr_room) (by exact BindsTo.of_eq rfl) (by exact locs rfl) ?_ (by exact rfl) (by exact rfl) (by exact rfl) (by decide); k_whole; intro g8 L8 h8 FG8 F8 N8 B8 X8 T8; (try dsimp only); (try k_fold)) | (refine' code_defC (by k_asm) (by k_asm) (by k_asm) (by k_asm) (by k_asm) rfl rfl (by first | assumption | exact rfl) (by k_is) (by k_is) (by ktr_room) (by exact BindsTo.of_eq rfl) (by exact rfl) (by decide +kernel) ?_ (by exact rfl) (by exact rfl) (by exact rfl); k_whole; intro g8 L8 h8 tk8 cells8 FG8 F8 N8 Y8 B8 X8 T8 l8; (try k_lt l8); k_cells Y8; (try simp only [List.cons_append, List.nil_append] at N8); (try dsimp only); (try k_fold)))
  (repeat' (first | (k_unfold; (try dsimp only)) | walk1 | (dsimp only; walk1) | (leave1; (try dsimp only))))
  all_goals exact hret _ _ _ _ (by k_asm) (by k_asm) ⟨⟨_, _, rfl⟩, _, _, rfl, Int.fmod_nonneg_of_pos _ hm0, Int.fmod_lt_of_pos _ hm0⟩
theorem feed_use {w : World} {mean : ExcName → Option Value} {mg mb : Str → Option Value} {b c : Addr} {k many : Int} {tk tk2 : Tok} {n n' : Nat} {vs : List Value} {ns : List Int} {rest news₁ : List (Addr × Obj)}
    {dp un : Nat} {gd : Option (List Code)} {cn : Str} {cs : Scope} {a : Addr} {ccd : Value} {cl : List (Str × Addr)} {outer : List Env} {A₀ : Around} {base h₀ : Heap} {L : Addr} {m : Str → Option Value} {s : Shared} {Q E : Value → Shared → Prop}
    (hI : IntsAre vs ns) (hns : ∀ i ∈ ns, 0 ≤ i ∧ i < 1000003) (hl : ns.length ≤ 50)
    (B : Below A₀ base outer h₀) (F : Fr h₀ L s.heap m) (X : (hd.heap_1 w.params).In h₀) (N : News h₀ L s.heap news₁) (T' : Top hd.view_39 lse mean mg mb h₀)
    (hs : ∀ p ∈ (b, beltO c k tk n) :: rest, p ∈ news₁) (hc : (c, cellsO vs n') ∈ rest) (hoff : ∀ p ∈ rest, p.1 ≠ b) (hk0 : 0 ≤ k) (hk : k < 100) (hm0 : 0 < many) (hm : many < 100)
    (hkf : cs.kind = .function) (hd : dp + 1 < recursionLimit) (hu : un + 8 * 1 < cLine)
    (ret : ∀ i tk' n'' tk'' h' tk₃, Fr h₀ L h' m → News h₀ L h' ((b, beltO c (k + 1) tk' n'') :: rest) → 0 ≤ i → i < many → Q (.int i tk'') { s with heap := h', toks := tk₃ }) :
    wpAny (model PySem.Challenge.rw_sa0020_01.row.toRowW.prog w) (ktrTop dp un gd cn cs L a ccd cl outer) (call (.ref 193) [.ref b, .int many tk2]) Q E s :=
  con_use (feedC w mean mg mb b c k many tk tk2 n n' vs ns rest hI hns hl hk0 hk hm0 hm hc hoff) B F X N T' hs hkf hd hu fun r news' h' tk' F' N' hP => by
    obtain ⟨⟨t1, n1, rfl⟩, i, t2, rfl, h0, h1⟩ := hP
    exact ret _ _ _ _ _ _ F' N' h0 h1
end
section
example : True := by (w_top off); trivial
open PySem PySem.W PyProof.Rows PySem.Spec PySem.Calls
noncomputable def WorthC (w : World) (mean : ExcName → Option Value) (mg mb : Str → Option Value) (t : Tr) : Prop :=
  ∀ (T : List (Str × Bool)) (td : Addr) (news : List (Addr × Obj)) (v : Value), TIn news v t → ToldIn w news td T → t.over layS → t.dep ≤ 30 →
    Con w mean mg mb 215 (2 * t.dep + 10) [v, .ref td] news (fun r news' => news' = news ∧ r = optVal (worth T t))
/-- is op over n parts one of the four -/
noncomputable def isOp (op : Str) (n : Int) : Bool := (op == sAnd && n == 2) || (op == sOr && n == 2) || (op == sImp && n == 2) || (op == sNot && n == 1)
theorem r_ops {w : World} {A : Around} {E : Value → Shared → Prop} {s : Shared} {h₀ : Heap} {L : Addr} {m : Str → Option Value} {news : List (Addr × Obj)} {Q : Value → Shared → Prop} {D : Addr} {op : Str} {i : Int} {tk tk' : Tok} {k : Nat}
    (F : Fr h₀ L s.heap m) (X : (hd.heap_1 w.params).In h₀) (N : News h₀ L s.heap news) (hm : (D, tupO [.str op tk, .int i tk'] k) ∈ news) (hop : layS op) (hi : i.natAbs < 100) (hu : A.units + 64 < cLine)
    (h : Q (.bool (!isOp op i)) s) : wpAny (model PySem.Challenge.rw_sa0020_01.row.toRowW.prog w) A (compareOp .NotIn (.ref D) (.ref 169)) Q E s := by
  revert X h
  k_fill
  intro X h
  have one : ∀ (a : Addr) (o : Obj), (hd.heap_1 w.params).lookup a = some o → s.heap.get? a = some o := fun a o e => F.keep _ _ (X a o e)
  have r165 := one 165 _ (by k_is)
  have r166 := one 166 _ (by k_is)
  have r167 := one 167 _ (by k_is)
  have r168 := one 168 _ (by k_is)
  have r169 := one 169 _ (by k_is)
  have rr : Reads s.heap (.ref 169) (.tuple [.tuple [.str sAnd, .int 2], .tuple [.str sOr, .int 2], .tuple [.str sImp, .int 2], .tuple [.str sNot, .int 1]]) [] := by
    refine .tuple (as := []) r169 rfl rfl (ra_cons ?_ (ra_cons ?_ (ra_cons ?_ (ra_cons ?_ ra_nil))))
    · exact .tuple (as := []) r165 rfl rfl (ra_cons (.str _ _) (ra_cons (.int _ _) ra_nil))
    · exact .tuple (as := []) r166 rfl rfl (ra_cons (.str _ _) (ra_cons (.int _ _) ra_nil))
    · exact .tuple (as := []) r167 rfl rfl (ra_cons (.str _ _) (ra_cons (.int _ _) ra_nil))
    · exact .tuple (as := []) r168 rfl rfl (ra_cons (.str _ _) (ra_cons (.int _ _) ra_nil))
  refine r_notinT rr (reads_tupN N hm (ra_cons (.str _ _) (ra_cons (.int _ _) ra_nil))) (by decide +kernel) ?_ ?_ hu ?_
  · simp only [layS] at hop
    simp only [PyData.canLay0, PyData.canLayAll0, Bool.and_true] at *
    rw [hop]
  · simp [PyData.depth, PyData.depthAll]
  · have e : ([PyData.tuple [.str sAnd, .int 2], .tuple [.str sOr, .int 2], .tuple [.str sImp, .int 2], .tuple [.str sNot, .int 1]].any fun y => PyData.eqv y (.tuple [.str op, .int i])) = isOp op i := by
      simp only [List.any_cons, List.any_nil, PyData.eqv, PyData.eqvAll, Bool.and_true, Bool.or_false, isOp]
      have c : ∀ a b : Str, (a == b) = (b == a) := fun a b => Bool.beq_comm
      have c' : ∀ a b : Int, (a == b) = (b == a) := fun a b => Bool.beq_comm
      rw [c sAnd op, c sOr op, c sImp op, c sNot op, c' 2 i, c' 1 i]
      simp only [Bool.or_assoc]
    rw [e]; exact h
theorem len_one {α : Type} {l : List α} (h : l.length = 1) : ∃ a, l = [a] := by
  cases l with
  | nil => simp at h
  | cons a r => exact ⟨a, by rw [List.eq_nil_of_length_eq_zero (Nat.succ.inj h)]⟩
theorem len_two {α : Type} {l : List α} (h : l.length = 2) : ∃ a b, l = [a, b] := by
  cases l with
  | nil => simp at h
  | cons a r =>
    obtain ⟨b, rfl⟩ := len_one (Nat.succ.inj h)
    exact ⟨a, b, rfl⟩
theorem isOp_ws {op : Str} {ws : List (Option Bool)} (h : isOp op ((ws.map optVal).length : Nat) = true) (hn : ws.any Option.isNone = false) :
    (op = sAnd ∧ ∃ x y, ws = [some x, some y]) ∨ (op = sOr ∧ ∃ x y, ws = [some x, some y]) ∨ (op = sImp ∧ ∃ x y, ws = [some x, some y]) ∨ (op = sNot ∧ ∃ x, ws = [some x]) := by
  have two : ((ws.map optVal).length : Nat) = 2 → ∃ x y, ws = [some x, some y] := by
    intro e
    rw [List.length_map] at e
    obtain ⟨a, b, rfl⟩ := len_two e
    cases a <;> cases b <;> simp at hn
    exact ⟨_, _, rfl⟩
  have one : ((ws.map optVal).length : Nat) = 1 → ∃ x, ws = [some x] := by
    intro e
    rw [List.length_map] at e
    obtain ⟨a, rfl⟩ := len_one e
    cases a <;> simp at hn
    exact ⟨_, rfl⟩
  simp only [isOp, Bool.or_eq_true, Bool.and_eq_true, beq_iff_eq] at h
  rcases h with ((⟨h1, h2⟩ | ⟨h1, h2⟩) | ⟨h1, h2⟩) | ⟨h1, h2⟩
  · exact .inl ⟨h1, two (by omega)⟩
  · exact .inr (.inl ⟨h1, two (by omega)⟩)
  · exact .inr (.inr (.inl ⟨h1, two (by omega)⟩))
  · exact .inr (.inr (.inr ⟨h1, one (by omega)⟩))
theorem worth_use {w : World} {mean : ExcName → Option Value} {mg mb : Str → Option Value} {k : Tr} {T : List (Str × Bool)} {td : Addr} {v : Value} {news news₁ : List (Addr × Obj)}
    {dp un : Nat} {gd : Option (List Code)} {cn : Str} {cs : Scope} {a : Addr} {ccd : Value} {cl : List (Str × Addr)} {outer : List Env} {A₀ : Around} {base h₀ : Heap} {L : Addr} {m : Str → Option Value} {s : Shared} {Q E : Value → Shared → Prop}
    (C : WorthC w mean mg mb k) (hT : TIn news v k) (hD : ToldIn w news td T) (hs : ∀ p ∈ news, p ∈ news₁) (hov : k.over layS) (hdp : k.dep ≤ 30)
    (B : Below A₀ base outer h₀) (F : Fr h₀ L s.heap m) (X : (hd.heap_1 w.params).In h₀) (N : News h₀ L s.heap news₁) (T' : Top hd.view_39 lse mean mg mb h₀) (hk : cs.kind = .function) (hd : dp + (2 * k.dep + 10) < recursionLimit) (hu : un + 8 * (2 * k.dep + 10) < cLine)
    (ret : ∀ h' tk', Fr h₀ L h' m → News h₀ L h' news₁ → Q (optVal (worth T k)) { s with heap := h', toks := tk' }) :
    wpAny (model PySem.Challenge.rw_sa0020_01.row.toRowW.prog w) (ktrTop dp un gd cn cs L a ccd cl outer) (call (.ref 215) [v, .ref td]) Q E s :=
  con_use (C T td news₁ v (hT.mono hs) (hD.mono hs) hov hdp) B F X N T' (fun _ h => h) hk hd hu fun r news' h' tk' F' N' hP => by
    obtain ⟨rfl, rfl⟩ := hP
    exact ret h' tk' F' N'
theorem TIns.pairs {news : List (Addr × Obj)} {vs : List Value} {ks : List Tr} (h : TIns news vs ks) (f : Tr → Option Value) : ∃ ps : List (Value × Option Value), ps.map (·.1) = vs ∧ ps.map (·.2) = ks.map f ∧ ∀ q ∈ ps, ∃ k ∈ ks, TIn news q.1 k ∧ q.2 = f k := by
  induction h with
  | nil => exact ⟨[], rfl, rfl, fun _ h => nomatch h⟩
  | @cons v t vs ts x _ ih =>
    obtain ⟨ps, e1, e2, hq⟩ := ih
    refine ⟨(v, f t) :: ps, by simp [e1], by simp [e2], fun q hm => ?_⟩
    rcases List.mem_cons.mp hm with rfl | hm
    · exact ⟨t, List.mem_cons_self, x, rfl⟩
    · obtain ⟨k, hk, r⟩ := hq q hm
      exact ⟨k, List.mem_cons_of_mem _ hk, r⟩
theorem worth_leaf_true {T : List (Str × Bool)} {t : Tr} (h : t.leaf sTrue = true) : worth T t = some true := by
  cases t <;> simp [Tr.leaf, Tr.op, Tr.kids, worth] at h ⊢
  intro h'; exact absurd h h'
theorem worth_leaf_false {T : List (Str × Bool)} {t : Tr} (h : t.leaf sFalse = true) : worth T t = some false := by
  cases t <;> simp [Tr.leaf, Tr.op, Tr.kids, worth] at h ⊢
  subst h; rw [if_neg (by decide +kernel), if_pos rfl]
theorem worthOf_nil {T : List (Str × Bool)} {t : Tr} {op : Str} (h1 : t.leaf sTrue = false) (h2 : t.leaf sFalse = false) (h3 : t.op = op) (h4 : ([] : List (Option Bool)) = [] → t.kids = []) : worthOf T op [] = T.lookup op := by
  have h4 := h4 rfl
  simp only [Tr.leaf, h3, h4, List.isEmpty_nil, Bool.and_true, beq_eq_false_iff_ne] at h1 h2
  rw [worthOf, if_neg h1, if_neg h2]
theorem worthOf_none {T : List (Str × Bool)} {op : Str} {ws : List (Option Bool)} (h : ws.any Option.isNone = true) (h0 : ws.isEmpty = false) : worthOf T op ws = none := by
  match ws, h with
  | [x], h => cases x <;> simp [worthOf, onot] at h ⊢
  | [x, y], h => cases x <;> cases y <;> simp [worthOf, oand, oor, oimp] at h ⊢
  | _ :: _ :: _ :: _, _ => rfl
theorem worthOf_noOp {T : List (Str × Bool)} {op : Str} {ws : List (Option Bool)} (h : isOp op ((ws.map optVal).length : Nat) = false) (h0 : ws.isEmpty = false) : worthOf T op ws = none := by
  match ws, h with
  | [x], h => simp [isOp] at h; simp [worthOf, h]
  | [x, y], h => simp [isOp] at h; simp [worthOf, h]
  | _ :: _ :: _ :: _, _ => rfl
theorem ne1 : ¬ sOr = sAnd := by decide +kernel
theorem ne2 : ¬ sImp = sAnd := by decide +kernel
theorem ne3 : ¬ sImp = sOr := by decide +kernel
theorem b_or : ∀ x y : Bool, (x && y || (x && !y || !x && y)) = (x || y) := by decide
theorem b_imp : ∀ x y : Bool, (x && y || (!x && y || !x && !y)) = (!x || y) := by decide
theorem b_not : ∀ x : Bool, (x == false) = !x := by decide
theorem isOp_ws2 {op : Str} {ws : List (Option Bool)} (h : isOp op ((ws.map optVal).length : Nat) = true) (hn : ws.any Option.isNone = false) :
    ((op = sAnd ∨ op = sOr ∨ op = sImp) ∧ (op == Str.ofString "not") = false ∧ ∃ x y, ws = [some x, some y]) ∨ (op = sNot ∧ (op == Str.ofString "not") = true ∧ ∃ x, ws = [some x]) := by
  rcases isOp_ws h hn with ⟨rfl, e⟩ | ⟨rfl, e⟩ | ⟨rfl, e⟩ | ⟨rfl, e⟩
  · exact .inl ⟨.inl rfl, by decide +kernel, e⟩
  · exact .inl ⟨.inr (.inl rfl), by decide +kernel, e⟩
  · exact .inl ⟨.inr (.inr rfl), by decide +kernel, e⟩
  · exact .inr ⟨rfl, by decide +kernel, e⟩
theorem r_strNe {prog : Program} {w : World} {A : Around} {E : Value → Shared → Prop} {s : Shared} {Q : Value → Shared → Prop} {a b : Str} {ta tb : Tok} {c : Bool} (h : (a == b) = c) (hQ : Q (.bool c) s) : wpAny (model prog w) A (compareOp .Eq (.str a ta) (.str b tb)) Q E s := by
  refine eq_str ?_
  rw [h]; exact hQ
theorem worth_step (w : World) (mean : ExcName → Option Value) (mg mb : Str → Option Value) (t : Tr) (IH : ∀ k, k.dep < t.dep → WorthC w mean mg mb k) : WorthC w mean mg mb t := by
  intro T td news v hT hD hov hdp
  obtain ⟨a, tk, n, vs, rfl, hm, hk⟩ := hT.view
  obtain ⟨op, hopE⟩ : ∃ op, t.op = op := ⟨_, rfl⟩
  rw [hopE] at hm
  have hkl := t.kids_le
  have hop := Tr.over_op hov
  rw [hopE] at hop
  have hvs : vs.length ≤ 1000 := by have := hk.length; have := t.kids_le; omega
  unfold Con
  k_fill
  intro dp un gd cn cs a' ccd cl outer A₀ base h₀ L m s Q E B F X N T' hkf hd hu hret
  refine wpAny_call ?_
  k_dflt (first | (refine' code_def (by k_asm) (by k_asm) (by k_asm) (by k_asm) (by k_asm) rfl rfl (by first | assumption | exact rfl) (by k_is) (by k_is) (by ktr_room) (by exact BindsTo.of_eq rfl) (by exact locs rfl) ?_ (by exact rfl) (by exact rfl) (by exact rfl) (by decide); k_whole; intro g8 L8 h8 FG8 F8 N8 B8 X8 T8; (try dsimp only); (try k_fold)) | (refine' code_defC (by k_asm) (by k_asm) (by k_asm) (by k_asm) (by k_asm) rfl rfl (by first | assumption | exact rfl) (by k_is) (by k_is) (by ktr_room) (by exact BindsTo.of_eq rfl) (by exact rfl) (by decide +kernel) ?_ (by exact rfl) (by exact rfl) (by exact rfl); k_whole; intro g8 L8 h8 tk8 cells8 FG8 F8 N8 Y8 B8 X8 T8 l8; (try k_lt l8); k_cells Y8; (try simp only [List.cons_append, List.nil_append] at N8); (try dsimp only); (try k_fold)))
  (repeat' (first | (k_unfold; (try dsimp only)) | ((with_reducible show wpAny _ _ (getItem (Value.ref _) (Value.str _ _)) _ _ _); (rename _ = sAnd ∨ _ = sOr ∨ _ = sImp => hz9); rcases hz9 with hz9 | hz9 | hz9 <;> rw [hz9]) | ((with_reducible show wpAny _ _ (subscriptTail (Expr.Name _ _) (Expr.Slice _ _ _ _) (Value.ref _) (Value.ref _)) _ _ _); k_here; k_dflt (refine r_slice1 (by k_asm) (by k_asm) (by k_mem) (by (first | assumption | exact Nat.le_of_ble_eq_true rfl | omega | (simp only [List.length_cons, List.length_nil, List.length_append, List.length_map]; omega))) ?_ (by with_unfolding_all rfl) (by intro _; with_unfolding_all rfl)); intro D9 h9 F9 N9 l9; (try k_lt l9); (try dsimp only)) | ((with_reducible show wpAny _ _ (subscriptTail (Expr.Name _ _) (Expr.Constant _ _ _) (Value.ref _) (Value.int _ _)) _ _ _); k_here; k_dflt refine r_item0 (by k_asm) (by k_mem) ?_ (by with_unfolding_all rfl)) | ((with_reducible show wpAny _ _ (compareOp CmpOp.Eq (Value.ref _) (Value.ref _)) _ _ _); k_here; k_dflt (first | refine r_eqNil (by k_asm) (by k_mem) (by k_mem) (by first | assumption | ktr_units) ?_ | refine r_eqLeaf (by k_asm) (by assumption) (by ktd_sub) (by assumption) (by assumption) (by k_mem) (by (unfold layS; decide +kernel)) (by first | assumption | ktr_units) ?_)) | ((with_reducible show wpAny _ _ (exec (Stmt.Assign _ (Expr.ListComp _ _ _ _) _) _) _ _ _); k_here; k_dflt (refine z_Assign (by k_asm) (by rfl) (by with_unfolding_all rfl) (by rfl) (by decide) (by rfl) (by decide) (by rfl) (by rfl) ?_ (by intro _; rfl) (by intro _ _ _ _ _ n9 h9; first | exact own_name n9 h9 | exact own_tuple n9 h9))) | ((with_reducible show wpAny _ _ (call (Value.builtin "dict.get") _) _ _ _); k_here; k_dflt (refine r_get (by k_asm) (ToldIn.mono (by assumption) (by ktd_sub)) ?_)) | ((with_reducible show wpAny _ _ (getMethod (Value.ref _) _ _) _ _ _); k_here; k_dflt (refine r_getM (by k_asm) (ToldIn.mono (by assumption) (by ktd_sub)) ?_)) | (k_here; (with_reducible show wpAny _ _ (compareOp CmpOp.In Value.none (Value.ref _)) _ _ _); k_dflt (refine r_noneIn (by k_asm) (by k_mem) (by first | assumption | ktr_units) ?_)) | (k_here; (with_reducible show wpAny _ _ (call (Value.builtin "len") [Value.ref _]) _ _ _); k_dflt (first | refine r_lenL (by k_asm) (by k_mem) (by (first | assumption | exact Nat.le_of_ble_eq_true rfl | omega | (simp only [List.length_cons, List.length_nil, List.length_append, List.length_map]; omega))) ?_ | refine r_lenT (by k_asm) (by k_mem) (by (first | assumption | exact Nat.le_of_ble_eq_true rfl | omega | (simp only [List.length_cons, List.length_nil, List.length_append, List.length_map]; omega))) ?_); (try dsimp only)) | ((with_reducible show wpAny _ _ (compareOp CmpOp.In (Value.ref _) (Value.ref _)) _ _ _); k_here; k_dflt (refine r_inL (by ke_read) (by ke_read) (by rfl) (by rfl) (by simp [PyData.depth, PyData.depthAll]) (by first | assumption | ktr_units) ?_); (try simp only [List.any_cons, List.any_nil, PyData.eqv, PyData.eqvAll, Bool.and_true, Bool.or_false])) | walk1 | (dsimp only; walk1) | (leave1; (try dsimp only))))
  · refine hret _ _ _ _ (by k_asm) (News.sub (by k_asm) (by ktd_sub)) ⟨rfl, ?_⟩
    (rename t.leaf _ = true => hl)
    rw [worth_leaf_true hl, hl]; rfl
  · refine hret _ _ _ _ (by k_asm) (News.sub (by k_asm) (by ktd_sub)) ⟨rfl, ?_⟩
    (rename t.leaf sFalse = true => hl)
    (rename t.leaf sTrue = false => hl2)
    rw [worth_leaf_false hl, hl2]; rfl
  refine Exists.elim (hk.pairs fun k => some (optVal (worth T k))) fun ps h9 => and3 h9 fun e1 e2 hq => ?_
  (rename Fr _ _ _ _ => FF)
  (rename News _ _ _ _ => NN)
  refine ZSrc.tup rfl FF NN (SeqIn.tup (List.Mem.head _)) (by rw [sizeLine_eq]; omega) fun g => ?_
  clear FF NN
  rw [← e1]
  refine z_vals (by rfl) (by rfl) (SeqIn.tup (List.Mem.head _)) ps [] (fun q hqm => ?_) fun ys hys => ?_
  · refine Exists.elim (hq q hqm) fun k h9 => and3 h9 fun hkm hkT hkv => ?_
    have hkd := Tr.kids_dep hkm
    have hko := Tr.over_kids hov hkm
    intro I oI C oC D oD m₂ h tk hC hx F' N' off ne
    (repeat' (first | (k_unfold; (try dsimp only)) | ((with_reducible show wpAny _ _ (getItem (Value.ref _) (Value.str _ _)) _ _ _); (rename _ = sAnd ∨ _ = sOr ∨ _ = sImp => hz9); rcases hz9 with hz9 | hz9 | hz9 <;> rw [hz9]) | ((with_reducible show wpAny _ _ (subscriptTail (Expr.Name _ _) (Expr.Slice _ _ _ _) (Value.ref _) (Value.ref _)) _ _ _); k_here; k_dflt (refine r_slice1 (by k_asm) (by k_asm) (by k_mem) (by (first | assumption | exact Nat.le_of_ble_eq_true rfl | omega | (simp only [List.length_cons, List.length_nil, List.length_append, List.length_map]; omega))) ?_ (by with_unfolding_all rfl) (by intro _; with_unfolding_all rfl)); intro D9 h9 F9 N9 l9; (try k_lt l9); (try dsimp only)) | ((with_reducible show wpAny _ _ (subscriptTail (Expr.Name _ _) (Expr.Constant _ _ _) (Value.ref _) (Value.int _ _)) _ _ _); k_here; k_dflt refine r_item0 (by k_asm) (by k_mem) ?_ (by with_unfolding_all rfl)) | ((with_reducible show wpAny _ _ (compareOp CmpOp.Eq (Value.ref _) (Value.ref _)) _ _ _); k_here; k_dflt (first | refine r_eqNil (by k_asm) (by k_mem) (by k_mem) (by first | assumption | ktr_units) ?_ | refine r_eqLeaf (by k_asm) (by assumption) (by ktd_sub) (by assumption) (by assumption) (by k_mem) (by (unfold layS; decide +kernel)) (by first | assumption | ktr_units) ?_)) | ((with_reducible show wpAny _ _ (exec (Stmt.Assign _ (Expr.ListComp _ _ _ _) _) _) _ _ _); k_here; k_dflt (refine z_Assign (by k_asm) (by rfl) (by with_unfolding_all rfl) (by rfl) (by decide) (by rfl) (by decide) (by rfl) (by rfl) ?_ (by intro _; rfl) (by intro _ _ _ _ _ n9 h9; first | exact own_name n9 h9 | exact own_tuple n9 h9))) | ((with_reducible show wpAny _ _ (call (Value.builtin "dict.get") _) _ _ _); k_here; k_dflt (refine r_get (by k_asm) (ToldIn.mono (by assumption) (by ktd_sub)) ?_)) | ((with_reducible show wpAny _ _ (getMethod (Value.ref _) _ _) _ _ _); k_here; k_dflt (refine r_getM (by k_asm) (ToldIn.mono (by assumption) (by ktd_sub)) ?_)) | (k_here; (with_reducible show wpAny _ _ (compareOp CmpOp.In Value.none (Value.ref _)) _ _ _); k_dflt (refine r_noneIn (by k_asm) (by k_mem) (by first | assumption | ktr_units) ?_)) | (k_here; (with_reducible show wpAny _ _ (call (Value.builtin "len") [Value.ref _]) _ _ _); k_dflt (first | refine r_lenL (by k_asm) (by k_mem) (by (first | assumption | exact Nat.le_of_ble_eq_true rfl | omega | (simp only [List.length_cons, List.length_nil, List.length_append, List.length_map]; omega))) ?_ | refine r_lenT (by k_asm) (by k_mem) (by (first | assumption | exact Nat.le_of_ble_eq_true rfl | omega | (simp only [List.length_cons, List.length_nil, List.length_append, List.length_map]; omega))) ?_); (try dsimp only)) | ((with_reducible show wpAny _ _ (compareOp CmpOp.In (Value.ref _) (Value.ref _)) _ _ _); k_here; k_dflt (refine r_inL (by ke_read) (by ke_read) (by rfl) (by rfl) (by simp [PyData.depth, PyData.depthAll]) (by first | assumption | ktr_units) ?_); (try simp only [List.any_cons, List.any_nil, PyData.eqv, PyData.eqvAll, Bool.and_true, Bool.or_false])) | walk1 | (dsimp only; walk1) | (leave1; (try dsimp only))))
    k_dflt (refine' worth_use (IH k hkd) hkT hD ?c1 hko ?c2 ?c3 ?c4 ?c5 ?c6 ?c7 ?c8 ?c9 ?c10 ?_)
    case c6 => k_asm
    case c1 => ktd_sub
    case c2 => omega
    case c3 => k_asm
    case c4 => k_asm
    case c5 => k_asm
    case c7 => k_asm
    case c8 => exact rfl
    case c9 => ktr_room
    case c10 => ktr_units
    intro h' tk' F'' N''
    exact ⟨hkv, h', tk', rfl, F'', N''⟩
  · have hy : ys = (t.kids.map (worth T)).map optVal := by
      rw [e2] at hys
      have := congrArg (List.map fun o : Option Value => o.getD .none) hys
      simpa [List.map_map, Function.comp_def] using this.symm
    subst hy
    obtain ⟨ws, hws⟩ : ∃ ws, t.kids.map (worth T) = ws := ⟨_, rfl⟩
    have hwl : ws.length ≤ 3 := by rw [← hws, List.length_map]; exact hkl
    have hwo : worth T t = worthOf T op ws := by rw [worth_eq, hopE, hws]
    unfold LCg.FinA
    intro D h tk F' N' off
    simp only [List.nil_append] at N'
    rw [hws] at N'
    have hwk : ws = [] → t.kids = [] := fun e => by rw [← hws] at e; simpa using e
    clear hys hq e2 hws IH off
    have hlT : t.leaf sTrue = false := by assumption
    have hlF : t.leaf sFalse = false := by assumption
    (repeat' (first | (k_unfold; (try dsimp only)) | ((with_reducible show wpAny _ _ (getItem (Value.ref _) (Value.str _ _)) _ _ _); (rename _ = sAnd ∨ _ = sOr ∨ _ = sImp => hz9); rcases hz9 with hz9 | hz9 | hz9 <;> rw [hz9]) | ((with_reducible show wpAny _ _ (subscriptTail (Expr.Name _ _) (Expr.Slice _ _ _ _) (Value.ref _) (Value.ref _)) _ _ _); k_here; k_dflt (refine r_slice1 (by k_asm) (by k_asm) (by k_mem) (by (first | assumption | exact Nat.le_of_ble_eq_true rfl | omega | (simp only [List.length_cons, List.length_nil, List.length_append, List.length_map]; omega))) ?_ (by with_unfolding_all rfl) (by intro _; with_unfolding_all rfl)); intro D9 h9 F9 N9 l9; (try k_lt l9); (try dsimp only)) | ((with_reducible show wpAny _ _ (subscriptTail (Expr.Name _ _) (Expr.Constant _ _ _) (Value.ref _) (Value.int _ _)) _ _ _); k_here; k_dflt refine r_item0 (by k_asm) (by k_mem) ?_ (by with_unfolding_all rfl)) | ((with_reducible show wpAny _ _ (compareOp CmpOp.Eq (Value.ref _) (Value.ref _)) _ _ _); k_here; k_dflt (first | refine r_eqNil (by k_asm) (by k_mem) (by k_mem) (by first | assumption | ktr_units) ?_ | refine r_eqLeaf (by k_asm) (by assumption) (by ktd_sub) (by assumption) (by assumption) (by k_mem) (by (unfold layS; decide +kernel)) (by first | assumption | ktr_units) ?_)) | ((with_reducible show wpAny _ _ (exec (Stmt.Assign _ (Expr.ListComp _ _ _ _) _) _) _ _ _); k_here; k_dflt (refine z_Assign (by k_asm) (by rfl) (by with_unfolding_all rfl) (by rfl) (by decide) (by rfl) (by decide) (by rfl) (by rfl) ?_ (by intro _; rfl) (by intro _ _ _ _ _ n9 h9; first | exact own_name n9 h9 | exact own_tuple n9 h9))) | ((with_reducible show wpAny _ _ (call (Value.builtin "dict.get") _) _ _ _); k_here; k_dflt (refine r_get (by k_asm) (ToldIn.mono (by assumption) (by ktd_sub)) ?_)) | ((with_reducible show wpAny _ _ (getMethod (Value.ref _) _ _) _ _ _); k_here; k_dflt (refine r_getM (by k_asm) (ToldIn.mono (by assumption) (by ktd_sub)) ?_)) | (k_here; (with_reducible show wpAny _ _ (compareOp CmpOp.In Value.none (Value.ref _)) _ _ _); k_dflt (refine r_noneIn (by k_asm) (by k_mem) (by first | assumption | ktr_units) ?_)) | (k_here; (with_reducible show wpAny _ _ (call (Value.builtin "len") [Value.ref _]) _ _ _); k_dflt (first | refine r_lenL (by k_asm) (by k_mem) (by (first | assumption | exact Nat.le_of_ble_eq_true rfl | omega | (simp only [List.length_cons, List.length_nil, List.length_append, List.length_map]; omega))) ?_ | refine r_lenT (by k_asm) (by k_mem) (by (first | assumption | exact Nat.le_of_ble_eq_true rfl | omega | (simp only [List.length_cons, List.length_nil, List.length_append, List.length_map]; omega))) ?_); (try dsimp only)) | ((with_reducible show wpAny _ _ (compareOp CmpOp.In (Value.ref _) (Value.ref _)) _ _ _); k_here; k_dflt (refine r_inL (by ke_read) (by ke_read) (by rfl) (by rfl) (by simp [PyData.depth, PyData.depthAll]) (by first | assumption | ktr_units) ?_); (try simp only [List.any_cons, List.any_nil, PyData.eqv, PyData.eqvAll, Bool.and_true, Bool.or_false])) | walk1 | (dsimp only; walk1) | (leave1; (try dsimp only))))
    · refine hret _ _ _ _ (by k_asm) (News.sub (by k_asm) (by ktd_sub)) ⟨rfl, ?_⟩
      have : ws = [] := by (rename ws.isEmpty = true => e); simpa using e
      subst this
      rw [hwo, worthOf_nil hlT hlF hopE hwk]
    · refine hret _ _ _ _ (by k_asm) (News.sub (by k_asm) (by ktd_sub)) ⟨rfl, ?_⟩
      (rename ws.any Option.isNone = true => e)
      rw [hwo, worthOf_none e (by assumption)]; rfl
    k_dflt (refine r_ops (by k_asm) (by k_asm) (by k_asm) (by k_mem) (by assumption) (by simp only [List.length_map]; omega) (by ktr_units) ?_)
    cases hio : isOp op ((List.map optVal ws).length : Nat)
    · (repeat' (first | (k_unfold; (try dsimp only)) | ((with_reducible show wpAny _ _ (getItem (Value.ref _) (Value.str _ _)) _ _ _); (rename _ = sAnd ∨ _ = sOr ∨ _ = sImp => hz9); rcases hz9 with hz9 | hz9 | hz9 <;> rw [hz9]) | ((with_reducible show wpAny _ _ (subscriptTail (Expr.Name _ _) (Expr.Slice _ _ _ _) (Value.ref _) (Value.ref _)) _ _ _); k_here; k_dflt (refine r_slice1 (by k_asm) (by k_asm) (by k_mem) (by (first | assumption | exact Nat.le_of_ble_eq_true rfl | omega | (simp only [List.length_cons, List.length_nil, List.length_append, List.length_map]; omega))) ?_ (by with_unfolding_all rfl) (by intro _; with_unfolding_all rfl)); intro D9 h9 F9 N9 l9; (try k_lt l9); (try dsimp only)) | ((with_reducible show wpAny _ _ (subscriptTail (Expr.Name _ _) (Expr.Constant _ _ _) (Value.ref _) (Value.int _ _)) _ _ _); k_here; k_dflt refine r_item0 (by k_asm) (by k_mem) ?_ (by with_unfolding_all rfl)) | ((with_reducible show wpAny _ _ (compareOp CmpOp.Eq (Value.ref _) (Value.ref _)) _ _ _); k_here; k_dflt (first | refine r_eqNil (by k_asm) (by k_mem) (by k_mem) (by first | assumption | ktr_units) ?_ | refine r_eqLeaf (by k_asm) (by assumption) (by ktd_sub) (by assumption) (by assumption) (by k_mem) (by (unfold layS; decide +kernel)) (by first | assumption | ktr_units) ?_)) | ((with_reducible show wpAny _ _ (exec (Stmt.Assign _ (Expr.ListComp _ _ _ _) _) _) _ _ _); k_here; k_dflt (refine z_Assign (by k_asm) (by rfl) (by with_unfolding_all rfl) (by rfl) (by decide) (by rfl) (by decide) (by rfl) (by rfl) ?_ (by intro _; rfl) (by intro _ _ _ _ _ n9 h9; first | exact own_name n9 h9 | exact own_tuple n9 h9))) | ((with_reducible show wpAny _ _ (call (Value.builtin "dict.get") _) _ _ _); k_here; k_dflt (refine r_get (by k_asm) (ToldIn.mono (by assumption) (by ktd_sub)) ?_)) | ((with_reducible show wpAny _ _ (getMethod (Value.ref _) _ _) _ _ _); k_here; k_dflt (refine r_getM (by k_asm) (ToldIn.mono (by assumption) (by ktd_sub)) ?_)) | (k_here; (with_reducible show wpAny _ _ (compareOp CmpOp.In Value.none (Value.ref _)) _ _ _); k_dflt (refine r_noneIn (by k_asm) (by k_mem) (by first | assumption | ktr_units) ?_)) | (k_here; (with_reducible show wpAny _ _ (call (Value.builtin "len") [Value.ref _]) _ _ _); k_dflt (first | refine r_lenL (by k_asm) (by k_mem) (by (first | assumption | exact Nat.le_of_ble_eq_true rfl | omega | (simp only [List.length_cons, List.length_nil, List.length_append, List.length_map]; omega))) ?_ | refine r_lenT (by k_asm) (by k_mem) (by (first | assumption | exact Nat.le_of_ble_eq_true rfl | omega | (simp only [List.length_cons, List.length_nil, List.length_append, List.length_map]; omega))) ?_); (try dsimp only)) | ((with_reducible show wpAny _ _ (compareOp CmpOp.In (Value.ref _) (Value.ref _)) _ _ _); k_here; k_dflt (refine r_inL (by ke_read) (by ke_read) (by rfl) (by rfl) (by simp [PyData.depth, PyData.depthAll]) (by first | assumption | ktr_units) ?_); (try simp only [List.any_cons, List.any_nil, PyData.eqv, PyData.eqvAll, Bool.and_true, Bool.or_false])) | walk1 | (dsimp only; walk1) | (leave1; (try dsimp only))))
      refine hret _ _ _ _ (by k_asm) (News.sub (by k_asm) (by ktd_sub)) ⟨rfl, ?_⟩
      rw [hwo, worthOf_noOp hio (by assumption)]; rfl
    · rcases isOp_ws2 hio (by assumption) with ⟨hop3, hne, x, y, hws9⟩ | ⟨hnot, hne, x, hws9⟩
      all_goals (
        (rename News _ _ _ _ => NN)
        rw [hws9] at NN
        simp only [List.map_cons, List.map_nil, optVal] at NN
        (repeat' (first | (k_unfold; (try dsimp only)) | ((with_reducible show wpAny _ _ (getItem (Value.ref _) (Value.str _ _)) _ _ _); (rename _ = sAnd ∨ _ = sOr ∨ _ = sImp => hz9); rcases hz9 with hz9 | hz9 | hz9 <;> rw [hz9]) | ((with_reducible show wpAny _ _ (subscriptTail (Expr.Name _ _) (Expr.Slice _ _ _ _) (Value.ref _) (Value.ref _)) _ _ _); k_here; k_dflt (refine r_slice1 (by k_asm) (by k_asm) (by k_mem) (by (first | assumption | exact Nat.le_of_ble_eq_true rfl | omega | (simp only [List.length_cons, List.length_nil, List.length_append, List.length_map]; omega))) ?_ (by with_unfolding_all rfl) (by intro _; with_unfolding_all rfl)); intro D9 h9 F9 N9 l9; (try k_lt l9); (try dsimp only)) | ((with_reducible show wpAny _ _ (subscriptTail (Expr.Name _ _) (Expr.Constant _ _ _) (Value.ref _) (Value.int _ _)) _ _ _); k_here; k_dflt refine r_item0 (by k_asm) (by k_mem) ?_ (by with_unfolding_all rfl)) | ((with_reducible show wpAny _ _ (compareOp CmpOp.Eq (Value.ref _) (Value.ref _)) _ _ _); k_here; k_dflt (first | refine r_eqNil (by k_asm) (by k_mem) (by k_mem) (by first | assumption | ktr_units) ?_ | refine r_eqLeaf (by k_asm) (by assumption) (by ktd_sub) (by assumption) (by assumption) (by k_mem) (by (unfold layS; decide +kernel)) (by first | assumption | ktr_units) ?_)) | ((with_reducible show wpAny _ _ (exec (Stmt.Assign _ (Expr.ListComp _ _ _ _) _) _) _ _ _); k_here; k_dflt (refine z_Assign (by k_asm) (by rfl) (by with_unfolding_all rfl) (by rfl) (by decide) (by rfl) (by decide) (by rfl) (by rfl) ?_ (by intro _; rfl) (by intro _ _ _ _ _ n9 h9; first | exact own_name n9 h9 | exact own_tuple n9 h9))) | ((with_reducible show wpAny _ _ (call (Value.builtin "dict.get") _) _ _ _); k_here; k_dflt (refine r_get (by k_asm) (ToldIn.mono (by assumption) (by ktd_sub)) ?_)) | ((with_reducible show wpAny _ _ (getMethod (Value.ref _) _ _) _ _ _); k_here; k_dflt (refine r_getM (by k_asm) (ToldIn.mono (by assumption) (by ktd_sub)) ?_)) | (k_here; (with_reducible show wpAny _ _ (compareOp CmpOp.In Value.none (Value.ref _)) _ _ _); k_dflt (refine r_noneIn (by k_asm) (by k_mem) (by first | assumption | ktr_units) ?_)) | (k_here; (with_reducible show wpAny _ _ (call (Value.builtin "len") [Value.ref _]) _ _ _); k_dflt (first | refine r_lenL (by k_asm) (by k_mem) (by (first | assumption | exact Nat.le_of_ble_eq_true rfl | omega | (simp only [List.length_cons, List.length_nil, List.length_append, List.length_map]; omega))) ?_ | refine r_lenT (by k_asm) (by k_mem) (by (first | assumption | exact Nat.le_of_ble_eq_true rfl | omega | (simp only [List.length_cons, List.length_nil, List.length_append, List.length_map]; omega))) ?_); (try dsimp only)) | ((with_reducible show wpAny _ _ (compareOp CmpOp.In (Value.ref _) (Value.ref _)) _ _ _); k_here; k_dflt (refine r_inL (by ke_read) (by ke_read) (by rfl) (by rfl) (by simp [PyData.depth, PyData.depthAll]) (by first | assumption | ktr_units) ?_); (try simp only [List.any_cons, List.any_nil, PyData.eqv, PyData.eqvAll, Bool.and_true, Bool.or_false])) | walk1 | (dsimp only; walk1) | (leave1; (try dsimp only))))
        all_goals (
        refine hret _ _ _ _ (by k_asm) (News.sub (by k_asm) (by ktd_sub)) ⟨rfl, ?_⟩
        rw [hwo, hws9]
        (rename op = _ => hz8)
        rw [hz8]
        first
          | (simp [worthOf, oand, oor, oimp, optVal, ne1, ne2, ne3]; done)
          | (simp [worthOf, oand, oor, oimp, optVal, ne1, ne2, ne3]; exact b_or _ _)
          | (simp [worthOf, oand, oor, oimp, optVal, ne1, ne2, ne3]; exact b_imp _ _)
          | (simp [worthOf, onot, optVal]; done)
          | (simp [worthOf, onot, optVal]; exact b_not _)))
theorem worth_all (w : World) (mean : ExcName → Option Value) (mg mb : Str → Option Value) : ∀ t, WorthC w mean mg mb t := by
  have all : ∀ n, ∀ t : Tr, t.dep < n → WorthC w mean mg mb t := by
    intro n
    induction n with
    | zero => intro t h; exact absurd h (Nat.not_lt_zero _)
    | succ n ih => exact fun t h => worth_step w mean mg mb t fun k hk => ih k (Nat.lt_of_lt_of_le hk (Nat.le_of_lt_succ h))
  exact fun t => all _ t (Nat.lt_succ_self _)
end
section
example : True := by (w_top off); trivial
open PySem PySem.W PyProof.Rows PySem.Spec PySem.Calls
/-- ops over as many parts as they take, leaves that are ok -/
noncomputable def Tr.fine (ok : Str → Prop) : Tr → Prop
  | .n0 x => ok x
  | .n1 op a => op = sNot ∧ a.fine ok
  | .n2 op a b => (op = sAnd ∨ op = sOr ∨ op = sImp) ∧ a.fine ok ∧ b.fine ok
  | .n3 _ _ _ _ => False
/-- a list of names -/
noncomputable def NamesAre (ok : Str → Prop) (lv : List Value) : Prop := ∀ v ∈ lv, ∃ x tk, v = .str x tk ∧ ok x
noncomputable def feeds : Nat → Int
  | 0 => 1
  | n + 1 => 2 * feeds n + 1
theorem feeds_nonneg : ∀ n, 0 ≤ feeds n
  | 0 => by decide
  | n + 1 => by have := feeds_nonneg n; simp only [feeds]; omega
structure Belt (rest : List (Addr × Obj)) (b c : Addr) (k : Int) (vs : List Value) (ns : List Int) (n' : Nat) : Prop where
  isInts : IntsAre vs ns
  isSmall : ∀ i ∈ ns, 0 ≤ i ∧ i < 1000003
  isLen : ns.length ≤ 50
  hasCells : (c, cellsO vs n') ∈ rest
  isOff : ∀ p ∈ rest, p.1 ≠ b
  isLo : 0 ≤ k
noncomputable def TreeC (w : World) (mean : ExcName → Option Value) (mg mb : Str → Option Value) (fl : Nat) : Prop :=
  ∀ (b c l : Addr) (k : Int) (tk tk2 : Tok) (n n' nl : Nat) (vs lv : List Value) (ns : List Int) (rest : List (Addr × Obj)) (ok : Str → Prop), Belt rest b c k vs ns n' → k + feeds fl < 100 → (l, cellsO lv nl) ∈ rest → NamesAre ok lv → 0 < lv.length → lv.length < 50 →
    Con w mean mg mb 198 (2 * fl + 10) [.ref b, .int (fl : Nat) tk2, .ref l] ((b, beltO c k tk n) :: rest)
      (fun r news' => ∃ tl k' tk' n'' t, news' = (b, beltO c k' tk' n'') :: (tl ++ rest) ∧ k ≤ k' ∧ k' ≤ k + feeds fl ∧ (∀ p ∈ tl, ∀ q ∈ (b, beltO c k tk n) :: rest, p.1 ≠ q.1) ∧ TIn tl r t ∧ t.fine ok ∧ t.dep ≤ fl + 1)
theorem r_pick {prog : Program} {w : World} {A : Around} {E : Value → Shared → Prop} {s : Shared} {h₀ : Heap} {L : Addr} {news : List (Addr × Obj)} {Q : Value → Shared → Prop} {value slice : Expr} {l : Addr} {lv : List Value} {nl : Nat} {ok : Str → Prop} {i : Int} {u : Tok}
    (N : News h₀ L s.heap news) (hm : (l, cellsO lv nl) ∈ news) (hN : NamesAre ok lv) (h0 : 0 ≤ i) (h1 : i < lv.length) (hl : lv.length < 50) (h : ∀ x tk, ok x → Q (.str x tk) s)
    (hs : subscripted slice false (.ref l) (.int i u) = operate [.ref l, .int i u] (getItem (.ref l) (.int i u))) (hg : ∀ r, letTemporaryGo value (.ref l) r = pure ()) :
    wpAny (model prog w) A (subscriptTail value slice (.ref l) (.int i u)) Q E s := by
  have hi : i.toNat < lv.length := by omega
  obtain ⟨x, tk, e, hx⟩ := hN lv[i.toNat] (List.getElem_mem hi)
  exact item_list (News.isList N hm) h0 (by omega) (x := .str x tk) (by rw [← e]; simp [List.getElem?_eq_getElem hi]) (h x tk hx) hs hg
theorem fresh_one {D b : Addr} {o ob : Obj} {rest : List (Addr × Obj)} (h1 : @LT.lt Nat _ b D) (h2 : AllLt D rest) : ∀ p ∈ [(D, o)], ∀ q ∈ (b, ob) :: rest, p.1 ≠ q.1 := by
  intro p hp q hq
  rw [List.mem_singleton.mp hp]
  rcases List.mem_cons.mp hq with rfl | hq
  · exact Nat.ne_of_gt h1
  · exact Nat.ne_of_gt (ktn_ltOf h2 q hq)
theorem Belt.up {rest : List (Addr × Obj)} {b c : Addr} {k k' : Int} {vs : List Value} {ns : List Int} {n' : Nat} (hB : Belt rest b c k vs ns n') (h : k ≤ k') : Belt rest b c k' vs ns n' := ⟨hB.1, hB.2, hB.3, hB.4, hB.5, Int.le_trans hB.6 h⟩
theorem Belt.cons {rest : List (Addr × Obj)} {b c : Addr} {k : Int} {vs : List Value} {ns : List Int} {n' : Nat} (hB : Belt rest b c k vs ns n') {D : Addr} {o : Obj} (h : @Ne Nat D b) : Belt ((D, o) :: rest) b c k vs ns n' :=
  ⟨hB.1, hB.2, hB.3, List.mem_cons_of_mem _ hB.4, fun p hp => by
    rcases List.mem_cons.mp hp with rfl | hp
    · exact h
    · exact hB.5 p hp, hB.6⟩
theorem Belt.cons4 {rest : List (Addr × Obj)} {b c : Addr} {k k' : Int} {vs : List Value} {ns : List Int} {n' : Nat} (hB : Belt rest b c k vs ns n') {D₁ D₂ D₃ D₄ : Addr} {o₁ o₂ o₃ o₄ : Obj} (h1 : @Ne Nat D₁ b) (h2 : @Ne Nat D₂ b) (h3 : @Ne Nat D₃ b) (h4 : @Ne Nat D₄ b) (hk : k ≤ k') :
    Belt ((D₁, o₁) :: (D₂, o₂) :: (D₃, o₃) :: (D₄, o₄) :: rest) b c k' vs ns n' := ((((hB.up hk).cons h4).cons h3).cons h2).cons h1
theorem Belt.push3 {rest : List (Addr × Obj)} {b c : Addr} {k : Int} {vs : List Value} {ns : List Int} {n' : Nat} (hB : Belt rest b c k vs ns n') {I C D : Addr} {oI oC oD o : Obj} (off : LCg.Off3 I C D ((b, o) :: rest)) :
    Belt ((I, oI) :: (C, oC) :: (D, oD) :: rest) b c k vs ns n' := ((hB.cons (Ne.symm off.1.2.2)).cons (Ne.symm off.1.2.1)).cons (Ne.symm off.1.1)
theorem Belt.app {rest tl l : List (Addr × Obj)} {b c : Addr} {k : Int} {vs : List Value} {ns : List Int} {n' : Nat} (hB : Belt rest b c k vs ns n') {o : Obj} (h : ∀ p ∈ tl, ∀ q ∈ (b, o) :: l, p.1 ≠ q.1) : Belt (tl ++ rest) b c k vs ns n' :=
  ⟨hB.1, hB.2, hB.3, List.mem_append.mpr (.inr hB.4), fun p hp => by
    rcases List.mem_append.mp hp with hp | hp
    · exact h p hp (b, o) List.mem_cons_self
    · exact hB.5 p hp, hB.6⟩
theorem off_next {I C D b : Addr} {oI oC oD o o₁ o' : Obj} {tl R : List (Addr × Obj)} (off : LCg.Off3 I C D ((b, o) :: R)) (h : ∀ p ∈ tl, ∀ q ∈ (b, o₁) :: ((I, oI) :: (C, oC) :: (D, oD) :: R), p.1 ≠ q.1) : LCg.Off3 I C D ((b, o') :: (tl ++ R)) := by
  refine ⟨off.1, LCg.Off3.of fun p hp => ?_⟩
  rcases List.mem_append.mp hp with hp | hp
  · exact ⟨h p hp (I, oI) (by simp), h p hp (C, oC) (by simp), h p hp (D, oD) (by simp)⟩
  · exact off.2.mem p hp
theorem sub_back {x y z q : Addr × Obj} {tl R : List (Addr × Obj)} : ∀ p ∈ x :: y :: z :: q :: (tl ++ R), p ∈ q :: (tl ++ (x :: y :: z :: R)) := fun p hp => by
  simp only [List.mem_cons, List.mem_append] at hp ⊢
  rcases hp with h | h | h | h | h | h <;> simp [h]
theorem fresh_app {tl tl' R R' : List (Addr × Obj)} (h : ∀ p ∈ tl, ∀ q ∈ R, p.1 ≠ q.1) (h' : ∀ p ∈ tl', ∀ q ∈ R, p.1 ≠ q.1) : ∀ p ∈ tl ++ tl', ∀ q ∈ R, p.1 ≠ q.1 := fun p hp => (List.mem_append.mp hp).elim (h p) (h' p)
theorem fresh_sub {tl R R' : List (Addr × Obj)} {b : Addr} {o o' : Obj} (h : ∀ p ∈ tl, ∀ q ∈ (b, o) :: R, p.1 ≠ q.1) (hs : ∀ p ∈ R', p ∈ R) : ∀ p ∈ tl, ∀ q ∈ (b, o') :: R', p.1 ≠ q.1 := fun p hp q hq => by
  rcases List.mem_cons.mp hq with rfl | hq
  · exact h p hp (b, o) List.mem_cons_self
  · exact h p hp q (List.mem_cons_of_mem _ (hs q hq))
theorem fresh_one' {D b : Addr} {o ob : Obj} {rest l : List (Addr × Obj)} (h1 : @LT.lt Nat _ b D) (h2 : AllLt D l) (hs : ∀ p ∈ rest, p ∈ l) : ∀ p ∈ [(D, o)], ∀ q ∈ (b, ob) :: rest, p.1 ≠ q.1 :=
  fresh_one h1 (allLt_of fun p hp => ktn_ltOf h2 p (hs p hp))
theorem sub_two {x y z q d c₁ c₂ c₃ : Addr × Obj} {t1 t2 r : List (Addr × Obj)} : ∀ p ∈ q :: (([x] ++ (t2 ++ t1)) ++ r), p ∈ x :: y :: z :: q :: (t2 ++ (t1 ++ d :: c₁ :: c₂ :: c₃ :: r)) := fun p hp => by
  simp only [List.mem_cons, List.mem_append, List.not_mem_nil, or_false] at hp ⊢
  rcases hp with h | (h | h | h) | h <;> simp [h]
theorem sub_one {x y z q d c₁ c₂ c₃ : Addr × Obj} {t1 r : List (Addr × Obj)} : ∀ p ∈ q :: (([x] ++ t1) ++ r), p ∈ x :: y :: z :: q :: (t1 ++ d :: c₁ :: c₂ :: c₃ :: r) := fun p hp => by
  simp only [List.mem_cons, List.mem_append, List.not_mem_nil, or_false] at hp ⊢
  rcases hp with h | (h | h) | h <;> simp [h]
theorem tup2 {tl1 tl2 : List (Addr × Obj)} {D : Addr} {op : Str} {tk : Tok} {n : Nat} {r1 r2 : Value} {t1 t2 : Tr} (h1 : TIn tl1 r1 t1) (h2 : TIn tl2 r2 t2) : TIn ([(D, tupO [.str op tk, r1, r2] n)] ++ (tl2 ++ tl1)) (.ref D) (.n2 op t1 t2) :=
  .n2 (tk := tk) (n := n) (List.mem_append_left _ List.mem_cons_self) (h1.mono (by intro p hp; simp [hp])) (h2.mono (by intro p hp; simp [hp]))
theorem tup1 {tl1 : List (Addr × Obj)} {D : Addr} {op : Str} {tk : Tok} {n : Nat} {r1 : Value} {t1 : Tr} (h1 : TIn tl1 r1 t1) : TIn ([(D, tupO [.str op tk, r1] n)] ++ tl1) (.ref D) (.n1 op t1) :=
  .n1 (tk := tk) (n := n) (List.mem_append_left _ List.mem_cons_self) (h1.mono (by intro p hp; simp [hp]))
theorem sub_leaf3 {x q c₁ c₂ c₃ : Addr × Obj} {r : List (Addr × Obj)} : ∀ p ∈ q :: ([x] ++ r), p ∈ x :: q :: c₁ :: c₂ :: c₃ :: r := fun p hp => by
  simp only [List.singleton_append, List.mem_cons] at hp ⊢
  rcases hp with h | h | h <;> simp [h]
/-- an item of a tuple at an open place: what holds of all holds of it -/
theorem tab_at {prog : Program} {w : World} {A : Around} {E : Value → Shared → Prop} {s : Shared} {Q : Value → Shared → Prop} {value slice : Expr} {t : Addr} {i : Int} {u : Tok} {l : List Value} (ht : IsTup s.heap t l.toArray) (h0 : 0 ≤ i) (h1 : i < (l.length : Nat)) (h : ∀ x ∈ l, Q x s) (hl : l.length < 100)
    (hs : subscripted slice false (.ref t) (.int i u) = operate [.ref t, .int i u] (getItem (.ref t) (.int i u))) (hg : ∀ r, letTemporaryGo value (.ref t) r = pure ()) : wpAny (model prog w) A (subscriptTail value slice (.ref t) (.int i u)) Q E s := by
  have hlt : i.toNat < l.length := by omega
  refine item_tuple (j := i.toNat) (x := l[i.toNat]) ht (by omega) (by omega) ?_ (by simp [hlt]) (h _ (List.getElem_mem hlt)) hs hg
  unfold seqIndex?
  have h3 : ¬ i < 0 := by omega
  simp only [h3, if_false]
  rw [if_pos (by simp; omega)]
/-- an op and how many parts it takes -/
noncomputable def OpN (op : Str) (n : Nat) : Prop := (op = sAnd ∨ op = sOr ∨ op = sImp) ∧ n = 2 ∨ op = sNot ∧ n = 1
theorem OpN.le {op : Str} {n : Nat} (h : OpN op n) : n ≤ 2 := by rcases h with h | h <;> omega
theorem Tr.mk_fine {ok : Str → Prop} {op : Str} {ts : List Tr} (ho : OpN op ts.length) (h : ∀ t ∈ ts, t.fine ok) : (Tr.mk op ts).fine ok := by
  match ts, ho, h with
  | [], ho, _ => rcases ho with ho | ho <;> exact absurd ho.2 (by simp)
  | [a], ho, h => rcases ho with ho | ho
                  · exact absurd ho.2 (by simp)
                  · exact ⟨ho.1, h a (.head _)⟩
  | [a, b], ho, h => rcases ho with ho | ho
                     · exact ⟨ho.1, h a (.head _), h b (.tail _ (.head _))⟩
                     · exact absurd ho.2 (by simp)
  | _ :: _ :: _ :: l, ho, _ => have := ho.le; simp only [List.length_cons] at this; omega
theorem r_opsAt {w : World} {A : Around} {E : Value → Shared → Prop} {s : Shared} {h₀ : Heap} {L : Addr} {m : Str → Option Value} {Q : Value → Shared → Prop} {value slice : Expr} {i : Int} {u : Tok} (F : Fr h₀ L s.heap m) (X : (hd.heap_1 w.params).In h₀) (h0 : 0 ≤ i) (h1 : i < 4)
    (h : ∀ a op (n : Nat) tk tk', IsTup s.heap a (List.toArray [.str op tk, .int (n : Nat) tk']) → OpN op n → Q (.ref a) s)
    (hs : subscripted slice false (.ref 169) (.int i u) = operate [.ref 169, .int i u] (getItem (.ref 169) (.int i u))) (hg : ∀ r, letTemporaryGo value (.ref 169) r = pure ()) :
    wpAny (model PySem.Challenge.rw_sa0020_01.row.toRowW.prog w) A (subscriptTail value slice (.ref 169) (.int i u)) Q E s := by
  revert X h
  k_fill
  intro X h
  have one : ∀ (a : Addr) (o : Obj), (hd.heap_1 w.params).lookup a = some o → s.heap.get? a = some o := fun a o e => F.keep _ _ (X a o e)
  have r169 := one 169 _ (by k_is)
  have tup : ∀ (a : Addr) (op : Str) (k : Nat) (tk tk' : Tok) (n : Nat), s.heap.get? a = some (tupO [.str op tk, .int (k : Nat) tk'] n) → OpN op k → Q (.ref a) s := fun a op many tk tk' n e h1 => h a op many tk tk' ⟨_, e, rfl, n, rfl⟩ h1
  have q0 : Q (.ref 165) s := tup 165 sAnd 2 _ _ _ (one 165 _ (by k_is)) (.inl ⟨.inl rfl, rfl⟩)
  have q1 : Q (.ref 166) s := tup 166 sOr 2 _ _ _ (one 166 _ (by k_is)) (.inl ⟨.inr (.inl rfl), rfl⟩)
  have q2 : Q (.ref 167) s := tup 167 sImp 2 _ _ _ (one 167 _ (by k_is)) (.inl ⟨.inr (.inr rfl), rfl⟩)
  have q3 : Q (.ref 168) s := tup 168 sNot 1 _ _ _ (one 168 _ (by k_is)) (.inr ⟨rfl, rfl⟩)
  exact tab_at (l := [.ref 165, .ref 166, .ref 167, .ref 168]) ⟨_, r169, rfl, _, rfl⟩ h0 h1 (List.forall_mem_cons.mpr ⟨q0, List.forall_mem_cons.mpr ⟨q1, List.forall_mem_cons.mpr ⟨q2, List.forall_mem_cons.mpr ⟨q3, fun _ h => nomatch h⟩⟩⟩⟩) (by decide) hs hg
theorem rng_small {n : Nat} (h : n ≤ 3) : Builtin.Range.small 0 (n : Nat) 1 = true := by
  match n, h with
  | 0, _ | 1, _ | 2, _ | 3, _ => decide
theorem rng_size {n : Nat} (h : n ≤ 3) : Builtin.Range.rangeSize 0 (n : Nat) 1 = ((n : Nat) : Int) := by
  match n, h with
  | 0, _ | 1, _ | 2, _ | 3, _ => decide
theorem fresh_G {D t b : Addr} {o ob ob' : Obj} {rest news : List (Addr × Obj)} (h : D = t ∨ ∀ p ∈ news, p.1 < D) (ht : ∀ p ∈ [(t, o)], ∀ q ∈ (b, ob) :: rest, p.1 ≠ q.1) (hb : (b, ob') ∈ news) (hr : ∀ p ∈ rest, p ∈ news) : ∀ p ∈ [(D, o)], ∀ q ∈ (b, ob) :: rest, p.1 ≠ q.1 := by
  rcases h with rfl | h
  · exact ht
  · intro p hp q hq
    rw [List.mem_singleton.mp hp]
    rcases List.mem_cons.mp hq with rfl | hq
    · exact Nat.ne_of_gt (h (b, ob') hb)
    · exact Nat.ne_of_gt (h _ (hr q hq))
theorem trees_rest {prog : Program} {w : World} {A : Around} {h₀ : Heap} {L : Addr} {m : Str → Option Value} {env : Env} {elt : Expr} {x : Str} {px : Pos} {scope : Scope} {cl : List (Str × Addr)} {s : Shared} {X : Env → Value → Shared → Prop} {Fin : List Value → List (Addr × Obj) → Prop}
    {b c : Addr} {vs : List Value} {ns : List Int} {n' fl : Nat} {rest : List (Addr × Obj)} {o₀ : Obj} {ok : Str → Prop} (hx : scope.names.lookup x = some .local) (hkind : scope.kind = .function)
    (turn : ∀ (k : Int) tkb nb tl v I oI C oC D oD m₂ h tk (Q' : Value → Shared → Prop), LCg.NsObj oC m₂ → m₂ x = some v → Fr h₀ L h m → News h₀ L h ((I, oI) :: (C, oC) :: (D, oD) :: (b, beltO c k tkb nb) :: (tl ++ rest)) → Belt ((I, oI) :: (C, oC) :: (D, oD) :: (tl ++ rest)) b c k vs ns n' → k + feeds fl < 100 →
      (∀ r tl1 k1 ta na t h' tk', Fr h₀ L h' m → News h₀ L h' ((b, beltO c k1 ta na) :: (tl1 ++ ((I, oI) :: (C, oC) :: (D, oD) :: (tl ++ rest)))) → k ≤ k1 → k1 ≤ k + feeds fl → (∀ p ∈ tl1, ∀ q ∈ (b, beltO c k tkb nb) :: (I, oI) :: (C, oC) :: (D, oD) :: (tl ++ rest), p.1 ≠ q.1) → TIn tl1 r t → t.fine ok → t.dep ≤ fl + 1 → Q' r { s with heap := h', toks := tk' }) →
      wpAny (model prog w) A (eval elt (compEnvC scope cl C env)) Q' (X (compEnvC scope cl C env)) { s with heap := h, toks := tk }) :
    ∀ (n : Nat) (k : Int) (tkb : Tok) (nb : Nat) (tl : List (Addr × Obj)) (ys : List Value) (ts : List Tr), Belt (tl ++ rest) b c k vs ns n' → k + (n : Nat) * feeds fl < 100 → (∀ p ∈ tl, ∀ q ∈ (b, o₀) :: rest, p.1 ≠ q.1) → TIns tl ys ts → (∀ t ∈ ts, t.fine ok ∧ t.dep ≤ fl + 1) →
    (∀ ys' tl' k' tk' nb' ts', k ≤ k' → k' ≤ k + (n : Nat) * feeds fl → (∀ p ∈ tl', ∀ q ∈ (b, o₀) :: rest, p.1 ≠ q.1) → TIns tl' ys' ts' → (∀ t ∈ ts', t.fine ok ∧ t.dep ≤ fl + 1) → ts'.length = ts.length + n → Fin ys' ((b, beltO c k' tk' nb') :: (tl' ++ rest))) →
    CRest prog w A h₀ L m env elt (.Name x px) [] scope cl s (fun _ => True) X Fin (List.replicate n fun v => ∃ i t, v = .int i t) ys ((b, beltO c k tkb nb) :: (tl ++ rest)) := by
  intro n
  induction n with
  | zero =>
    intro k tkb nb tl ys ts hB hk hf hT hts fin
    exact fin ys tl k tkb nb ts (Int.le_refl _) (by omega) hf hT hts rfl
  | succ n ih =>
    intro k tkb nb tl ys ts hB hk hf hT hts fin
    have e : ((n + 1 : Nat) : Int) * feeds fl = (n : Nat) * feeds fl + feeds fl := by rw [Int.natCast_add, Int.add_mul]; simp
    have h0 : 0 ≤ (n : Nat) * feeds fl := Int.mul_nonneg (Int.natCast_nonneg n) (feeds_nonneg fl)
    rw [e] at hk fin
    refine z_turn1 hx hkind ?_
    intro v I oI C oC D m₂ h tk _ hC hx' F N off ne _
    refine turn k tkb nb tl v I oI C oC D _ m₂ h tk _ hC hx' F N (Belt.push3 hB off) (by omega) fun r tl1 k1 ta na t h' tk' F' N' h1 h2 h3 h4 h5 h6 => ?_
    have e3 : tl1 ++ (tl ++ rest) = (tl1 ++ tl) ++ rest := (List.append_assoc ..).symm
    have hB' : Belt ((tl1 ++ tl) ++ rest) b c k1 vs ns n' := e3 ▸ Belt.app (hB.up h1) h3
    refine ⟨tk, CBack.intro F' hC N' ((b, beltO c k1 ta na) :: ((tl1 ++ tl) ++ rest)) (e3 ▸ sub_back) (e3 ▸ off_next off h3) trivial (ih k1 ta na (tl1 ++ tl) (ys ++ [r]) (ts ++ [t]) hB' (by omega) ?_ ?_ ?_ ?_)⟩
    · exact fresh_app (R' := rest) (fresh_sub h3 (by intro p hp; simp [hp])) hf
    · exact (hT.mono fun p hp => List.mem_append_right _ hp).snoc (h4.mono fun p hp => List.mem_append_left _ hp)
    · exact fun t' ht' => (List.mem_append.mp ht').elim (hts t') fun q => by rw [List.mem_singleton.mp q]; exact ⟨h5, h6⟩
    · exact fun ys' tl' k' tk' nb' ts' g1 g2 g3 g4 g5 g6 => fin ys' tl' k' tk' nb' ts' (Int.le_trans h1 g1) (by omega) g3 g4 g5 (by rw [g6, List.length_append, List.length_singleton]; omega)
theorem tree_use {w : World} {mean : ExcName → Option Value} {mg mb : Str → Option Value} {fl : Nat} {b c l : Addr} {k : Int} {tk tk2 : Tok} {n n' nl : Nat} {vs lv : List Value} {ns : List Int} {rest news₁ : List (Addr × Obj)} {ok : Str → Prop}
    {dp un : Nat} {gd : Option (List Code)} {cn : Str} {cs : Scope} {a : Addr} {ccd : Value} {cl : List (Str × Addr)} {outer : List Env} {A₀ : Around} {base h₀ : Heap} {L : Addr} {m : Str → Option Value} {s : Shared} {Q E : Value → Shared → Prop}
    (C : TreeC w mean mg mb fl) (hB : Belt rest b c k vs ns n') (hk : k + feeds fl < 100) (hN : NamesAre ok lv) (hl0 : 0 < lv.length) (hl1 : lv.length < 50) (hl : (l, cellsO lv nl) ∈ rest)
    (B : Below A₀ base outer h₀) (F : Fr h₀ L s.heap m) (X : (hd.heap_1 w.params).In h₀) (N : News h₀ L s.heap news₁) (T' : Top hd.view_39 lse mean mg mb h₀)
    (hs : ∀ p ∈ (b, beltO c k tk n) :: rest, p ∈ news₁) (hkf : cs.kind = .function) (hd : dp + (2 * fl + 10) < recursionLimit) (hu : un + 8 * (2 * fl + 10) < cLine)
    (ret : ∀ r tl k' tk' n'' t h' tk₃, Fr h₀ L h' m → News h₀ L h' ((b, beltO c k' tk' n'') :: (tl ++ rest)) → k ≤ k' → k' ≤ k + feeds fl → (∀ p ∈ tl, ∀ q ∈ (b, beltO c k tk n) :: rest, p.1 ≠ q.1) → TIn tl r t → t.fine ok → t.dep ≤ fl + 1 → Q r { s with heap := h', toks := tk₃ }) :
    wpAny (model PySem.Challenge.rw_sa0020_01.row.toRowW.prog w) (ktrTop dp un gd cn cs L a ccd cl outer) (call (.ref 198) [.ref b, .int (fl : Nat) tk2, .ref l]) Q E s :=
  con_use (C b c l k tk tk2 n n' nl vs lv ns rest ok hB hk hl hN hl0 hl1) B F X N T' hs hkf hd hu fun r news' h' tk' F' N' hP => by
    obtain ⟨tl, k', t1, n1, t, rfl, h1, h2, h3, h4, h5, h6⟩ := hP
    exact ret _ _ _ _ _ _ _ _ F' N' h1 h2 h3 h4 h5 h6
theorem tree0 (w : World) (mean : ExcName → Option Value) (mg mb : Str → Option Value) : TreeC w mean mg mb 0 := by
  intro b c l k tk tk2 n n' nl vs lv ns rest ok hB hk hl hN hl0 hl1
  simp only [feeds] at hk
  have hBc := hB.hasCells
  have hBo := hB.isOff
  have hBl := hB.isLo
  unfold Con
  k_fill
  intro dp un gd cn cs a' ccd cl outer A₀ base h₀ L m s Q E B F X N T' hkf hd hu hret
  refine wpAny_call ?_
  k_dflt (first | (refine' code_def (by k_asm) (by k_asm) (by k_asm) (by k_asm) (by k_asm) rfl rfl (by first | assumption | exact rfl) (by k_is) (by k_is) (by ktr_room) (by exact BindsTo.of_eq rfl) (by exact locs rfl) ?_ (by exact rfl) (by exact rfl) (by exact rfl) (by decide); k_whole; intro g8 L8 h8 FG8 F8 N8 B8 X8 T8; (try dsimp only); (try k_fold)) | (refine' code_defC (by k_asm) (by k_asm) (by k_asm) (by k_asm) (by k_asm) rfl rfl (by first | assumption | exact rfl) (by k_is) (by k_is) (by ktr_room) (by exact BindsTo.of_eq rfl) (by exact rfl) (by decide +kernel) ?_ (by exact rfl) (by exact rfl) (by exact rfl); k_whole; intro g8 L8 h8 tk8 cells8 FG8 F8 N8 Y8 B8 X8 T8 l8; (try k_lt l8); k_cells Y8; (try simp only [List.cons_append, List.nil_append] at N8); (try dsimp only); (try k_fold)))
  (repeat' (first | (k_unfold; (try dsimp only)) | ((with_reducible show wpAny _ _ (subscriptTail _ (Expr.Call _ _ _ _) (Value.ref _) (Value.int _ _)) _ _ _); k_dflt (refine r_pick (by k_asm) (by k_mem) (by assumption) (by assumption) (by assumption) (by assumption) ?_ (by with_unfolding_all rfl) (by intro _; with_unfolding_all rfl)); intro x' tk' hx') | ((with_reducible show wpAny _ _ (call (Value.ref _) [Value.ref _, Value.int _ _]) _ _ _); k_dflt (refine' feed_use (Belt.isInts (by assumption)) (Belt.isSmall (by assumption)) (Belt.isLen (by assumption)) (by k_asm) (by k_asm) (by k_asm) (by k_asm) (by k_asm) (by repeat (first | exact mv0 | apply mvS)) (by k_mem) (by k_all) (by omega) (by omega) (by omega) (by omega) (by first | assumption | exact rfl) (by ktr_room) (by ktr_units) ?_); intro i' tk' n' tk'' h' tk₃ F' N' i0' i1') | ((with_reducible show wpAny _ _ (subscriptTail (Expr.Name _ _) (Expr.Name _ _) (Value.ref _) (Value.int _ _)) _ _ _); k_dflt (refine r_opsAt (by k_asm) (by k_in) (by assumption) (by omega) ?_ (by with_unfolding_all rfl) (by intro _; with_unfolding_all rfl)); intro a' op' many' tk' tk'' hT' hop') | ((with_reducible show wpAny _ _ (binaryOp _ (Value.ref _) (Value.ref _)) _ _ _); k_dflt (refine r_addTG (by k_asm) (by k_asm) (by k_mem) (by k_mem) (by first | assumption | (simp only [List.length_nil, Nat.zero_add]; assumption)) ?_); intro D' h' n9' F' N' l') | (k_here; (first | with_reducible show wpAny _ _ (eval (Expr.ListComp (Expr.Call _ _ _ _) _ _ _) _) _ _ _ | with_reducible show wpAny _ _ (eval (Expr.ListComp (Expr.Tuple _ _ _) _ _ _) _) _ _ _ | with_reducible show wpAny _ _ (eval (Expr.ListComp (Expr.Subscript _ _ _) _ _ _) _) _ _ _ | with_reducible show wpAny _ _ (eval (Expr.ListComp (Expr.BinOp (Expr.Tuple _ _ _) _ _ _) _ _ _) _) _ _ _); k_dflt (refine z_ListComp (by k_asm) (by rfl) (by decide) (by rfl) (by decide) ?_ (by intro _; rfl) (by intro _ _ _ _ _ n9 h9; first | exact own_name n9 h9 | exact own_tuple n9 h9))) | (k_here; (with_reducible show wpAny _ _ (call (Value.builtin "len") [Value.ref _]) _ _ _); k_dflt (first | refine r_lenL (by k_asm) (by k_mem) (by (first | assumption | exact Nat.le_of_ble_eq_true rfl | omega | (simp only [List.length_cons, List.length_nil, List.length_append, List.length_map]; omega))) ?_ | refine r_lenT (by k_asm) (by k_mem) (by (first | assumption | exact Nat.le_of_ble_eq_true rfl | omega | (simp only [List.length_cons, List.length_nil, List.length_append, List.length_map]; omega))) ?_); (try dsimp only)) | (k_here; (with_reducible show wpAny _ _ (call (Value.type "tuple") [Value.ref _]) _ _ _); k_dflt (refine r_tupleL (by k_asm) (by k_asm) (by k_mem) (by (first | assumption | exact Nat.le_of_ble_eq_true rfl | omega | (simp only [List.length_cons, List.length_nil, List.length_append, List.length_map]; omega))) ?_); intro D9 h9 F9 N9 l9; (try k_lt l9)) | walk1 | (dsimp only; walk1) | (leave1; (try dsimp only))))
  refine' hret _ ((b, beltO c (k + 1) ?zt ?znn) :: ([(?zD, tupO [.str ?zx ?ztx] ?znx)] ++ rest)) _ _ ?F (News.sub ?N ?S) ⟨_, _, _, _, .n0 ?zx, rfl, ?p1, ?p2, fresh_one ?p3 ?p4, .n0 List.mem_cons_self, ?p5, Nat.le_refl _⟩
  case N => k_asm
  case S => exact sub_leaf3
  case F => k_asm
  case p5 => assumption
  case p4 => tbn_find
  case p3 => omega
  case p1 => omega
  case p2 => simp only [feeds]; omega
theorem treeS (w : World) (mean : ExcName → Option Value) (mg mb : Str → Option Value) (fl : Nat) (hfl : fl < 4) (ih : TreeC w mean mg mb fl) : TreeC w mean mg mb (fl + 1) := by
  intro b c l k tk tk2 n n' nl vs lv ns rest ok hB hk hl hN hl0 hl1
  simp only [feeds] at hk
  have hBc := hB.hasCells
  have hBo := hB.isOff
  have hBl := hB.isLo
  have hfp : 1 ≤ feeds fl := by rcases fl with _ | _ | _ | _ | fl <;> simp [feeds]; omega
  unfold Con
  k_fill
  intro dp un gd cn cs a' ccd cl outer A₀ base h₀ L m s Q E B F X N T' hkf hd hu hret
  refine wpAny_call ?_
  k_dflt (first | (refine' code_def (by k_asm) (by k_asm) (by k_asm) (by k_asm) (by k_asm) rfl rfl (by first | assumption | exact rfl) (by k_is) (by k_is) (by ktr_room) (by exact BindsTo.of_eq rfl) (by exact locs rfl) ?_ (by exact rfl) (by exact rfl) (by exact rfl) (by decide); k_whole; intro g8 L8 h8 FG8 F8 N8 B8 X8 T8; (try dsimp only); (try k_fold)) | (refine' code_defC (by k_asm) (by k_asm) (by k_asm) (by k_asm) (by k_asm) rfl rfl (by first | assumption | exact rfl) (by k_is) (by k_is) (by ktr_room) (by exact BindsTo.of_eq rfl) (by exact rfl) (by decide +kernel) ?_ (by exact rfl) (by exact rfl) (by exact rfl); k_whole; intro g8 L8 h8 tk8 cells8 FG8 F8 N8 Y8 B8 X8 T8 l8; (try k_lt l8); k_cells Y8; (try simp only [List.cons_append, List.nil_append] at N8); (try dsimp only); (try k_fold)))
  (repeat' (first | (k_unfold; (try dsimp only)) | ((with_reducible show wpAny _ _ (subscriptTail _ (Expr.Call _ _ _ _) (Value.ref _) (Value.int _ _)) _ _ _); k_dflt (refine r_pick (by k_asm) (by k_mem) (by assumption) (by assumption) (by assumption) (by assumption) ?_ (by with_unfolding_all rfl) (by intro _; with_unfolding_all rfl)); intro x' tk' hx') | ((with_reducible show wpAny _ _ (call (Value.ref _) [Value.ref _, Value.int _ _]) _ _ _); k_dflt (refine' feed_use (Belt.isInts (by assumption)) (Belt.isSmall (by assumption)) (Belt.isLen (by assumption)) (by k_asm) (by k_asm) (by k_asm) (by k_asm) (by k_asm) (by repeat (first | exact mv0 | apply mvS)) (by k_mem) (by k_all) (by omega) (by omega) (by omega) (by omega) (by first | assumption | exact rfl) (by ktr_room) (by ktr_units) ?_); intro i' tk' n' tk'' h' tk₃ F' N' i0' i1') | ((with_reducible show wpAny _ _ (subscriptTail (Expr.Name _ _) (Expr.Name _ _) (Value.ref _) (Value.int _ _)) _ _ _); k_dflt (refine r_opsAt (by k_asm) (by k_in) (by assumption) (by omega) ?_ (by with_unfolding_all rfl) (by intro _; with_unfolding_all rfl)); intro a' op' many' tk' tk'' hT' hop') | ((with_reducible show wpAny _ _ (binaryOp _ (Value.ref _) (Value.ref _)) _ _ _); k_dflt (refine r_addTG (by k_asm) (by k_asm) (by k_mem) (by k_mem) (by first | assumption | (simp only [List.length_nil, Nat.zero_add]; assumption)) ?_); intro D' h' n9' F' N' l') | (k_here; (first | with_reducible show wpAny _ _ (eval (Expr.ListComp (Expr.Call _ _ _ _) _ _ _) _) _ _ _ | with_reducible show wpAny _ _ (eval (Expr.ListComp (Expr.Tuple _ _ _) _ _ _) _) _ _ _ | with_reducible show wpAny _ _ (eval (Expr.ListComp (Expr.Subscript _ _ _) _ _ _) _) _ _ _ | with_reducible show wpAny _ _ (eval (Expr.ListComp (Expr.BinOp (Expr.Tuple _ _ _) _ _ _) _ _ _) _) _ _ _); k_dflt (refine z_ListComp (by k_asm) (by rfl) (by decide) (by rfl) (by decide) ?_ (by intro _; rfl) (by intro _ _ _ _ _ n9 h9; first | exact own_name n9 h9 | exact own_tuple n9 h9))) | (k_here; (with_reducible show wpAny _ _ (call (Value.builtin "len") [Value.ref _]) _ _ _); k_dflt (first | refine r_lenL (by k_asm) (by k_mem) (by (first | assumption | exact Nat.le_of_ble_eq_true rfl | omega | (simp only [List.length_cons, List.length_nil, List.length_append, List.length_map]; omega))) ?_ | refine r_lenT (by k_asm) (by k_mem) (by (first | assumption | exact Nat.le_of_ble_eq_true rfl | omega | (simp only [List.length_cons, List.length_nil, List.length_append, List.length_map]; omega))) ?_); (try dsimp only)) | (k_here; (with_reducible show wpAny _ _ (call (Value.type "tuple") [Value.ref _]) _ _ _); k_dflt (refine r_tupleL (by k_asm) (by k_asm) (by k_mem) (by (first | assumption | exact Nat.le_of_ble_eq_true rfl | omega | (simp only [List.length_cons, List.length_nil, List.length_append, List.length_map]; omega))) ?_); intro D9 h9 F9 N9 l9; (try k_lt l9)) | walk1 | (dsimp only; walk1) | (leave1; (try dsimp only))))
  · refine' hret _ ((b, beltO c (k + 1 + 1) ?zt ?znn) :: ([(?zD, tupO [.str ?zx ?ztx] ?znx)] ++ rest)) _ _ ?F (News.sub ?N ?S) ⟨_, _, _, _, .n0 ?zx, rfl, ?p1, ?p2, fresh_one ?p3 ?p4, .n0 List.mem_cons_self, ?p5, Nat.le_add_left _ _⟩
    case N => k_asm
    case S => exact sub_leaf3
    case F => k_asm
    case p5 => assumption
    case p4 => tbn_find
    case p3 => omega
    case p1 => omega
    case p2 => simp only [feeds]; omega
  have hn3 := OpN.le (by assumption)
  (rename OpN _ _ => hop)
  (rename IsRange _ _ _ _ _ _ _ _ => HR)
  (rename Fr _ _ _ _ => FF)
  (rename News _ _ _ _ => NN)
  refine ZSrc.rng _ rfl FF (News.sub NN (mvS mv0)) HR (rng_small (Nat.le_succ_of_le hn3)) (rng_size (Nat.le_succ_of_le hn3)) (Nat.le_trans hn3 (by decide)) fun g => ?_
  clear FF NN HR
  have hM := Int.mul_le_mul_of_nonneg_right (Int.ofNat_le.mpr hn3) (feeds_nonneg fl)
  refine trees_rest (fl := fl) (ok := ok) (o₀ := beltO c 0 0 0) (by rfl) (by rfl) ?turn _ (k + 1) _ _ [] [] [] (Belt.cons4 hB ?e1 ?e2 ?e3 ?e4 ?e5) ?kb (fun _ h => nomatch h) .nil (fun _ h => nomatch h) ?fin
  case e1 => omega
  case e2 => omega
  case e3 => omega
  case e4 => omega
  case e5 => omega
  case kb => omega
  case turn =>
    clear hM
    intro k1 tkb1 nb1 tl1 v1 I1 oI1 C1 oC1 D1 oD1 m1 h1 t1 Q1 hC1 hx1 F1 N1 hB1 hk1 hret1
    (repeat' (first | (k_unfold; (try dsimp only)) | ((with_reducible show wpAny _ _ (subscriptTail _ (Expr.Call _ _ _ _) (Value.ref _) (Value.int _ _)) _ _ _); k_dflt (refine r_pick (by k_asm) (by k_mem) (by assumption) (by assumption) (by assumption) (by assumption) ?_ (by with_unfolding_all rfl) (by intro _; with_unfolding_all rfl)); intro x' tk' hx') | ((with_reducible show wpAny _ _ (call (Value.ref _) [Value.ref _, Value.int _ _]) _ _ _); k_dflt (refine' feed_use (Belt.isInts (by assumption)) (Belt.isSmall (by assumption)) (Belt.isLen (by assumption)) (by k_asm) (by k_asm) (by k_asm) (by k_asm) (by k_asm) (by repeat (first | exact mv0 | apply mvS)) (by k_mem) (by k_all) (by omega) (by omega) (by omega) (by omega) (by first | assumption | exact rfl) (by ktr_room) (by ktr_units) ?_); intro i' tk' n' tk'' h' tk₃ F' N' i0' i1') | ((with_reducible show wpAny _ _ (subscriptTail (Expr.Name _ _) (Expr.Name _ _) (Value.ref _) (Value.int _ _)) _ _ _); k_dflt (refine r_opsAt (by k_asm) (by k_in) (by assumption) (by omega) ?_ (by with_unfolding_all rfl) (by intro _; with_unfolding_all rfl)); intro a' op' many' tk' tk'' hT' hop') | ((with_reducible show wpAny _ _ (binaryOp _ (Value.ref _) (Value.ref _)) _ _ _); k_dflt (refine r_addTG (by k_asm) (by k_asm) (by k_mem) (by k_mem) (by first | assumption | (simp only [List.length_nil, Nat.zero_add]; assumption)) ?_); intro D' h' n9' F' N' l') | (k_here; (first | with_reducible show wpAny _ _ (eval (Expr.ListComp (Expr.Call _ _ _ _) _ _ _) _) _ _ _ | with_reducible show wpAny _ _ (eval (Expr.ListComp (Expr.Tuple _ _ _) _ _ _) _) _ _ _ | with_reducible show wpAny _ _ (eval (Expr.ListComp (Expr.Subscript _ _ _) _ _ _) _) _ _ _ | with_reducible show wpAny _ _ (eval (Expr.ListComp (Expr.BinOp (Expr.Tuple _ _ _) _ _ _) _ _ _) _) _ _ _); k_dflt (refine z_ListComp (by k_asm) (by rfl) (by decide) (by rfl) (by decide) ?_ (by intro _; rfl) (by intro _ _ _ _ _ n9 h9; first | exact own_name n9 h9 | exact own_tuple n9 h9))) | (k_here; (with_reducible show wpAny _ _ (call (Value.builtin "len") [Value.ref _]) _ _ _); k_dflt (first | refine r_lenL (by k_asm) (by k_mem) (by (first | assumption | exact Nat.le_of_ble_eq_true rfl | omega | (simp only [List.length_cons, List.length_nil, List.length_append, List.length_map]; omega))) ?_ | refine r_lenT (by k_asm) (by k_mem) (by (first | assumption | exact Nat.le_of_ble_eq_true rfl | omega | (simp only [List.length_cons, List.length_nil, List.length_append, List.length_map]; omega))) ?_); (try dsimp only)) | (k_here; (with_reducible show wpAny _ _ (call (Value.type "tuple") [Value.ref _]) _ _ _); k_dflt (refine r_tupleL (by k_asm) (by k_asm) (by k_mem) (by (first | assumption | exact Nat.le_of_ble_eq_true rfl | omega | (simp only [List.length_cons, List.length_nil, List.length_append, List.length_map]; omega))) ?_); intro D9 h9 F9 N9 l9; (try k_lt l9)) | walk1 | (dsimp only; walk1) | (leave1; (try dsimp only))))
    rw [show ((fl + 1 : Nat) : Int) - 1 = (fl : Nat) by omega]
    k_dflt (refine' tree_use ih hB1 hk1 hN hl0 hl1 ?d2 ?d3 ?d4 ?d5 ?d6 ?d7 ?d8 ?d9 ?d10 ?d11 hret1)
    case d3 => k_asm
    case d4 => k_asm
    case d5 => k_asm
    case d6 => k_asm
    case d7 => k_asm
    case d8 => (repeat (first | exact mv0 | apply mvS))
    case d2 => k_mem
    case d9 => exact rfl
    case d10 => ktr_room
    case d11 => ktr_units
  case fin =>
    intro ys tl k1 tk1 nb1 ts hk1 hk2 hf1 hT1 hts hlen
    have hlen' := hT1.length
    rw [List.length_nil, Nat.zero_add] at hlen
    have hys : ys.length ≤ 1000 := by omega
    have hk3 := Int.le_trans hk2 (Int.add_le_add_left hM _)
    unfold LCg.FinE
    intro DD hD tD FD ND offD
    (repeat' (first | (k_unfold; (try dsimp only)) | ((with_reducible show wpAny _ _ (subscriptTail _ (Expr.Call _ _ _ _) (Value.ref _) (Value.int _ _)) _ _ _); k_dflt (refine r_pick (by k_asm) (by k_mem) (by assumption) (by assumption) (by assumption) (by assumption) ?_ (by with_unfolding_all rfl) (by intro _; with_unfolding_all rfl)); intro x' tk' hx') | ((with_reducible show wpAny _ _ (call (Value.ref _) [Value.ref _, Value.int _ _]) _ _ _); k_dflt (refine' feed_use (Belt.isInts (by assumption)) (Belt.isSmall (by assumption)) (Belt.isLen (by assumption)) (by k_asm) (by k_asm) (by k_asm) (by k_asm) (by k_asm) (by repeat (first | exact mv0 | apply mvS)) (by k_mem) (by k_all) (by omega) (by omega) (by omega) (by omega) (by first | assumption | exact rfl) (by ktr_room) (by ktr_units) ?_); intro i' tk' n' tk'' h' tk₃ F' N' i0' i1') | ((with_reducible show wpAny _ _ (subscriptTail (Expr.Name _ _) (Expr.Name _ _) (Value.ref _) (Value.int _ _)) _ _ _); k_dflt (refine r_opsAt (by k_asm) (by k_in) (by assumption) (by omega) ?_ (by with_unfolding_all rfl) (by intro _; with_unfolding_all rfl)); intro a' op' many' tk' tk'' hT' hop') | ((with_reducible show wpAny _ _ (binaryOp _ (Value.ref _) (Value.ref _)) _ _ _); k_dflt (refine r_addTG (by k_asm) (by k_asm) (by k_mem) (by k_mem) (by first | assumption | (simp only [List.length_nil, Nat.zero_add]; assumption)) ?_); intro D' h' n9' F' N' l') | (k_here; (first | with_reducible show wpAny _ _ (eval (Expr.ListComp (Expr.Call _ _ _ _) _ _ _) _) _ _ _ | with_reducible show wpAny _ _ (eval (Expr.ListComp (Expr.Tuple _ _ _) _ _ _) _) _ _ _ | with_reducible show wpAny _ _ (eval (Expr.ListComp (Expr.Subscript _ _ _) _ _ _) _) _ _ _ | with_reducible show wpAny _ _ (eval (Expr.ListComp (Expr.BinOp (Expr.Tuple _ _ _) _ _ _) _ _ _) _) _ _ _); k_dflt (refine z_ListComp (by k_asm) (by rfl) (by decide) (by rfl) (by decide) ?_ (by intro _; rfl) (by intro _ _ _ _ _ n9 h9; first | exact own_name n9 h9 | exact own_tuple n9 h9))) | (k_here; (with_reducible show wpAny _ _ (call (Value.builtin "len") [Value.ref _]) _ _ _); k_dflt (first | refine r_lenL (by k_asm) (by k_mem) (by (first | assumption | exact Nat.le_of_ble_eq_true rfl | omega | (simp only [List.length_cons, List.length_nil, List.length_append, List.length_map]; omega))) ?_ | refine r_lenT (by k_asm) (by k_mem) (by (first | assumption | exact Nat.le_of_ble_eq_true rfl | omega | (simp only [List.length_cons, List.length_nil, List.length_append, List.length_map]; omega))) ?_); (try dsimp only)) | (k_here; (with_reducible show wpAny _ _ (call (Value.type "tuple") [Value.ref _]) _ _ _); k_dflt (refine r_tupleL (by k_asm) (by k_asm) (by k_mem) (by (first | assumption | exact Nat.le_of_ble_eq_true rfl | omega | (simp only [List.length_cons, List.length_nil, List.length_append, List.length_map]; omega))) ?_); intro D9 h9 F9 N9 l9; (try k_lt l9)) | walk1 | (dsimp only; walk1) | (leave1; (try dsimp only))))
    (rename News _ _ _ _ => NF)
    (rename _ = _ ∨ _ => hDt)
    have NS := News.sub NF sub_one
    exact hret _ _ _ _ (by k_asm) NS ⟨_, _, _, _, Tr.mk _ ts, rfl, Int.le_trans (by omega) hk1, by simp only [feeds]; omega, fresh_app (R' := rest) (fresh_G hDt (fresh_one' (by omega) (by tbn_find) (by intro p hp; simp [hp])) (by k_mem) (by intro p hp; simp [hp])) (fresh_sub hf1 (by intro p hp; simp [hp])), Tr.mk_in hT1 (fun p hp => List.mem_append_right _ hp) (by omega) (List.mem_append_left _ (List.Mem.head _)), Tr.mk_fine (hlen ▸ hop) (fun t ht => (hts t ht).1), Tr.mk_dep fun t ht => (hts t ht).2⟩
theorem tree_all (w : World) (mean : ExcName → Option Value) (mg mb : Str → Option Value) : ∀ fl, fl ≤ 4 → TreeC w mean mg mb fl
  | 0, _ => tree0 w mean mg mb
  | fl + 1, h => treeS w mean mg mb fl (by omega) (tree_all w mean mg mb fl (by omega))
end
section
example : True := by (w_top off); trivial
open PySem PySem.W PyProof.Rows PySem.Spec PySem.Calls
noncomputable abbrev qA : Str := Str.ofString "?a"
noncomputable abbrev qB : Str := Str.ofString "?b"
noncomputable abbrev qC : Str := Str.ofString "?c"
noncomputable def notVar (op : Str) : Prop := op ≠ qA ∧ op ≠ qB ∧ op ≠ qC
/-- a pattern: variables are the text's own three tuples, the rest stands in the ledger -/
inductive PIn (news : List (Addr × Obj)) : Value → Tr → Prop where
  | va : PIn news (.ref 118) (.n0 qA)
  | vb : PIn news (.ref 119) (.n0 qB)
  | vc : PIn news (.ref 120) (.n0 qC)
  | n0 {a : Addr} {op : Str} {tk : Tok} {n : Nat} : notVar op → (a, tupO [.str op tk] n) ∈ news → PIn news (.ref a) (.n0 op)
  | n1 {a : Addr} {op : Str} {tk : Tok} {n : Nat} {v : Value} {t : Tr} : notVar op → (a, tupO [.str op tk, v] n) ∈ news → PIn news v t → PIn news (.ref a) (.n1 op t)
  | n2 {a : Addr} {op : Str} {tk : Tok} {n : Nat} {v v' : Value} {t t' : Tr} : notVar op → (a, tupO [.str op tk, v, v'] n) ∈ news → PIn news v t → PIn news v' t' → PIn news (.ref a) (.n2 op t t')
theorem PIn.mono {news news' : List (Addr × Obj)} {v : Value} {t : Tr} (h : PIn news v t) (hs : ∀ p ∈ news, p ∈ news') : PIn news' v t := by
  induction h with
  | va => exact .va
  | vb => exact .vb
  | vc => exact .vc
  | n0 hv hm => exact .n0 hv (hs _ hm)
  | n1 hv hm _ ih => exact .n1 hv (hs _ hm) ih
  | n2 hv hm _ _ i1 i2 => exact .n2 hv (hs _ hm) i1 i2
inductive PIns (news : List (Addr × Obj)) : List Value → List Tr → Prop where
  | nil : PIns news [] []
  | cons {v : Value} {t : Tr} {vs : List Value} {ts : List Tr} : PIn news v t → PIns news vs ts → PIns news (v :: vs) (t :: ts)
theorem PIns.length {news : List (Addr × Obj)} {vs : List Value} {ts : List Tr} (h : PIns news vs ts) : vs.length = ts.length := by
  induction h with
  | nil => rfl
  | cons _ _ ih => simp [ih]
theorem PIn.view {news : List (Addr × Obj)} {v : Value} {t : Tr} (h : PIn news v t) : (v = .ref 118 ∧ t = .n0 qA) ∨ (v = .ref 119 ∧ t = .n0 qB) ∨ (v = .ref 120 ∧ t = .n0 qC) ∨
    ∃ a tk n vs, v = .ref a ∧ notVar t.op ∧ (a, tupO (.str t.op tk :: vs) n) ∈ news ∧ PIns news vs t.kids := by
  cases h with
  | va => exact .inl ⟨rfl, rfl⟩
  | vb => exact .inr (.inl ⟨rfl, rfl⟩)
  | vc => exact .inr (.inr (.inl ⟨rfl, rfl⟩))
  | n0 hv hm => exact .inr (.inr (.inr ⟨_, _, _, [], rfl, hv, hm, .nil⟩))
  | n1 hv hm h => exact .inr (.inr (.inr ⟨_, _, _, [_], rfl, hv, hm, .cons h .nil⟩))
  | n2 hv hm h h' => exact .inr (.inr (.inr ⟨_, _, _, [_, _], rfl, hv, hm, .cons h (.cons h' .nil)⟩))
theorem PIns.pairs {news : List (Addr × Obj)} {vs : List Value} {ks : List Tr} (h : PIns news vs ks) : ∃ ps : List (Value × Tr), ps.map (·.1) = vs ∧ ps.map (·.2) = ks ∧ ∀ q ∈ ps, q.2 ∈ ks ∧ PIn news q.1 q.2 := by
  induction h with
  | nil => exact ⟨[], rfl, rfl, fun _ h => nomatch h⟩
  | @cons v t vs ts x _ ih =>
    obtain ⟨ps, e1, e2, hq⟩ := ih
    refine ⟨(v, t) :: ps, by simp [e1], by simp [e2], fun q hm => ?_⟩
    rcases List.mem_cons.mp hm with rfl | hm
    · exact ⟨List.mem_cons_self, x⟩
    · exact ⟨List.mem_cons_of_mem _ (hq q hm).1, (hq q hm).2⟩
/-- the table of the three -/
noncomputable def TabIn (w : World) (news : List (Addr × Obj)) (tb : Addr) (va vb vc : Value) : Prop :=
  ∃ o, (tb, o) ∈ news ∧ (tb == sysModules) = false ∧ o.IsDictOf (PySem.strKind PySem.Challenge.rw_sa0020_01.row.toRowW.prog w) [(qA, va), (qB, vb), (qC, vc)]
theorem TabIn.mono {w : World} {news news' : List (Addr × Obj)} {tb : Addr} {va vb vc : Value} (h : TabIn w news tb va vb vc) (hs : ∀ p ∈ news, p ∈ news') : TabIn w news' tb va vb vc := let ⟨o, hm, r⟩ := h; ⟨o, hs _ hm, r⟩
section
variable {w : World} {A : Around} {E : Value → Shared → Prop} {s : Shared} {h₀ : Heap} {L : Addr} {news : List (Addr × Obj)} {tb : Addr} {va vb vc : Value}
noncomputable def inTab (x : Str) : Bool := qA == x || qB == x || qC == x
theorem r_inTab {x : Str} {t : Tok} {Q : Value → Shared → Prop} (N : News h₀ L s.heap news) (D : TabIn w news tb va vb vc) (h : Q (.bool (inTab x)) { s with toks := s.toks + 1 }) :
    wpAny (model PySem.Challenge.rw_sa0020_01.row.toRowW.prog w) A (compareOp .In (.str x t) (.ref tb)) Q E s := by
  obtain ⟨o, hm, lo, hd⟩ := D
  refine kda_in N hm hd lo (strKind_is _ _ _ _) _ ?_ h
  by_cases h1 : qA = x
  · subst h1; simp [valueAt, inTab]
  · have e1 : (qA == x) = false := beq_eq_false_iff_ne.mpr h1
    by_cases h2 : qB = x
    · subst h2; simp [valueAt, inTab, h1]
    · have e2 : (qB == x) = false := beq_eq_false_iff_ne.mpr h2
      by_cases h3 : qC = x
      · subst h3; simp [valueAt, inTab, h1, h2]
      · have e3 : (qC == x) = false := beq_eq_false_iff_ne.mpr h3
        simp [valueAt, inTab, h1, h2, h3, e1, e2, e3]
theorem r_itemTab {value slice : Expr} {x : Str} {t : Tok} {v : Value} {Q : Value → Shared → Prop} (N : News h₀ L s.heap news) (D : TabIn w news tb va vb vc) (hv : valueAt [(qA, va), (qB, vb), (qC, vc)] x = some v) (h : Q v { s with toks := s.toks + 1 })
    (hs : subscripted slice false (.ref tb) (.str x t) = operate [.ref tb, .str x t] (getItem (.ref tb) (.str x t))) (hg : ∀ r, letTemporaryGo value (.ref tb) r = pure ()) :
    wpAny (model PySem.Challenge.rw_sa0020_01.row.toRowW.prog w) A (subscriptTail value slice (.ref tb) (.str x t)) Q E s := by
  obtain ⟨o, hm, lo, hd⟩ := D
  exact kda_item N hm hd (strKind_is _ _ _ _) hv h hs hg
end
/-- the pattern with the table's terms in the variables' places -/
noncomputable def Tr.subst (ta tb tc : Tr) : Tr → Tr
  | .n0 x => if x = qA then ta else if x = qB then tb else if x = qC then tc else .n0 x
  | .n1 op a => .n1 op (Tr.subst ta tb tc a)
  | .n2 op a b => .n2 op (Tr.subst ta tb tc a) (Tr.subst ta tb tc b)
  | .n3 op a b c => .n3 op (Tr.subst ta tb tc a) (Tr.subst ta tb tc b) (Tr.subst ta tb tc c)
noncomputable def WithC (w : World) (mean : ExcName → Option Value) (mg mb : Str → Option Value) (p : Tr) : Prop :=
  ∀ (news news₁ : List (Addr × Obj)) (v va vb vc : Value) (tb : Addr) (a b c : Tr), PIn news v p → TabIn w news tb va vb vc → TIn news va a → TIn news vb b → TIn news vc c → (∀ p ∈ news, p ∈ news₁) →
    Con w mean mg mb 227 (2 * p.dep + 10) [v, .ref tb] news₁ (fun r news' => ∃ tl, news' = tl ++ news₁ ∧ Fresh tl news₁ ∧ TIn (tl ++ news) r (Tr.subst a b c p))
theorem with_use {w : World} {mean : ExcName → Option Value} {mg mb : Str → Option Value} {k : Tr} {v va vb vc : Value} {tb : Addr} {ta tb' tc : Tr} {news news₁ : List (Addr × Obj)}
    {dp un : Nat} {gd : Option (List Code)} {cn : Str} {cs : Scope} {a : Addr} {ccd : Value} {cl : List (Str × Addr)} {outer : List Env} {A₀ : Around} {base h₀ : Heap} {L : Addr} {m : Str → Option Value} {s : Shared} {Q E : Value → Shared → Prop}
    (C : WithC w mean mg mb k) (hP : PIn news v k) (hD : TabIn w news tb va vb vc) (hA : TIn news va ta) (hB : TIn news vb tb') (hC : TIn news vc tc)
    (B : Below A₀ base outer h₀) (F : Fr h₀ L s.heap m) (X : (hd.heap_1 w.params).In h₀) (N : News h₀ L s.heap news₁) (T' : Top hd.view_39 lse mean mg mb h₀) (hs : ∀ p ∈ news, p ∈ news₁) (hk : cs.kind = .function) (hd : dp + (2 * k.dep + 10) < recursionLimit) (hu : un + 8 * (2 * k.dep + 10) < cLine)
    (ret : ∀ r tl h' tk', Fr h₀ L h' m → News h₀ L h' (tl ++ news₁) → Fresh tl news₁ → TIn (tl ++ news) r (Tr.subst ta tb' tc k) → Q r { s with heap := h', toks := tk' }) :
    wpAny (model PySem.Challenge.rw_sa0020_01.row.toRowW.prog w) (ktrTop dp un gd cn cs L a ccd cl outer) (call (.ref 227) [v, .ref tb]) Q E s :=
  con_use (C news news₁ v va vb vc tb ta tb' tc hP hD hA hB hC hs) B F X N T' (fun _ h => h) hk hd hu fun r news' h' tk' F' N' hP => by
    obtain ⟨tl, rfl, h1, h2⟩ := hP
    exact ret _ _ _ _ F' N' h1 h2
theorem sub_nil5 {x y z d c : Addr × Obj} {tl r : List (Addr × Obj)} : ∀ p ∈ [d] ++ r, p ∈ x :: y :: (tl ++ z :: d :: c :: r) := fun p hp => by
  simp only [List.mem_cons, List.mem_append, List.not_mem_nil, or_false] at hp ⊢
  rcases hp with h | h <;> simp [h]
theorem sub_cons5 {x y z d e c : Addr × Obj} {tl r : List (Addr × Obj)} : ∀ p ∈ ([x] ++ tl) ++ r, p ∈ x :: y :: z :: (tl ++ d :: e :: c :: r) := fun p hp => by
  simp only [List.mem_cons, List.mem_append, List.not_mem_nil, or_false] at hp ⊢
  rcases hp with (h | h) | h <;> simp [h]
theorem fresh_lt {D : Addr} {o : Obj} {l led : List (Addr × Obj)} (h : AllLt D l) (hs : ∀ p ∈ led, p ∈ l) : Fresh [(D, o)] led := Fresh.one fun q hq => ktn_ltOf h q (hs q hq)
theorem subst_all2 {tl news : List (Addr × Obj)} {a b c p : Tr} {D : Addr} {tk : Tok} {n : Nat} {y : Value} {ys : List Value} (h : All2 (fun k l v => TIn l v (Tr.subst a b c k)) (tl ++ news) (y :: ys) p.kids) :
    TIn (([(D, tupO (.str p.op tk :: y :: ys) n)] ++ tl) ++ news) (.ref D) (Tr.subst a b c p) := by
  have m : ∀ q ∈ tl ++ news, q ∈ ([(D, tupO (.str p.op tk :: y :: ys) n)] ++ tl) ++ news := fun q hq => by
    simp only [List.mem_append] at hq ⊢
    rcases hq with h | h <;> simp [h]
  have e0 : (D, tupO (.str p.op tk :: y :: ys) n) ∈ ([(D, tupO (.str p.op tk :: y :: ys) n)] ++ tl) ++ news := List.mem_append_left _ (List.mem_append_left _ List.mem_cons_self)
  cases p with
  | n0 op => cases h
  | n1 op k =>
    cases h with
    | cons h1 h => cases h; exact .n1 e0 (h1.mono m)
  | n2 op k k' =>
    cases h with
    | cons h1 h => cases h with
      | cons h2 h => cases h; exact .n2 e0 (h1.mono m) (h2.mono m)
  | n3 op k k' k'' =>
    cases h with
    | cons h1 h => cases h with
      | cons h2 h => cases h with
        | cons h3 h => cases h; exact .n3 e0 (h1.mono m) (h2.mono m) (h3.mono m)
theorem subst_nil {a b c p : Tr} (h : p.kids = []) (hv : notVar p.op) : Tr.subst a b c p = .n0 p.op := by
  cases p with
  | n0 op =>
    obtain ⟨h1, h2, h3⟩ := hv
    simp only [Tr.op] at h1 h2 h3
    simp [Tr.subst, Tr.op, h1, h2, h3]
  | n1 => cases h
  | n2 => cases h
  | n3 => cases h
theorem ne4 : ¬ qA = qB := by decide +kernel
theorem ne5 : ¬ qA = qC := by decide +kernel
theorem ne6 : ¬ qB = qC := by decide +kernel
theorem ne4' : ¬ qB = qA := by decide +kernel
theorem ne5' : ¬ qC = qA := by decide +kernel
theorem ne6' : ¬ qC = qB := by decide +kernel
theorem with_step (w : World) (mean : ExcName → Option Value) (mg mb : Str → Option Value) (p : Tr) (IH : ∀ k, k.dep < p.dep → WithC w mean mg mb k) : WithC w mean mg mb p := by
  intro news news₁ v va vb vc tb a b c hP hD hA hB hC hsub
  unfold Con
  k_fill
  intro dp un gd cn cs a' ccd cl outer A₀ base h₀ L m s Q E B F X N T' hkf hd hu hret
  refine wpAny_call ?_
  have hD₁ := hD.mono hsub
  have hDh : True ∧ TabIn w news tb va vb vc := ⟨trivial, hD⟩
  clear hD
  rcases hP.view with ⟨rfl, rfl⟩ | ⟨rfl, rfl⟩ | ⟨rfl, rfl⟩ | ⟨ad, tk, n, vs, rfl, hnv, hm, hk⟩
  · have hin : inTab (Str.ofString "?a") = true := by decide +kernel
    have hva : valueAt [(qA, va), (qB, vb), (qC, vc)] (Str.ofString "?a") = some va := by simp [valueAt, ne4, ne5, ne6, ne4', ne5', ne6']
    simp only [Tr.dep] at hd hu
    k_dflt (first | (refine' code_def (by k_asm) (by k_asm) (by k_asm) (by k_asm) (by k_asm) rfl rfl (by first | assumption | exact rfl) (by k_is) (by k_is) (by ktr_room) (by exact BindsTo.of_eq rfl) (by exact locs rfl) ?_ (by exact rfl) (by exact rfl) (by exact rfl) (by decide); k_whole; intro g8 L8 h8 FG8 F8 N8 B8 X8 T8; (try dsimp only); (try k_fold)) | (refine' code_defC (by k_asm) (by k_asm) (by k_asm) (by k_asm) (by k_asm) rfl rfl (by first | assumption | exact rfl) (by k_is) (by k_is) (by ktr_room) (by exact BindsTo.of_eq rfl) (by exact rfl) (by decide +kernel) ?_ (by exact rfl) (by exact rfl) (by exact rfl); k_whole; intro g8 L8 h8 tk8 cells8 FG8 F8 N8 Y8 B8 X8 T8 l8; (try k_lt l8); k_cells Y8; (try simp only [List.cons_append, List.nil_append] at N8); (try dsimp only); (try k_fold)))
    (repeat' (first | (k_unfold; (try dsimp only)) | ((with_reducible show wpAny _ _ (compareOp CmpOp.In (Value.str _ _) (Value.ref _)) _ _ _); k_dflt (refine r_inTab (by k_asm) (TabIn.mono (by assumption) (by first | assumption | ktd_sub)) ?_)) | ((with_reducible show wpAny _ _ (subscriptTail _ _ (Value.ref _) (Value.str _ _)) _ _ _); k_dflt (refine r_itemTab (by k_asm) (TabIn.mono (by assumption) (by first | assumption | ktd_sub)) (by first | assumption | rfl) ?_ (by with_unfolding_all rfl) (by intro _; with_unfolding_all rfl))) | ((with_reducible show wpAny _ _ (subscriptTail (Expr.Name _ _) (Expr.Slice _ _ _ _) (Value.ref _) (Value.ref _)) _ _ _); k_here; k_dflt (refine r_slice1 (by k_asm) (by k_asm) (by k_mem) (by (first | assumption | exact Nat.le_of_ble_eq_true rfl | omega | (simp only [List.length_cons, List.length_nil, List.length_append, List.length_map]; omega))) ?_ (by with_unfolding_all rfl) (by intro _; with_unfolding_all rfl)); intro D9 h9 F9 N9 l9; (try k_lt l9); (try dsimp only)) | ((with_reducible show wpAny _ _ (subscriptTail (Expr.Name _ _) (Expr.Constant _ _ _) (Value.ref _) (Value.int _ _)) _ _ _); k_here; k_dflt refine r_item0 (by k_asm) (by k_mem) ?_ (by with_unfolding_all rfl)) | (k_here; (first | with_reducible show wpAny _ _ (eval (Expr.ListComp (Expr.Call _ _ _ _) _ _ _) _) _ _ _ | with_reducible show wpAny _ _ (eval (Expr.ListComp (Expr.Tuple _ _ _) _ _ _) _) _ _ _ | with_reducible show wpAny _ _ (eval (Expr.ListComp (Expr.Subscript _ _ _) _ _ _) _) _ _ _ | with_reducible show wpAny _ _ (eval (Expr.ListComp (Expr.BinOp (Expr.Tuple _ _ _) _ _ _) _ _ _) _) _ _ _); k_dflt (refine z_ListComp (by k_asm) (by rfl) (by decide) (by rfl) (by decide) ?_ (by intro _; rfl) (by intro _ _ _ _ _ n9 h9; first | exact own_name n9 h9 | exact own_tuple n9 h9))) | (k_here; (with_reducible show wpAny _ _ (binaryOp _ (Value.ref _) (Value.ref _)) _ _ _); k_dflt (refine' r_addT1 (by k_asm) (by k_asm) ?k3 (by k_mem) (by (first | assumption | exact Nat.le_of_ble_eq_true rfl | omega | (simp only [List.length_cons, List.length_nil, List.length_append, List.length_map]; omega))) ?_; (case k3 => k_mem); k_whole)) | (k_here; (with_reducible show wpAny _ _ (binaryOp _ (Value.ref _) (Value.ref _)) _ _ _); k_dflt (refine r_addT (by k_asm) (by k_asm) (by k_mem) (by k_mem) (by (first | assumption | exact Nat.le_of_ble_eq_true rfl | omega | (simp only [List.length_cons, List.length_nil, List.length_append, List.length_map]; omega))) ?_); intro D9 h9 F9 N9 l9; (try simp only [List.nil_append, List.cons_append] at N9); (try k_lt l9)) | (k_here; (with_reducible show wpAny _ _ (call (Value.type "tuple") [Value.ref _]) _ _ _); k_dflt (refine r_tupleL (by k_asm) (by k_asm) (by k_mem) (by (first | assumption | exact Nat.le_of_ble_eq_true rfl | omega | (simp only [List.length_cons, List.length_nil, List.length_append, List.length_map]; omega))) ?_); intro D9 h9 F9 N9 l9; (try k_lt l9)) | walk1 | (dsimp only; walk1) | (leave1; (try dsimp only))))
    refine hret _ _ _ _ (by k_asm) (News.sub (by k_asm) (by ktd_sub)) ⟨[], rfl, Fresh.nil, ?_⟩
    simpa [Tr.subst, ne4, ne5, ne6, ne4', ne5', ne6'] using hA
  · have hin : inTab (Str.ofString "?b") = true := by decide +kernel
    have hva : valueAt [(qA, va), (qB, vb), (qC, vc)] (Str.ofString "?b") = some vb := by simp [valueAt, ne4, ne5, ne6, ne4', ne5', ne6']
    simp only [Tr.dep] at hd hu
    k_dflt (first | (refine' code_def (by k_asm) (by k_asm) (by k_asm) (by k_asm) (by k_asm) rfl rfl (by first | assumption | exact rfl) (by k_is) (by k_is) (by ktr_room) (by exact BindsTo.of_eq rfl) (by exact locs rfl) ?_ (by exact rfl) (by exact rfl) (by exact rfl) (by decide); k_whole; intro g8 L8 h8 FG8 F8 N8 B8 X8 T8; (try dsimp only); (try k_fold)) | (refine' code_defC (by k_asm) (by k_asm) (by k_asm) (by k_asm) (by k_asm) rfl rfl (by first | assumption | exact rfl) (by k_is) (by k_is) (by ktr_room) (by exact BindsTo.of_eq rfl) (by exact rfl) (by decide +kernel) ?_ (by exact rfl) (by exact rfl) (by exact rfl); k_whole; intro g8 L8 h8 tk8 cells8 FG8 F8 N8 Y8 B8 X8 T8 l8; (try k_lt l8); k_cells Y8; (try simp only [List.cons_append, List.nil_append] at N8); (try dsimp only); (try k_fold)))
    (repeat' (first | (k_unfold; (try dsimp only)) | ((with_reducible show wpAny _ _ (compareOp CmpOp.In (Value.str _ _) (Value.ref _)) _ _ _); k_dflt (refine r_inTab (by k_asm) (TabIn.mono (by assumption) (by first | assumption | ktd_sub)) ?_)) | ((with_reducible show wpAny _ _ (subscriptTail _ _ (Value.ref _) (Value.str _ _)) _ _ _); k_dflt (refine r_itemTab (by k_asm) (TabIn.mono (by assumption) (by first | assumption | ktd_sub)) (by first | assumption | rfl) ?_ (by with_unfolding_all rfl) (by intro _; with_unfolding_all rfl))) | ((with_reducible show wpAny _ _ (subscriptTail (Expr.Name _ _) (Expr.Slice _ _ _ _) (Value.ref _) (Value.ref _)) _ _ _); k_here; k_dflt (refine r_slice1 (by k_asm) (by k_asm) (by k_mem) (by (first | assumption | exact Nat.le_of_ble_eq_true rfl | omega | (simp only [List.length_cons, List.length_nil, List.length_append, List.length_map]; omega))) ?_ (by with_unfolding_all rfl) (by intro _; with_unfolding_all rfl)); intro D9 h9 F9 N9 l9; (try k_lt l9); (try dsimp only)) | ((with_reducible show wpAny _ _ (subscriptTail (Expr.Name _ _) (Expr.Constant _ _ _) (Value.ref _) (Value.int _ _)) _ _ _); k_here; k_dflt refine r_item0 (by k_asm) (by k_mem) ?_ (by with_unfolding_all rfl)) | (k_here; (first | with_reducible show wpAny _ _ (eval (Expr.ListComp (Expr.Call _ _ _ _) _ _ _) _) _ _ _ | with_reducible show wpAny _ _ (eval (Expr.ListComp (Expr.Tuple _ _ _) _ _ _) _) _ _ _ | with_reducible show wpAny _ _ (eval (Expr.ListComp (Expr.Subscript _ _ _) _ _ _) _) _ _ _ | with_reducible show wpAny _ _ (eval (Expr.ListComp (Expr.BinOp (Expr.Tuple _ _ _) _ _ _) _ _ _) _) _ _ _); k_dflt (refine z_ListComp (by k_asm) (by rfl) (by decide) (by rfl) (by decide) ?_ (by intro _; rfl) (by intro _ _ _ _ _ n9 h9; first | exact own_name n9 h9 | exact own_tuple n9 h9))) | (k_here; (with_reducible show wpAny _ _ (binaryOp _ (Value.ref _) (Value.ref _)) _ _ _); k_dflt (refine' r_addT1 (by k_asm) (by k_asm) ?k3 (by k_mem) (by (first | assumption | exact Nat.le_of_ble_eq_true rfl | omega | (simp only [List.length_cons, List.length_nil, List.length_append, List.length_map]; omega))) ?_; (case k3 => k_mem); k_whole)) | (k_here; (with_reducible show wpAny _ _ (binaryOp _ (Value.ref _) (Value.ref _)) _ _ _); k_dflt (refine r_addT (by k_asm) (by k_asm) (by k_mem) (by k_mem) (by (first | assumption | exact Nat.le_of_ble_eq_true rfl | omega | (simp only [List.length_cons, List.length_nil, List.length_append, List.length_map]; omega))) ?_); intro D9 h9 F9 N9 l9; (try simp only [List.nil_append, List.cons_append] at N9); (try k_lt l9)) | (k_here; (with_reducible show wpAny _ _ (call (Value.type "tuple") [Value.ref _]) _ _ _); k_dflt (refine r_tupleL (by k_asm) (by k_asm) (by k_mem) (by (first | assumption | exact Nat.le_of_ble_eq_true rfl | omega | (simp only [List.length_cons, List.length_nil, List.length_append, List.length_map]; omega))) ?_); intro D9 h9 F9 N9 l9; (try k_lt l9)) | walk1 | (dsimp only; walk1) | (leave1; (try dsimp only))))
    refine hret _ _ _ _ (by k_asm) (News.sub (by k_asm) (by ktd_sub)) ⟨[], rfl, Fresh.nil, ?_⟩
    simpa [Tr.subst, ne4, ne5, ne6, ne4', ne5', ne6'] using hB
  · have hin : inTab (Str.ofString "?c") = true := by decide +kernel
    have hva : valueAt [(qA, va), (qB, vb), (qC, vc)] (Str.ofString "?c") = some vc := by simp [valueAt, ne4, ne5, ne6, ne4', ne5', ne6']
    simp only [Tr.dep] at hd hu
    k_dflt (first | (refine' code_def (by k_asm) (by k_asm) (by k_asm) (by k_asm) (by k_asm) rfl rfl (by first | assumption | exact rfl) (by k_is) (by k_is) (by ktr_room) (by exact BindsTo.of_eq rfl) (by exact locs rfl) ?_ (by exact rfl) (by exact rfl) (by exact rfl) (by decide); k_whole; intro g8 L8 h8 FG8 F8 N8 B8 X8 T8; (try dsimp only); (try k_fold)) | (refine' code_defC (by k_asm) (by k_asm) (by k_asm) (by k_asm) (by k_asm) rfl rfl (by first | assumption | exact rfl) (by k_is) (by k_is) (by ktr_room) (by exact BindsTo.of_eq rfl) (by exact rfl) (by decide +kernel) ?_ (by exact rfl) (by exact rfl) (by exact rfl); k_whole; intro g8 L8 h8 tk8 cells8 FG8 F8 N8 Y8 B8 X8 T8 l8; (try k_lt l8); k_cells Y8; (try simp only [List.cons_append, List.nil_append] at N8); (try dsimp only); (try k_fold)))
    (repeat' (first | (k_unfold; (try dsimp only)) | ((with_reducible show wpAny _ _ (compareOp CmpOp.In (Value.str _ _) (Value.ref _)) _ _ _); k_dflt (refine r_inTab (by k_asm) (TabIn.mono (by assumption) (by first | assumption | ktd_sub)) ?_)) | ((with_reducible show wpAny _ _ (subscriptTail _ _ (Value.ref _) (Value.str _ _)) _ _ _); k_dflt (refine r_itemTab (by k_asm) (TabIn.mono (by assumption) (by first | assumption | ktd_sub)) (by first | assumption | rfl) ?_ (by with_unfolding_all rfl) (by intro _; with_unfolding_all rfl))) | ((with_reducible show wpAny _ _ (subscriptTail (Expr.Name _ _) (Expr.Slice _ _ _ _) (Value.ref _) (Value.ref _)) _ _ _); k_here; k_dflt (refine r_slice1 (by k_asm) (by k_asm) (by k_mem) (by (first | assumption | exact Nat.le_of_ble_eq_true rfl | omega | (simp only [List.length_cons, List.length_nil, List.length_append, List.length_map]; omega))) ?_ (by with_unfolding_all rfl) (by intro _; with_unfolding_all rfl)); intro D9 h9 F9 N9 l9; (try k_lt l9); (try dsimp only)) | ((with_reducible show wpAny _ _ (subscriptTail (Expr.Name _ _) (Expr.Constant _ _ _) (Value.ref _) (Value.int _ _)) _ _ _); k_here; k_dflt refine r_item0 (by k_asm) (by k_mem) ?_ (by with_unfolding_all rfl)) | (k_here; (first | with_reducible show wpAny _ _ (eval (Expr.ListComp (Expr.Call _ _ _ _) _ _ _) _) _ _ _ | with_reducible show wpAny _ _ (eval (Expr.ListComp (Expr.Tuple _ _ _) _ _ _) _) _ _ _ | with_reducible show wpAny _ _ (eval (Expr.ListComp (Expr.Subscript _ _ _) _ _ _) _) _ _ _ | with_reducible show wpAny _ _ (eval (Expr.ListComp (Expr.BinOp (Expr.Tuple _ _ _) _ _ _) _ _ _) _) _ _ _); k_dflt (refine z_ListComp (by k_asm) (by rfl) (by decide) (by rfl) (by decide) ?_ (by intro _; rfl) (by intro _ _ _ _ _ n9 h9; first | exact own_name n9 h9 | exact own_tuple n9 h9))) | (k_here; (with_reducible show wpAny _ _ (binaryOp _ (Value.ref _) (Value.ref _)) _ _ _); k_dflt (refine' r_addT1 (by k_asm) (by k_asm) ?k3 (by k_mem) (by (first | assumption | exact Nat.le_of_ble_eq_true rfl | omega | (simp only [List.length_cons, List.length_nil, List.length_append, List.length_map]; omega))) ?_; (case k3 => k_mem); k_whole)) | (k_here; (with_reducible show wpAny _ _ (binaryOp _ (Value.ref _) (Value.ref _)) _ _ _); k_dflt (refine r_addT (by k_asm) (by k_asm) (by k_mem) (by k_mem) (by (first | assumption | exact Nat.le_of_ble_eq_true rfl | omega | (simp only [List.length_cons, List.length_nil, List.length_append, List.length_map]; omega))) ?_); intro D9 h9 F9 N9 l9; (try simp only [List.nil_append, List.cons_append] at N9); (try k_lt l9)) | (k_here; (with_reducible show wpAny _ _ (call (Value.type "tuple") [Value.ref _]) _ _ _); k_dflt (refine r_tupleL (by k_asm) (by k_asm) (by k_mem) (by (first | assumption | exact Nat.le_of_ble_eq_true rfl | omega | (simp only [List.length_cons, List.length_nil, List.length_append, List.length_map]; omega))) ?_); intro D9 h9 F9 N9 l9; (try k_lt l9)) | walk1 | (dsimp only; walk1) | (leave1; (try dsimp only))))
    refine hret _ _ _ _ (by k_asm) (News.sub (by k_asm) (by ktd_sub)) ⟨[], rfl, Fresh.nil, ?_⟩
    simpa [Tr.subst, ne4, ne5, ne6, ne4', ne5', ne6'] using hC
  · have hm₁ := hsub _ hm
    have hnt : inTab p.op = false := by
      obtain ⟨h1, h2, h3⟩ := hnv
      simp [inTab, Ne.symm h1, Ne.symm h2, Ne.symm h3]
    have hkl := p.kids_le
    have hvs : vs.length ≤ 1000 := by have := hk.length; omega
    k_dflt (first | (refine' code_def (by k_asm) (by k_asm) (by k_asm) (by k_asm) (by k_asm) rfl rfl (by first | assumption | exact rfl) (by k_is) (by k_is) (by ktr_room) (by exact BindsTo.of_eq rfl) (by exact locs rfl) ?_ (by exact rfl) (by exact rfl) (by exact rfl) (by decide); k_whole; intro g8 L8 h8 FG8 F8 N8 B8 X8 T8; (try dsimp only); (try k_fold)) | (refine' code_defC (by k_asm) (by k_asm) (by k_asm) (by k_asm) (by k_asm) rfl rfl (by first | assumption | exact rfl) (by k_is) (by k_is) (by ktr_room) (by exact BindsTo.of_eq rfl) (by exact rfl) (by decide +kernel) ?_ (by exact rfl) (by exact rfl) (by exact rfl); k_whole; intro g8 L8 h8 tk8 cells8 FG8 F8 N8 Y8 B8 X8 T8 l8; (try k_lt l8); k_cells Y8; (try simp only [List.cons_append, List.nil_append] at N8); (try dsimp only); (try k_fold)))
    (repeat' (first | (k_unfold; (try dsimp only)) | ((with_reducible show wpAny _ _ (compareOp CmpOp.In (Value.str _ _) (Value.ref _)) _ _ _); k_dflt (refine r_inTab (by k_asm) (TabIn.mono (by assumption) (by first | assumption | ktd_sub)) ?_)) | ((with_reducible show wpAny _ _ (subscriptTail _ _ (Value.ref _) (Value.str _ _)) _ _ _); k_dflt (refine r_itemTab (by k_asm) (TabIn.mono (by assumption) (by first | assumption | ktd_sub)) (by first | assumption | rfl) ?_ (by with_unfolding_all rfl) (by intro _; with_unfolding_all rfl))) | ((with_reducible show wpAny _ _ (subscriptTail (Expr.Name _ _) (Expr.Slice _ _ _ _) (Value.ref _) (Value.ref _)) _ _ _); k_here; k_dflt (refine r_slice1 (by k_asm) (by k_asm) (by k_mem) (by (first | assumption | exact Nat.le_of_ble_eq_true rfl | omega | (simp only [List.length_cons, List.length_nil, List.length_append, List.length_map]; omega))) ?_ (by with_unfolding_all rfl) (by intro _; with_unfolding_all rfl)); intro D9 h9 F9 N9 l9; (try k_lt l9); (try dsimp only)) | ((with_reducible show wpAny _ _ (subscriptTail (Expr.Name _ _) (Expr.Constant _ _ _) (Value.ref _) (Value.int _ _)) _ _ _); k_here; k_dflt refine r_item0 (by k_asm) (by k_mem) ?_ (by with_unfolding_all rfl)) | (k_here; (first | with_reducible show wpAny _ _ (eval (Expr.ListComp (Expr.Call _ _ _ _) _ _ _) _) _ _ _ | with_reducible show wpAny _ _ (eval (Expr.ListComp (Expr.Tuple _ _ _) _ _ _) _) _ _ _ | with_reducible show wpAny _ _ (eval (Expr.ListComp (Expr.Subscript _ _ _) _ _ _) _) _ _ _ | with_reducible show wpAny _ _ (eval (Expr.ListComp (Expr.BinOp (Expr.Tuple _ _ _) _ _ _) _ _ _) _) _ _ _); k_dflt (refine z_ListComp (by k_asm) (by rfl) (by decide) (by rfl) (by decide) ?_ (by intro _; rfl) (by intro _ _ _ _ _ n9 h9; first | exact own_name n9 h9 | exact own_tuple n9 h9))) | (k_here; (with_reducible show wpAny _ _ (binaryOp _ (Value.ref _) (Value.ref _)) _ _ _); k_dflt (refine' r_addT1 (by k_asm) (by k_asm) ?k3 (by k_mem) (by (first | assumption | exact Nat.le_of_ble_eq_true rfl | omega | (simp only [List.length_cons, List.length_nil, List.length_append, List.length_map]; omega))) ?_; (case k3 => k_mem); k_whole)) | (k_here; (with_reducible show wpAny _ _ (binaryOp _ (Value.ref _) (Value.ref _)) _ _ _); k_dflt (refine r_addT (by k_asm) (by k_asm) (by k_mem) (by k_mem) (by (first | assumption | exact Nat.le_of_ble_eq_true rfl | omega | (simp only [List.length_cons, List.length_nil, List.length_append, List.length_map]; omega))) ?_); intro D9 h9 F9 N9 l9; (try simp only [List.nil_append, List.cons_append] at N9); (try k_lt l9)) | (k_here; (with_reducible show wpAny _ _ (call (Value.type "tuple") [Value.ref _]) _ _ _); k_dflt (refine r_tupleL (by k_asm) (by k_asm) (by k_mem) (by (first | assumption | exact Nat.le_of_ble_eq_true rfl | omega | (simp only [List.length_cons, List.length_nil, List.length_append, List.length_map]; omega))) ?_); intro D9 h9 F9 N9 l9; (try k_lt l9)) | walk1 | (dsimp only; walk1) | (leave1; (try dsimp only))))
    (rename Fr _ _ _ _ => FF)
    (rename News _ _ _ _ => NN)
    refine Exists.elim (hk.pairs) fun ps h9 => and3 h9 fun e1 e2 hq => ?_
    refine ZSrc.tup rfl FF NN (SeqIn.tup (List.Mem.head _)) (by rw [sizeLine_eq]; omega) fun g => ?_
    clear FF NN
    rw [← e1]
    refine z_grow (R := fun k l v => TIn l v (Tr.subst a b c k)) (dat := news) (fun _ _ _ _ h hs => TIn.mono h hs) (by rfl) (by rfl) (fun tl => SeqIn.tup (List.mem_append_right _ (List.Mem.head _))) ps [] [] [] Fresh.nil .nil (fun q hqm => ?_) fun ys tl hft hA2 => ?_
    · obtain ⟨hkm, hkP⟩ := hq q hqm
      have hkd := Tr.kids_dep hkm
      intro tl₀ I oI C oC D oD m₂ h tk hCC hx F' N' off ne
      (repeat' (first | (k_unfold; (try dsimp only)) | ((with_reducible show wpAny _ _ (compareOp CmpOp.In (Value.str _ _) (Value.ref _)) _ _ _); k_dflt (refine r_inTab (by k_asm) (TabIn.mono (by assumption) (by first | assumption | ktd_sub)) ?_)) | ((with_reducible show wpAny _ _ (subscriptTail _ _ (Value.ref _) (Value.str _ _)) _ _ _); k_dflt (refine r_itemTab (by k_asm) (TabIn.mono (by assumption) (by first | assumption | ktd_sub)) (by first | assumption | rfl) ?_ (by with_unfolding_all rfl) (by intro _; with_unfolding_all rfl))) | ((with_reducible show wpAny _ _ (subscriptTail (Expr.Name _ _) (Expr.Slice _ _ _ _) (Value.ref _) (Value.ref _)) _ _ _); k_here; k_dflt (refine r_slice1 (by k_asm) (by k_asm) (by k_mem) (by (first | assumption | exact Nat.le_of_ble_eq_true rfl | omega | (simp only [List.length_cons, List.length_nil, List.length_append, List.length_map]; omega))) ?_ (by with_unfolding_all rfl) (by intro _; with_unfolding_all rfl)); intro D9 h9 F9 N9 l9; (try k_lt l9); (try dsimp only)) | ((with_reducible show wpAny _ _ (subscriptTail (Expr.Name _ _) (Expr.Constant _ _ _) (Value.ref _) (Value.int _ _)) _ _ _); k_here; k_dflt refine r_item0 (by k_asm) (by k_mem) ?_ (by with_unfolding_all rfl)) | (k_here; (first | with_reducible show wpAny _ _ (eval (Expr.ListComp (Expr.Call _ _ _ _) _ _ _) _) _ _ _ | with_reducible show wpAny _ _ (eval (Expr.ListComp (Expr.Tuple _ _ _) _ _ _) _) _ _ _ | with_reducible show wpAny _ _ (eval (Expr.ListComp (Expr.Subscript _ _ _) _ _ _) _) _ _ _ | with_reducible show wpAny _ _ (eval (Expr.ListComp (Expr.BinOp (Expr.Tuple _ _ _) _ _ _) _ _ _) _) _ _ _); k_dflt (refine z_ListComp (by k_asm) (by rfl) (by decide) (by rfl) (by decide) ?_ (by intro _; rfl) (by intro _ _ _ _ _ n9 h9; first | exact own_name n9 h9 | exact own_tuple n9 h9))) | (k_here; (with_reducible show wpAny _ _ (binaryOp _ (Value.ref _) (Value.ref _)) _ _ _); k_dflt (refine' r_addT1 (by k_asm) (by k_asm) ?k3 (by k_mem) (by (first | assumption | exact Nat.le_of_ble_eq_true rfl | omega | (simp only [List.length_cons, List.length_nil, List.length_append, List.length_map]; omega))) ?_; (case k3 => k_mem); k_whole)) | (k_here; (with_reducible show wpAny _ _ (binaryOp _ (Value.ref _) (Value.ref _)) _ _ _); k_dflt (refine r_addT (by k_asm) (by k_asm) (by k_mem) (by k_mem) (by (first | assumption | exact Nat.le_of_ble_eq_true rfl | omega | (simp only [List.length_cons, List.length_nil, List.length_append, List.length_map]; omega))) ?_); intro D9 h9 F9 N9 l9; (try simp only [List.nil_append, List.cons_append] at N9); (try k_lt l9)) | (k_here; (with_reducible show wpAny _ _ (call (Value.type "tuple") [Value.ref _]) _ _ _); k_dflt (refine r_tupleL (by k_asm) (by k_asm) (by k_mem) (by (first | assumption | exact Nat.le_of_ble_eq_true rfl | omega | (simp only [List.length_cons, List.length_nil, List.length_append, List.length_map]; omega))) ?_); intro D9 h9 F9 N9 l9; (try k_lt l9)) | walk1 | (dsimp only; walk1) | (leave1; (try dsimp only))))
      k_dflt (refine' with_use (IH _ hkd) hkP hDh.2 hA hB hC ?c3 ?c4 ?c5 ?c6 ?c7 ?c1 ?c8 ?c9 ?c10 ?_)
      case c6 => k_asm
      case c1 => (intro p9 h9; have h10 := hsub p9 h9; simp [h10])
      case c3 => k_asm
      case c4 => k_asm
      case c5 => k_asm
      case c7 => k_asm
      case c8 => exact rfl
      case c9 => ktr_room
      case c10 => ktr_units
      intro r tl h' tk' F'' N'' hf hT
      exact GBack.intro tl F'' N'' hf hT
    · unfold LCg.FinE
      intro DD hD tD FD ND offD
      simp only [List.nil_append] at hA2
      rw [e2] at hA2
      have hyl := hA2.length
      have hyl2 : ys.length ≤ 1000 := by omega
      cases ys with
      | nil =>
        (repeat' (first | (k_unfold; (try dsimp only)) | ((with_reducible show wpAny _ _ (compareOp CmpOp.In (Value.str _ _) (Value.ref _)) _ _ _); k_dflt (refine r_inTab (by k_asm) (TabIn.mono (by assumption) (by first | assumption | ktd_sub)) ?_)) | ((with_reducible show wpAny _ _ (subscriptTail _ _ (Value.ref _) (Value.str _ _)) _ _ _); k_dflt (refine r_itemTab (by k_asm) (TabIn.mono (by assumption) (by first | assumption | ktd_sub)) (by first | assumption | rfl) ?_ (by with_unfolding_all rfl) (by intro _; with_unfolding_all rfl))) | ((with_reducible show wpAny _ _ (subscriptTail (Expr.Name _ _) (Expr.Slice _ _ _ _) (Value.ref _) (Value.ref _)) _ _ _); k_here; k_dflt (refine r_slice1 (by k_asm) (by k_asm) (by k_mem) (by (first | assumption | exact Nat.le_of_ble_eq_true rfl | omega | (simp only [List.length_cons, List.length_nil, List.length_append, List.length_map]; omega))) ?_ (by with_unfolding_all rfl) (by intro _; with_unfolding_all rfl)); intro D9 h9 F9 N9 l9; (try k_lt l9); (try dsimp only)) | ((with_reducible show wpAny _ _ (subscriptTail (Expr.Name _ _) (Expr.Constant _ _ _) (Value.ref _) (Value.int _ _)) _ _ _); k_here; k_dflt refine r_item0 (by k_asm) (by k_mem) ?_ (by with_unfolding_all rfl)) | (k_here; (first | with_reducible show wpAny _ _ (eval (Expr.ListComp (Expr.Call _ _ _ _) _ _ _) _) _ _ _ | with_reducible show wpAny _ _ (eval (Expr.ListComp (Expr.Tuple _ _ _) _ _ _) _) _ _ _ | with_reducible show wpAny _ _ (eval (Expr.ListComp (Expr.Subscript _ _ _) _ _ _) _) _ _ _ | with_reducible show wpAny _ _ (eval (Expr.ListComp (Expr.BinOp (Expr.Tuple _ _ _) _ _ _) _ _ _) _) _ _ _); k_dflt (refine z_ListComp (by k_asm) (by rfl) (by decide) (by rfl) (by decide) ?_ (by intro _; rfl) (by intro _ _ _ _ _ n9 h9; first | exact own_name n9 h9 | exact own_tuple n9 h9))) | (k_here; (with_reducible show wpAny _ _ (binaryOp _ (Value.ref _) (Value.ref _)) _ _ _); k_dflt (refine' r_addT1 (by k_asm) (by k_asm) ?k3 (by k_mem) (by (first | assumption | exact Nat.le_of_ble_eq_true rfl | omega | (simp only [List.length_cons, List.length_nil, List.length_append, List.length_map]; omega))) ?_; (case k3 => k_mem); k_whole)) | (k_here; (with_reducible show wpAny _ _ (binaryOp _ (Value.ref _) (Value.ref _)) _ _ _); k_dflt (refine r_addT (by k_asm) (by k_asm) (by k_mem) (by k_mem) (by (first | assumption | exact Nat.le_of_ble_eq_true rfl | omega | (simp only [List.length_cons, List.length_nil, List.length_append, List.length_map]; omega))) ?_); intro D9 h9 F9 N9 l9; (try simp only [List.nil_append, List.cons_append] at N9); (try k_lt l9)) | (k_here; (with_reducible show wpAny _ _ (call (Value.type "tuple") [Value.ref _]) _ _ _); k_dflt (refine r_tupleL (by k_asm) (by k_asm) (by k_mem) (by (first | assumption | exact Nat.le_of_ble_eq_true rfl | omega | (simp only [List.length_cons, List.length_nil, List.length_append, List.length_map]; omega))) ?_); intro D9 h9 F9 N9 l9; (try k_lt l9)) | walk1 | (dsimp only; walk1) | (leave1; (try dsimp only))))
        (rename News _ _ _ _ => NF)
        have NS := News.sub NF sub_nil5
        refine hret _ _ _ _ (by k_asm) NS ⟨[_], rfl, fresh_lt (by tbn_find) (fun _ h => h), ?_⟩
        rw [subst_nil (by cases hk : p.kids with | nil => rfl | cons k ks => rw [hk] at hA2; cases hA2) hnv]
        exact .n0 (List.mem_append_left _ List.mem_cons_self)
      | cons y ys =>
        have hyl3 : ys.length ≤ 900 := by simp only [List.length_cons] at hyl; omega
        (repeat' (first | (k_unfold; (try dsimp only)) | ((with_reducible show wpAny _ _ (compareOp CmpOp.In (Value.str _ _) (Value.ref _)) _ _ _); k_dflt (refine r_inTab (by k_asm) (TabIn.mono (by assumption) (by first | assumption | ktd_sub)) ?_)) | ((with_reducible show wpAny _ _ (subscriptTail _ _ (Value.ref _) (Value.str _ _)) _ _ _); k_dflt (refine r_itemTab (by k_asm) (TabIn.mono (by assumption) (by first | assumption | ktd_sub)) (by first | assumption | rfl) ?_ (by with_unfolding_all rfl) (by intro _; with_unfolding_all rfl))) | ((with_reducible show wpAny _ _ (subscriptTail (Expr.Name _ _) (Expr.Slice _ _ _ _) (Value.ref _) (Value.ref _)) _ _ _); k_here; k_dflt (refine r_slice1 (by k_asm) (by k_asm) (by k_mem) (by (first | assumption | exact Nat.le_of_ble_eq_true rfl | omega | (simp only [List.length_cons, List.length_nil, List.length_append, List.length_map]; omega))) ?_ (by with_unfolding_all rfl) (by intro _; with_unfolding_all rfl)); intro D9 h9 F9 N9 l9; (try k_lt l9); (try dsimp only)) | ((with_reducible show wpAny _ _ (subscriptTail (Expr.Name _ _) (Expr.Constant _ _ _) (Value.ref _) (Value.int _ _)) _ _ _); k_here; k_dflt refine r_item0 (by k_asm) (by k_mem) ?_ (by with_unfolding_all rfl)) | (k_here; (first | with_reducible show wpAny _ _ (eval (Expr.ListComp (Expr.Call _ _ _ _) _ _ _) _) _ _ _ | with_reducible show wpAny _ _ (eval (Expr.ListComp (Expr.Tuple _ _ _) _ _ _) _) _ _ _ | with_reducible show wpAny _ _ (eval (Expr.ListComp (Expr.Subscript _ _ _) _ _ _) _) _ _ _ | with_reducible show wpAny _ _ (eval (Expr.ListComp (Expr.BinOp (Expr.Tuple _ _ _) _ _ _) _ _ _) _) _ _ _); k_dflt (refine z_ListComp (by k_asm) (by rfl) (by decide) (by rfl) (by decide) ?_ (by intro _; rfl) (by intro _ _ _ _ _ n9 h9; first | exact own_name n9 h9 | exact own_tuple n9 h9))) | (k_here; (with_reducible show wpAny _ _ (binaryOp _ (Value.ref _) (Value.ref _)) _ _ _); k_dflt (refine' r_addT1 (by k_asm) (by k_asm) ?k3 (by k_mem) (by (first | assumption | exact Nat.le_of_ble_eq_true rfl | omega | (simp only [List.length_cons, List.length_nil, List.length_append, List.length_map]; omega))) ?_; (case k3 => k_mem); k_whole)) | (k_here; (with_reducible show wpAny _ _ (binaryOp _ (Value.ref _) (Value.ref _)) _ _ _); k_dflt (refine r_addT (by k_asm) (by k_asm) (by k_mem) (by k_mem) (by (first | assumption | exact Nat.le_of_ble_eq_true rfl | omega | (simp only [List.length_cons, List.length_nil, List.length_append, List.length_map]; omega))) ?_); intro D9 h9 F9 N9 l9; (try simp only [List.nil_append, List.cons_append] at N9); (try k_lt l9)) | (k_here; (with_reducible show wpAny _ _ (call (Value.type "tuple") [Value.ref _]) _ _ _); k_dflt (refine r_tupleL (by k_asm) (by k_asm) (by k_mem) (by (first | assumption | exact Nat.le_of_ble_eq_true rfl | omega | (simp only [List.length_cons, List.length_nil, List.length_append, List.length_map]; omega))) ?_); intro D9 h9 F9 N9 l9; (try k_lt l9)) | walk1 | (dsimp only; walk1) | (leave1; (try dsimp only))))
        (rename News _ _ _ _ => NF)
        have NS := News.sub NF sub_cons5
        exact hret _ _ _ _ (by k_asm) NS ⟨[_] ++ tl, rfl, (fresh_lt (by tbn_find) (by intro p hp; simp [hp])).app (hft.sub (by intro p hp; simp [hp])), subst_all2 hA2⟩
theorem with_all (w : World) (mean : ExcName → Option Value) (mg mb : Str → Option Value) : ∀ t, WithC w mean mg mb t := by
  have all : ∀ n, ∀ t : Tr, t.dep < n → WithC w mean mg mb t := by
    intro n
    induction n with
    | zero => intro t h; exact absurd h (Nat.not_lt_zero _)
    | succ n ih => exact fun t h => with_step w mean mg mb t fun k hk => ih k (Nat.lt_of_lt_of_le hk (Nat.le_of_lt_succ h))
  exact fun t => all _ t (Nat.lt_succ_self _)
end
section
example : True := by (w_top off); trivial
open PySem PySem.W PyProof.Rows PySem.Spec PySem.Calls
inductive NatsAre : List Value → List Nat → Prop where
  | nil : NatsAre [] []
  | cons {k : Nat} {tk : Tok} {vs : List Value} {ks : List Nat} : NatsAre vs ks → NatsAre (.int (k : Nat) tk :: vs) (k :: ks)
theorem NatsAre.length {vs : List Value} {ks : List Nat} (h : NatsAre vs ks) : vs.length = ks.length := by
  induction h with
  | nil => rfl
  | cons _ ih => simp [ih]
/-- a way through a term -/
noncomputable def Tr.path : Tr → List Nat → Prop
  | _, [] => True
  | .n1 _ a, 0 :: ws => a.path ws
  | .n2 _ a _, 0 :: ws => a.path ws
  | .n2 _ _ b, 1 :: ws => b.path ws
  | _, _ :: _ => False
noncomputable def Tr.put (p : Tr) : Tr → List Nat → Tr
  | _, [] => p
  | .n1 op a, 0 :: ws => .n1 op (Tr.put p a ws)
  | .n2 op a b, 0 :: ws => .n2 op (Tr.put p a ws) b
  | .n2 op a b, 1 :: ws => .n2 op a (Tr.put p b ws)
  | t, _ :: _ => t
theorem Tr.path_len : ∀ {t : Tr} {ws : List Nat}, t.path ws → ws.length ≤ t.dep
  | _, [], _ => Nat.zero_le _
  | .n1 _ a, 0 :: ws, h => by have := Tr.path_len (t := a) (ws := ws) h; simp only [List.length_cons, Tr.dep]; omega
  | .n2 _ a b, 0 :: ws, h => by have := Tr.path_len (t := a) (ws := ws) h; simp only [List.length_cons, Tr.dep]; omega
  | .n2 _ a b, 1 :: ws, h => by have := Tr.path_len (t := b) (ws := ws) h; simp only [List.length_cons, Tr.dep]; omega
  | .n0 _, _ :: _, h => (by simp [Tr.path] at h)
  | .n3 _ _ _ _, _ :: _, h => (by simp [Tr.path] at h)
  | .n1 _ _, (_ + 1) :: _, h => (by simp [Tr.path] at h)
  | .n2 _ _ _, (_ + 2) :: _, h => (by simp [Tr.path] at h)
noncomputable def WayIn (l : List (Addr × Obj)) (v : Value) (ws : List Nat) : Prop := ∃ a n vs, v = .ref a ∧ (a, tupO vs n) ∈ l ∧ NatsAre vs ws
theorem WayIn.mono {l l' : List (Addr × Obj)} {v : Value} {ws : List Nat} (h : WayIn l v ws) (hs : ∀ p ∈ l, p ∈ l') : WayIn l' v ws := let ⟨a, n, vs, e, hm, r⟩ := h; ⟨a, n, vs, e, hs _ hm, r⟩
section
variable {prog : Program} {w : World} {A : Around} {E : Value → Shared → Prop} {s : Shared} {h₀ : Heap} {L : Addr} {m : Str → Option Value} {news : List (Addr × Obj)} {Q : Value → Shared → Prop}
theorem ra_nats {vs : List Value} {ks : List Nat} (h : NatsAre vs ks) : ReadsAll s.heap vs (ks.map fun k => PyData.int (k : Nat)) [] := by
  induction h with
  | nil => exact .nil
  | cons _ ih => exact ra_cons (.int _ _) ih
theorem can_nats : ∀ ks : List Nat, PyData.canLayAll0 (ks.map fun k => PyData.int (k : Nat)) = true
  | [] => rfl
  | k :: ks => by simp [PyData.canLayAll0, PyData.canLay0, can_nats ks]
theorem dep_nats : ∀ ks : List Nat, PyData.depthAll (ks.map fun k => PyData.int (k : Nat)) ≤ 1
  | [] => by simp [PyData.depthAll]
  | k :: ks => by
    have := dep_nats ks
    simp [PyData.depthAll, PyData.depth]; omega
theorem r_eqEmpty {a D : Addr} {n n' : Nat} {vs : List Value} {ks : List Nat} (N : News h₀ L s.heap news) (hm : (a, tupO vs n) ∈ news) (hk : NatsAre vs ks) (hm' : (D, tupO [] n') ∈ news) (hu : A.units + 64 < cLine) (h : Q (.bool ks.isEmpty) s) :
    wpAny (model prog w) A (compareOp .Eq (.ref a) (.ref D)) Q E s := by
  refine eq_dataH (reads_tupN N hm (ra_nats hk)) (reads_tupN N hm' ra_nil) ?_ rfl hu ?_
  · have h1 : PyData.canLay0 (.tuple (ks.map fun k => PyData.int (k : Nat))) = true := by simp only [PyData.canLay0]; exact can_nats ks
    have h2 := dep_nats ks
    simp only [SeqAt.shaped, h1, Bool.true_and, PyData.depth]
    exact decide_eq_true (by omega)
  · have e : PyData.eqv (.tuple (ks.map fun k => PyData.int (k : Nat))) (.tuple []) = ks.isEmpty := by cases ks <;> simp [PyData.eqv, PyData.eqvAll]
    rw [e]; exact h
end
noncomputable def PutC (w : World) (mean : ExcName → Option Value) (mg mb : Str → Option Value) (t : Tr) : Prop :=
  ∀ (news news₁ : List (Addr × Obj)) (v wv pv : Value) (ws : List Nat) (p : Tr), TIn news v t → WayIn news₁ wv ws → t.path ws → TIn news pv p → (∀ p ∈ news, p ∈ news₁) → t.dep ≤ 30 →
    Con w mean mg mb 210 (2 * t.dep + 10) [v, wv, pv] news₁ (fun r news' => ∃ tl, news' = tl ++ news₁ ∧ Fresh tl news₁ ∧ TIn (tl ++ news) r (Tr.put p t ws))
theorem put_nil (w : World) (mean : ExcName → Option Value) (mg mb : Str → Option Value) (t : Tr) (news news₁ : List (Addr × Obj)) (v wv pv : Value) (p : Tr) (hT : TIn news v t) (hW : WayIn news₁ wv []) (hP : TIn news pv p) (hsub : ∀ p ∈ news, p ∈ news₁) :
    Con w mean mg mb 210 (2 * t.dep + 10) [v, wv, pv] news₁ (fun r news' => ∃ tl, news' = tl ++ news₁ ∧ Fresh tl news₁ ∧ TIn (tl ++ news) r (Tr.put p t [])) := by
  obtain ⟨wa, n, vs, rfl, hm, hk⟩ := hW
  have hdd : 0 < t.dep := by cases t <;> simp [Tr.dep]
  unfold Con
  k_fill
  intro dp un gd cn cs a' ccd cl outer A₀ base h₀ L m s Q E B F X N T' hkf hd hu hret
  refine wpAny_call ?_
  k_dflt (first | (refine' code_def (by k_asm) (by k_asm) (by k_asm) (by k_asm) (by k_asm) rfl rfl (by first | assumption | exact rfl) (by k_is) (by k_is) (by ktr_room) (by exact BindsTo.of_eq rfl) (by exact locs rfl) ?_ (by exact rfl) (by exact rfl) (by exact rfl) (by decide); k_whole; intro g8 L8 h8 FG8 F8 N8 B8 X8 T8; (try dsimp only); (try k_fold)) | (refine' code_defC (by k_asm) (by k_asm) (by k_asm) (by k_asm) (by k_asm) rfl rfl (by first | assumption | exact rfl) (by k_is) (by k_is) (by ktr_room) (by exact BindsTo.of_eq rfl) (by exact rfl) (by decide +kernel) ?_ (by exact rfl) (by exact rfl) (by exact rfl); k_whole; intro g8 L8 h8 tk8 cells8 FG8 F8 N8 Y8 B8 X8 T8 l8; (try k_lt l8); k_cells Y8; (try simp only [List.cons_append, List.nil_append] at N8); (try dsimp only); (try k_fold)))
  (repeat' (first | (k_unfold; (try dsimp only)) | ((with_reducible show wpAny _ _ (compareOp CmpOp.Eq (Value.ref _) (Value.ref _)) _ _ _); k_dflt (refine r_eqEmpty (by k_asm) (by k_mem) (by assumption) (by k_mem) (by ktr_units) ?_)) | ((with_reducible show wpAny _ _ (subscriptTail (Expr.Name _ _) (Expr.Slice _ _ _ _) (Value.ref _) (Value.ref _)) _ _ _); k_here; k_dflt (refine r_slice1 (by k_asm) (by k_asm) (by k_mem) (by (first | assumption | exact Nat.le_of_ble_eq_true rfl | omega | (simp only [List.length_cons, List.length_nil, List.length_append, List.length_map]; omega))) ?_ (by with_unfolding_all rfl) (by intro _; with_unfolding_all rfl)); intro D9 h9 F9 N9 l9; (try k_lt l9); (try dsimp only)) | ((with_reducible show wpAny _ _ (subscriptTail (Expr.Name _ _) (Expr.Constant _ _ _) (Value.ref _) (Value.int _ _)) _ _ _); k_here; k_dflt refine r_item0 (by k_asm) (by k_mem) ?_ (by with_unfolding_all rfl)) | walk1 | (dsimp only; walk1) | (leave1; (try dsimp only))))
  refine hret _ _ _ _ (by k_asm) (News.sub (by k_asm) (by ktd_sub)) ⟨[], rfl, Fresh.nil, ?_⟩
  rw [show Tr.put p t [] = p by cases t <;> rfl]
  exact hP
theorem put_use {w : World} {mean : ExcName → Option Value} {mg mb : Str → Option Value} {t p : Tr} {ws : List Nat} {v wv pv : Value} {news news₁ : List (Addr × Obj)}
    {dp un : Nat} {gd : Option (List Code)} {cn : Str} {cs : Scope} {a : Addr} {ccd : Value} {cl : List (Str × Addr)} {outer : List Env} {A₀ : Around} {base h₀ : Heap} {L : Addr} {m : Str → Option Value} {s : Shared} {Q E : Value → Shared → Prop}
    (C : PutC w mean mg mb t) (hT : TIn news v t) (hpath : t.path ws) (hP : TIn news pv p) (hdp : t.dep ≤ 30)
    (B : Below A₀ base outer h₀) (F : Fr h₀ L s.heap m) (X : (hd.heap_1 w.params).In h₀) (N : News h₀ L s.heap news₁) (hW : WayIn news₁ wv ws) (T' : Top hd.view_39 lse mean mg mb h₀) (hs : ∀ p ∈ news, p ∈ news₁) (hk : cs.kind = .function) (hd : dp + (2 * t.dep + 10) < recursionLimit) (hu : un + 8 * (2 * t.dep + 10) < cLine)
    (ret : ∀ r tl h' tk', Fr h₀ L h' m → News h₀ L h' (tl ++ news₁) → Fresh tl news₁ → TIn (tl ++ news) r (Tr.put p t ws) → Q r { s with heap := h', toks := tk' }) :
    wpAny (model PySem.Challenge.rw_sa0020_01.row.toRowW.prog w) (ktrTop dp un gd cn cs L a ccd cl outer) (call (.ref 210) [v, wv, pv]) Q E s :=
  con_use (C news news₁ v wv pv ws p hT hW hpath hP hs hdp) B F X N T' (fun _ h => h) hk hd hu fun r news' h' tk' F' N' hP => by
    obtain ⟨tl, rfl, h1, h2⟩ := hP
    exact ret _ _ _ _ F' N' h1 h2
theorem sub_p2 {x R y z a b c : Addr × Obj} {tl r : List (Addr × Obj)} : ∀ p ∈ ([R] ++ tl) ++ r, p ∈ R :: x :: y :: z :: (tl ++ a :: b :: c :: r) := fun p hp => by
  simp only [List.mem_cons, List.mem_append, List.not_mem_nil, or_false] at hp ⊢
  rcases hp with (h | h) | h <;> simp [h]
theorem Tr.path_sub {t : Tr} {k : Nat} {ws : List Nat} (h : t.path (k :: ws)) : ∃ kid, t.kids[k]? = some kid ∧ kid.path ws := by
  cases t with
  | n0 op => simp [Tr.path] at h
  | n3 op a b c => simp [Tr.path] at h
  | n1 op a => cases k with
    | zero => exact ⟨a, rfl, h⟩
    | succ k => simp [Tr.path] at h
  | n2 op a b => cases k with
    | zero => exact ⟨a, rfl, h⟩
    | succ k => cases k with
      | zero => exact ⟨b, rfl, h⟩
      | succ k => simp [Tr.path] at h
theorem TIns.get {news : List (Addr × Obj)} {vs : List Value} {ts : List Tr} (h : TIns news vs ts) : ∀ {k : Nat} {t : Tr}, ts[k]? = some t → ∃ v, vs[k]? = some v ∧ TIn news v t := by
  induction h with
  | nil => intro k t e; simp at e
  | cons x _ ih =>
    intro k t e
    cases k with
    | zero => simp only [List.getElem?_cons_zero, Option.some.injEq] at e; subst e; exact ⟨_, rfl, x⟩
    | succ k => rw [List.getElem?_cons_succ] at e; obtain ⟨v, e', x'⟩ := ih e; exact ⟨v, by rw [List.getElem?_cons_succ]; exact e', x'⟩
theorem put_in {l l₁ : List (Addr × Obj)} {t p kid : Tr} {k : Nat} {ws : List Nat} {vs : List Value} {r : Value} {D : Addr} {tk : Tok} {n : Nat} (h : t.path (k :: ws)) (hk : t.kids[k]? = some kid) (hT : TIns l₁ vs t.kids) (hs : ∀ p ∈ l₁, p ∈ l) (hr : TIn l r (Tr.put p kid ws))
    (hm : (D, tupO (.str t.op tk :: ((vs.take k ++ [r]) ++ vs.drop (k + 1))) n) ∈ l) : TIn l (.ref D) (Tr.put p t (k :: ws)) := by
  replace hT := hT.mono hs
  cases t with
  | n0 op => simp [Tr.path] at h
  | n3 op a b c => simp [Tr.path] at h
  | n1 op a =>
    cases hT with
    | cons x y => cases y with
      | nil => cases k with
        | zero => simp only [Tr.kids, List.getElem?_cons_zero, Option.some.injEq] at hk; subst hk; exact .n1 hm hr
        | succ k => simp [Tr.path] at h
  | n2 op a b =>
    cases hT with
    | cons x y => cases y with
      | cons y z => cases z with
        | nil => cases k with
          | zero => simp only [Tr.kids, List.getElem?_cons_zero, Option.some.injEq] at hk; subst hk; exact .n2 hm hr y
          | succ k => cases k with
            | zero => simp only [Tr.kids, List.getElem?_cons_succ, List.getElem?_cons_zero, Option.some.injEq] at hk; subst hk; exact .n2 hm x hr
            | succ k => simp [Tr.path] at h
theorem mem_r1 {R : Addr × Obj} {tl news : List (Addr × Obj)} : R ∈ ([R] ++ tl) ++ news := List.mem_append_left _ (List.mem_append_left _ List.mem_cons_self)
theorem mem_r2 {R : Addr × Obj} {tl news : List (Addr × Obj)} : ∀ p ∈ tl ++ news, p ∈ ([R] ++ tl) ++ news := fun p hp => by
  simp only [List.mem_append] at hp ⊢
  rcases hp with h | h <;> simp [h]
theorem mem_r3 {R : Addr × Obj} {tl news : List (Addr × Obj)} : ∀ p ∈ news, p ∈ ([R] ++ tl) ++ news := fun p hp => List.mem_append_right _ hp
theorem fresh_GW {D t : Addr} {o : Obj} {l led news : List (Addr × Obj)} (h : D = t ∨ ∀ p ∈ news, p.1 < D) (ht : AllLt t l) (hl : ∀ p ∈ led, p ∈ l) (hn : ∀ p ∈ led, p ∈ news) : Fresh [(D, o)] led :=
  Fresh.one fun q hq => h.elim (fun e => e ▸ ktn_ltOf ht q (hl q hq)) fun g => g q (hn q hq)
theorem put_step (w : World) (mean : ExcName → Option Value) (mg mb : Str → Option Value) (t : Tr) (IH : ∀ k, k.dep < t.dep → PutC w mean mg mb k) : PutC w mean mg mb t := by
  intro news news₁ v wv pv ws p hT hW hpath hP hsub hdp
  cases ws with
  | nil => exact put_nil w mean mg mb _ news news₁ v wv pv p hT hW hP hsub
  | cons k ws =>
    obtain ⟨kid, hkid, hkp⟩ := Tr.path_sub hpath
    obtain ⟨wa, n, vs', rfl, hm, hk⟩ := hW
    cases hk with
    | @cons _ tkw vs' _ hk' =>
    have hwl := Tr.path_len hpath
    have hwv : vs'.length ≤ 1000 := by have := hk'.length; simp only [List.length_cons] at hwl; omega
    obtain ⟨a, tk7, n9, vs, rfl, hmt, hTk⟩ := hT.view
    obtain ⟨kv, hkv, hTkv⟩ := hTk.get hkid
    have hmt₁ := hsub _ hmt
    have hke := NatsAre.cons (k := k) (tk := tkw) hk'
    have hkd := Tr.kids_dep (List.mem_of_getElem? hkid)
    have hv3 : vs.length ≤ 3 := hTk.length ▸ Tr.kids_le t
    have hkl : k < vs.length := (List.getElem?_eq_some_iff.mp hkv).1
    have hs1 : k + 1 < (Value.str t.op tk7 :: vs).length := Nat.succ_lt_succ hkl
    have hs2 : (Value.str t.op tk7 :: vs).length ≤ 1000 := Nat.le_trans (Nat.succ_le_succ hv3) (by decide)
    have hs3 : k + 2 ≤ (Value.str t.op tk7 :: vs).length := hs1
    have hs4 : k + 1 < 1000 := Nat.lt_of_lt_of_le hs1 hs2
    have hsz2 : (vs.take k).length + ([] : List Value).length ≤ 1000 := by rw [List.length_take, List.length_nil]; omega
    have hsz3 : (vs.take k).length + 1 + (vs.drop (k + 1)).length ≤ 1000 := by rw [List.length_take, List.length_drop]; omega
    unfold Con
    k_fill
    intro dp un gd cn cs a' ccd cl outer A₀ base h₀ L m s Q E B F X N T' hkf hd hu hret
    refine wpAny_call ?_
    k_dflt (first | (refine' code_def (by k_asm) (by k_asm) (by k_asm) (by k_asm) (by k_asm) rfl rfl (by first | assumption | exact rfl) (by k_is) (by k_is) (by ktr_room) (by exact BindsTo.of_eq rfl) (by exact locs rfl) ?_ (by exact rfl) (by exact rfl) (by exact rfl) (by decide); k_whole; intro g8 L8 h8 FG8 F8 N8 B8 X8 T8; (try dsimp only); (try k_fold)) | (refine' code_defC (by k_asm) (by k_asm) (by k_asm) (by k_asm) (by k_asm) rfl rfl (by first | assumption | exact rfl) (by k_is) (by k_is) (by ktr_room) (by exact BindsTo.of_eq rfl) (by exact rfl) (by decide +kernel) ?_ (by exact rfl) (by exact rfl) (by exact rfl); k_whole; intro g8 L8 h8 tk8 cells8 FG8 F8 N8 Y8 B8 X8 T8 l8; (try k_lt l8); k_cells Y8; (try simp only [List.cons_append, List.nil_append] at N8); (try dsimp only); (try k_fold)))
    (repeat' (first | (k_unfold; (try dsimp only)) | ((with_reducible show wpAny _ _ (compareOp CmpOp.Eq (Value.ref _) (Value.ref _)) _ _ _); k_dflt (refine r_eqEmpty (by k_asm) (by k_mem) (by assumption) (by k_mem) (by ktr_units) ?_)) | ((with_reducible show wpAny _ _ (subscriptTail _ (Expr.Slice none _ _ _) (Value.ref _) (Value.ref _)) _ _ _); k_dflt refine r_sliceTo (b := k + 1) (xs := .str t.op tk7 :: vs.take k) (by k_asm) (by k_asm) (by k_mem) (by rfl) (by assumption) (by assumption) (by rfl) ?_ (by with_unfolding_all rfl) (by intro _; with_unfolding_all rfl); intro D' h' F' N' l1; (try k_lt l1); (try dsimp only)) | ((with_reducible show wpAny _ _ (subscriptTail (Expr.Name _ _) (Expr.Slice (some (Expr.BinOp _ _ _ _)) _ _ _) (Value.ref _) (Value.ref _)) _ _ _); k_dflt refine r_sliceFrom (a := k + 2) (xs := vs.drop (k + 1)) (by k_asm) (by k_asm) (by k_mem) (by rfl) (by exact Nat.le_add_left _ _) (by assumption) (by assumption) (by rfl) ?_ (by with_unfolding_all rfl) (by intro _; with_unfolding_all rfl); intro D' h' F' N' l1; (try k_lt l1); (try dsimp only)) | ((with_reducible show wpAny _ _ (subscriptTail _ (Expr.BinOp _ _ _ _) (Value.ref _) (Value.int _ _)) _ _ _); k_dflt refine r_itemT (j := k + 1) (v := kv) (by k_asm) (by k_mem) (by rfl) (by assumption) (by exact hkv) ?_ (by with_unfolding_all rfl)) | ((with_reducible show wpAny _ _ (binaryOp _ (Value.ref _) (Value.ref _)) _ _ _); k_dflt refine r_addT (vs := vs.take k) (ws := []) (by k_asm) (by k_asm) (by k_mem) (by k_mem) (by assumption) ?_; intro D' h' F' N' l1; (try k_lt l1)) | ((with_reducible show wpAny _ _ (binaryOp _ (Value.ref _) (Value.ref _)) _ _ _); k_dflt refine r_addTG (vs := vs.take k ++ [_]) (ws := vs.drop (k + 1)) (by k_asm) (by k_asm) (by k_mem) (by k_mem) (by rw [List.length_append]; exact hsz3) ?_; intro D' h' n9' F' N' l1) | ((with_reducible show wpAny _ _ (subscriptTail (Expr.Name _ _) (Expr.Slice _ _ _ _) (Value.ref _) (Value.ref _)) _ _ _); k_here; k_dflt (refine r_slice1 (by k_asm) (by k_asm) (by k_mem) (by (first | assumption | exact Nat.le_of_ble_eq_true rfl | omega | (simp only [List.length_cons, List.length_nil, List.length_append, List.length_map]; omega))) ?_ (by with_unfolding_all rfl) (by intro _; with_unfolding_all rfl)); intro D9 h9 F9 N9 l9; (try k_lt l9); (try dsimp only)) | ((with_reducible show wpAny _ _ (subscriptTail (Expr.Name _ _) (Expr.Constant _ _ _) (Value.ref _) (Value.int _ _)) _ _ _); k_here; k_dflt refine r_item0 (by k_asm) (by k_mem) ?_ (by with_unfolding_all rfl)) | walk1 | (dsimp only; walk1) | (leave1; (try dsimp only))))
    · (rename List.isEmpty _ = true => e)
      cases e
    k_dflt (refine' put_use (IH kid hkd) hTkv hkp hP (Nat.le_of_lt (Nat.lt_of_lt_of_le hkd hdp)) ?c3 ?c4 ?c5 ?c6 ?cw ?c7 ?c1 ?c8 ?c9 ?c10 ?_)
    case c6 => k_asm
    case cw => exact ⟨_, _, _, rfl, List.Mem.head _, hk'⟩
    case c1 => (intro p9 h9; have h10 := hsub p9 h9; simp [h10])
    case c3 => k_asm
    case c4 => k_asm
    case c5 => k_asm
    case c7 => k_asm
    case c8 => exact rfl
    case c9 => ktr_room
    case c10 => ktr_units
    intro r tl h' tk' F' N' hf hT'
    (repeat' (first | (k_unfold; (try dsimp only)) | ((with_reducible show wpAny _ _ (compareOp CmpOp.Eq (Value.ref _) (Value.ref _)) _ _ _); k_dflt (refine r_eqEmpty (by k_asm) (by k_mem) (by assumption) (by k_mem) (by ktr_units) ?_)) | ((with_reducible show wpAny _ _ (subscriptTail _ (Expr.Slice none _ _ _) (Value.ref _) (Value.ref _)) _ _ _); k_dflt refine r_sliceTo (b := k + 1) (xs := .str t.op tk7 :: vs.take k) (by k_asm) (by k_asm) (by k_mem) (by rfl) (by assumption) (by assumption) (by rfl) ?_ (by with_unfolding_all rfl) (by intro _; with_unfolding_all rfl); intro D' h' F' N' l1; (try k_lt l1); (try dsimp only)) | ((with_reducible show wpAny _ _ (subscriptTail (Expr.Name _ _) (Expr.Slice (some (Expr.BinOp _ _ _ _)) _ _ _) (Value.ref _) (Value.ref _)) _ _ _); k_dflt refine r_sliceFrom (a := k + 2) (xs := vs.drop (k + 1)) (by k_asm) (by k_asm) (by k_mem) (by rfl) (by exact Nat.le_add_left _ _) (by assumption) (by assumption) (by rfl) ?_ (by with_unfolding_all rfl) (by intro _; with_unfolding_all rfl); intro D' h' F' N' l1; (try k_lt l1); (try dsimp only)) | ((with_reducible show wpAny _ _ (subscriptTail _ (Expr.BinOp _ _ _ _) (Value.ref _) (Value.int _ _)) _ _ _); k_dflt refine r_itemT (j := k + 1) (v := kv) (by k_asm) (by k_mem) (by rfl) (by assumption) (by exact hkv) ?_ (by with_unfolding_all rfl)) | ((with_reducible show wpAny _ _ (binaryOp _ (Value.ref _) (Value.ref _)) _ _ _); k_dflt refine r_addT (vs := vs.take k) (ws := []) (by k_asm) (by k_asm) (by k_mem) (by k_mem) (by assumption) ?_; intro D' h' F' N' l1; (try k_lt l1)) | ((with_reducible show wpAny _ _ (binaryOp _ (Value.ref _) (Value.ref _)) _ _ _); k_dflt refine r_addTG (vs := vs.take k ++ [_]) (ws := vs.drop (k + 1)) (by k_asm) (by k_asm) (by k_mem) (by k_mem) (by rw [List.length_append]; exact hsz3) ?_; intro D' h' n9' F' N' l1) | ((with_reducible show wpAny _ _ (subscriptTail (Expr.Name _ _) (Expr.Slice _ _ _ _) (Value.ref _) (Value.ref _)) _ _ _); k_here; k_dflt (refine r_slice1 (by k_asm) (by k_asm) (by k_mem) (by (first | assumption | exact Nat.le_of_ble_eq_true rfl | omega | (simp only [List.length_cons, List.length_nil, List.length_append, List.length_map]; omega))) ?_ (by with_unfolding_all rfl) (by intro _; with_unfolding_all rfl)); intro D9 h9 F9 N9 l9; (try k_lt l9); (try dsimp only)) | ((with_reducible show wpAny _ _ (subscriptTail (Expr.Name _ _) (Expr.Constant _ _ _) (Value.ref _) (Value.int _ _)) _ _ _); k_here; k_dflt refine r_item0 (by k_asm) (by k_mem) ?_ (by with_unfolding_all rfl)) | walk1 | (dsimp only; walk1) | (leave1; (try dsimp only))))
    (rename News _ _ _ _ => NF)
    (rename _ = _ ∨ _ => hDt)
    have NS := News.sub NF sub_p2
    exact hret _ _ _ _ (by k_asm) NS ⟨[_] ++ tl, rfl, (fresh_GW hDt (by tbn_find) (by intro p hp; simp [hp]) (by intro p hp; simp [hp])).app (hf.sub (by intro p hp; simp [hp])), put_in hpath hkid hTk mem_r3 (hT'.mono mem_r2) mem_r1⟩
theorem put_all (w : World) (mean : ExcName → Option Value) (mg mb : Str → Option Value) (t : Tr) : PutC w mean mg mb t := by
  have h : ∀ N (t : Tr), t.dep ≤ N → PutC w mean mg mb t := by
    intro N
    induction N with
    | zero => intro t h; exact absurd h (by cases t <;> simp [Tr.dep])
    | succ N ih => intro t h; exact put_step w mean mg mb t fun k hk => ih k (Nat.le_of_lt_succ (Nat.lt_of_lt_of_le hk h))
  exact h _ t (Nat.le_refl _)
end
section
example : True := by (w_top off); trivial
open PySem PySem.W PyProof.Rows PySem.Spec PySem.Calls
noncomputable def Tr.size : Tr → Nat
  | .n0 _ => 1
  | .n1 _ a => a.size + 1
  | .n2 _ a b => a.size + b.size + 1
  | .n3 _ a b c => a.size + b.size + c.size + 1
noncomputable def Tr.le2 : Tr → Prop
  | .n0 _ => True
  | .n1 _ a => a.le2
  | .n2 _ a b => a.le2 ∧ b.le2
  | .n3 _ _ _ _ => False
noncomputable def WaysOf (t : Tr) (l : List (Addr × Obj)) (ways : List Value) : Prop := ∀ x ∈ ways, ∃ ws, WayIn l x ws ∧ t.path ws
noncomputable def SpotsC (w : World) (mean : ExcName → Option Value) (mg mb : Str → Option Value) (t : Tr) : Prop :=
  ∀ (news news₁ : List (Addr × Obj)) (v : Value), TIn news v t → t.le2 → t.size ≤ 100 → t.dep ≤ 30 → (∀ p ∈ news, p ∈ news₁) →
    Con w mean mg mb 203 (2 * t.dep + 10) [v] news₁ (fun r news' => ∃ tl L ways n, news' = tl ++ news₁ ∧ Fresh tl news₁ ∧ r = .ref L ∧ (L, ({ cls := .type "list", data := .seq (List.toArray ways) n } : Obj)) ∈ tl ∧ 0 < ways.length ∧ ways.length ≤ t.size ∧ WaysOf t tl ways)
theorem spots_use {w : World} {mean : ExcName → Option Value} {mg mb : Str → Option Value} {t : Tr} {v : Value} {news news₁ : List (Addr × Obj)}
    {dp un : Nat} {gd : Option (List Code)} {cn : Str} {cs : Scope} {a : Addr} {ccd : Value} {cl : List (Str × Addr)} {outer : List Env} {A₀ : Around} {base h₀ : Heap} {L : Addr} {m : Str → Option Value} {s : Shared} {Q E : Value → Shared → Prop}
    (C : SpotsC w mean mg mb t) (hT : TIn news v t) (hle : t.le2) (hsz : t.size ≤ 100) (hdp : t.dep ≤ 30)
    (B : Below A₀ base outer h₀) (F : Fr h₀ L s.heap m) (X : (hd.heap_1 w.params).In h₀) (N : News h₀ L s.heap news₁) (T' : Top hd.view_39 lse mean mg mb h₀) (hs : ∀ p ∈ news, p ∈ news₁) (hk : cs.kind = .function) (hd : dp + (2 * t.dep + 10) < recursionLimit) (hu : un + 8 * (2 * t.dep + 10) < cLine)
    (ret : ∀ tl LL ways n h' tk', Fr h₀ L h' m → News h₀ L h' (tl ++ news₁) → Fresh tl news₁ → (LL, ({ cls := .type "list", data := .seq (List.toArray ways) n } : Obj)) ∈ tl → 0 < ways.length → ways.length ≤ t.size → WaysOf t tl ways → Q (.ref LL) { s with heap := h', toks := tk' }) :
    wpAny (model PySem.Challenge.rw_sa0020_01.row.toRowW.prog w) (ktrTop dp un gd cn cs L a ccd cl outer) (call (.ref 203) [v]) Q E s :=
  con_use (C news news₁ v hT hle hsz hdp hs) B F X N T' (fun _ h => h) hk hd hu fun r news' h' tk' F' N' hP => by
    obtain ⟨tl, LL, ways, n, rfl, h1, rfl, h2, h3, h4, h5⟩ := hP
    exact ret _ _ _ _ _ _ F' N' h1 h2 h3 h4 h5
theorem ways_pairs {t : Tr} {tl : List (Addr × Obj)} (k : Nat) : ∀ {ways : List Value}, WaysOf t tl ways → ∃ ps : List (Value × List Nat), ps.map (·.1) = ways ∧ ∀ q ∈ ps, ∃ ws, q.2 = k :: ws ∧ WayIn tl q.1 ws ∧ t.path ws
  | [], _ => ⟨[], rfl, fun _ h => nomatch h⟩
  | v :: r, h => by
    obtain ⟨ws, h1, h2⟩ := h v List.mem_cons_self
    obtain ⟨ps, e, hq⟩ := ways_pairs k (ways := r) fun x hx => h x (List.mem_cons_of_mem _ hx)
    refine ⟨(v, k :: ws) :: ps, by simp [e], fun q hm => ?_⟩
    rcases List.mem_cons.mp hm with rfl | hm
    · exact ⟨ws, rfl, h1, h2⟩
    · exact hq q hm
theorem Fresh.lt3 {D I C D₀ : Addr} {o oI oC oD : Obj} {l : List (Addr × Obj)} (h : (@LT.lt Nat _ I D) ∧ (@LT.lt Nat _ C D) ∧ (@LT.lt Nat _ D₀ D) ∧ AllLt D l) : Fresh [(D, o)] ((I, oI) :: (C, oC) :: (D₀, oD) :: l) := Fresh.one fun q hq => by
  rcases List.mem_cons.mp hq with rfl | hq
  · exact h.1
  · rcases List.mem_cons.mp hq with rfl | hq
    · exact h.2.1
    · rcases List.mem_cons.mp hq with rfl | hq
      · exact h.2.2.1
      · exact ktn_ltOf h.2.2.2 q hq
theorem Fresh.lt4 {D D' I C D₀ : Addr} {o o' oI oC oD : Obj} {l : List (Addr × Obj)} (h : (@LT.lt Nat _ I D) ∧ (@LT.lt Nat _ C D) ∧ (@LT.lt Nat _ D₀ D) ∧ AllLt D l) (h' : (@LT.lt Nat _ D D') ∧ (@LT.lt Nat _ I D') ∧ (@LT.lt Nat _ C D') ∧ (@LT.lt Nat _ D₀ D') ∧ AllLt D' l) :
    Fresh [(D', o'), (D, o)] ((I, oI) :: (C, oC) :: (D₀, oD) :: l) := fun p hp q hq => by
  rcases List.mem_cons.mp hp with rfl | hp
  · exact Fresh.lt3 (o := o') h'.2 _ List.mem_cons_self q hq
  · exact Fresh.lt3 (o := o) h p hp q hq
noncomputable abbrev lstO (vs : List Value) (n : Nat) : Obj := { cls := .type "list", data := .seq vs.toArray n }
theorem Tr.size_pos : ∀ t : Tr, 0 < t.size
  | .n0 _ => by simp [Tr.size]
  | .n1 _ _ => by simp [Tr.size]
  | .n2 _ _ _ => by simp [Tr.size]
  | .n3 _ _ _ _ => by simp [Tr.size]
theorem Tr.size_kids (t : Tr) : t.size = (t.kids.map Tr.size).sum + 1 := by
  cases t <;> simp [Tr.size, Tr.kids]
  omega
theorem Tr.size_kid {t k : Tr} (h : k ∈ t.kids) : k.size ≤ t.size := by
  cases t <;> simp only [Tr.kids, List.mem_cons, List.not_mem_nil, or_false] at h <;> simp only [Tr.size]
  · subst h; omega
  · rcases h with rfl | rfl <;> omega
  · rcases h with rfl | rfl | rfl <;> omega
theorem known_eq {m : Str → Option Value} {x : Str} {v : Value} (h : m x = some v) : m = fun y => if y = x then some v else m y := funext fun y => by
  by_cases e : y = x
  · rw [if_pos e, e, h]
  · rw [if_neg e]
theorem items_loop {prog : Program} {w : World} {A : Around} {E : Value → Shared → Prop} {h₀ : Heap} {env : Env} {target : Expr} {body : List Stmt} {Q : Flow → Shared → Prop} {s : Shared} {ws : List (Addr × String)} {keep : List (Addr × Obj)}
    (I : List Value → Nat → (Str → Option Value) → List (Addr × Obj) → Prop)
    (zero : ∀ j m ns, I [] j m ns → ItemsRest prog w A E h₀ env target body Q s ws keep [] m ns)
    (turn : ∀ v vs (j : Nat) m ns, I (v :: vs) j m ns → (∀ m' ns', I vs (j + 1) m' ns' → ItemsRest prog w A E h₀ env target body Q s ws keep (enumItems (j + 1) vs) m' ns') → ItemsRest prog w A E h₀ env target body Q s ws keep (enumItems j (v :: vs)) m ns) :
    ∀ {vs : List Value} {j : Nat} {m : Str → Option Value} {ns : List (Addr × Obj)}, I vs j m ns → ItemsRest prog w A E h₀ env target body Q s ws keep (enumItems j vs) m ns := by
  intro vs
  induction vs with
  | nil => exact fun {j m ns} h => zero j m ns h
  | cons v vs ih => exact fun {j m ns} h => turn v vs j m ns h fun m' ns' h' => ih h'
theorem mem_led {g h : Heap} {L : Addr} {tl R news : List (Addr × Obj)} {x : Addr × Obj} (_ : News g L h (tl ++ R)) (hs : ∀ p ∈ news, p ∈ R) (hx : x ∈ tl ++ news) : x ∈ tl ++ R :=
  (List.mem_append.mp hx).elim (List.mem_append_left _) fun h => List.mem_append_right _ (hs _ h)
theorem ways_all2 {l : List (Addr × Obj)} {k : Nat} {P : List Nat → Prop} : ∀ {ys : List Value} {ps : List (Value × List Nat)}, All2 (fun ws l v => WayIn l v ws) l ys (ps.map (·.2)) → (∀ q ∈ ps, ∃ ws, q.2 = k :: ws ∧ P ws) → ∀ y ∈ ys, ∃ ws, WayIn l y (k :: ws) ∧ P ws
  | [], _, _, _, _, h => nomatch h
  | y :: ys, [], h, _, _, _ => nomatch h
  | y :: ys, q :: ps, h, hq, x, hx => by
    cases h with
    | cons h1 h2 =>
      rcases List.mem_cons.mp hx with rfl | hx
      · obtain ⟨ws, e, hp⟩ := hq q List.mem_cons_self
        exact ⟨ws, e ▸ h1, hp⟩
      · exact ways_all2 h2 (fun q' hq' => hq q' (List.mem_cons_of_mem _ hq')) x hx
theorem fresh_cons {D : Addr} {o : Obj} {tl led : List (Addr × Obj)} (h : ∀ q ∈ led, @LT.lt Nat _ q.1 D) (k : Fresh tl led) : Fresh ((D, o) :: tl) led := (Fresh.one (o := o) h).app k
theorem ways_of {k : Nat} {tm tl : List (Addr × Obj)} {ys : List Value} {ps : List (Value × List Nat)} {u : Tr} (hA : All2 (fun ws l v => WayIn l v ws) (tm ++ []) ys ([] ++ List.map (·.2) ps)) (hq : ∀ q ∈ ps, ∃ ws, q.2 = k :: ws ∧ WayIn tl q.1 ws ∧ u.path ws) :
    ∀ y ∈ ys, ∃ ws, WayIn tm y (k :: ws) ∧ u.path ws :=
  ways_all2 (by simpa using hA) fun q hm => let ⟨ws, h1, _, h2⟩ := hq q hm; ⟨ws, h1, h2⟩
noncomputable def SpotsP (t : Tr) (news₁ : List (Addr × Obj)) (r : Value) (news' : List (Addr × Obj)) : Prop := ∃ tl L ways n, news' = tl ++ news₁ ∧ Fresh tl news₁ ∧ r = .ref L ∧ (L, ({ cls := .type "list", data := .seq (List.toArray ways) n } : Obj)) ∈ tl ∧ 0 < ways.length ∧ ways.length ≤ t.size ∧ WaysOf t tl ways
/-- what holds between the turns: Z is what the loop has made besides the list l and the cell c; i, i + 1 the iterator's -/
structure US (news₁ Z : List (Addr × Obj)) (l c i : Addr) : Prop where
  fresh : Fresh Z news₁
  nf : ∀ p ∈ Z ++ news₁, (@Ne Nat p.1 l) ∧ (@Ne Nat p.1 c) ∧ (@Ne Nat p.1 (i + 1)) ∧ (@Ne Nat p.1 i)
  lc : @Ne Nat l c
  l1 : @Ne Nat l (i + 1)
  l0 : @Ne Nat l i
  c1 : @Ne Nat c (i + 1)
  c0 : @Ne Nat c i
theorem US.grow {g h : Heap} {L : Addr} {x : Addr × Obj} {news₁ Z tl tm : List (Addr × Obj)} {l l2 c i : Addr} {o1 o2 lo lo2 oc : Obj} (U : US news₁ Z l c i) (_ : News g L h ((l2, lo2) :: x :: (tm ++ (tl ++ (i + 1, o2) :: (i, o1) :: (l, lo) :: (c, oc) :: (Z ++ news₁)))))
    (ht : Fresh tl ((i + 1, o2) :: (i, o1) :: (l, lo) :: (c, oc) :: (Z ++ news₁))) (hm : Fresh tm (tl ++ (i + 1, o2) :: (i, o1) :: (l, lo) :: (c, oc) :: (Z ++ news₁))) (h2 : AllLt l2 (tm ++ (tl ++ (i + 1, o2) :: (i, o1) :: (l, lo) :: (c, oc) :: (Z ++ news₁)))) :
    US news₁ ((l, lo) :: (tm ++ (tl ++ Z))) l2 c i := by
  have lt := ktn_ltOf h2
  refine ⟨?_, fun p hp => ?_, Nat.ne_of_gt (lt (c, oc) (by simp)), Nat.ne_of_gt (lt (i + 1, o2) (by simp)), Nat.ne_of_gt (lt (i, o1) (by simp)), U.c1, U.c0⟩
  · intro p hp q hq
    rcases List.mem_cons.mp hp with rfl | hp
    · exact fun e => (U.nf q (by simp [hq])).1 e.symm
    · exact ((hm.sub fun q hq => by simp [hq]).app ((ht.sub fun q hq => by simp [hq]).app U.fresh)) p hp q hq
  · simp only [List.cons_append, List.mem_cons, List.mem_append] at hp
    rcases hp with rfl | (h | h | h) | h
    · exact ⟨Nat.ne_of_lt (lt (l, lo) (by simp)), U.lc, U.l1, U.l0⟩
    · exact ⟨Nat.ne_of_lt (lt p (by simp [h])), hm p h (c, oc) (by simp), hm p h (i + 1, o2) (by simp), hm p h (i, o1) (by simp)⟩
    · exact ⟨Nat.ne_of_lt (lt p (by simp [h])), ht p h (c, oc) (by simp), ht p h (i + 1, o2) (by simp), ht p h (i, o1) (by simp)⟩
    · exact ⟨Nat.ne_of_lt (lt p (by simp [h])), (U.nf p (by simp [h])).2⟩
    · exact ⟨Nat.ne_of_lt (lt p (by simp [h])), (U.nf p (by simp [h])).2⟩
theorem US.offC {news₁ Z : List (Addr × Obj)} {l c i : Addr} (U : US news₁ Z l c i) : ∀ p ∈ Z ++ news₁, p.1 ≠ c := fun p hp => (U.nf p hp).2.1
theorem US.fin {g h : Heap} {L i l l2 c : Addr} {o1 o2 lo lo2 oc : Obj} {x : Addr × Obj} {Z tm tl news₁ : List (Addr × Obj)} {m' : Str → Option Value} {rest : (Str → Option Value) → List (Addr × Obj) → Prop} {s₁ : Shared} {tk : Nat} (U : US news₁ ((l, lo) :: (tm ++ (tl ++ Z))) l2 c i) (F : Fr g L h m')
    (N : News g L h ((l2, lo2) :: x :: (tm ++ (tl ++ (i + 1, o2) :: (i, o1) :: (l, lo) :: (c, oc) :: (Z ++ news₁)))))
    (r : rest m' ((l2, lo2) :: (c, oc) :: (((l, lo) :: (tm ++ (tl ++ Z))) ++ news₁))) : UnrEndW g L s₁ [(i + 1, o2), (i, o1)] rest { s₁ with heap := h, toks := tk } := by
  refine ⟨h, tk, m', _, rfl, F, fun p hp => N p ?_, fun p hp q hq => ?_, r⟩
  · rcases List.mem_append.mp hp with hp | hp
    · rcases List.mem_cons.mp hp with h | hp
      · simp [h]
      · simp [List.mem_singleton.mp hp]
    · rcases List.mem_cons.mp hp with h | hp
      · simp [h]
      · rcases List.mem_cons.mp hp with h | hp
        · simp [h]
        · rcases List.mem_append.mp hp with hp | h
          · rcases List.mem_cons.mp hp with h | hp
            · simp [h]
            · rcases List.mem_append.mp hp with h | hp
              · simp [h]
              · rcases List.mem_append.mp hp with h | h <;> simp [h]
          · simp [h]
  · have k : (@Ne Nat p.1 (i + 1)) ∧ (@Ne Nat p.1 i) := by
      rcases List.mem_cons.mp hp with rfl | hp
      · exact ⟨U.l1, U.l0⟩
      · rcases List.mem_cons.mp hp with rfl | hp
        · exact ⟨U.c1, U.c0⟩
        · exact (U.nf p hp).2.2
    rcases List.mem_cons.mp hq with rfl | hq
    · exact k.1
    · rw [List.mem_singleton.mp hq]; exact k.2
theorem spots_pack0 {h₀ h : Heap} {L s l d1 c : Addr} {n n1 : Nat} {vs : List Value} {oc : Obj} {news₁ : List (Addr × Obj)} (N : News h₀ L h ((s, tupO vs n) :: (l, lstO [.ref d1] 0) :: (d1, tupO [] n1) :: (c, oc) :: news₁)) (hls : @LT.lt Nat _ l s) (hcs : @LT.lt Nat _ c s) (h1l : @LT.lt Nat _ d1 l) (hcl : @LT.lt Nat _ c l) (hc1 : @LT.lt Nat _ c d1)
    (as : AllLt s news₁) (al : AllLt l news₁) (a1 : AllLt d1 news₁) (hc : ∀ p ∈ news₁, p.1 ≠ c) :
    ∃ Z, News h₀ L h ((l, lstO [.ref d1] 0) :: (c, oc) :: (Z ++ news₁)) ∧ (s, tupO vs n) ∈ Z ∧ (∀ i, (∀ p ∈ (l, lstO [.ref d1] 0) :: (c, oc) :: (Z ++ news₁), p.1 < i) → US news₁ Z l c i) ∧ WayIn Z (.ref d1) [] := by
  refine ⟨[(s, tupO vs n), (d1, tupO [] n1)], News.sub N fun p hp => ?_, List.Mem.head _, fun i hI => ?_, d1, n1, [], rfl, by simp, .nil⟩
  · simp only [List.mem_cons, List.mem_append, List.not_mem_nil, or_false] at hp ⊢; rcases hp with h | h | (h | h) | h <;> simp [h]
  have li : @LT.lt Nat _ l i := hI (l, _) (List.Mem.head _)
  have ci : @LT.lt Nat _ c i := hI (c, oc) (List.Mem.tail _ (List.Mem.head _))
  refine ⟨fresh_cons (ktn_ltOf as) (fresh_cons (ktn_ltOf a1) Fresh.nil), fun p hp => ?_, Nat.ne_of_gt hcl, Nat.ne_of_lt (Nat.lt_succ_of_lt li), Nat.ne_of_lt li, Nat.ne_of_lt (Nat.lt_succ_of_lt ci), Nat.ne_of_lt ci⟩
  have pi : @LT.lt Nat _ p.1 i := hI p (List.Mem.tail _ (List.Mem.tail _ hp))
  have k : (@Ne Nat p.1 l) ∧ (@Ne Nat p.1 c) := by
    rcases List.mem_append.mp hp with h | h
    · rcases List.mem_cons.mp h with rfl | h
      · exact ⟨Nat.ne_of_gt hls, Nat.ne_of_gt hcs⟩
      · rw [List.mem_singleton.mp h]; exact ⟨Nat.ne_of_lt h1l, Nat.ne_of_gt hc1⟩
    · exact ⟨Nat.ne_of_lt (ktn_ltOf al p h), hc p h⟩
  exact ⟨k.1, k.2, Nat.ne_of_lt (Nat.lt_succ_of_lt pi), Nat.ne_of_lt pi⟩
theorem Tr.le2_kid {t k : Tr} (h : t.le2) (hk : k ∈ t.kids) : k.le2 := by
  cases t <;> simp only [Tr.kids, List.mem_cons, List.not_mem_nil, or_false] at hk <;> simp only [Tr.le2] at h
  · subst hk; exact h
  · rcases hk with rfl | rfl
    · exact h.1
    · exact h.2
theorem Tr.path_kid {t k : Tr} {ks : List Tr} {j : Nat} {ws : List Nat} (hle : t.le2) (h : t.kids.drop j = k :: ks) (hp : k.path ws) : t.path (j :: ws) := by
  cases t with
  | n0 => simp [Tr.kids] at h
  | n1 op a =>
    match j, h with
    | 0, h => simp only [Tr.kids, List.drop_zero, List.cons.injEq] at h; rw [← h.1] at hp; exact hp
    | _ + 1, h => simp [Tr.kids] at h
  | n2 op a b =>
    match j, h with
    | 0, h => simp only [Tr.kids, List.drop_zero, List.cons.injEq] at h; rw [← h.1] at hp; exact hp
    | 1, h => simp only [Tr.kids, List.drop_succ_cons, List.drop_zero, List.cons.injEq] at h; rw [← h.1] at hp; exact hp
    | _ + 2, h => simp [Tr.kids] at h
  | n3 => exact hle.elim
structure SL (t : Tr) (news news₁ : List (Addr × Obj)) (l c i : Addr) (x : Addr × Obj) (vs : List Value) (j : Nat) (m : Str → Option Value) (ns : List (Addr × Obj)) (ks : List Tr) (its : List Value) (Z : List (Addr × Obj)) (nl : Nat) (oc : Obj) (ov : Option Value) : Prop where
  hns : ns = (l, lstO its nl) :: (c, oc) :: (Z ++ news₁)
  hoc : oc.data = .cell ov
  hks : TIns news vs ks
  hdr : t.kids.drop j = ks
  hT : US news₁ Z l c i
  hx : x ∈ Z
  hall : ∀ y ∈ its, ∃ ws, WayIn Z y ws ∧ t.path ws
  hpos : 0 < its.length
  hlen : its.length + (ks.map Tr.size).sum ≤ t.size
  hm : m (Str.ofString "found") = some (.ref l)
theorem SL.elim0 {t : Tr} {news news₁ : List (Addr × Obj)} {c i : Addr} {x : Addr × Obj} {j : Nat} {m : Str → Option Value} {ns : List (Addr × Obj)} {G : (Str → Option Value) → List (Addr × Obj) → Prop}
    (h : ∃ l ks its Z nl oc ov, SL t news news₁ l c i x [] j m ns ks its Z nl oc ov)
    (k : ∀ l its Z nl oc, US news₁ Z l c i → (∀ y ∈ its, ∃ ws, WayIn Z y ws ∧ t.path ws) → 0 < its.length → its.length ≤ t.size → G (fun y => if y = Str.ofString "found" then some (.ref l) else m y) ((l, lstO its nl) :: (c, oc) :: (Z ++ news₁))) : G m ns := by
  obtain ⟨l, ks, its, Z, nl, oc, ov, rfl, hoc, _, _, U, hx, hA, hpos, hlen, hm⟩ := h
  rw [known_eq hm]
  exact k l its Z nl oc U hA hpos (Nat.le_trans (Nat.le_add_right _ _) hlen)
theorem SL.elim1 {t : Tr} {news news₁ : List (Addr × Obj)} {c i : Addr} {x : Addr × Obj} {j : Nat} {m : Str → Option Value} {ns : List (Addr × Obj)} {G : (Str → Option Value) → List (Addr × Obj) → Prop} {v : Value} {vs : List Value}
    (h : ∃ l ks its Z nl oc ov, SL t news news₁ l c i x (v :: vs) j m ns ks its Z nl oc ov)
    (k : ∀ l kt kts its Z nl oc ov, oc.data = .cell ov → TIn news v kt → TIns news vs kts → t.kids.drop j = kt :: kts → US news₁ Z l c i → x ∈ Z → (∀ y ∈ its, ∃ ws, WayIn Z y ws ∧ t.path ws) → 0 < its.length → its.length + (kt.size + (kts.map Tr.size).sum) ≤ t.size → G (fun y => if y = Str.ofString "found" then some (.ref l) else m y) ((l, lstO its nl) :: (c, oc) :: (Z ++ news₁))) : G m ns := by
  obtain ⟨l, ks, its, Z, nl, oc, ov, rfl, hoc, hks, hdr, U, hx, hA, hpos, hlen, hm⟩ := h
  rw [known_eq hm]
  cases hks with
  | cons hT hks => exact k l _ _ its Z nl oc ov hoc hT hks hdr U hx hA hpos (by simpa using hlen)
theorem spots_fin {h₀ h : Heap} {L l c i : Addr} {n : Nat} {its : List Value} {oc : Obj} {Z news₁ : List (Addr × Obj)} {t : Tr} (U : US news₁ Z l c i) (N : News h₀ L h ((l, lstO its n) :: (c, oc) :: (Z ++ news₁))) (hA : ∀ y ∈ its, ∃ ws, WayIn Z y ws ∧ t.path ws) (hp : 0 < its.length) (hl : its.length ≤ t.size) : ∃ ns, News h₀ L h ns ∧ SpotsP t news₁ (.ref l) ns := by
  refine ⟨((l, lstO its n) :: Z) ++ news₁, News.sub N fun p hp => ?_, (l, lstO its n) :: Z, l, its, n, rfl, fun p hp q hq => ?_, rfl, List.Mem.head _, hp, hl, fun y hy => ?_⟩
  · simp only [List.cons_append, List.mem_cons, List.mem_append] at hp ⊢; rcases hp with h | h | h <;> simp [h]
  · rcases List.mem_cons.mp hp with rfl | hp
    · exact fun e => (U.nf q (by simp [hq])).1 e.symm
    · exact U.fresh p hp q hq
  · obtain ⟨ws, h1, h2⟩ := hA y hy
    exact ⟨ws, h1.mono fun p hp => by simp [hp], h2⟩
theorem spots_grown {t kt : Tr} {kts : List Tr} {j : Nat} {tm tl Z : List (Addr × Obj)} {q : Addr × Obj} {its ys : List Value} (hle : t.le2) (hdr : t.kids.drop j = kt :: kts) (hA : ∀ y ∈ its, ∃ ws, WayIn Z y ws ∧ t.path ws) (hw : ∀ y ∈ ys, ∃ ws, WayIn tm y (j :: ws) ∧ kt.path ws) :
    ∀ y ∈ its ++ ys, ∃ ws, WayIn (q :: (tm ++ (tl ++ Z))) y ws ∧ t.path ws := fun y hy => by
  rcases List.mem_append.mp hy with hy | hy
  · obtain ⟨ws, h1, h2⟩ := hA y hy
    exact ⟨ws, h1.mono fun p hp => by simp [hp], h2⟩
  · obtain ⟨ws, h1, h2⟩ := hw y hy
    exact ⟨j :: ws, h1.mono fun p hp => by simp [hp], Tr.path_kid hle hdr h2⟩
theorem drop_succ_of {α : Type} {l : List α} {j : Nat} {x : α} {r : List α} (h : l.drop j = x :: r) : l.drop (j + 1) = r := by
  rw [← List.drop_drop, h]; rfl
theorem mem_of_drop {α : Type} {l : List α} {j : Nat} {x : α} {r : List α} (h : l.drop j = x :: r) : x ∈ l := List.mem_of_mem_drop (h ▸ List.mem_cons_self)
theorem spots_node (w : World) (mean : ExcName → Option Value) (mg mb : Str → Option Value) (t : Tr) (IH : ∀ k ∈ t.kids, SpotsC w mean mg mb k) : SpotsC w mean mg mb t := by
  intro news news₁ v hT hle hsz hdp hsub
  obtain ⟨a, tk, nn, kvs, rfl, hmt, hks⟩ := hT.view
  have hmt₁ := hsub _ hmt
  have hkl : kvs.length ≤ 1000 := by have := hks.length; have := t.kids_le; omega
  unfold Con
  k_fill
  intro dp un gd cn cs a' ccd cl outer A₀ base h₀ L m s Q E B F X N T' hkf hd hu hret
  refine wpAny_call ?_
  k_dflt (first | (refine' code_def (by k_asm) (by k_asm) (by k_asm) (by k_asm) (by k_asm) rfl rfl (by first | assumption | exact rfl) (by k_is) (by k_is) (by ktr_room) (by exact BindsTo.of_eq rfl) (by exact locs rfl) ?_ (by exact rfl) (by exact rfl) (by exact rfl) (by decide); k_whole; intro g8 L8 h8 FG8 F8 N8 B8 X8 T8; (try dsimp only); (try k_fold)) | (refine' code_defC (by k_asm) (by k_asm) (by k_asm) (by k_asm) (by k_asm) rfl rfl (by first | assumption | exact rfl) (by k_is) (by k_is) (by ktr_room) (by exact BindsTo.of_eq rfl) (by exact rfl) (by decide +kernel) ?_ (by exact rfl) (by exact rfl) (by exact rfl); k_whole; intro g8 L8 h8 tk8 cells8 FG8 F8 N8 Y8 B8 X8 T8 l8; (try k_lt l8); k_cells Y8; (try simp only [List.cons_append, List.nil_append] at N8); (try dsimp only); (try k_fold)))
  (repeat' (first | (k_unfold; (try dsimp only)) | ((with_reducible show wpAny _ _ (subscriptTail (Expr.Name _ _) (Expr.Slice _ _ _ _) (Value.ref _) (Value.ref _)) _ _ _); k_here; k_dflt (refine r_slice1 (by k_asm) (by k_asm) (by k_mem) (by (first | assumption | exact Nat.le_of_ble_eq_true rfl | omega | (simp only [List.length_cons, List.length_nil, List.length_append, List.length_map]; omega))) ?_ (by with_unfolding_all rfl) (by intro _; with_unfolding_all rfl)); intro D9 h9 F9 N9 l9; (try k_lt l9); (try dsimp only)) | (k_here; (first | with_reducible show wpAny _ _ (eval (Expr.ListComp (Expr.Call _ _ _ _) _ _ _) _) _ _ _ | with_reducible show wpAny _ _ (eval (Expr.ListComp (Expr.Tuple _ _ _) _ _ _) _) _ _ _ | with_reducible show wpAny _ _ (eval (Expr.ListComp (Expr.Subscript _ _ _) _ _ _) _) _ _ _ | with_reducible show wpAny _ _ (eval (Expr.ListComp (Expr.BinOp (Expr.Tuple _ _ _) _ _ _) _ _ _) _) _ _ _); k_dflt (refine z_ListComp (by k_asm) (by rfl) (by decide) (by rfl) (by decide) ?_ (by intro _; rfl) (by intro _ _ _ _ _ n9 h9; first | exact own_name n9 h9 | exact own_tuple n9 h9))) | (k_here; (with_reducible show wpAny _ _ (binaryOp _ (Value.ref _) (Value.ref _)) _ _ _); k_dflt (refine r_addT (by k_asm) (by k_asm) (by k_mem) (by k_mem) (by (first | assumption | exact Nat.le_of_ble_eq_true rfl | omega | (simp only [List.length_cons, List.length_nil, List.length_append, List.length_map]; omega))) ?_); intro D9 h9 F9 N9 l9; (try simp only [List.nil_append, List.cons_append] at N9); (try k_lt l9)) | (k_here; (with_reducible show wpAny _ _ (binaryOp _ (Value.ref _) (Value.ref _)) _ _ _); k_dflt (refine r_addL (by k_asm) (by k_asm) (by k_mem) (by k_mem) (by (first | assumption | exact Nat.le_of_ble_eq_true rfl | omega | (simp only [List.length_cons, List.length_nil, List.length_append, List.length_map]; omega))) ?_); intro D9 h9 F9 N9 l9; (try simp only [List.nil_append, List.cons_append] at N9); (try k_lt l9)) | ((with_reducible show wpAny _ _ (exec (Stmt.For (Expr.Tuple _ _ _) (Expr.Call _ _ _ _) _ _ _) _) _ _ _); k_here; (rename Fr _ _ _ _ => lF'); with_unfolding_all refine' For_turns lF' ?_; k_whole) | walk1 | (dsimp only; walk1) | (leave1; (try dsimp only))))
  (rename Fr _ _ _ _ => FF)
  (rename News _ _ _ _ => NN)
  obtain ⟨Z0, NS, hs0, st, hw0⟩ := spots_pack0 NN (by omega) (by omega) (by omega) (by omega) (by omega) (by tbn_find) (by tbn_find) (by tbn_find) (by k_all)
  clear NN
  with_unfolding_all refine enum_turns (by rfl) FF NS (List.Mem.tail _ (List.Mem.tail _ (List.mem_append_left _ hs0))) (by rfl) (by rfl) (fun i hI => ?_)
  have U0 := st i hI
  clear hI st
  refine items_loop (I := fun vs j m ns => ∃ l ks its Z nl oc ov, SL t news news₁ l _ i _ vs j m ns ks its Z nl oc ov) ?zero ?turn ⟨_, t.kids, _, Z0, _, _, _, rfl, by assumption, hks, rfl, U0, hs0, ?all, ?pos, ?len, rfl⟩
  case all => (intro y hy; rw [List.mem_singleton.mp hy]; exact ⟨[], hw0, by cases t <;> exact trivial⟩)
  case pos => exact Nat.one_pos
  case len => (have h1 := Tr.size_kids t; simp only [List.length_cons, List.length_nil]; omega)
  case zero =>
    intro j m9 ns9 hI9
    clear FF NS U0 hs0 hw0
    refine SL.elim0 (G := fun m9 ns9 => ItemsRest _ _ _ _ _ _ _ _ _ _ _ _ _ m9 ns9) hI9 fun l9 its Z nl oc U hA hpos hlen => ?_
    with_unfolding_all refine ItemsRest.zero (fun h' tk' F' N' => ?_)
    (repeat' (first | (k_unfold; (try dsimp only)) | ((with_reducible show wpAny _ _ (subscriptTail (Expr.Name _ _) (Expr.Slice _ _ _ _) (Value.ref _) (Value.ref _)) _ _ _); k_here; k_dflt (refine r_slice1 (by k_asm) (by k_asm) (by k_mem) (by (first | assumption | exact Nat.le_of_ble_eq_true rfl | omega | (simp only [List.length_cons, List.length_nil, List.length_append, List.length_map]; omega))) ?_ (by with_unfolding_all rfl) (by intro _; with_unfolding_all rfl)); intro D9 h9 F9 N9 l9; (try k_lt l9); (try dsimp only)) | (k_here; (first | with_reducible show wpAny _ _ (eval (Expr.ListComp (Expr.Call _ _ _ _) _ _ _) _) _ _ _ | with_reducible show wpAny _ _ (eval (Expr.ListComp (Expr.Tuple _ _ _) _ _ _) _) _ _ _ | with_reducible show wpAny _ _ (eval (Expr.ListComp (Expr.Subscript _ _ _) _ _ _) _) _ _ _ | with_reducible show wpAny _ _ (eval (Expr.ListComp (Expr.BinOp (Expr.Tuple _ _ _) _ _ _) _ _ _) _) _ _ _); k_dflt (refine z_ListComp (by k_asm) (by rfl) (by decide) (by rfl) (by decide) ?_ (by intro _; rfl) (by intro _ _ _ _ _ n9 h9; first | exact own_name n9 h9 | exact own_tuple n9 h9))) | (k_here; (with_reducible show wpAny _ _ (binaryOp _ (Value.ref _) (Value.ref _)) _ _ _); k_dflt (refine r_addT (by k_asm) (by k_asm) (by k_mem) (by k_mem) (by (first | assumption | exact Nat.le_of_ble_eq_true rfl | omega | (simp only [List.length_cons, List.length_nil, List.length_append, List.length_map]; omega))) ?_); intro D9 h9 F9 N9 l9; (try simp only [List.nil_append, List.cons_append] at N9); (try k_lt l9)) | (k_here; (with_reducible show wpAny _ _ (binaryOp _ (Value.ref _) (Value.ref _)) _ _ _); k_dflt (refine r_addL (by k_asm) (by k_asm) (by k_mem) (by k_mem) (by (first | assumption | exact Nat.le_of_ble_eq_true rfl | omega | (simp only [List.length_cons, List.length_nil, List.length_append, List.length_map]; omega))) ?_); intro D9 h9 F9 N9 l9; (try simp only [List.nil_append, List.cons_append] at N9); (try k_lt l9)) | ((with_reducible show wpAny _ _ (exec (Stmt.For (Expr.Tuple _ _ _) (Expr.Call _ _ _ _) _ _ _) _) _ _ _); k_here; (rename Fr _ _ _ _ => lF'); with_unfolding_all refine' For_turns lF' ?_; k_whole) | walk1 | (dsimp only; walk1) | (leave1; (try dsimp only))))
    (rename News _ _ _ _ => NF)
    obtain ⟨ns, NS, hR⟩ := spots_fin (t := t) U NF hA hpos hlen
    exact hret _ _ _ _ (by k_asm) NS hR
  case turn =>
    intro v9 vs9 j m9 ns9 hI9 ih
    clear FF NS U0 hs0 hw0
    refine SL.elim1 (G := fun m9 ns9 => ItemsRest _ _ _ _ _ _ _ _ _ _ _ _ _ m9 ns9) hI9 fun l9 kt kts its Z nl oc ov hoc hTa hks9 hdr U0 hs0 hA hpos hlen9 => ?_
    clear hI9
    have hkm := mem_of_drop hdr
    have ia := IH kt hkm
    have hkd := Tr.kids_dep hkm
    have hks := Tr.size_kid hkm
    have hdk : kt.dep ≤ 30 := by omega
    have hsk : kt.size ≤ 100 := by omega
    have hlk := Tr.le2_kid hle hkm
    simp only [enumItems]
    have uc1 := U0.c1
    have uc0 := U0.c0
    have ulc := U0.lc
    have tz0 := U0.offC
    (repeat' (first | (k_unfold; (try dsimp only)) | ((with_reducible show wpAny _ _ (subscriptTail (Expr.Name _ _) (Expr.Slice _ _ _ _) (Value.ref _) (Value.ref _)) _ _ _); k_here; k_dflt (refine r_slice1 (by k_asm) (by k_asm) (by k_mem) (by (first | assumption | exact Nat.le_of_ble_eq_true rfl | omega | (simp only [List.length_cons, List.length_nil, List.length_append, List.length_map]; omega))) ?_ (by with_unfolding_all rfl) (by intro _; with_unfolding_all rfl)); intro D9 h9 F9 N9 l9; (try k_lt l9); (try dsimp only)) | (k_here; (first | with_reducible show wpAny _ _ (eval (Expr.ListComp (Expr.Call _ _ _ _) _ _ _) _) _ _ _ | with_reducible show wpAny _ _ (eval (Expr.ListComp (Expr.Tuple _ _ _) _ _ _) _) _ _ _ | with_reducible show wpAny _ _ (eval (Expr.ListComp (Expr.Subscript _ _ _) _ _ _) _) _ _ _ | with_reducible show wpAny _ _ (eval (Expr.ListComp (Expr.BinOp (Expr.Tuple _ _ _) _ _ _) _ _ _) _) _ _ _); k_dflt (refine z_ListComp (by k_asm) (by rfl) (by decide) (by rfl) (by decide) ?_ (by intro _; rfl) (by intro _ _ _ _ _ n9 h9; first | exact own_name n9 h9 | exact own_tuple n9 h9))) | (k_here; (with_reducible show wpAny _ _ (binaryOp _ (Value.ref _) (Value.ref _)) _ _ _); k_dflt (refine r_addT (by k_asm) (by k_asm) (by k_mem) (by k_mem) (by (first | assumption | exact Nat.le_of_ble_eq_true rfl | omega | (simp only [List.length_cons, List.length_nil, List.length_append, List.length_map]; omega))) ?_); intro D9 h9 F9 N9 l9; (try simp only [List.nil_append, List.cons_append] at N9); (try k_lt l9)) | (k_here; (with_reducible show wpAny _ _ (binaryOp _ (Value.ref _) (Value.ref _)) _ _ _); k_dflt (refine r_addL (by k_asm) (by k_asm) (by k_mem) (by k_mem) (by (first | assumption | exact Nat.le_of_ble_eq_true rfl | omega | (simp only [List.length_cons, List.length_nil, List.length_append, List.length_map]; omega))) ?_); intro D9 h9 F9 N9 l9; (try simp only [List.nil_append, List.cons_append] at N9); (try k_lt l9)) | ((with_reducible show wpAny _ _ (exec (Stmt.For (Expr.Tuple _ _ _) (Expr.Call _ _ _ _) _ _ _) _) _ _ _); k_here; (rename Fr _ _ _ _ => lF'); with_unfolding_all refine' For_turns lF' ?_; k_whole) | walk1 | (dsimp only; walk1) | (leave1; (try dsimp only))))
    k_dflt (refine' spots_use ia hTa hlk hsk hdk ?c3_0 ?c4_0 ?c5_0 ?c6_0 ?c7_0 ?c1_0 ?c8_0 ?c9_0 ?c10_0 ?_)
    case c6_0 => k_asm
    case c1_0 => (intro p9 h9; have h10 := hsub p9 h9; simp [h10])
    case c3_0 => k_asm
    case c4_0 => k_asm
    case c5_0 => k_asm
    case c7_0 => k_asm
    case c8_0 => exact rfl
    case c9_0 => ktr_room
    case c10_0 => ktr_units
    intro tl0 LL0 ways0 n0 h0 tk0 F0 N0 hf0 hL0 hp0 hz0 hW0
    obtain ⟨ps0, e0, hq0⟩ := ways_pairs j hW0
    refine ZSrc.lst rfl F0 N0 ⟨_, .inr (List.mem_append_left _ hL0), rfl, _, rfl⟩ (by rw [sizeLine_eq]; omega) fun g => ?_
    rw [← e0]
    refine z_grow (R := fun ws l v => WayIn l v ws) (dat := []) (led := tl0 ++ _) (fun _ _ _ _ h hs => WayIn.mono h hs) (by rfl) (by rfl) (fun tl => ⟨_, .inr (List.mem_append_right _ (List.mem_append_left _ hL0)), rfl, _, by rw [e0]⟩) ps0 [] [] [] Fresh.nil .nil (fun q hqm => ?_) fun ys0 tm0 hft0 hA0 => ?_
    · refine Exists.elim (hq0 q hqm) fun ws h9 => and3 h9 fun hqe hw9 hpath => ex3 hw9 fun wa wn wvs hw8 => and3 hw8 fun hqv hwm hwk => ?_
      intro tl₀ I oI C oC D oD m₂ h tk hCC hx F' N' off ne
      rw [hqv] at hx
      rw [hqe]
      have hwl := hwk.length
      have hws := Tr.path_len hpath
      cases hwk with
      | nil =>
        (repeat' (first | (k_unfold; (try dsimp only)) | ((with_reducible show wpAny _ _ (subscriptTail (Expr.Name _ _) (Expr.Slice _ _ _ _) (Value.ref _) (Value.ref _)) _ _ _); k_here; k_dflt (refine r_slice1 (by k_asm) (by k_asm) (by k_mem) (by (first | assumption | exact Nat.le_of_ble_eq_true rfl | omega | (simp only [List.length_cons, List.length_nil, List.length_append, List.length_map]; omega))) ?_ (by with_unfolding_all rfl) (by intro _; with_unfolding_all rfl)); intro D9 h9 F9 N9 l9; (try k_lt l9); (try dsimp only)) | (k_here; (first | with_reducible show wpAny _ _ (eval (Expr.ListComp (Expr.Call _ _ _ _) _ _ _) _) _ _ _ | with_reducible show wpAny _ _ (eval (Expr.ListComp (Expr.Tuple _ _ _) _ _ _) _) _ _ _ | with_reducible show wpAny _ _ (eval (Expr.ListComp (Expr.Subscript _ _ _) _ _ _) _) _ _ _ | with_reducible show wpAny _ _ (eval (Expr.ListComp (Expr.BinOp (Expr.Tuple _ _ _) _ _ _) _ _ _) _) _ _ _); k_dflt (refine z_ListComp (by k_asm) (by rfl) (by decide) (by rfl) (by decide) ?_ (by intro _; rfl) (by intro _ _ _ _ _ n9 h9; first | exact own_name n9 h9 | exact own_tuple n9 h9))) | (k_here; (with_reducible show wpAny _ _ (binaryOp _ (Value.ref _) (Value.ref _)) _ _ _); k_dflt (refine r_addT (by k_asm) (by k_asm) (by k_mem) (by k_mem) (by (first | assumption | exact Nat.le_of_ble_eq_true rfl | omega | (simp only [List.length_cons, List.length_nil, List.length_append, List.length_map]; omega))) ?_); intro D9 h9 F9 N9 l9; (try simp only [List.nil_append, List.cons_append] at N9); (try k_lt l9)) | (k_here; (with_reducible show wpAny _ _ (binaryOp _ (Value.ref _) (Value.ref _)) _ _ _); k_dflt (refine r_addL (by k_asm) (by k_asm) (by k_mem) (by k_mem) (by (first | assumption | exact Nat.le_of_ble_eq_true rfl | omega | (simp only [List.length_cons, List.length_nil, List.length_append, List.length_map]; omega))) ?_); intro D9 h9 F9 N9 l9; (try simp only [List.nil_append, List.cons_append] at N9); (try k_lt l9)) | ((with_reducible show wpAny _ _ (exec (Stmt.For (Expr.Tuple _ _ _) (Expr.Call _ _ _ _) _ _ _) _) _ _ _); k_here; (rename Fr _ _ _ _ => lF'); with_unfolding_all refine' For_turns lF' ?_; k_whole) | walk1 | (dsimp only; walk1) | (leave1; (try dsimp only))))
        (rename News _ _ _ _ => NF)
        exact GBack.intro [_] (by k_asm) NF (Fresh.lt3 (by assumption)) ⟨_, _, _, rfl, List.mem_append_left _ List.mem_cons_self, .cons .nil⟩
      | @cons kk tkk vs' ks' hk' =>
        have hvl : vs'.length ≤ 900 := by simp only [List.length_cons] at hwl hws; omega
        (repeat' (first | (k_unfold; (try dsimp only)) | ((with_reducible show wpAny _ _ (subscriptTail (Expr.Name _ _) (Expr.Slice _ _ _ _) (Value.ref _) (Value.ref _)) _ _ _); k_here; k_dflt (refine r_slice1 (by k_asm) (by k_asm) (by k_mem) (by (first | assumption | exact Nat.le_of_ble_eq_true rfl | omega | (simp only [List.length_cons, List.length_nil, List.length_append, List.length_map]; omega))) ?_ (by with_unfolding_all rfl) (by intro _; with_unfolding_all rfl)); intro D9 h9 F9 N9 l9; (try k_lt l9); (try dsimp only)) | (k_here; (first | with_reducible show wpAny _ _ (eval (Expr.ListComp (Expr.Call _ _ _ _) _ _ _) _) _ _ _ | with_reducible show wpAny _ _ (eval (Expr.ListComp (Expr.Tuple _ _ _) _ _ _) _) _ _ _ | with_reducible show wpAny _ _ (eval (Expr.ListComp (Expr.Subscript _ _ _) _ _ _) _) _ _ _ | with_reducible show wpAny _ _ (eval (Expr.ListComp (Expr.BinOp (Expr.Tuple _ _ _) _ _ _) _ _ _) _) _ _ _); k_dflt (refine z_ListComp (by k_asm) (by rfl) (by decide) (by rfl) (by decide) ?_ (by intro _; rfl) (by intro _ _ _ _ _ n9 h9; first | exact own_name n9 h9 | exact own_tuple n9 h9))) | (k_here; (with_reducible show wpAny _ _ (binaryOp _ (Value.ref _) (Value.ref _)) _ _ _); k_dflt (refine r_addT (by k_asm) (by k_asm) (by k_mem) (by k_mem) (by (first | assumption | exact Nat.le_of_ble_eq_true rfl | omega | (simp only [List.length_cons, List.length_nil, List.length_append, List.length_map]; omega))) ?_); intro D9 h9 F9 N9 l9; (try simp only [List.nil_append, List.cons_append] at N9); (try k_lt l9)) | (k_here; (with_reducible show wpAny _ _ (binaryOp _ (Value.ref _) (Value.ref _)) _ _ _); k_dflt (refine r_addL (by k_asm) (by k_asm) (by k_mem) (by k_mem) (by (first | assumption | exact Nat.le_of_ble_eq_true rfl | omega | (simp only [List.length_cons, List.length_nil, List.length_append, List.length_map]; omega))) ?_); intro D9 h9 F9 N9 l9; (try simp only [List.nil_append, List.cons_append] at N9); (try k_lt l9)) | ((with_reducible show wpAny _ _ (exec (Stmt.For (Expr.Tuple _ _ _) (Expr.Call _ _ _ _) _ _ _) _) _ _ _); k_here; (rename Fr _ _ _ _ => lF'); with_unfolding_all refine' For_turns lF' ?_; k_whole) | walk1 | (dsimp only; walk1) | (leave1; (try dsimp only))))
        (rename News _ _ _ _ => NF)
        exact GBack.intro [_, _] (by k_asm) NF (Fresh.lt4 (by assumption) (by assumption)) ⟨_, _, _, rfl, List.mem_append_left _ List.mem_cons_self, .cons (.cons hk')⟩
    unfold LCg.FinE
    intro DD0 hD0 tD0 FD0 ND0 offD0
    have hyl0 : ys0.length ≤ kt.size := by
      have h1 := hA0.length
      have h2 := congrArg List.length e0
      simp only [List.nil_append, List.length_map] at h1 h2
      omega
    have hw0 := ways_of hA0 hq0
    have hl9 : its.length + ys0.length ≤ 1000 := by omega
    clear hq0 hW0 hA0 e0
    (repeat' (first | (k_unfold; (try dsimp only)) | ((with_reducible show wpAny _ _ (subscriptTail (Expr.Name _ _) (Expr.Slice _ _ _ _) (Value.ref _) (Value.ref _)) _ _ _); k_here; k_dflt (refine r_slice1 (by k_asm) (by k_asm) (by k_mem) (by (first | assumption | exact Nat.le_of_ble_eq_true rfl | omega | (simp only [List.length_cons, List.length_nil, List.length_append, List.length_map]; omega))) ?_ (by with_unfolding_all rfl) (by intro _; with_unfolding_all rfl)); intro D9 h9 F9 N9 l9; (try k_lt l9); (try dsimp only)) | (k_here; (first | with_reducible show wpAny _ _ (eval (Expr.ListComp (Expr.Call _ _ _ _) _ _ _) _) _ _ _ | with_reducible show wpAny _ _ (eval (Expr.ListComp (Expr.Tuple _ _ _) _ _ _) _) _ _ _ | with_reducible show wpAny _ _ (eval (Expr.ListComp (Expr.Subscript _ _ _) _ _ _) _) _ _ _ | with_reducible show wpAny _ _ (eval (Expr.ListComp (Expr.BinOp (Expr.Tuple _ _ _) _ _ _) _ _ _) _) _ _ _); k_dflt (refine z_ListComp (by k_asm) (by rfl) (by decide) (by rfl) (by decide) ?_ (by intro _; rfl) (by intro _ _ _ _ _ n9 h9; first | exact own_name n9 h9 | exact own_tuple n9 h9))) | (k_here; (with_reducible show wpAny _ _ (binaryOp _ (Value.ref _) (Value.ref _)) _ _ _); k_dflt (refine r_addT (by k_asm) (by k_asm) (by k_mem) (by k_mem) (by (first | assumption | exact Nat.le_of_ble_eq_true rfl | omega | (simp only [List.length_cons, List.length_nil, List.length_append, List.length_map]; omega))) ?_); intro D9 h9 F9 N9 l9; (try simp only [List.nil_append, List.cons_append] at N9); (try k_lt l9)) | (k_here; (with_reducible show wpAny _ _ (binaryOp _ (Value.ref _) (Value.ref _)) _ _ _); k_dflt (refine r_addL (by k_asm) (by k_asm) (by k_mem) (by k_mem) (by (first | assumption | exact Nat.le_of_ble_eq_true rfl | omega | (simp only [List.length_cons, List.length_nil, List.length_append, List.length_map]; omega))) ?_); intro D9 h9 F9 N9 l9; (try simp only [List.nil_append, List.cons_append] at N9); (try k_lt l9)) | ((with_reducible show wpAny _ _ (exec (Stmt.For (Expr.Tuple _ _ _) (Expr.Call _ _ _ _) _ _ _) _) _ _ _); k_here; (rename Fr _ _ _ _ => lF'); with_unfolding_all refine' For_turns lF' ?_; k_whole) | walk1 | (dsimp only; walk1) | (leave1; (try dsimp only))))
    (rename News _ _ _ _ => NT0)
    have U1 := U0.grow NT0 hf0 hft0 (by tbn_find)
    refine U1.fin (by k_asm) NT0 ⟨⟨by simp [hs0], trivial⟩, ?_⟩
    exact ih _ _ ⟨_, kts, _, _, _, _, _, rfl, by assumption, hks9, drop_succ_of hdr, U1, by simp [hs0], spots_grown hle hdr hA hw0, by rw [List.length_append]; omega, by rw [List.length_append]; omega, rfl⟩
theorem spots_all (w : World) (mean : ExcName → Option Value) (mg mb : Str → Option Value) : ∀ t : Tr, SpotsC w mean mg mb t := by
  have all : ∀ n, ∀ t : Tr, t.dep < n → SpotsC w mean mg mb t := by
    intro n
    induction n with
    | zero => intro t h; exact absurd h (Nat.not_lt_zero _)
    | succ n ih => exact fun t h => spots_node w mean mg mb t fun k hk => ih k (Nat.lt_of_lt_of_le (Tr.kids_dep hk) (Nat.le_of_lt_succ h))
  exact fun t => all _ t (Nat.lt_succ_self _)
theorem Tr.size_le : ∀ t : Tr, t.le2 → t.size + 1 ≤ 2 ^ t.dep
  | .n0 _, _ => by simp [Tr.size, Tr.dep]
  | .n1 _ a, h => by
    have := Tr.size_le a h
    simp only [Tr.size, Tr.dep, Nat.pow_succ]
    omega
  | .n2 _ a b, h => by
    have h1 := Tr.size_le a h.1
    have h2 := Tr.size_le b h.2
    have h3 := Nat.pow_le_pow_right (n := 2) (by omega) (Nat.le_max_left a.dep b.dep)
    have h4 := Nat.pow_le_pow_right (n := 2) (by omega) (Nat.le_max_right a.dep b.dep)
    simp only [Tr.size, Tr.dep, Nat.pow_succ]
    omega
  | .n3 _ _ _ _, h => h.elim
end
section
example : True := by (w_top off); trivial
open PySem PySem.W PyProof.Rows PySem.Spec PySem.Calls
/-- a pattern of the rules: leaves are the two truths or the three variables -/
noncomputable def Tr.pat : Tr → Prop
  | .n0 x => x = sTrue ∨ x = sFalse ∨ x = qA ∨ x = qB ∨ x = qC
  | .n1 _ a => a.pat
  | .n2 _ a b => a.pat ∧ b.pat
  | .n3 _ _ _ _ => False
/-- is it a variable -/
noncomputable def Tr.isV : Tr → Bool
  | .n0 x => x == qA || x == qB || x == qC
  | _ => false
noncomputable def IsVarC (w : World) (mean : ExcName → Option Value) (mg mb : Str → Option Value) (p : Tr) : Prop :=
  ∀ (news : List (Addr × Obj)) (v : Value), PIn news v p → p.pat → Con w mean mg mb 81 10 [v] news (fun r news' => news' = news ∧ r = .bool p.isV)
theorem isvar_all (w : World) (mean : ExcName → Option Value) (mg mb : Str → Option Value) (p : Tr) : IsVarC w mean mg mb p := by
  intro news v hP hpat
  unfold Con
  k_fill
  intro dp un gd cn cs a' ccd cl outer A₀ base h₀ L m s Q E B F X N T' hkf hd hu hret
  refine wpAny_call ?_
  cases hP with
  | va =>
    k_dflt (first | (refine' code_def (by k_asm) (by k_asm) (by k_asm) (by k_asm) (by k_asm) rfl rfl (by first | assumption | exact rfl) (by k_is) (by k_is) (by ktr_room) (by exact BindsTo.of_eq rfl) (by exact locs rfl) ?_ (by exact rfl) (by exact rfl) (by exact rfl) (by decide); k_whole; intro g8 L8 h8 FG8 F8 N8 B8 X8 T8; (try dsimp only); (try k_fold)) | (refine' code_defC (by k_asm) (by k_asm) (by k_asm) (by k_asm) (by k_asm) rfl rfl (by first | assumption | exact rfl) (by k_is) (by k_is) (by ktr_room) (by exact BindsTo.of_eq rfl) (by exact rfl) (by decide +kernel) ?_ (by exact rfl) (by exact rfl) (by exact rfl); k_whole; intro g8 L8 h8 tk8 cells8 FG8 F8 N8 Y8 B8 X8 T8 l8; (try k_lt l8); k_cells Y8; (try simp only [List.cons_append, List.nil_append] at N8); (try dsimp only); (try k_fold)))
    (repeat' (first | (k_unfold; (try dsimp only)) | ((with_reducible show wpAny _ _ (subscriptTail (Expr.Name _ _) (Expr.Constant _ _ _) (Value.ref _) (Value.int _ _)) _ _ _); k_here; k_dflt refine r_item0 (by k_asm) (by k_mem) ?_ (by with_unfolding_all rfl)) | (k_here; (with_reducible show wpAny _ _ (call (Value.builtin "len") [Value.ref _]) _ _ _); k_dflt (first | refine r_lenL (by k_asm) (by k_mem) (by (first | assumption | exact Nat.le_of_ble_eq_true rfl | omega | (simp only [List.length_cons, List.length_nil, List.length_append, List.length_map]; omega))) ?_ | refine r_lenT (by k_asm) (by k_mem) (by (first | assumption | exact Nat.le_of_ble_eq_true rfl | omega | (simp only [List.length_cons, List.length_nil, List.length_append, List.length_map]; omega))) ?_); (try dsimp only)) | walk1 | (dsimp only; walk1) | (leave1; (try dsimp only))))
    exact hret _ _ _ _ (by k_asm) (by k_asm) ⟨rfl, congrArg Value.bool (by decide +kernel)⟩
  | vb =>
    k_dflt (first | (refine' code_def (by k_asm) (by k_asm) (by k_asm) (by k_asm) (by k_asm) rfl rfl (by first | assumption | exact rfl) (by k_is) (by k_is) (by ktr_room) (by exact BindsTo.of_eq rfl) (by exact locs rfl) ?_ (by exact rfl) (by exact rfl) (by exact rfl) (by decide); k_whole; intro g8 L8 h8 FG8 F8 N8 B8 X8 T8; (try dsimp only); (try k_fold)) | (refine' code_defC (by k_asm) (by k_asm) (by k_asm) (by k_asm) (by k_asm) rfl rfl (by first | assumption | exact rfl) (by k_is) (by k_is) (by ktr_room) (by exact BindsTo.of_eq rfl) (by exact rfl) (by decide +kernel) ?_ (by exact rfl) (by exact rfl) (by exact rfl); k_whole; intro g8 L8 h8 tk8 cells8 FG8 F8 N8 Y8 B8 X8 T8 l8; (try k_lt l8); k_cells Y8; (try simp only [List.cons_append, List.nil_append] at N8); (try dsimp only); (try k_fold)))
    (repeat' (first | (k_unfold; (try dsimp only)) | ((with_reducible show wpAny _ _ (subscriptTail (Expr.Name _ _) (Expr.Constant _ _ _) (Value.ref _) (Value.int _ _)) _ _ _); k_here; k_dflt refine r_item0 (by k_asm) (by k_mem) ?_ (by with_unfolding_all rfl)) | (k_here; (with_reducible show wpAny _ _ (call (Value.builtin "len") [Value.ref _]) _ _ _); k_dflt (first | refine r_lenL (by k_asm) (by k_mem) (by (first | assumption | exact Nat.le_of_ble_eq_true rfl | omega | (simp only [List.length_cons, List.length_nil, List.length_append, List.length_map]; omega))) ?_ | refine r_lenT (by k_asm) (by k_mem) (by (first | assumption | exact Nat.le_of_ble_eq_true rfl | omega | (simp only [List.length_cons, List.length_nil, List.length_append, List.length_map]; omega))) ?_); (try dsimp only)) | walk1 | (dsimp only; walk1) | (leave1; (try dsimp only))))
    exact hret _ _ _ _ (by k_asm) (by k_asm) ⟨rfl, congrArg Value.bool (by decide +kernel)⟩
  | vc =>
    k_dflt (first | (refine' code_def (by k_asm) (by k_asm) (by k_asm) (by k_asm) (by k_asm) rfl rfl (by first | assumption | exact rfl) (by k_is) (by k_is) (by ktr_room) (by exact BindsTo.of_eq rfl) (by exact locs rfl) ?_ (by exact rfl) (by exact rfl) (by exact rfl) (by decide); k_whole; intro g8 L8 h8 FG8 F8 N8 B8 X8 T8; (try dsimp only); (try k_fold)) | (refine' code_defC (by k_asm) (by k_asm) (by k_asm) (by k_asm) (by k_asm) rfl rfl (by first | assumption | exact rfl) (by k_is) (by k_is) (by ktr_room) (by exact BindsTo.of_eq rfl) (by exact rfl) (by decide +kernel) ?_ (by exact rfl) (by exact rfl) (by exact rfl); k_whole; intro g8 L8 h8 tk8 cells8 FG8 F8 N8 Y8 B8 X8 T8 l8; (try k_lt l8); k_cells Y8; (try simp only [List.cons_append, List.nil_append] at N8); (try dsimp only); (try k_fold)))
    (repeat' (first | (k_unfold; (try dsimp only)) | ((with_reducible show wpAny _ _ (subscriptTail (Expr.Name _ _) (Expr.Constant _ _ _) (Value.ref _) (Value.int _ _)) _ _ _); k_here; k_dflt refine r_item0 (by k_asm) (by k_mem) ?_ (by with_unfolding_all rfl)) | (k_here; (with_reducible show wpAny _ _ (call (Value.builtin "len") [Value.ref _]) _ _ _); k_dflt (first | refine r_lenL (by k_asm) (by k_mem) (by (first | assumption | exact Nat.le_of_ble_eq_true rfl | omega | (simp only [List.length_cons, List.length_nil, List.length_append, List.length_map]; omega))) ?_ | refine r_lenT (by k_asm) (by k_mem) (by (first | assumption | exact Nat.le_of_ble_eq_true rfl | omega | (simp only [List.length_cons, List.length_nil, List.length_append, List.length_map]; omega))) ?_); (try dsimp only)) | walk1 | (dsimp only; walk1) | (leave1; (try dsimp only))))
    exact hret _ _ _ _ (by k_asm) (by k_asm) ⟨rfl, congrArg Value.bool (by decide +kernel)⟩
  | @n0 a op tk n hnv hm =>
    rcases hpat with rfl | rfl | e | e | e
    · k_dflt (first | (refine' code_def (by k_asm) (by k_asm) (by k_asm) (by k_asm) (by k_asm) rfl rfl (by first | assumption | exact rfl) (by k_is) (by k_is) (by ktr_room) (by exact BindsTo.of_eq rfl) (by exact locs rfl) ?_ (by exact rfl) (by exact rfl) (by exact rfl) (by decide); k_whole; intro g8 L8 h8 FG8 F8 N8 B8 X8 T8; (try dsimp only); (try k_fold)) | (refine' code_defC (by k_asm) (by k_asm) (by k_asm) (by k_asm) (by k_asm) rfl rfl (by first | assumption | exact rfl) (by k_is) (by k_is) (by ktr_room) (by exact BindsTo.of_eq rfl) (by exact rfl) (by decide +kernel) ?_ (by exact rfl) (by exact rfl) (by exact rfl); k_whole; intro g8 L8 h8 tk8 cells8 FG8 F8 N8 Y8 B8 X8 T8 l8; (try k_lt l8); k_cells Y8; (try simp only [List.cons_append, List.nil_append] at N8); (try dsimp only); (try k_fold)))
      (repeat' (first | (k_unfold; (try dsimp only)) | ((with_reducible show wpAny _ _ (subscriptTail (Expr.Name _ _) (Expr.Constant _ _ _) (Value.ref _) (Value.int _ _)) _ _ _); k_here; k_dflt refine r_item0 (by k_asm) (by k_mem) ?_ (by with_unfolding_all rfl)) | (k_here; (with_reducible show wpAny _ _ (call (Value.builtin "len") [Value.ref _]) _ _ _); k_dflt (first | refine r_lenL (by k_asm) (by k_mem) (by (first | assumption | exact Nat.le_of_ble_eq_true rfl | omega | (simp only [List.length_cons, List.length_nil, List.length_append, List.length_map]; omega))) ?_ | refine r_lenT (by k_asm) (by k_mem) (by (first | assumption | exact Nat.le_of_ble_eq_true rfl | omega | (simp only [List.length_cons, List.length_nil, List.length_append, List.length_map]; omega))) ?_); (try dsimp only)) | walk1 | (dsimp only; walk1) | (leave1; (try dsimp only))))
      · exact hret _ _ _ _ (by k_asm) (by k_asm) ⟨rfl, congrArg Value.bool (by decide +kernel)⟩
      · (rename ((_ : Nat) : Int) ≠ 1 => e); exact absurd rfl e
    · k_dflt (first | (refine' code_def (by k_asm) (by k_asm) (by k_asm) (by k_asm) (by k_asm) rfl rfl (by first | assumption | exact rfl) (by k_is) (by k_is) (by ktr_room) (by exact BindsTo.of_eq rfl) (by exact locs rfl) ?_ (by exact rfl) (by exact rfl) (by exact rfl) (by decide); k_whole; intro g8 L8 h8 FG8 F8 N8 B8 X8 T8; (try dsimp only); (try k_fold)) | (refine' code_defC (by k_asm) (by k_asm) (by k_asm) (by k_asm) (by k_asm) rfl rfl (by first | assumption | exact rfl) (by k_is) (by k_is) (by ktr_room) (by exact BindsTo.of_eq rfl) (by exact rfl) (by decide +kernel) ?_ (by exact rfl) (by exact rfl) (by exact rfl); k_whole; intro g8 L8 h8 tk8 cells8 FG8 F8 N8 Y8 B8 X8 T8 l8; (try k_lt l8); k_cells Y8; (try simp only [List.cons_append, List.nil_append] at N8); (try dsimp only); (try k_fold)))
      (repeat' (first | (k_unfold; (try dsimp only)) | ((with_reducible show wpAny _ _ (subscriptTail (Expr.Name _ _) (Expr.Constant _ _ _) (Value.ref _) (Value.int _ _)) _ _ _); k_here; k_dflt refine r_item0 (by k_asm) (by k_mem) ?_ (by with_unfolding_all rfl)) | (k_here; (with_reducible show wpAny _ _ (call (Value.builtin "len") [Value.ref _]) _ _ _); k_dflt (first | refine r_lenL (by k_asm) (by k_mem) (by (first | assumption | exact Nat.le_of_ble_eq_true rfl | omega | (simp only [List.length_cons, List.length_nil, List.length_append, List.length_map]; omega))) ?_ | refine r_lenT (by k_asm) (by k_mem) (by (first | assumption | exact Nat.le_of_ble_eq_true rfl | omega | (simp only [List.length_cons, List.length_nil, List.length_append, List.length_map]; omega))) ?_); (try dsimp only)) | walk1 | (dsimp only; walk1) | (leave1; (try dsimp only))))
      · exact hret _ _ _ _ (by k_asm) (by k_asm) ⟨rfl, congrArg Value.bool (by decide +kernel)⟩
      · (rename ((_ : Nat) : Int) ≠ 1 => e); exact absurd rfl e
    · exact absurd e hnv.1
    · exact absurd e hnv.2.1
    · exact absurd e hnv.2.2
  | @n1 a op tk n v1 t1 hnv hm h1 =>
    k_dflt (first | (refine' code_def (by k_asm) (by k_asm) (by k_asm) (by k_asm) (by k_asm) rfl rfl (by first | assumption | exact rfl) (by k_is) (by k_is) (by ktr_room) (by exact BindsTo.of_eq rfl) (by exact locs rfl) ?_ (by exact rfl) (by exact rfl) (by exact rfl) (by decide); k_whole; intro g8 L8 h8 FG8 F8 N8 B8 X8 T8; (try dsimp only); (try k_fold)) | (refine' code_defC (by k_asm) (by k_asm) (by k_asm) (by k_asm) (by k_asm) rfl rfl (by first | assumption | exact rfl) (by k_is) (by k_is) (by ktr_room) (by exact BindsTo.of_eq rfl) (by exact rfl) (by decide +kernel) ?_ (by exact rfl) (by exact rfl) (by exact rfl); k_whole; intro g8 L8 h8 tk8 cells8 FG8 F8 N8 Y8 B8 X8 T8 l8; (try k_lt l8); k_cells Y8; (try simp only [List.cons_append, List.nil_append] at N8); (try dsimp only); (try k_fold)))
    (repeat' (first | (k_unfold; (try dsimp only)) | ((with_reducible show wpAny _ _ (subscriptTail (Expr.Name _ _) (Expr.Constant _ _ _) (Value.ref _) (Value.int _ _)) _ _ _); k_here; k_dflt refine r_item0 (by k_asm) (by k_mem) ?_ (by with_unfolding_all rfl)) | (k_here; (with_reducible show wpAny _ _ (call (Value.builtin "len") [Value.ref _]) _ _ _); k_dflt (first | refine r_lenL (by k_asm) (by k_mem) (by (first | assumption | exact Nat.le_of_ble_eq_true rfl | omega | (simp only [List.length_cons, List.length_nil, List.length_append, List.length_map]; omega))) ?_ | refine r_lenT (by k_asm) (by k_mem) (by (first | assumption | exact Nat.le_of_ble_eq_true rfl | omega | (simp only [List.length_cons, List.length_nil, List.length_append, List.length_map]; omega))) ?_); (try dsimp only)) | walk1 | (dsimp only; walk1) | (leave1; (try dsimp only))))
    · (rename ((_ : Nat) : Int) = 1 => e); exact absurd e (by simp)
    · exact hret _ _ _ _ (by k_asm) (by k_asm) ⟨rfl, congrArg Value.bool (by simp [Tr.isV])⟩
  | @n2 a op tk n v1 v2 t1 t2 hnv hm h1 h2 =>
    k_dflt (first | (refine' code_def (by k_asm) (by k_asm) (by k_asm) (by k_asm) (by k_asm) rfl rfl (by first | assumption | exact rfl) (by k_is) (by k_is) (by ktr_room) (by exact BindsTo.of_eq rfl) (by exact locs rfl) ?_ (by exact rfl) (by exact rfl) (by exact rfl) (by decide); k_whole; intro g8 L8 h8 FG8 F8 N8 B8 X8 T8; (try dsimp only); (try k_fold)) | (refine' code_defC (by k_asm) (by k_asm) (by k_asm) (by k_asm) (by k_asm) rfl rfl (by first | assumption | exact rfl) (by k_is) (by k_is) (by ktr_room) (by exact BindsTo.of_eq rfl) (by exact rfl) (by decide +kernel) ?_ (by exact rfl) (by exact rfl) (by exact rfl); k_whole; intro g8 L8 h8 tk8 cells8 FG8 F8 N8 Y8 B8 X8 T8 l8; (try k_lt l8); k_cells Y8; (try simp only [List.cons_append, List.nil_append] at N8); (try dsimp only); (try k_fold)))
    (repeat' (first | (k_unfold; (try dsimp only)) | ((with_reducible show wpAny _ _ (subscriptTail (Expr.Name _ _) (Expr.Constant _ _ _) (Value.ref _) (Value.int _ _)) _ _ _); k_here; k_dflt refine r_item0 (by k_asm) (by k_mem) ?_ (by with_unfolding_all rfl)) | (k_here; (with_reducible show wpAny _ _ (call (Value.builtin "len") [Value.ref _]) _ _ _); k_dflt (first | refine r_lenL (by k_asm) (by k_mem) (by (first | assumption | exact Nat.le_of_ble_eq_true rfl | omega | (simp only [List.length_cons, List.length_nil, List.length_append, List.length_map]; omega))) ?_ | refine r_lenT (by k_asm) (by k_mem) (by (first | assumption | exact Nat.le_of_ble_eq_true rfl | omega | (simp only [List.length_cons, List.length_nil, List.length_append, List.length_map]; omega))) ?_); (try dsimp only)) | walk1 | (dsimp only; walk1) | (leave1; (try dsimp only))))
    · (rename ((_ : Nat) : Int) = 1 => e); exact absurd e (by simp)
    · exact hret _ _ _ _ (by k_asm) (by k_asm) ⟨rfl, congrArg Value.bool (by simp [Tr.isV])⟩
theorem isvar_use {w : World} {mean : ExcName → Option Value} {mg mb : Str → Option Value} {p : Tr} {v : Value} {news news₁ : List (Addr × Obj)}
    {dp un : Nat} {gd : Option (List Code)} {cn : Str} {cs : Scope} {a : Addr} {ccd : Value} {cl : List (Str × Addr)} {outer : List Env} {A₀ : Around} {base h₀ : Heap} {L : Addr} {m : Str → Option Value} {s : Shared} {Q E : Value → Shared → Prop}
    (hP : PIn news₁ v p) (hpat : p.pat)
    (B : Below A₀ base outer h₀) (F : Fr h₀ L s.heap m) (X : (hd.heap_1 w.params).In h₀) (N : News h₀ L s.heap news₁) (T' : Top hd.view_39 lse mean mg mb h₀) (hk : cs.kind = .function) (hd : dp + 10 < recursionLimit) (hu : un + 8 * 10 < cLine)
    (ret : ∀ h' tk', Fr h₀ L h' m → News h₀ L h' news₁ → Q (.bool p.isV) { s with heap := h', toks := tk' }) :
    wpAny (model PySem.Challenge.rw_sa0020_01.row.toRowW.prog w) (ktrTop dp un gd cn cs L a ccd cl outer) (call (.ref 81) [v]) Q E s :=
  con_use (isvar_all w mean mg mb p news₁ v hP hpat) B F X N T' (fun _ h => h) hk hd hu fun r news' h' tk' F' N' hP' => by
    obtain ⟨rfl, rfl⟩ := hP'
    exact ret _ _ F' N'
end
section
example : True := by (w_top off); trivial
open PySem PySem.W PyProof.Rows PySem.Spec PySem.Calls
theorem inst60 {h₀ h : Heap} {L e t : Addr} {news : List (Addr × Obj)} (N : News h₀ L h news) (hx : (e, excO t none) ∈ news) : InstAt h e (excO t none) 60 none := ⟨(N _ hx).1, rfl, rfl, trivial⟩
theorem allGt_ne {t e : Addr} {l : List (Addr × Obj)} (h : AllLt t l) (hte : @LT.lt Nat _ t e) : ∀ p ∈ l, p.1 ≠ e := fun p hp => Nat.ne_of_lt (Nat.lt_trans (ktn_ltOf h p hp) hte)
theorem fault_con (w : World) (mean : ExcName → Option Value) (mg mb : Str → Option Value) (x : Str) (tk : Tok) (news : List (Addr × Obj)) :
    Con w mean mg mb 60 5 [.str x tk] news (fun r news' => ∃ e t dx, r = .ref e ∧ news' = (e, excO t (some dx)) :: news ∧ ∀ p ∈ news, p.1 ≠ e) := by
  unfold Con
  k_fill
  intro dp un gd cn cs a' ccd cl outer A₀ base h₀ L m s Q E B F X N T' hkf hd hu hret
  k_dflt (refine r_fault F N X ?_)
  intro e t h' FE NE l1 l2
  have l1' := allLt_of l1
  have l3 := allGt_ne l1' l2
  k_dflt (refine' ks_code_super ?k1 ?k2 ?k3 ?k4 ?k5 ?kA ?kF ?kK ?k6 ?k7 ?k8 ?k9 ?kB ?_ ?c1 ?c2 ?c3 ?c4; (case kA => exact rfl); (case kF => exact rfl); (case kK => first | assumption | exact rfl); (case k1 => k_asm); (case k2 => k_asm); (case k3 => k_asm); (case k4 => k_asm); (case k5 => k_asm); (case k6 => k_is); (case k7 => k_is); (case k8 => ktr_room); (case k9 => exact BindsTo.of_eq rfl); (case kB => exact locs rfl); (case c1 => decide); (case c2 => exact rfl); (case c3 => exact rfl); (case c4 => exact rfl); intro g' L' h' FG' F' N' B' X' T' l1; (try k_lt l1); (try dsimp only))
  (repeat' (first | (k_unfold; (try dsimp only)) | (ks_step "attributeBase Call"; k_here; k_dflt (refine ks_node (by k_asm) (by k_asm) (by k_asm) (by k_asm) (by k_is) (by rfl) (by rfl) (inst60 (by k_asm) (by k_mem)) (by k_is) (by rfl) (by first | rfl | decide +kernel) (by k_is) (by k_is) (by k_is) (by k_is) (by decide) (by rfl) (by rfl) (by rfl) (by rfl) (by decide +kernel) (by first | boot_by_name | rfl | kernel_rfl) ?_; intro so' h' F' N' l1; (try k_lt l1))) | ((with_reducible show wpAny _ _ (getMethod (Value.ref _) _ _) _ _ _); k_dflt (refine r_swM (by k_asm) (by k_asm) (by k_asm) (by k_mem) (by k_mem) ?_; intro q' h' F' N' l1; (try k_lt l1); (try dsimp only))) | ((with_reducible show wpAny _ _ (callWith _ (Value.ref _) _ _ _) _ _ _); k_dflt (refine callWith_mw (by k_asm) (by k_mem) ?_)) | ((with_reducible show Heap.get? _ _ = _ ∧ wpAny _ _ (call (Value.ref _) _) _ _ _); k_dflt (refine ⟨News.get (by k_asm) (by k_mem), ?_⟩); (try dsimp only)) | walk1 | (dsimp only; walk1) | (leave1; (try dsimp only))))
  have FQ := F'
  have NQ := N'
  have lq := l1
  k_dflt (refine' r_swC (pre := [_, _]) ?F ?X ?N ?q ?h1 ?h2 ?_)
  case F => exact FQ
  case X => exact X'
  case N => exact NQ
  case q => exact (List.Mem.head _)
  case h1 =>
    intro p hp
    rcases List.mem_cons.mp hp with rfl | hp
    · exact Nat.ne_of_gt lq.2.1
    · rw [List.mem_singleton.mp hp]
      k_ne
  case h2 =>
    intro p hp
    rcases List.mem_cons.mp hp with rfl | hp
    · exact Nat.ne_of_lt l2
    · exact l3 p hp
  intro t' h' F' N' l1
  (try simp only [List.cons_append, List.nil_append] at N')
  (repeat' (first | (k_unfold; (try dsimp only)) | (ks_step "attributeBase Call"; k_here; k_dflt (refine ks_node (by k_asm) (by k_asm) (by k_asm) (by k_asm) (by k_is) (by rfl) (by rfl) (inst60 (by k_asm) (by k_mem)) (by k_is) (by rfl) (by first | rfl | decide +kernel) (by k_is) (by k_is) (by k_is) (by k_is) (by decide) (by rfl) (by rfl) (by rfl) (by rfl) (by decide +kernel) (by first | boot_by_name | rfl | kernel_rfl) ?_; intro so' h' F' N' l1; (try k_lt l1))) | ((with_reducible show wpAny _ _ (getMethod (Value.ref _) _ _) _ _ _); k_dflt (refine r_swM (by k_asm) (by k_asm) (by k_asm) (by k_mem) (by k_mem) ?_; intro q' h' F' N' l1; (try k_lt l1); (try dsimp only))) | ((with_reducible show wpAny _ _ (callWith _ (Value.ref _) _ _ _) _ _ _); k_dflt (refine callWith_mw (by k_asm) (by k_mem) ?_)) | ((with_reducible show Heap.get? _ _ = _ ∧ wpAny _ _ (call (Value.ref _) _) _ _ _); k_dflt (refine ⟨News.get (by k_asm) (by k_mem), ?_⟩); (try dsimp only)) | walk1 | (dsimp only; walk1) | (leave1; (try dsimp only))))
  (rename_i FS NS)
  k_dflt (refine' r_setW (news' := news) ?F ?X ?N ?e ?s ?_)
  case F => k_asm
  case X => k_asm
  case N => k_asm
  case e => k_mem
  case s => exact fun p hp => ⟨by simp [hp], l3 p hp⟩
  intro dx h' tk F' N'
  (repeat' (first | (k_unfold; (try dsimp only)) | (ks_step "attributeBase Call"; k_here; k_dflt (refine ks_node (by k_asm) (by k_asm) (by k_asm) (by k_asm) (by k_is) (by rfl) (by rfl) (inst60 (by k_asm) (by k_mem)) (by k_is) (by rfl) (by first | rfl | decide +kernel) (by k_is) (by k_is) (by k_is) (by k_is) (by decide) (by rfl) (by rfl) (by rfl) (by rfl) (by decide +kernel) (by first | boot_by_name | rfl | kernel_rfl) ?_; intro so' h' F' N' l1; (try k_lt l1))) | ((with_reducible show wpAny _ _ (getMethod (Value.ref _) _ _) _ _ _); k_dflt (refine r_swM (by k_asm) (by k_asm) (by k_asm) (by k_mem) (by k_mem) ?_; intro q' h' F' N' l1; (try k_lt l1); (try dsimp only))) | ((with_reducible show wpAny _ _ (callWith _ (Value.ref _) _ _ _) _ _ _); k_dflt (refine callWith_mw (by k_asm) (by k_mem) ?_)) | ((with_reducible show Heap.get? _ _ = _ ∧ wpAny _ _ (call (Value.ref _) _) _ _ _); k_dflt (refine ⟨News.get (by k_asm) (by k_mem), ?_⟩); (try dsimp only)) | walk1 | (dsimp only; walk1) | (leave1; (try dsimp only))))
  exact hret _ _ _ _ (by k_asm) (by k_asm) ⟨e, _, _, rfl, rfl, l3⟩
end
section
example : True := by (w_top off); trivial
open PySem PySem.W PyProof.Rows PySem.Spec PySem.Calls
/-- a contract of a def that hands back what P says, or (px) raises a TermFault -/
noncomputable def ConX (w : World) (mean : ExcName → Option Value) (mg mb : Str → Option Value) (f : Addr) (sz : Nat) (vs : List Value) (news : List (Addr × Obj)) (P : Value → List (Addr × Obj) → Prop) (px : Prop) : Prop :=
  ∀ (dp un : Nat) (gd : Option (List Code)) (cn : Str) (cs : Scope) (a : Addr) (ccd : Value) (cl : List (Str × Addr)) (outer : List Env) (A₀ : Around) (base h₀ : Heap) (L : Addr) (m : Str → Option Value) (s : Shared)
    (Q E : Value → Shared → Prop),
    Below A₀ base outer h₀ → Fr h₀ L s.heap m → (hd.heap_1 w.params).In h₀ → News h₀ L s.heap news → Top hd.view_39 lse mean mg mb h₀ → cs.kind = .function → dp + sz < recursionLimit → un + 8 * sz < cLine →
    (∀ r news' h' tk', Fr h₀ L h' m → News h₀ L h' news' → P r news' → Q r { s with heap := h', toks := tk' }) →
    (px → ∀ e h' tk' g₂, Fr h₀ L g₂ m → g₂.UpToSlots h' → XFly base (envX cn cs L a ccd cl :: outer) e (.ref 60) news h' → E (.ref e) { s with heap := h', toks := tk' }) →
    wpAny (model PySem.Challenge.rw_sa0020_01.row.toRowW.prog w) (ktrTop dp un gd cn cs L a ccd cl outer) (call (.ref f) vs) Q E s
noncomputable def namedW (T : List (Str × Bool)) : Tr → Option Bool
  | .n0 op => T.lookup op
  | _ => none
noncomputable def NamedC (w : World) (mean : ExcName → Option Value) (mg mb : Str → Option Value) (t : Tr) : Prop :=
  ∀ (news : List (Addr × Obj)) (v : Value) (td : Addr) (T : List (Str × Bool)), TIn news v t → t.over layS → (t.over fun op => op.length ≤ 100) → ToldIn w news td T →
    ConX w mean mg mb 131 20 [v, .ref td] news (fun r news' => news' = news ∧ ∃ b, namedW T t = some b ∧ r = .bool b) (namedW T t = none)
noncomputable def RaisableO (E : Value → Shared → Prop) (v : Value) (s₁ : Shared) : Prop := ∃ e t d, v = .ref e ∧ s₁.heap.get? 60 = some clsF ∧ s₁.heap.get? e = some (excO t d) ∧ E (.ref e) s₁
theorem Raise_fault {M : Model} {A : Around} {E : Value → Shared → Prop} {s : Shared} {env : Env} {e : Expr} {pos : Pos} {Q : Flow → Shared → Prop} (hh : A.handled = none)
    (h : wpAny M A (eval e env) (RaisableO E) E s) : wpAny M A (exec (.Raise (some e) none pos) env) Q E s := by
  show wpAny M A (do standAt pos; raiseStmt env (some (do let v ← eval e env; standAt pos; pure v)) none) Q E s
  have hcB : (Value.ref 60 :: mroF).contains (.type "BaseException") = true := by decide +kernel
  refine wpAny_bind (wpAny_standAt ?_)
  unfold raiseStmt
  dsimp only
  refine wpAny_bind (wpAny_bind (wpAny_mono h (fun v s₁ h₁ => wpAny_bind (wpAny_standAt (wpAny_pure ?_))) fun _ _ x => x))
  obtain ⟨a, t, d, rfl, hC, he, hE⟩ := h₁
  obtain ⟨hp, g, dr, tk, os⟩ := s₁
  repeat (first | with_reducible refine wpAny_loadPart_at he ?_ | with_reducible refine wpAny_loadPart_at hC ?_ | (with_reducible refine wpAny_isSubtype_exc hC ?_; rw [hcB]) | wp_step)
  exact wpAny_raiseNew_none hh hE
theorem jl1 {a : Str} (h : a.length ≤ 100) : (Str.empty ++ a).length ≤ 100 := by
  rw [Str.length_append]
  have : Str.empty.length = 0 := rfl
  omega
theorem jl2 {a b : Str} {n : Nat} (h : a.length ≤ n) (hb : b.length ≤ 100) : (a ++ b).length ≤ n + 100 := by
  rw [Str.length_append]
  omega
theorem jlS {n : Nat} (h : n ≤ 1000) : n ≤ sizeLine := by rw [sizeLine_eq]; omega
theorem int_len (n : Nat) (h : n ≤ 4) : (Str.ofString (toString ((n : Int) - 1))).length ≤ 100 := by
  match n, h with
  | 0, _ => decide +kernel
  | 1, _ => decide +kernel
  | 2, _ => decide +kernel
  | 3, _ => decide +kernel
  | 4, _ => decide +kernel
theorem named_all (w : World) (mean : ExcName → Option Value) (mg mb : Str → Option Value) (t : Tr) : NamedC w mean mg mb t := by
  intro news v td T hT ho hop hD
  unfold ConX
  k_fill
  intro dp un gd cn cs a' ccd cl outer A₀ base h₀ L m s Q E B F X N T' hkf hd hu hret hexc
  refine wpAny_call ?_
  have hop2 : t.op.length ≤ 100 := Tr.over_op hop
  obtain ⟨op, hopE⟩ : ∃ op, t.op = op := ⟨_, rfl⟩
  obtain ⟨a, tk, n, vs, rfl, hm, hk⟩ := hT.view
  rw [hopE] at hm hop2
  have hop3 : op.length ≤ sizeLine := by rw [sizeLine_eq]; omega
  have hvl : vs.length ≤ 3 := by have := hk.length; have := t.kids_le; omega
  cases vs with
  | nil =>
    have hnw : namedW T t = T.lookup op := by
      have hz : t.kids = [] := List.eq_nil_of_length_eq_zero hk.length.symm
      rw [← hopE]
      cases t <;> simp_all [Tr.kids, namedW, Tr.op]
    cases hE : List.lookup op T with
    | none =>
      have hE2 : (List.lookup op T).isSome = false := by rw [hE]; rfl
      k_dflt (first | (refine' code_def (by k_asm) (by k_asm) (by k_asm) (by k_asm) (by k_asm) rfl rfl (by first | assumption | exact rfl) (by k_is) (by k_is) (by ktr_room) (by exact BindsTo.of_eq rfl) (by exact locs rfl) ?_ (by exact rfl) (by exact rfl) (by exact rfl) (by decide); k_whole; intro g8 L8 h8 FG8 F8 N8 B8 X8 T8; (try dsimp only); (try k_fold)) | (refine' code_defC (by k_asm) (by k_asm) (by k_asm) (by k_asm) (by k_asm) rfl rfl (by first | assumption | exact rfl) (by k_is) (by k_is) (by ktr_room) (by exact BindsTo.of_eq rfl) (by exact rfl) (by decide +kernel) ?_ (by exact rfl) (by exact rfl) (by exact rfl); k_whole; intro g8 L8 h8 tk8 cells8 FG8 F8 N8 Y8 B8 X8 T8 l8; (try k_lt l8); k_cells Y8; (try simp only [List.cons_append, List.nil_append] at N8); (try dsimp only); (try k_fold)))
      (repeat' (first | (k_unfold; (try dsimp only)) | ((with_reducible show wpAny _ _ (formatField (Value.str _ _) _) _ _ _); (refine formatField_str ?_ (by assumption)); intro _ _) | ((with_reducible show wpAny _ _ (exec (Stmt.Raise (some _) none _) _) _ _ _); k_dflt (refine Raise_fault (by first | rfl | assumption) ?_)) | ((with_reducible show PySem.Str.length (_ ++ _) ≤ sizeLine ∧ wpAny _ _ (joinParts _ _) _ _ _); with_reducible refine' ⟨Nat.le_trans ?a (jlS ?z), ?_⟩; (case a => (with_reducible (repeat' (first | exact jl1 (by assumption) | refine' jl2 ?_ ?_ | (refine int_len _ ?_; simp only [List.length_cons, List.length_nil]; omega))); all_goals decide +kernel)); (case z => decide)) | ((with_reducible show wpAny _ _ (joinParts _ _) _ _ _); (first | (with_reducible show wpAny _ _ (joinParts _ []) _ _ _) | with_reducible refine joinParts_nilE ?_); with_reducible refine' joinParts_nil ?_ (Nat.le_trans ?a (jlS ?z)); (case a => (with_reducible (repeat' (first | exact jl1 (by assumption) | refine' jl2 ?_ ?_ | (refine int_len _ ?_; simp only [List.length_cons, List.length_nil]; omega))); all_goals decide +kernel)); (case z => decide)) | ((with_reducible show wpAny _ _ (subscriptTail _ _ (Value.ref _) (Value.str _ _)) _ _ _); k_dflt refine r_item (by k_asm) (ToldIn.mono (by assumption) (by ktd_sub)) (by assumption) ?_ (by with_unfolding_all rfl) (by intro _; with_unfolding_all rfl)) | ((with_reducible show wpAny _ _ (subscriptTail (Expr.Name _ _) (Expr.Constant _ _ _) (Value.ref _) (Value.int _ _)) _ _ _); k_here; k_dflt refine r_item0 (by k_asm) (by k_mem) ?_ (by with_unfolding_all rfl)) | ((with_reducible show wpAny _ _ (compareOp CmpOp.NotIn (Value.str _ _) (Value.ref _)) _ _ _); k_here; k_dflt (refine r_notin (by k_asm) (ToldIn.mono (by assumption) (by ktd_sub)) ?_)) | (k_here; (with_reducible show wpAny _ _ (call (Value.builtin "len") [Value.ref _]) _ _ _); k_dflt (first | refine r_lenL (by k_asm) (by k_mem) (by (first | assumption | exact Nat.le_of_ble_eq_true rfl | omega | (simp only [List.length_cons, List.length_nil, List.length_append, List.length_map]; omega))) ?_ | refine r_lenT (by k_asm) (by k_mem) (by (first | assumption | exact Nat.le_of_ble_eq_true rfl | omega | (simp only [List.length_cons, List.length_nil, List.length_append, List.length_map]; omega))) ?_); (try dsimp only)) | walk1 | (dsimp only; walk1) | (leave1; (try dsimp only))))
      k_dflt (refine' con_use (fault_con w mean mg mb _ _ news) ?B0 ?F0 ?X0 ?N0 ?T0 ?s0 ?k0 ?d0 ?u0 ?_)
      case B0 => k_asm
      case F0 => k_asm
      case X0 => k_asm
      case N0 => k_asm
      case T0 => k_asm
      case s0 => exact fun _ h => h
      case k0 => exact rfl
      case d0 => ktr_room
      case u0 => ktr_units
      rintro r news' h' tk' FE NE ⟨e, t, dx, rfl, rfl, hne⟩
      refine ⟨e, t, some dx, rfl, cls60 (Frag.In.keeps (by assumption) FE.keep), News.get NE (List.Mem.head _), ?_⟩
      refine x_leave_made (by assumption) FE NE rfl rfl (List.Mem.head _) rfl rfl rfl rfl (fun p hp => ⟨List.mem_cons_of_mem _ hp, hne p hp⟩) (fun h'' XX UU => ?_)
      exact hexc (hnw.trans hE) e h'' _ _ (by assumption) UU XX
    | some b =>
      have hE2 : (List.lookup op T).isSome = true := by rw [hE]; rfl
      k_dflt (first | (refine' code_def (by k_asm) (by k_asm) (by k_asm) (by k_asm) (by k_asm) rfl rfl (by first | assumption | exact rfl) (by k_is) (by k_is) (by ktr_room) (by exact BindsTo.of_eq rfl) (by exact locs rfl) ?_ (by exact rfl) (by exact rfl) (by exact rfl) (by decide); k_whole; intro g8 L8 h8 FG8 F8 N8 B8 X8 T8; (try dsimp only); (try k_fold)) | (refine' code_defC (by k_asm) (by k_asm) (by k_asm) (by k_asm) (by k_asm) rfl rfl (by first | assumption | exact rfl) (by k_is) (by k_is) (by ktr_room) (by exact BindsTo.of_eq rfl) (by exact rfl) (by decide +kernel) ?_ (by exact rfl) (by exact rfl) (by exact rfl); k_whole; intro g8 L8 h8 tk8 cells8 FG8 F8 N8 Y8 B8 X8 T8 l8; (try k_lt l8); k_cells Y8; (try simp only [List.cons_append, List.nil_append] at N8); (try dsimp only); (try k_fold)))
      (repeat' (first | (k_unfold; (try dsimp only)) | ((with_reducible show wpAny _ _ (formatField (Value.str _ _) _) _ _ _); (refine formatField_str ?_ (by assumption)); intro _ _) | ((with_reducible show wpAny _ _ (exec (Stmt.Raise (some _) none _) _) _ _ _); k_dflt (refine Raise_fault (by first | rfl | assumption) ?_)) | ((with_reducible show PySem.Str.length (_ ++ _) ≤ sizeLine ∧ wpAny _ _ (joinParts _ _) _ _ _); with_reducible refine' ⟨Nat.le_trans ?a (jlS ?z), ?_⟩; (case a => (with_reducible (repeat' (first | exact jl1 (by assumption) | refine' jl2 ?_ ?_ | (refine int_len _ ?_; simp only [List.length_cons, List.length_nil]; omega))); all_goals decide +kernel)); (case z => decide)) | ((with_reducible show wpAny _ _ (joinParts _ _) _ _ _); (first | (with_reducible show wpAny _ _ (joinParts _ []) _ _ _) | with_reducible refine joinParts_nilE ?_); with_reducible refine' joinParts_nil ?_ (Nat.le_trans ?a (jlS ?z)); (case a => (with_reducible (repeat' (first | exact jl1 (by assumption) | refine' jl2 ?_ ?_ | (refine int_len _ ?_; simp only [List.length_cons, List.length_nil]; omega))); all_goals decide +kernel)); (case z => decide)) | ((with_reducible show wpAny _ _ (subscriptTail _ _ (Value.ref _) (Value.str _ _)) _ _ _); k_dflt refine r_item (by k_asm) (ToldIn.mono (by assumption) (by ktd_sub)) (by assumption) ?_ (by with_unfolding_all rfl) (by intro _; with_unfolding_all rfl)) | ((with_reducible show wpAny _ _ (subscriptTail (Expr.Name _ _) (Expr.Constant _ _ _) (Value.ref _) (Value.int _ _)) _ _ _); k_here; k_dflt refine r_item0 (by k_asm) (by k_mem) ?_ (by with_unfolding_all rfl)) | ((with_reducible show wpAny _ _ (compareOp CmpOp.NotIn (Value.str _ _) (Value.ref _)) _ _ _); k_here; k_dflt (refine r_notin (by k_asm) (ToldIn.mono (by assumption) (by ktd_sub)) ?_)) | (k_here; (with_reducible show wpAny _ _ (call (Value.builtin "len") [Value.ref _]) _ _ _); k_dflt (first | refine r_lenL (by k_asm) (by k_mem) (by (first | assumption | exact Nat.le_of_ble_eq_true rfl | omega | (simp only [List.length_cons, List.length_nil, List.length_append, List.length_map]; omega))) ?_ | refine r_lenT (by k_asm) (by k_mem) (by (first | assumption | exact Nat.le_of_ble_eq_true rfl | omega | (simp only [List.length_cons, List.length_nil, List.length_append, List.length_map]; omega))) ?_); (try dsimp only)) | walk1 | (dsimp only; walk1) | (leave1; (try dsimp only))))
      exact hret _ _ _ _ (by k_asm) (by k_asm) ⟨rfl, b, hnw.trans hE, rfl⟩
  | cons v1 vs =>
    have hnw : namedW T t = none := by
      have hz := hk.length
      cases t <;> simp_all [Tr.kids, namedW]
    have hvl2 : vs.length ≤ 2 := by simp only [List.length_cons] at hvl; omega
    k_dflt (first | (refine' code_def (by k_asm) (by k_asm) (by k_asm) (by k_asm) (by k_asm) rfl rfl (by first | assumption | exact rfl) (by k_is) (by k_is) (by ktr_room) (by exact BindsTo.of_eq rfl) (by exact locs rfl) ?_ (by exact rfl) (by exact rfl) (by exact rfl) (by decide); k_whole; intro g8 L8 h8 FG8 F8 N8 B8 X8 T8; (try dsimp only); (try k_fold)) | (refine' code_defC (by k_asm) (by k_asm) (by k_asm) (by k_asm) (by k_asm) rfl rfl (by first | assumption | exact rfl) (by k_is) (by k_is) (by ktr_room) (by exact BindsTo.of_eq rfl) (by exact rfl) (by decide +kernel) ?_ (by exact rfl) (by exact rfl) (by exact rfl); k_whole; intro g8 L8 h8 tk8 cells8 FG8 F8 N8 Y8 B8 X8 T8 l8; (try k_lt l8); k_cells Y8; (try simp only [List.cons_append, List.nil_append] at N8); (try dsimp only); (try k_fold)))
    (repeat' (first | (k_unfold; (try dsimp only)) | ((with_reducible show wpAny _ _ (formatField (Value.str _ _) _) _ _ _); (refine formatField_str ?_ (by assumption)); intro _ _) | ((with_reducible show wpAny _ _ (exec (Stmt.Raise (some _) none _) _) _ _ _); k_dflt (refine Raise_fault (by first | rfl | assumption) ?_)) | ((with_reducible show PySem.Str.length (_ ++ _) ≤ sizeLine ∧ wpAny _ _ (joinParts _ _) _ _ _); with_reducible refine' ⟨Nat.le_trans ?a (jlS ?z), ?_⟩; (case a => (with_reducible (repeat' (first | exact jl1 (by assumption) | refine' jl2 ?_ ?_ | (refine int_len _ ?_; simp only [List.length_cons, List.length_nil]; omega))); all_goals decide +kernel)); (case z => decide)) | ((with_reducible show wpAny _ _ (joinParts _ _) _ _ _); (first | (with_reducible show wpAny _ _ (joinParts _ []) _ _ _) | with_reducible refine joinParts_nilE ?_); with_reducible refine' joinParts_nil ?_ (Nat.le_trans ?a (jlS ?z)); (case a => (with_reducible (repeat' (first | exact jl1 (by assumption) | refine' jl2 ?_ ?_ | (refine int_len _ ?_; simp only [List.length_cons, List.length_nil]; omega))); all_goals decide +kernel)); (case z => decide)) | ((with_reducible show wpAny _ _ (subscriptTail _ _ (Value.ref _) (Value.str _ _)) _ _ _); k_dflt refine r_item (by k_asm) (ToldIn.mono (by assumption) (by ktd_sub)) (by assumption) ?_ (by with_unfolding_all rfl) (by intro _; with_unfolding_all rfl)) | ((with_reducible show wpAny _ _ (subscriptTail (Expr.Name _ _) (Expr.Constant _ _ _) (Value.ref _) (Value.int _ _)) _ _ _); k_here; k_dflt refine r_item0 (by k_asm) (by k_mem) ?_ (by with_unfolding_all rfl)) | ((with_reducible show wpAny _ _ (compareOp CmpOp.NotIn (Value.str _ _) (Value.ref _)) _ _ _); k_here; k_dflt (refine r_notin (by k_asm) (ToldIn.mono (by assumption) (by ktd_sub)) ?_)) | (k_here; (with_reducible show wpAny _ _ (call (Value.builtin "len") [Value.ref _]) _ _ _); k_dflt (first | refine r_lenL (by k_asm) (by k_mem) (by (first | assumption | exact Nat.le_of_ble_eq_true rfl | omega | (simp only [List.length_cons, List.length_nil, List.length_append, List.length_map]; omega))) ?_ | refine r_lenT (by k_asm) (by k_mem) (by (first | assumption | exact Nat.le_of_ble_eq_true rfl | omega | (simp only [List.length_cons, List.length_nil, List.length_append, List.length_map]; omega))) ?_); (try dsimp only)) | walk1 | (dsimp only; walk1) | (leave1; (try dsimp only))))
    all_goals (try (exfalso; (rename ¬ ((1 : Int) < _) => e9); apply e9; simp only [List.length_cons]; omega))
    refine wpAny_formatField_int (shown (N := 2 ^ 1920) ?d8 ?d9 (Int.le_refl _)) ?_
    case d8 => (simp only [List.length_cons]; omega)
    case d9 => (simp only [List.length_cons]; omega)
    (repeat' (first | (k_unfold; (try dsimp only)) | ((with_reducible show wpAny _ _ (formatField (Value.str _ _) _) _ _ _); (refine formatField_str ?_ (by assumption)); intro _ _) | ((with_reducible show wpAny _ _ (exec (Stmt.Raise (some _) none _) _) _ _ _); k_dflt (refine Raise_fault (by first | rfl | assumption) ?_)) | ((with_reducible show PySem.Str.length (_ ++ _) ≤ sizeLine ∧ wpAny _ _ (joinParts _ _) _ _ _); with_reducible refine' ⟨Nat.le_trans ?a (jlS ?z), ?_⟩; (case a => (with_reducible (repeat' (first | exact jl1 (by assumption) | refine' jl2 ?_ ?_ | (refine int_len _ ?_; simp only [List.length_cons, List.length_nil]; omega))); all_goals decide +kernel)); (case z => decide)) | ((with_reducible show wpAny _ _ (joinParts _ _) _ _ _); (first | (with_reducible show wpAny _ _ (joinParts _ []) _ _ _) | with_reducible refine joinParts_nilE ?_); with_reducible refine' joinParts_nil ?_ (Nat.le_trans ?a (jlS ?z)); (case a => (with_reducible (repeat' (first | exact jl1 (by assumption) | refine' jl2 ?_ ?_ | (refine int_len _ ?_; simp only [List.length_cons, List.length_nil]; omega))); all_goals decide +kernel)); (case z => decide)) | ((with_reducible show wpAny _ _ (subscriptTail _ _ (Value.ref _) (Value.str _ _)) _ _ _); k_dflt refine r_item (by k_asm) (ToldIn.mono (by assumption) (by ktd_sub)) (by assumption) ?_ (by with_unfolding_all rfl) (by intro _; with_unfolding_all rfl)) | ((with_reducible show wpAny _ _ (subscriptTail (Expr.Name _ _) (Expr.Constant _ _ _) (Value.ref _) (Value.int _ _)) _ _ _); k_here; k_dflt refine r_item0 (by k_asm) (by k_mem) ?_ (by with_unfolding_all rfl)) | ((with_reducible show wpAny _ _ (compareOp CmpOp.NotIn (Value.str _ _) (Value.ref _)) _ _ _); k_here; k_dflt (refine r_notin (by k_asm) (ToldIn.mono (by assumption) (by ktd_sub)) ?_)) | (k_here; (with_reducible show wpAny _ _ (call (Value.builtin "len") [Value.ref _]) _ _ _); k_dflt (first | refine r_lenL (by k_asm) (by k_mem) (by (first | assumption | exact Nat.le_of_ble_eq_true rfl | omega | (simp only [List.length_cons, List.length_nil, List.length_append, List.length_map]; omega))) ?_ | refine r_lenT (by k_asm) (by k_mem) (by (first | assumption | exact Nat.le_of_ble_eq_true rfl | omega | (simp only [List.length_cons, List.length_nil, List.length_append, List.length_map]; omega))) ?_); (try dsimp only)) | walk1 | (dsimp only; walk1) | (leave1; (try dsimp only))))
    k_dflt (refine' con_use (fault_con w mean mg mb _ _ news) ?B1 ?F1 ?X1 ?N1 ?T1 ?s1 ?k1 ?d1 ?u1 ?_)
    case B1 => k_asm
    case F1 => k_asm
    case X1 => k_asm
    case N1 => k_asm
    case T1 => k_asm
    case s1 => exact fun _ h => h
    case k1 => exact rfl
    case d1 => ktr_room
    case u1 => ktr_units
    rintro r news' h' tk' FE NE ⟨e, t, dx, rfl, rfl, hne⟩
    refine ⟨e, t, some dx, rfl, cls60 (Frag.In.keeps (by assumption) FE.keep), News.get NE (List.Mem.head _), ?_⟩
    refine x_leave_made (by assumption) FE NE rfl rfl (List.Mem.head _) rfl rfl rfl rfl (fun p hp => ⟨List.mem_cons_of_mem _ hp, hne p hp⟩) (fun h'' XX UU => ?_)
    exact hexc hnw e h'' _ _ (by assumption) UU XX
end
section
example : True := by (w_top off); trivial
open PySem PySem.W PyProof.Rows PySem.Spec PySem.Calls
section
variable {prog : Program} {w : World} {A : Around} {E : Value → Shared → Prop} {s : Shared} {h₀ : Heap} {L : Addr} {m : Str → Option Value} {news : List (Addr × Obj)} {Q : Value → Shared → Prop}
theorem leaf_eqv (t : Tr) (x : Str) : PyData.eqv (.tuple [.str x]) t.py = t.leaf x := by
  rw [Tr.py_eq]
  have c : (x == t.op) = (t.op == x) := Bool.beq_comm
  cases t <;> simp [PyData.eqv, PyData.eqvAll, Tr.leaf, Tr.kids, Tr.op] at c ⊢
  exact c
theorem r_inTF {t : Tr} {v : Value} {D D1 D2 : Addr} {tk1 tk2 : Tok} {n n1 n2 : Nat} {news' : List (Addr × Obj)} (N : News h₀ L s.heap news) (hT : TIn news' v t) (hs : ∀ p ∈ news', p ∈ news) (g : t.over layS) (hdp : t.dep ≤ 30)
    (hm : (D, tupO [.ref D1, .ref D2] n) ∈ news) (h1 : (D1, tupO [.str sTrue tk1] n1) ∈ news) (h2 : (D2, tupO [.str sFalse tk2] n2) ∈ news)
    (hu : A.units + 64 < cLine) (h : Q (.bool (t.leaf sTrue || t.leaf sFalse)) s) : wpAny (model prog w) A (compareOp .In v (.ref D)) Q E s := by
  refine r_inT (reads_tupN N hm (ra_cons (reads_tupN N h1 (ra_cons (.str _ _) ra_nil)) (ra_cons (reads_tupN N h2 (ra_cons (.str _ _) ra_nil)) ra_nil))) ((hT.mono hs).reads N) (by decide +kernel) (Tr.canLay g) (by rw [Tr.depth_py]; omega) hu ?_
  simp only [List.any_cons, List.any_nil, Bool.or_false, leaf_eqv]
  exact h
/-- is op over n - 1 parts one of the four -/
noncomputable def isOpV (op : Str) (n : Int) : Bool := (op == sAnd && n == 3) || (op == sOr && n == 3) || (op == sImp && n == 3) || (op == sNot && n == 2)
theorem r_notinV {D C c1 c2 c3 c4 : Addr} {op : Str} {i : Int} {tk tk' t1 t2 t3 t4 u1 u2 u3 u4 : Tok} {k k0 k1 k2 k3 k4 : Nat} (N : News h₀ L s.heap news) (hm : (D, tupO [.str op tk, .int i tk'] k) ∈ news) (hc : (C, tupO [.ref c1, .ref c2, .ref c3, .ref c4] k0) ∈ news)
    (h1 : (c1, tupO [.str sAnd t1, .int 3 u1] k1) ∈ news) (h2 : (c2, tupO [.str sOr t2, .int 3 u2] k2) ∈ news) (h3 : (c3, tupO [.str sImp t3, .int 3 u3] k3) ∈ news) (h4 : (c4, tupO [.str sNot t4, .int 2 u4] k4) ∈ news)
    (hop : layS op) (hu : A.units + 64 < cLine) (h : Q (.bool (!isOpV op i)) s) : wpAny (model prog w) A (compareOp .NotIn (.ref D) (.ref C)) Q E s := by
  have one : ∀ {a : Addr} {x : Str} {j : Int} {p q : Tok} {n : Nat}, (a, tupO [.str x p, .int j q] n) ∈ news → Reads s.heap (.ref a) (.tuple [.str x, .int j]) [] := fun hm => reads_tupN N hm (ra_cons (.str _ _) (ra_cons (.int _ _) ra_nil))
  refine r_notinT (reads_tupN N hc (ra_cons (one h1) (ra_cons (one h2) (ra_cons (one h3) (ra_cons (one h4) ra_nil))))) (one hm) (by decide +kernel) ?_ ?_ hu ?_
  · simp only [layS] at hop
    simp only [PyData.canLay0, PyData.canLayAll0, Bool.and_true] at *
    rw [hop]
  · simp [PyData.depth, PyData.depthAll]
  · have e : ([PyData.tuple [.str sAnd, .int 3], .tuple [.str sOr, .int 3], .tuple [.str sImp, .int 3], .tuple [.str sNot, .int 2]].any fun y => PyData.eqv y (.tuple [.str op, .int i])) = isOpV op i := by
      simp only [List.any_cons, List.any_nil, PyData.eqv, PyData.eqvAll, Bool.and_true, Bool.or_false, isOpV]
      have c : ∀ a b : Str, (a == b) = (b == a) := fun a b => Bool.beq_comm
      have c' : ∀ a b : Int, (a == b) = (b == a) := fun a b => Bool.beq_comm
      rw [c sAnd op, c sOr op, c sImp op, c sNot op, c' 2 i, c' 3 i]
      simp only [Bool.or_assoc]
    rw [e]; exact h
end
theorem r_itemL {prog : Program} {w : World} {A : Around} {E : Value → Shared → Prop} {s : Shared} {h₀ : Heap} {L : Addr} {news : List (Addr × Obj)} {Q : Value → Shared → Prop} {value slice : Expr} {D : Addr} {vs : List Value} {k : Int} {u : Tok} {v : Value}
    (N : News h₀ L s.heap news) (hm : (D, LCg.lst vs) ∈ news) (h0 : 0 ≤ k) (hhi : k < 9223372036854775808) (hx : vs[k.toNat]? = some v) (h : Q v s)
    (hs : subscripted slice false (.ref D) (.int k u) = operate [.ref D, .int k u] (getItem (.ref D) (.int k u))) :
    wpAny (model prog w) A (subscriptTail value slice (.ref D) (.int k u)) Q E s :=
  tail_any (News.isList N hm).typeIs slot_list_getitem.lookup (wpAny_getItem_list (News.isList N hm) h0 (by omega) (by simpa using hx) h) hs
theorem named_use {w : World} {mean : ExcName → Option Value} {mg mb : Str → Option Value} {k : Tr} {T : List (Str × Bool)} {td : Addr} {v : Value} {news news₁ : List (Addr × Obj)}
    {dp un : Nat} {gd : Option (List Code)} {cn : Str} {cs : Scope} {a : Addr} {ccd : Value} {cl : List (Str × Addr)} {outer : List Env} {A₀ : Around} {base h₀ : Heap} {L : Addr} {m : Str → Option Value} {s : Shared} {Q E : Value → Shared → Prop}
    (hT : TIn news v k) (hD : ToldIn w news td T) (hs : ∀ p ∈ news, p ∈ news₁) (hov : k.over layS) (hop : k.over fun op => op.length ≤ 100)
    (B : Below A₀ base outer h₀) (F : Fr h₀ L s.heap m) (X : (hd.heap_1 w.params).In h₀) (N : News h₀ L s.heap news₁) (T' : Top hd.view_39 lse mean mg mb h₀) (hk : cs.kind = .function) (hd : dp + 20 < recursionLimit) (hu : un + 8 * 20 < cLine)
    (ret : ∀ b h' tk', namedW T k = some b → Fr h₀ L h' m → News h₀ L h' news₁ → Q (.bool b) { s with heap := h', toks := tk' })
    (exc : namedW T k = none → ∀ e h' tk' g₂, Fr h₀ L g₂ m → g₂.UpToSlots h' → XFly base (envX cn cs L a ccd cl :: outer) e (.ref 60) news₁ h' → E (.ref e) { s with heap := h', toks := tk' }) :
    wpAny (model PySem.Challenge.rw_sa0020_01.row.toRowW.prog w) (ktrTop dp un gd cn cs L a ccd cl outer) (call (.ref 131) [v, .ref td]) Q E s :=
  named_all w mean mg mb k news₁ v td T (hT.mono hs) hov hop (hD.mono hs) _ _ _ _ _ _ _ _ _ _ _ _ _ _ _ _ _ B F X N T' hk hd hu (fun r news' h' tk' F' N' hP => by
    obtain ⟨rfl, b, hb, rfl⟩ := hP
    exact ret b h' tk' hb F' N') exc
noncomputable abbrev instT (dx : Addr) : Obj := instObj 160 dx
noncomputable def ValueC (w : World) (mean : ExcName → Option Value) (mg mb : Str → Option Value) (t : Tr) : Prop :=
  ∀ (T : List (Str × Bool)) (td sv dx : Addr) (n : Nat) (news : List (Addr × Obj)) (v : Value), TIn news v t → ToldIn w news td T → (sv, instT dx) ∈ news → (dx, dictOf [] n) ∈ news → t.over layS → (t.over fun op => op.length ≤ 100) → t.dep ≤ 30 →
    ConX w mean mg mb 157 (4 * t.dep + 30) [.ref sv, v, .ref td] news (fun r news' => news' = news ∧ ∃ b, worth T t = some b ∧ r = .bool b) (worth T t = none)
theorem value_use {w : World} {mean : ExcName → Option Value} {mg mb : Str → Option Value} {k : Tr} {T : List (Str × Bool)} {td sv dx : Addr} {n : Nat} {v : Value} {news news₁ : List (Addr × Obj)}
    {dp un : Nat} {gd : Option (List Code)} {cn : Str} {cs : Scope} {a : Addr} {ccd : Value} {cl : List (Str × Addr)} {outer : List Env} {A₀ : Around} {base h₀ : Heap} {L : Addr} {m : Str → Option Value} {s : Shared} {Q E : Value → Shared → Prop}
    (C : ValueC w mean mg mb k) (hT : TIn news v k) (hD : ToldIn w news td T) (hsv : (sv, instT dx) ∈ news) (hdx : (dx, dictOf [] n) ∈ news) (hs : ∀ p ∈ news, p ∈ news₁) (hov : k.over layS) (hop : k.over fun op => op.length ≤ 100) (hdp : k.dep ≤ 30)
    (B : Below A₀ base outer h₀) (F : Fr h₀ L s.heap m) (X : (hd.heap_1 w.params).In h₀) (N : News h₀ L s.heap news₁) (T' : Top hd.view_39 lse mean mg mb h₀) (hk : cs.kind = .function) (hd : dp + (4 * k.dep + 30) < recursionLimit) (hu : un + 8 * (4 * k.dep + 30) < cLine)
    (ret : ∀ b h' tk', worth T k = some b → Fr h₀ L h' m → News h₀ L h' news₁ → Q (.bool b) { s with heap := h', toks := tk' })
    (exc : worth T k = none → ∀ e h' tk' g₂, Fr h₀ L g₂ m → g₂.UpToSlots h' → XFly base (envX cn cs L a ccd cl :: outer) e (.ref 60) news₁ h' → E (.ref e) { s with heap := h', toks := tk' }) :
    wpAny (model PySem.Challenge.rw_sa0020_01.row.toRowW.prog w) (ktrTop dp un gd cn cs L a ccd cl outer) (call (.ref 157) [.ref sv, v, .ref td]) Q E s :=
  C T td sv dx n news₁ v (hT.mono hs) (hD.mono hs) (hs _ hsv) (hs _ hdx) hov hop hdp _ _ _ _ _ _ _ _ _ _ _ _ _ _ _ _ _ B F X N T' hk hd hu (fun r news' h' tk' F' N' hP => by
    obtain ⟨rfl, b, hb, rfl⟩ := hP
    exact ret b h' tk' hb F' N') exc
theorem worth_TF {T : List (Str × Bool)} {t : Tr} {op : Str} (h : (t.leaf sTrue || t.leaf sFalse) = true) (e : t.op = op) : worth T t = some (op == sTrue) := by
  rcases Bool.or_eq_true_iff.mp h with h | h
  · rw [worth_leaf_true h]
    simp only [Tr.leaf, Bool.and_eq_true, e] at h
    rw [h.1]
  · rw [worth_leaf_false h]
    simp only [Tr.leaf, Bool.and_eq_true, e, beq_iff_eq] at h
    rw [h.1]
    exact congrArg some (by decide +kernel)
theorem worth_named {T : List (Str × Bool)} {t : Tr} {op : Str} {n : Nat} (h : (t.leaf sTrue || t.leaf sFalse) = false) (e : t.op = op) (hn : n = t.kids.length + 1) (ho : isOpV op (n : Int) = false) : worth T t = namedW T t := by
  subst e hn
  rw [Bool.or_eq_false_iff] at h
  cases t with
  | n0 op =>
    simp only [Tr.leaf, Tr.op, Tr.kids, List.isEmpty_nil, Bool.and_true, beq_eq_false_iff_ne] at h
    rw [worth, if_neg h.1, if_neg h.2]; rfl
  | n1 op a => simp [isOpV, Tr.op, Tr.kids] at ho; simp [worth, namedW, ho]
  | n2 op a b => simp [isOpV, Tr.op, Tr.kids] at ho; simp [worth, namedW, ho]
  | n3 op a b c => rfl
theorem drop9 {h₀ h : Heap} {L : Addr} {x d1 d2 d3 d4 d5 d6 d7 d8 d9 c1 c2 : Addr × Obj} {news : List (Addr × Obj)} (N : News h₀ L h (x :: d1 :: d2 :: d3 :: d4 :: d5 :: d6 :: d7 :: d8 :: d9 :: c1 :: c2 :: news)) : News h₀ L h (x :: c1 :: c2 :: news) :=
  News.sub N fun p hp => by simp only [List.mem_cons] at hp ⊢; rcases hp with h | h | h | h <;> simp [h]
theorem isOpV_len {op : Str} {n : Nat} (h : isOpV op (n : Int) = true) : (op = sAnd ∧ n = 3) ∨ (op = sOr ∧ n = 3) ∨ (op = sImp ∧ n = 3) ∨ (op = sNot ∧ n = 2) := by
  simp only [isOpV, Bool.or_eq_true, Bool.and_eq_true, beq_iff_eq] at h
  rcases h with ((⟨h1, h2⟩ | ⟨h1, h2⟩) | ⟨h1, h2⟩) | ⟨h1, h2⟩
  · exact .inl ⟨h1, by omega⟩
  · exact .inr (.inl ⟨h1, by omega⟩)
  · exact .inr (.inr (.inl ⟨h1, by omega⟩))
  · exact .inr (.inr (.inr ⟨h1, by omega⟩))
theorem worth_none {T : List (Str × Bool)} {t k : Tr} (h : (t.leaf sTrue || t.leaf sFalse) = false) (hk : k ∈ t.kids) (hn : worth T k = none) : worth T t = none := by
  rw [worth_eq]
  refine worthOf_none (List.any_eq_true.mpr ⟨none, by rw [← hn]; exact List.mem_map_of_mem hk, rfl⟩) ?_
  cases hkk : t.kids with
  | nil => rw [hkk] at hk; cases hk
  | cons a b => rfl
theorem value_step (w : World) (mean : ExcName → Option Value) (mg mb : Str → Option Value) (t : Tr) (IH : ∀ k, k.dep < t.dep → ValueC w mean mg mb k) : ValueC w mean mg mb t := by
  intro T td sv dx n0 news v hT hD hsv hdx hov hop hdp
  obtain ⟨a, tk, n, vs, rfl, hm, hk⟩ := hT.view
  obtain ⟨op, hopE⟩ : ∃ op, t.op = op := ⟨_, rfl⟩
  rw [hopE] at hm
  have hkl := t.kids_le
  have hop' := Tr.over_op hov
  rw [hopE] at hop'
  have hvl := hk.length
  have hvs : vs.length ≤ 900 := by have := hk.length; have := t.kids_le; omega
  have hvs2 : vs.length ≤ 1000 := by omega
  unfold ConX
  k_fill
  intro dp un gd cn cs a' ccd cl outer A₀ base h₀ L m s Q E B F X N T' hkf hd hu hret hexc
  refine wpAny_call ?_
  k_dflt (first | (refine' code_def (by k_asm) (by k_asm) (by k_asm) (by k_asm) (by k_asm) rfl rfl (by first | assumption | exact rfl) (by k_is) (by k_is) (by ktr_room) (by exact BindsTo.of_eq rfl) (by exact locs rfl) ?_ (by exact rfl) (by exact rfl) (by exact rfl) (by decide); k_whole; intro g8 L8 h8 FG8 F8 N8 B8 X8 T8; (try dsimp only); (try k_fold)) | (refine' code_defC (by k_asm) (by k_asm) (by k_asm) (by k_asm) (by k_asm) rfl rfl (by first | assumption | exact rfl) (by k_is) (by k_is) (by ktr_room) (by exact BindsTo.of_eq rfl) (by exact rfl) (by decide +kernel) ?_ (by exact rfl) (by exact rfl) (by exact rfl); k_whole; intro g8 L8 h8 tk8 cells8 FG8 F8 N8 Y8 B8 X8 T8 l8; (try k_lt l8); k_cells Y8; (try simp only [List.cons_append, List.nil_append] at N8); (try dsimp only); (try k_fold)))
  (repeat' (first | (k_unfold; (try dsimp only)) | ((with_reducible show wpAny _ _ (compareOp CmpOp.In (Value.ref _) (Value.ref _)) _ _ _); k_dflt (refine r_inTF (by k_asm) (by assumption) (by ktd_sub) (by assumption) (by assumption) (by k_mem) (by k_mem) (by k_mem) (by first | assumption | ktr_units) ?_)) | ((with_reducible show wpAny _ _ (compareOp CmpOp.NotIn (Value.ref _) (Value.ref _)) _ _ _); k_dflt (refine r_notinV (by k_asm) (by k_mem) (by k_mem) (by k_mem) (by k_mem) (by k_mem) (by k_mem) (by assumption) (by first | assumption | ktr_units) ?_)) | ((with_reducible show wpAny _ _ (subscriptTail _ (Expr.Constant _ _ _) (Value.ref _) (Value.int _ _)) _ _ _); k_dflt refine r_itemL (by k_asm) (List.Mem.head _) (by decide) (by decide) (by rfl) ?_ (by with_unfolding_all rfl)) | ((with_reducible show wpAny _ _ (subscriptTail (Expr.Name _ _) (Expr.Slice _ _ _ _) (Value.ref _) (Value.ref _)) _ _ _); k_here; k_dflt (refine r_slice1 (by k_asm) (by k_asm) (by k_mem) (by (first | assumption | exact Nat.le_of_ble_eq_true rfl | omega | (simp only [List.length_cons, List.length_nil, List.length_append, List.length_map]; omega))) ?_ (by with_unfolding_all rfl) (by intro _; with_unfolding_all rfl)); intro D9 h9 F9 N9 l9; (try k_lt l9); (try dsimp only)) | ((with_reducible show wpAny _ _ (subscriptTail (Expr.Name _ _) (Expr.Constant _ _ _) (Value.ref _) (Value.int _ _)) _ _ _); k_here; k_dflt refine r_item0 (by k_asm) (by k_mem) ?_ (by with_unfolding_all rfl)) | ((with_reducible show wpAny _ _ (exec (Stmt.Assign _ (Expr.ListComp _ _ _ _) _) _) _ _ _); k_here; k_dflt (refine z_Assign (by k_asm) (by rfl) (by with_unfolding_all rfl) (by rfl) (by decide) (by rfl) (by decide) (by rfl) (by rfl) ?_ (by intro _; rfl) (by intro _ _ _ _ _ n9 h9; first | exact own_name n9 h9 | exact own_tuple n9 h9))) | (k_here; (with_reducible show wpAny _ _ (call (Value.builtin "len") [Value.ref _]) _ _ _); k_dflt (first | refine r_lenL (by k_asm) (by k_mem) (by (first | assumption | exact Nat.le_of_ble_eq_true rfl | omega | (simp only [List.length_cons, List.length_nil, List.length_append, List.length_map]; omega))) ?_ | refine r_lenT (by k_asm) (by k_mem) (by (first | assumption | exact Nat.le_of_ble_eq_true rfl | omega | (simp only [List.length_cons, List.length_nil, List.length_append, List.length_map]; omega))) ?_); (try dsimp only)) | ((with_reducible show wpAny _ _ (compareOp CmpOp.Eq (Value.str _ _) (Value.str _ _)) _ _ _); k_here; k_dflt (refine r_strNe (by assumption) ?_)) | walk1 | (dsimp only; walk1) | (leave1; (try dsimp only))))
  · exact hret _ _ _ _ (by k_asm) (News.sub (by k_asm) (by ktd_sub)) ⟨rfl, _, worth_TF (by assumption) hopE, rfl⟩
  · (rename isOpV _ _ = true => hio)
    refine Exists.elim (hk.pairs fun k => (worth T k).map Value.bool) fun ps h9 => and3 h9 fun e1 e2 hq => ?_
    (rename Fr _ _ _ _ => FF)
    (rename News _ _ _ _ => NN)
    replace NN := drop9 NN
    refine ZSrc.tup rfl FF NN (SeqIn.tup (List.Mem.head _)) (by rw [sizeLine_eq]; omega) fun g => ?_
    clear FF NN
    rw [← e1]
    refine z_vals (by rfl) (by rfl) (SeqIn.tup (List.Mem.head _)) ps [] (fun q hqm => ?_) fun ys hys => ?_
    · refine Exists.elim (hq q hqm) fun k h9 => and3 h9 fun hkm hkT hkv => ?_
      have hkd := Tr.kids_dep hkm
      have hko := Tr.over_kids hov hkm
      have hkp := Tr.over_kids hop hkm
      intro I oI C oC D oD m₂ h tk hC hx F' N' off ne
      (repeat' (first | (k_unfold; (try dsimp only)) | ((with_reducible show wpAny _ _ (compareOp CmpOp.In (Value.ref _) (Value.ref _)) _ _ _); k_dflt (refine r_inTF (by k_asm) (by assumption) (by ktd_sub) (by assumption) (by assumption) (by k_mem) (by k_mem) (by k_mem) (by first | assumption | ktr_units) ?_)) | ((with_reducible show wpAny _ _ (compareOp CmpOp.NotIn (Value.ref _) (Value.ref _)) _ _ _); k_dflt (refine r_notinV (by k_asm) (by k_mem) (by k_mem) (by k_mem) (by k_mem) (by k_mem) (by k_mem) (by assumption) (by first | assumption | ktr_units) ?_)) | ((with_reducible show wpAny _ _ (subscriptTail _ (Expr.Constant _ _ _) (Value.ref _) (Value.int _ _)) _ _ _); k_dflt refine r_itemL (by k_asm) (List.Mem.head _) (by decide) (by decide) (by rfl) ?_ (by with_unfolding_all rfl)) | ((with_reducible show wpAny _ _ (subscriptTail (Expr.Name _ _) (Expr.Slice _ _ _ _) (Value.ref _) (Value.ref _)) _ _ _); k_here; k_dflt (refine r_slice1 (by k_asm) (by k_asm) (by k_mem) (by (first | assumption | exact Nat.le_of_ble_eq_true rfl | omega | (simp only [List.length_cons, List.length_nil, List.length_append, List.length_map]; omega))) ?_ (by with_unfolding_all rfl) (by intro _; with_unfolding_all rfl)); intro D9 h9 F9 N9 l9; (try k_lt l9); (try dsimp only)) | ((with_reducible show wpAny _ _ (subscriptTail (Expr.Name _ _) (Expr.Constant _ _ _) (Value.ref _) (Value.int _ _)) _ _ _); k_here; k_dflt refine r_item0 (by k_asm) (by k_mem) ?_ (by with_unfolding_all rfl)) | ((with_reducible show wpAny _ _ (exec (Stmt.Assign _ (Expr.ListComp _ _ _ _) _) _) _ _ _); k_here; k_dflt (refine z_Assign (by k_asm) (by rfl) (by with_unfolding_all rfl) (by rfl) (by decide) (by rfl) (by decide) (by rfl) (by rfl) ?_ (by intro _; rfl) (by intro _ _ _ _ _ n9 h9; first | exact own_name n9 h9 | exact own_tuple n9 h9))) | (k_here; (with_reducible show wpAny _ _ (call (Value.builtin "len") [Value.ref _]) _ _ _); k_dflt (first | refine r_lenL (by k_asm) (by k_mem) (by (first | assumption | exact Nat.le_of_ble_eq_true rfl | omega | (simp only [List.length_cons, List.length_nil, List.length_append, List.length_map]; omega))) ?_ | refine r_lenT (by k_asm) (by k_mem) (by (first | assumption | exact Nat.le_of_ble_eq_true rfl | omega | (simp only [List.length_cons, List.length_nil, List.length_append, List.length_map]; omega))) ?_); (try dsimp only)) | ((with_reducible show wpAny _ _ (compareOp CmpOp.Eq (Value.str _ _) (Value.str _ _)) _ _ _); k_here; k_dflt (refine r_strNe (by assumption) ?_)) | walk1 | (dsimp only; walk1) | (leave1; (try dsimp only))))
      k_dflt (refine' value_use (IH k hkd) hkT hD hsv hdx ?vas hko hkp ?vap ?vaB ?vaF ?vaX ?vaN ?vaT ?vak ?vad ?vau ?var ?vae)
      case vaN => k_asm
      case vas => ktd_sub
      case vap => omega
      case vaB => k_asm
      case vaF => k_asm
      case vaX => k_asm
      case vaT => k_asm
      case vak => exact rfl
      case vad => ktr_room
      case vau => ktr_units
      case var =>
        intro b h' tk' hb F'' N''
        exact ⟨by rw [hkv, hb]; rfl, h', tk', rfl, F'', N''⟩
      case vae =>
        intro hb e h' tk' g₂ F₂ U₂ XX
        refine x_comp (news' := news) (env₀ := envOfC _ _ _ _ _) rfl rfl rfl XX ((Heap.UpToSlots.of_keeps F₂.keep).trans U₂) (List.mem_cons_of_mem _ List.mem_cons_self) hC (N' _ (List.mem_cons_of_mem _ List.mem_cons_self)).2.2 (fun p hp => ⟨by simp [hp], (off.mem p (by simp [hp])).2.1⟩) fun h'' X2 U2 => ?_
        refine x_leave_held rfl X2 U2 fun h₃ X3 U3 => ?_
        exact hexc (worth_none (by assumption) hkm hb) e h₃ _ _ (by assumption) U3 X3
    · have hy : ∃ ws : List Bool, ys = ws.map Value.bool ∧ t.kids.map (worth T) = ws.map some := by
        rw [e2] at hys
        have go : ∀ (ks : List Tr) (ys : List Value), ks.map (fun k => Option.map Value.bool (worth T k)) = ys.map some → ∃ ws : List Bool, ys = ws.map Value.bool ∧ ks.map (worth T) = ws.map some := by
          intro ks
          induction ks with
          | nil => intro ys h; cases ys with
            | nil => exact ⟨[], rfl, rfl⟩
            | cons y ys => simp at h
          | cons k ks ih =>
            intro ys h
            cases ys with
            | nil => simp at h
            | cons y ys =>
              simp only [List.map_cons, List.cons.injEq] at h
              obtain ⟨ws, h1, h2⟩ := ih ys h.2
              cases hb : worth T k with
              | none => rw [hb] at h; cases h.1
              | some b =>
                rw [hb] at h
                have h3 := Option.some.inj h.1
                exact ⟨b :: ws, by rw [List.map_cons, ← h1, ← h3], by rw [List.map_cons, List.map_cons, hb, h2]⟩
        exact go _ _ hys
      obtain ⟨ws, rfl, hws⟩ := hy
      have hwl := congrArg List.length hws
      simp only [List.length_map] at hwl
      have hwo : worth T t = worthOf T op (ws.map some) := by rw [worth_eq, hopE, hws]
      unfold LCg.FinA
      intro D h tk F' N' off
      simp only [List.nil_append] at N'
      clear hys hq e2 hws IH off
      repeat ((rename (@LT.lt Nat _ _ _ ∧ _) => z9); clear z9)
      rcases isOpV_len hio with ⟨hop9, hn⟩ | ⟨hop9, hn⟩ | ⟨hop9, hn⟩ | ⟨hop9, hn⟩
      all_goals simp only [List.length_cons] at hn
      · obtain ⟨x, y, hws9⟩ : ∃ x y, ws = [x, y] := len_two (by omega)
        have d_not : (op == Str.ofString "not") = false := by rw [hop9]; decide +kernel
        have d_and : (op == Str.ofString "and") = true := by rw [hop9]; decide +kernel
        rw [hws9] at N'
        simp only [List.map_cons, List.map_nil] at N'
        all_goals (
          (repeat' (first | (k_unfold; (try dsimp only)) | ((with_reducible show wpAny _ _ (compareOp CmpOp.In (Value.ref _) (Value.ref _)) _ _ _); k_dflt (refine r_inTF (by k_asm) (by assumption) (by ktd_sub) (by assumption) (by assumption) (by k_mem) (by k_mem) (by k_mem) (by first | assumption | ktr_units) ?_)) | ((with_reducible show wpAny _ _ (compareOp CmpOp.NotIn (Value.ref _) (Value.ref _)) _ _ _); k_dflt (refine r_notinV (by k_asm) (by k_mem) (by k_mem) (by k_mem) (by k_mem) (by k_mem) (by k_mem) (by assumption) (by first | assumption | ktr_units) ?_)) | ((with_reducible show wpAny _ _ (subscriptTail _ (Expr.Constant _ _ _) (Value.ref _) (Value.int _ _)) _ _ _); k_dflt refine r_itemL (by k_asm) (List.Mem.head _) (by decide) (by decide) (by rfl) ?_ (by with_unfolding_all rfl)) | ((with_reducible show wpAny _ _ (subscriptTail (Expr.Name _ _) (Expr.Slice _ _ _ _) (Value.ref _) (Value.ref _)) _ _ _); k_here; k_dflt (refine r_slice1 (by k_asm) (by k_asm) (by k_mem) (by (first | assumption | exact Nat.le_of_ble_eq_true rfl | omega | (simp only [List.length_cons, List.length_nil, List.length_append, List.length_map]; omega))) ?_ (by with_unfolding_all rfl) (by intro _; with_unfolding_all rfl)); intro D9 h9 F9 N9 l9; (try k_lt l9); (try dsimp only)) | ((with_reducible show wpAny _ _ (subscriptTail (Expr.Name _ _) (Expr.Constant _ _ _) (Value.ref _) (Value.int _ _)) _ _ _); k_here; k_dflt refine r_item0 (by k_asm) (by k_mem) ?_ (by with_unfolding_all rfl)) | ((with_reducible show wpAny _ _ (exec (Stmt.Assign _ (Expr.ListComp _ _ _ _) _) _) _ _ _); k_here; k_dflt (refine z_Assign (by k_asm) (by rfl) (by with_unfolding_all rfl) (by rfl) (by decide) (by rfl) (by decide) (by rfl) (by rfl) ?_ (by intro _; rfl) (by intro _ _ _ _ _ n9 h9; first | exact own_name n9 h9 | exact own_tuple n9 h9))) | (k_here; (with_reducible show wpAny _ _ (call (Value.builtin "len") [Value.ref _]) _ _ _); k_dflt (first | refine r_lenL (by k_asm) (by k_mem) (by (first | assumption | exact Nat.le_of_ble_eq_true rfl | omega | (simp only [List.length_cons, List.length_nil, List.length_append, List.length_map]; omega))) ?_ | refine r_lenT (by k_asm) (by k_mem) (by (first | assumption | exact Nat.le_of_ble_eq_true rfl | omega | (simp only [List.length_cons, List.length_nil, List.length_append, List.length_map]; omega))) ?_); (try dsimp only)) | ((with_reducible show wpAny _ _ (compareOp CmpOp.Eq (Value.str _ _) (Value.str _ _)) _ _ _); k_here; k_dflt (refine r_strNe (by assumption) ?_)) | walk1 | (dsimp only; walk1) | (leave1; (try dsimp only))))
          all_goals (
            refine hret _ _ _ _ (by k_asm) (News.sub (by k_asm) (by ktd_sub)) ⟨rfl, _, ?_, rfl⟩
            rw [hwo, hop9, hws9]
            first
              | (simp [worthOf, oand, oor, oimp, ne1, ne2, ne3]; done)
              | (simp [worthOf, oand, oor, oimp, ne1, ne2, ne3]; intro h9; first | assumption | (exfalso; revert h9; (rename x = _ => hx9); rw [hx9]; decide))
              | (simp [worthOf, oand, oor, oimp, onot, ne1, ne2, ne3]; done)))
      · obtain ⟨x, y, hws9⟩ : ∃ x y, ws = [x, y] := len_two (by omega)
        have d_not : (op == Str.ofString "not") = false := by rw [hop9]; decide +kernel
        have d_and : (op == Str.ofString "and") = false := by rw [hop9]; decide +kernel
        have d_or : (op == Str.ofString "or") = true := by rw [hop9]; decide +kernel
        rw [hws9] at N'
        simp only [List.map_cons, List.map_nil] at N'
        all_goals (
          (repeat' (first | (k_unfold; (try dsimp only)) | ((with_reducible show wpAny _ _ (compareOp CmpOp.In (Value.ref _) (Value.ref _)) _ _ _); k_dflt (refine r_inTF (by k_asm) (by assumption) (by ktd_sub) (by assumption) (by assumption) (by k_mem) (by k_mem) (by k_mem) (by first | assumption | ktr_units) ?_)) | ((with_reducible show wpAny _ _ (compareOp CmpOp.NotIn (Value.ref _) (Value.ref _)) _ _ _); k_dflt (refine r_notinV (by k_asm) (by k_mem) (by k_mem) (by k_mem) (by k_mem) (by k_mem) (by k_mem) (by assumption) (by first | assumption | ktr_units) ?_)) | ((with_reducible show wpAny _ _ (subscriptTail _ (Expr.Constant _ _ _) (Value.ref _) (Value.int _ _)) _ _ _); k_dflt refine r_itemL (by k_asm) (List.Mem.head _) (by decide) (by decide) (by rfl) ?_ (by with_unfolding_all rfl)) | ((with_reducible show wpAny _ _ (subscriptTail (Expr.Name _ _) (Expr.Slice _ _ _ _) (Value.ref _) (Value.ref _)) _ _ _); k_here; k_dflt (refine r_slice1 (by k_asm) (by k_asm) (by k_mem) (by (first | assumption | exact Nat.le_of_ble_eq_true rfl | omega | (simp only [List.length_cons, List.length_nil, List.length_append, List.length_map]; omega))) ?_ (by with_unfolding_all rfl) (by intro _; with_unfolding_all rfl)); intro D9 h9 F9 N9 l9; (try k_lt l9); (try dsimp only)) | ((with_reducible show wpAny _ _ (subscriptTail (Expr.Name _ _) (Expr.Constant _ _ _) (Value.ref _) (Value.int _ _)) _ _ _); k_here; k_dflt refine r_item0 (by k_asm) (by k_mem) ?_ (by with_unfolding_all rfl)) | ((with_reducible show wpAny _ _ (exec (Stmt.Assign _ (Expr.ListComp _ _ _ _) _) _) _ _ _); k_here; k_dflt (refine z_Assign (by k_asm) (by rfl) (by with_unfolding_all rfl) (by rfl) (by decide) (by rfl) (by decide) (by rfl) (by rfl) ?_ (by intro _; rfl) (by intro _ _ _ _ _ n9 h9; first | exact own_name n9 h9 | exact own_tuple n9 h9))) | (k_here; (with_reducible show wpAny _ _ (call (Value.builtin "len") [Value.ref _]) _ _ _); k_dflt (first | refine r_lenL (by k_asm) (by k_mem) (by (first | assumption | exact Nat.le_of_ble_eq_true rfl | omega | (simp only [List.length_cons, List.length_nil, List.length_append, List.length_map]; omega))) ?_ | refine r_lenT (by k_asm) (by k_mem) (by (first | assumption | exact Nat.le_of_ble_eq_true rfl | omega | (simp only [List.length_cons, List.length_nil, List.length_append, List.length_map]; omega))) ?_); (try dsimp only)) | ((with_reducible show wpAny _ _ (compareOp CmpOp.Eq (Value.str _ _) (Value.str _ _)) _ _ _); k_here; k_dflt (refine r_strNe (by assumption) ?_)) | walk1 | (dsimp only; walk1) | (leave1; (try dsimp only))))
          all_goals (
            refine hret _ _ _ _ (by k_asm) (News.sub (by k_asm) (by ktd_sub)) ⟨rfl, _, ?_, rfl⟩
            rw [hwo, hop9, hws9]
            first
              | (simp [worthOf, oand, oor, oimp, ne1, ne2, ne3]; done)
              | (simp [worthOf, oand, oor, oimp, ne1, ne2, ne3]; intro h9; first | assumption | (exfalso; revert h9; (rename x = _ => hx9); rw [hx9]; decide))
              | (simp [worthOf, oand, oor, oimp, onot, ne1, ne2, ne3]; done)))
      · obtain ⟨x, y, hws9⟩ : ∃ x y, ws = [x, y] := len_two (by omega)
        have d_not : (op == Str.ofString "not") = false := by rw [hop9]; decide +kernel
        have d_and : (op == Str.ofString "and") = false := by rw [hop9]; decide +kernel
        have d_or : (op == Str.ofString "or") = false := by rw [hop9]; decide +kernel
        rw [hws9] at N'
        simp only [List.map_cons, List.map_nil] at N'
        all_goals (
          (repeat' (first | (k_unfold; (try dsimp only)) | ((with_reducible show wpAny _ _ (compareOp CmpOp.In (Value.ref _) (Value.ref _)) _ _ _); k_dflt (refine r_inTF (by k_asm) (by assumption) (by ktd_sub) (by assumption) (by assumption) (by k_mem) (by k_mem) (by k_mem) (by first | assumption | ktr_units) ?_)) | ((with_reducible show wpAny _ _ (compareOp CmpOp.NotIn (Value.ref _) (Value.ref _)) _ _ _); k_dflt (refine r_notinV (by k_asm) (by k_mem) (by k_mem) (by k_mem) (by k_mem) (by k_mem) (by k_mem) (by assumption) (by first | assumption | ktr_units) ?_)) | ((with_reducible show wpAny _ _ (subscriptTail _ (Expr.Constant _ _ _) (Value.ref _) (Value.int _ _)) _ _ _); k_dflt refine r_itemL (by k_asm) (List.Mem.head _) (by decide) (by decide) (by rfl) ?_ (by with_unfolding_all rfl)) | ((with_reducible show wpAny _ _ (subscriptTail (Expr.Name _ _) (Expr.Slice _ _ _ _) (Value.ref _) (Value.ref _)) _ _ _); k_here; k_dflt (refine r_slice1 (by k_asm) (by k_asm) (by k_mem) (by (first | assumption | exact Nat.le_of_ble_eq_true rfl | omega | (simp only [List.length_cons, List.length_nil, List.length_append, List.length_map]; omega))) ?_ (by with_unfolding_all rfl) (by intro _; with_unfolding_all rfl)); intro D9 h9 F9 N9 l9; (try k_lt l9); (try dsimp only)) | ((with_reducible show wpAny _ _ (subscriptTail (Expr.Name _ _) (Expr.Constant _ _ _) (Value.ref _) (Value.int _ _)) _ _ _); k_here; k_dflt refine r_item0 (by k_asm) (by k_mem) ?_ (by with_unfolding_all rfl)) | ((with_reducible show wpAny _ _ (exec (Stmt.Assign _ (Expr.ListComp _ _ _ _) _) _) _ _ _); k_here; k_dflt (refine z_Assign (by k_asm) (by rfl) (by with_unfolding_all rfl) (by rfl) (by decide) (by rfl) (by decide) (by rfl) (by rfl) ?_ (by intro _; rfl) (by intro _ _ _ _ _ n9 h9; first | exact own_name n9 h9 | exact own_tuple n9 h9))) | (k_here; (with_reducible show wpAny _ _ (call (Value.builtin "len") [Value.ref _]) _ _ _); k_dflt (first | refine r_lenL (by k_asm) (by k_mem) (by (first | assumption | exact Nat.le_of_ble_eq_true rfl | omega | (simp only [List.length_cons, List.length_nil, List.length_append, List.length_map]; omega))) ?_ | refine r_lenT (by k_asm) (by k_mem) (by (first | assumption | exact Nat.le_of_ble_eq_true rfl | omega | (simp only [List.length_cons, List.length_nil, List.length_append, List.length_map]; omega))) ?_); (try dsimp only)) | ((with_reducible show wpAny _ _ (compareOp CmpOp.Eq (Value.str _ _) (Value.str _ _)) _ _ _); k_here; k_dflt (refine r_strNe (by assumption) ?_)) | walk1 | (dsimp only; walk1) | (leave1; (try dsimp only))))
          all_goals (
            refine hret _ _ _ _ (by k_asm) (News.sub (by k_asm) (by ktd_sub)) ⟨rfl, _, ?_, rfl⟩
            rw [hwo, hop9, hws9]
            first
              | (simp [worthOf, oand, oor, oimp, ne1, ne2, ne3]; done)
              | (simp [worthOf, oand, oor, oimp, ne1, ne2, ne3]; intro h9; first | assumption | (exfalso; revert h9; (rename x = _ => hx9); rw [hx9]; decide))
              | (simp [worthOf, oand, oor, oimp, onot, ne1, ne2, ne3]; done)))
      · obtain ⟨x, hws9⟩ : ∃ x, ws = [x] := len_one (by omega)
        have d_not : (op == Str.ofString "not") = true := by rw [hop9]; decide +kernel
        rw [hws9] at N'
        simp only [List.map_cons, List.map_nil] at N'
        all_goals (
          (repeat' (first | (k_unfold; (try dsimp only)) | ((with_reducible show wpAny _ _ (compareOp CmpOp.In (Value.ref _) (Value.ref _)) _ _ _); k_dflt (refine r_inTF (by k_asm) (by assumption) (by ktd_sub) (by assumption) (by assumption) (by k_mem) (by k_mem) (by k_mem) (by first | assumption | ktr_units) ?_)) | ((with_reducible show wpAny _ _ (compareOp CmpOp.NotIn (Value.ref _) (Value.ref _)) _ _ _); k_dflt (refine r_notinV (by k_asm) (by k_mem) (by k_mem) (by k_mem) (by k_mem) (by k_mem) (by k_mem) (by assumption) (by first | assumption | ktr_units) ?_)) | ((with_reducible show wpAny _ _ (subscriptTail _ (Expr.Constant _ _ _) (Value.ref _) (Value.int _ _)) _ _ _); k_dflt refine r_itemL (by k_asm) (List.Mem.head _) (by decide) (by decide) (by rfl) ?_ (by with_unfolding_all rfl)) | ((with_reducible show wpAny _ _ (subscriptTail (Expr.Name _ _) (Expr.Slice _ _ _ _) (Value.ref _) (Value.ref _)) _ _ _); k_here; k_dflt (refine r_slice1 (by k_asm) (by k_asm) (by k_mem) (by (first | assumption | exact Nat.le_of_ble_eq_true rfl | omega | (simp only [List.length_cons, List.length_nil, List.length_append, List.length_map]; omega))) ?_ (by with_unfolding_all rfl) (by intro _; with_unfolding_all rfl)); intro D9 h9 F9 N9 l9; (try k_lt l9); (try dsimp only)) | ((with_reducible show wpAny _ _ (subscriptTail (Expr.Name _ _) (Expr.Constant _ _ _) (Value.ref _) (Value.int _ _)) _ _ _); k_here; k_dflt refine r_item0 (by k_asm) (by k_mem) ?_ (by with_unfolding_all rfl)) | ((with_reducible show wpAny _ _ (exec (Stmt.Assign _ (Expr.ListComp _ _ _ _) _) _) _ _ _); k_here; k_dflt (refine z_Assign (by k_asm) (by rfl) (by with_unfolding_all rfl) (by rfl) (by decide) (by rfl) (by decide) (by rfl) (by rfl) ?_ (by intro _; rfl) (by intro _ _ _ _ _ n9 h9; first | exact own_name n9 h9 | exact own_tuple n9 h9))) | (k_here; (with_reducible show wpAny _ _ (call (Value.builtin "len") [Value.ref _]) _ _ _); k_dflt (first | refine r_lenL (by k_asm) (by k_mem) (by (first | assumption | exact Nat.le_of_ble_eq_true rfl | omega | (simp only [List.length_cons, List.length_nil, List.length_append, List.length_map]; omega))) ?_ | refine r_lenT (by k_asm) (by k_mem) (by (first | assumption | exact Nat.le_of_ble_eq_true rfl | omega | (simp only [List.length_cons, List.length_nil, List.length_append, List.length_map]; omega))) ?_); (try dsimp only)) | ((with_reducible show wpAny _ _ (compareOp CmpOp.Eq (Value.str _ _) (Value.str _ _)) _ _ _); k_here; k_dflt (refine r_strNe (by assumption) ?_)) | walk1 | (dsimp only; walk1) | (leave1; (try dsimp only))))
          all_goals (
            refine hret _ _ _ _ (by k_asm) (News.sub (by k_asm) (by ktd_sub)) ⟨rfl, _, ?_, rfl⟩
            rw [hwo, hop9, hws9]
            first
              | (simp [worthOf, oand, oor, oimp, ne1, ne2, ne3]; done)
              | (simp [worthOf, oand, oor, oimp, ne1, ne2, ne3]; intro h9; first | assumption | (exfalso; revert h9; (rename x = _ => hx9); rw [hx9]; decide))
              | (simp [worthOf, oand, oor, oimp, onot, ne1, ne2, ne3]; done)))
  · (rename isOpV _ _ = false => hio)
    have hwn := worth_named (T := T) (by assumption) hopE (by simp only [List.length_cons]; rw [hvl]) hio
    k_dflt (refine' named_use hT hD ?nas hov hop ?naB ?naF ?naX ?naN ?naT ?nak ?nad ?nau ?nar ?nae)
    case naN => k_asm
    case nas => ktd_sub
    case naB => k_asm
    case naF => k_asm
    case naX => k_asm
    case naT => k_asm
    case nak => exact rfl
    case nad => ktr_room
    case nau => ktr_units
    case nar =>
      intro b h' tk' hb F' N'
      (repeat' (first | (k_unfold; (try dsimp only)) | ((with_reducible show wpAny _ _ (compareOp CmpOp.In (Value.ref _) (Value.ref _)) _ _ _); k_dflt (refine r_inTF (by k_asm) (by assumption) (by ktd_sub) (by assumption) (by assumption) (by k_mem) (by k_mem) (by k_mem) (by first | assumption | ktr_units) ?_)) | ((with_reducible show wpAny _ _ (compareOp CmpOp.NotIn (Value.ref _) (Value.ref _)) _ _ _); k_dflt (refine r_notinV (by k_asm) (by k_mem) (by k_mem) (by k_mem) (by k_mem) (by k_mem) (by k_mem) (by assumption) (by first | assumption | ktr_units) ?_)) | ((with_reducible show wpAny _ _ (subscriptTail _ (Expr.Constant _ _ _) (Value.ref _) (Value.int _ _)) _ _ _); k_dflt refine r_itemL (by k_asm) (List.Mem.head _) (by decide) (by decide) (by rfl) ?_ (by with_unfolding_all rfl)) | ((with_reducible show wpAny _ _ (subscriptTail (Expr.Name _ _) (Expr.Slice _ _ _ _) (Value.ref _) (Value.ref _)) _ _ _); k_here; k_dflt (refine r_slice1 (by k_asm) (by k_asm) (by k_mem) (by (first | assumption | exact Nat.le_of_ble_eq_true rfl | omega | (simp only [List.length_cons, List.length_nil, List.length_append, List.length_map]; omega))) ?_ (by with_unfolding_all rfl) (by intro _; with_unfolding_all rfl)); intro D9 h9 F9 N9 l9; (try k_lt l9); (try dsimp only)) | ((with_reducible show wpAny _ _ (subscriptTail (Expr.Name _ _) (Expr.Constant _ _ _) (Value.ref _) (Value.int _ _)) _ _ _); k_here; k_dflt refine r_item0 (by k_asm) (by k_mem) ?_ (by with_unfolding_all rfl)) | ((with_reducible show wpAny _ _ (exec (Stmt.Assign _ (Expr.ListComp _ _ _ _) _) _) _ _ _); k_here; k_dflt (refine z_Assign (by k_asm) (by rfl) (by with_unfolding_all rfl) (by rfl) (by decide) (by rfl) (by decide) (by rfl) (by rfl) ?_ (by intro _; rfl) (by intro _ _ _ _ _ n9 h9; first | exact own_name n9 h9 | exact own_tuple n9 h9))) | (k_here; (with_reducible show wpAny _ _ (call (Value.builtin "len") [Value.ref _]) _ _ _); k_dflt (first | refine r_lenL (by k_asm) (by k_mem) (by (first | assumption | exact Nat.le_of_ble_eq_true rfl | omega | (simp only [List.length_cons, List.length_nil, List.length_append, List.length_map]; omega))) ?_ | refine r_lenT (by k_asm) (by k_mem) (by (first | assumption | exact Nat.le_of_ble_eq_true rfl | omega | (simp only [List.length_cons, List.length_nil, List.length_append, List.length_map]; omega))) ?_); (try dsimp only)) | ((with_reducible show wpAny _ _ (compareOp CmpOp.Eq (Value.str _ _) (Value.str _ _)) _ _ _); k_here; k_dflt (refine r_strNe (by assumption) ?_)) | walk1 | (dsimp only; walk1) | (leave1; (try dsimp only))))
      exact hret _ _ _ _ (by k_asm) (News.sub (by k_asm) (by ktd_sub)) ⟨rfl, b, hwn.trans hb, rfl⟩
    case nae =>
      intro hb e h' tk' g₂ F₂ U₂ XX
      refine x_leave_on (by assumption) rfl XX ((Heap.UpToSlots.of_keeps F₂.keep).trans U₂) fun h'' X2 U2 => ?_
      exact hexc (hwn.trans hb) e h'' _ _ (by assumption) U2 (X2.sub (by ktd_sub))
theorem value_all (w : World) (mean : ExcName → Option Value) (mg mb : Str → Option Value) : ∀ t, ValueC w mean mg mb t := by
  have all : ∀ n, ∀ t : Tr, t.dep < n → ValueC w mean mg mb t := by
    intro n
    induction n with
    | zero => intro t h; exact absurd h (Nat.not_lt_zero _)
    | succ n ih => exact fun t h => value_step w mean mg mb t fun k hk => ih k (Nat.lt_of_lt_of_le hk (Nat.le_of_lt_succ h))
  exact fun t => all _ t (Nat.lt_succ_self _)
end
section
example : True := by (w_top off); trivial
open PySem PySem.W PyProof.Rows PySem.Spec PySem.Calls
section
variable {prog : Program} {w : World} {A₀ : Around} {E : Value → Shared → Prop} {s' : Shared} {h₀ : Heap} {outer : List Env} {L a e : Addr} {m : Str → Option Value} {name : Str} {scope : Scope} {cd : Value}
  {b₀ : Stmt} {suite : List Stmt} {pos np : Pos} {rest : List ExceptHandler} {Q : Flow → Shared → Prop} {news : List (Addr × Obj)} {par : Params}
  {p : Program} {loose : List Str} {mean : ExcName → Option Value} {mg mb : Str → Option Value} {x : Str}
/-- the clause takes it -/
theorem x_caught (hst : A₀.frames = some outer) (R : XFly h₀ (envOf name scope L a cd :: outer) e (.ref 60) news s'.heap) (hns : s'.heap.Ns L m) (hL : h₀.objs.size ≤ L)
    (X : (hd.heap_1 par).In h₀) (T : TopRead p loose mg mb h₀) (ex : nsIn (hd.heap_1 par) mainGlobals x = some (some (.ref 60)))
    (k : ∀ h', Fr h₀ L h' m → News h₀ L h' news → s'.heap.UpToSlots h' → wpAny (model prog w) ((A₀.deeper (envOf name scope L a cd)).mark (some (.ref e))) (execs (b₀ :: suite) (envOf name scope L a cd)) Q (fun _ _ => False) { s' with heap := h' })
    (hk : scope.kind = .function := by rfl) (hx : (envOf name scope L a cd).kindOf x = some .globalImplicit := by rfl) (hd : (x == ("__debug__" : Str)) = false := by decide) :
    wpAny (model prog w) (A₀.deeper (envOf name scope L a cd)) (noteFrame (.ref e) (envOf name scope L a cd))
      (fun _ s₂ => wpAny (model prog w) (A₀.deeper (envOf name scope L a cd)) (setFlight (.ref e) none) (fun _ s₃ =>
        wpAny (model prog w) (A₀.deeper (envOf name scope L a cd)) (handleBy (.ref e) (envOf name scope L a cd) (.ExceptHandler (some (.Name x np)) none (b₀ :: suite) pos :: rest)) Q E s₃) E s₂) E s' := by
  obtain ⟨B, a0, hB, hl, hfl⟩ := R
  have hLB : B.get? L = none := by
    obtain ⟨_, ⟨L', _, hf, hn', _⟩, _⟩ := hfl.2.2.1
    obtain rfl : L = L' := Option.some.inj hf
    exact hn'
  refine wpAny_looks_onW (Around.frames_deeper hst) rfl hfl fun h₄ hheld₄ hsm₄ => ?_
  refine wpAny_landsW hheld₄ fun h₅ hheld hsm₅' => ?_
  have hsm₅ := hsm₄.trans hsm₅'
  have st₅ : h₀.StaysIn h₅ := fun b o q => hheld.1 b o (hB b o q)
  have F₅ : Fr h₀ L h₅ m := ⟨hsm₅.ns hns, st₅, hL⟩
  obtain ⟨ob, hob, hobc⟩ := hheld.there
  refine wpAny_handleBy_cons (codeAny_handlers_test (name_K F₅ X T ex ?_ hk hx hd)) (by intro q; cases q)
  refine wpAny_excMatches_sub_self (cls60 (X.keeps F₅.keep)) hob hobc (by decide +kernel) (codeAny_handlers_suite ?_)
  refine lands_againW hheld fun h₆ hfl₆ hsm₆ => ?_
  have st₆ : h₀.StaysIn h₆ := fun b o q => hfl₆.1 b o (hB b o q)
  have F₆ : Fr h₀ L h₆ m := ⟨(hsm₅.trans hsm₆).ns hns, st₆, hL⟩
  refine wpAny_mono (k h₆ F₆ (fun q hq => ⟨hfl₆.1 _ _ (hl q hq).1, (fun z => by have := (hl q hq).1; rw [z, hLB] at this; cases this), (hl q hq).2⟩) (hsm₅.trans hsm₆)) (fun _ _ h => h) fun _ _ f => f.elim
end
section
variable {prog : Program} {w : World} {A A₀ : Around} {s : Shared} {K : Frag} {C L : Addr} {h₀ : Heap} {m mg mb : Str → Option Value} {news : List (Addr × Obj)} {p : Program} {loose : List Str} {mean : ExcName → Option Value}
/-- a def that catches: its end may also be shown straight -/
theorem code_defT {env : Env} {outer : List Env} {base : Heap} {R : Result → Shared → Prop} {name qual : Str} {params : Arguments} {body : List Stmt} {scope : Scope} {dV kV doc pm cdv ct oc : Value} {an od : Option Addr} {osl : Array (Option Value)} {f : Addr} {args : Args} {binds : List (Str × Value)}
    (B : Below A₀ base outer h₀) (F : Fr h₀ L s.heap m) (X₀ : K.In h₀) (N : News h₀ L s.heap news) (T : Top p loose mean mg mb h₀) (hA : A.frames = some (env :: outer)) (hf : env.frame = some L) (hke : env.scope.kind = .function)
    (ho : K.lookup f = some ⟨oc, od, .func (fnOf name qual params body scope dV kV doc pm an cdv ct), osl⟩) (hcd : codeIn K cdv qual = true) (hroom : A.depth < recursionLimit)
    (hbind : BindsTo s (fnOf name qual params body scope dV kV doc pm an cdv ct) args binds) (hloc : ∀ y ∈ binds, scope.names.lookup y.1 = some .local)
    (h : ∀ g L' h₁, Fr h₀ L g m → Fr g L' h₁ (fun y => binds.reverse.lookup y) → News g L' h₁ news → Below A base (env :: outer) g → K.In g → Top p loose mean mg mb g → (h₀.objs.size ≤ L') →
      wpAny (model prog w) (A.deeper (envOf qual scope L' f cdv)) (execs body (envOf qual scope L' f cdv))
        (fun fl s' => LeaveK h₀ L m g R (match fl with | .ret v => v | _ => .none) s' ∨ R (.ok (.ret (match fl with | .ret v => v | _ => .none))) s')
        (fun e s' => wpAny (model prog w) (A.deeper (envOf qual scope L' f cdv)) (leaving (envOf qual scope L' f cdv) e) (fun _ s'' => R (.error e) s'') (fun e' s'' => R (.error e') s'') s')
        { s with heap := h₁, toks := s.toks + binds.length })
    (hco : scope.isCoroutine = false) (hgen : scope.isGenerator = false) (hk : scope.kind = .function)
    (hcell : ∀ x ∈ scope.names, x.2 ≠ .cell) : codeAny (model prog w) A (.call (.ref f) args) R s := by
  obtain ⟨FG, BG, st, lv⟩ := groundX (R := R) B F N hA hf hke
  refine codeAny_call_def (fd := fnX name qual params body scope [] dV kV doc pm an cdv ct) (body := body) (binds := binds) hroom ((X₀.keeps F.keep) _ _ ho) rfl (T.nolimit.keeps F.keep) (codeRec_of (X₀.keeps F.keep) hcd) rfl hbind hcell hloc (fun h₁ hns hk₁ => ?_) hco hgen hk
  have hLt : L < s.heap.objs.size := by obtain ⟨oL, _, _, hL, _⟩ := F.ns; exact Heap.lt_size hL
  exact wpAny_mono (h _ s.heap.objs.size h₁ FG ⟨hns, fun b o e => hk₁ b o (of_hideAll _ e), Nat.le_of_eq (hideAll_size _ _)⟩
    (fun p hp => ⟨hk₁ _ _ (N p hp).1, Nat.ne_of_lt (Heap.lt_size (N p hp).1), hideAll_none _ (List.mem_map_of_mem hp)⟩) BG (X₀.keeps st) (T.keeps st) (Nat.le_trans F.above (Nat.le_of_lt hLt))) (fun fl s' hl => hl.elim (fun hl => lv _ _ hl) fun hr => hr) fun _ _ y => y
end
/-- what the law hears of a term: called from a frame over the ground -/
noncomputable def HeardC (w : World) (mean : ExcName → Option Value) (mg mb : Str → Option Value) (t : Tr) : Prop :=
  ∀ (T : List (Str × Bool)) (td : Addr) (news : List (Addr × Obj)) (v : Value), TIn news v t → ToldIn w news td T → t.over layS → (t.over fun op => op.length ≤ 100) → t.dep ≤ 30 →
  ∀ (dp un : Nat) (gd : Option (List Code)) (cn : Str) (cs : Scope) (a : Addr) (ccd : Value) (cl : List (Str × Addr)) (outer : List Env) (A₀ : Around) (h₀ : Heap) (L : Addr) (m : Str → Option Value) (s : Shared)
    (Q E : Value → Shared → Prop),
    Below A₀ h₀ outer h₀ → Fr h₀ L s.heap m → (hd.heap_1 w.params).In h₀ → News h₀ L s.heap news → Top hd.view_39 lse mean mg mb h₀ → cs.kind = .function → dp + (4 * t.dep + 40) < recursionLimit → un + 8 * (4 * t.dep + 40) < cLine →
    (∀ h' tk', Fr h₀ L h' m → News h₀ L h' news → Q (optVal (worth T t)) { s with heap := h', toks := tk' }) →
    wpAny (model PySem.Challenge.rw_sa0020_01.row.toRowW.prog w) (ktrTop dp un gd cn cs L a ccd cl outer) (call (.ref 222) [v, .ref td]) Q E s
theorem two_sub {h₀ h : Heap} {L : Addr} {x y : Addr × Obj} {news : List (Addr × Obj)} (_ : News h₀ L h (x :: y :: news)) : ∀ p ∈ news, p ∈ x :: y :: news := fun _ h => List.Mem.tail _ (List.Mem.tail _ h)
theorem heard_all (w : World) (mean : ExcName → Option Value) (mg mb : Str → Option Value) (t : Tr) : HeardC w mean mg mb t := by
  intro T td news v hT hD hov hop hdp
  k_fill
  intro dp un gd cn cs a' ccd cl outer A₀ h₀ L m s Q E B F X N T' hkf hd hu hret
  have T0 := topRead_of T'
  refine wpAny_call ?_
  k_dflt (refine' code_defT ?k1 ?k2 ?k3 ?k4 ?k5 ?kA ?kF ?kK ?k6 ?k7 ?k8 ?k9 ?kB ?_ ?c2 ?c3 ?c4 ?c5; (case kA => exact rfl); (case kF => exact rfl); (case kK => first | assumption | exact rfl); (case k1 => k_asm); (case k2 => k_asm); (case k3 => k_asm); (case k4 => k_asm); (case k5 => k_asm); (case k6 => k_is); (case k7 => k_is); (case k8 => ktr_room); (case k9 => exact BindsTo.of_eq rfl); (case c5 => decide); (case kB => exact locs rfl); (case c2 => exact rfl); (case c3 => exact rfl); (case c4 => exact rfl); k_whole; intro g' L' h' FG' F' N' B' X' T' hLL; (try dsimp only); (try k_fold))
  (repeat' (first | (k_unfold; (try dsimp only)) | walk1 | (dsimp only; walk1) | (leave1; (try dsimp only))))
  (rename News _ _ _ _ => NN)
  have sv := two_sub NN
  k_dflt (refine' value_use (value_all w mean mg mb t) (TIn.mono hT sv) (ToldIn.mono hD sv) ?ha_1 ?ha_2 ?ha_s hov hop hdp ?ha_B ?ha_F ?ha_X NN ?ha_T ?ha_k ?ha_d ?ha_u ?ha_r ?ha_e)
  case ha_1 => exact (List.Mem.head _)
  case ha_2 => exact (List.Mem.tail _ (List.Mem.head _))
  case ha_s => exact fun _ h => h
  case ha_B => k_asm
  case ha_F => k_asm
  case ha_X => k_asm
  case ha_T => k_asm
  case ha_k => exact rfl
  case ha_d => ktr_room
  case ha_u => ktr_units
  case ha_r =>
    intro b h' tk' hb F'' N''
    refine .inl (leaveK_ F'' N'' fun FB NB => ?_)
    have := hret h' tk' FB (News.sub NB sv)
    rw [hb] at this
    exact this
  case ha_e =>
    intro hb e h' tk' g₂ F₂ U₂ XX
    refine x_caught B'.stack (XX.sub sv) (U₂.ns F₂.ns) hLL X T0 (by k_is) (fun h'' F3 N3 U3 => ?_)
    have FB : Fr h₀ L h'' m := ⟨(((Heap.UpToSlots.of_keeps F₂.keep).trans U₂).trans U3).ns FG'.ns, F3.keep, FG'.above⟩
    have NB : News h₀ L h'' news := fun p hp => ⟨(N3 p hp).1, (N p hp).2⟩
    (repeat' (first | (k_unfold; (try dsimp only)) | walk1 | (dsimp only; walk1) | (leave1; (try dsimp only))))
    refine .inr ?_
    have := hret h'' tk' FB NB
    rw [hb] at this
    exact this
theorem heard_use {w : World} {mean : ExcName → Option Value} {mg mb : Str → Option Value} {t : Tr} {T : List (Str × Bool)} {td : Addr} {v : Value} {news news₁ : List (Addr × Obj)}
    {dp un : Nat} {gd : Option (List Code)} {cn : Str} {cs : Scope} {a : Addr} {ccd : Value} {cl : List (Str × Addr)} {outer : List Env} {A₀ : Around} {h₀ : Heap} {L : Addr} {m : Str → Option Value} {s : Shared} {Q E : Value → Shared → Prop}
    (hT : TIn news v t) (hD : ToldIn w news td T) (hs : ∀ p ∈ news, p ∈ news₁) (hov : t.over layS) (hop : t.over fun op => op.length ≤ 100) (hdp : t.dep ≤ 30)
    (B : Below A₀ h₀ outer h₀) (F : Fr h₀ L s.heap m) (X : (hd.heap_1 w.params).In h₀) (N : News h₀ L s.heap news₁) (T' : Top hd.view_39 lse mean mg mb h₀) (hk : cs.kind = .function) (hd : dp + (4 * t.dep + 40) < recursionLimit) (hu : un + 8 * (4 * t.dep + 40) < cLine)
    (ret : ∀ h' tk', Fr h₀ L h' m → News h₀ L h' news₁ → Q (optVal (worth T t)) { s with heap := h', toks := tk' }) :
    wpAny (model PySem.Challenge.rw_sa0020_01.row.toRowW.prog w) (ktrTop dp un gd cn cs L a ccd cl outer) (call (.ref 222) [v, .ref td]) Q E s :=
  heard_all w mean mg mb t T td news₁ v (hT.mono hs) (hD.mono hs) hov hop hdp _ _ _ _ _ _ _ _ _ _ _ _ _ _ _ _ B F X N T' hk hd hu ret
end
section
example : True := by (w_top off); trivial
open PySem PySem.W PyProof.Rows PySem.Spec PySem.Calls
/-- the term and its parts, the whole first -/
noncomputable def Tr.subs : Tr → List Tr
  | .n0 x => [.n0 x]
  | .n1 op a => .n1 op a :: a.subs
  | .n2 op a b => .n2 op a b :: (a.subs ++ b.subs)
  | .n3 op a b c => .n3 op a b c :: (a.subs ++ b.subs ++ c.subs)
theorem Tr.subs_len : ∀ t : Tr, t.subs.length = t.size
  | .n0 _ => rfl
  | .n1 _ a => by simp [Tr.subs, Tr.size, Tr.subs_len a]
  | .n2 _ a b => by simp [Tr.subs, Tr.size, Tr.subs_len a, Tr.subs_len b]
  | .n3 _ a b c => by simp [Tr.subs, Tr.size, Tr.subs_len a, Tr.subs_len b, Tr.subs_len c]; omega
noncomputable def PartIn (N : Nat) (q : Tr) (l : List (Addr × Obj)) (v : Value) : Prop := ∃ a n pth pv ws, v = .ref a ∧ (a, tupO [pth, pv] n) ∈ l ∧ WayIn l pth ws ∧ ws.length ≤ N ∧ PIn l pv q
theorem PartIn.mono {N N' : Nat} {q : Tr} {l l' : List (Addr × Obj)} {v : Value} (h : PartIn N q l v) (hN : N ≤ N') (hs : ∀ p ∈ l, p ∈ l') : PartIn N' q l' v := by
  obtain ⟨a, n, pth, pv, ws, e, hm, hw, hl, hp⟩ := h
  exact ⟨a, n, pth, pv, ws, e, hs _ hm, hw.mono hs, Nat.le_trans hl hN, hp.mono hs⟩
noncomputable def PartsC (w : World) (mean : ExcName → Option Value) (mg mb : Str → Option Value) (t : Tr) : Prop :=
  ∀ (news news₁ : List (Addr × Obj)) (v : Value), PIn news v t → t.size ≤ 100 → t.dep ≤ 30 → (∀ p ∈ news, p ∈ news₁) →
    Con w mean mg mb 91 (2 * t.dep + 10) [v] news₁ (fun r news' => ∃ tl L items n, news' = tl ++ news₁ ∧ Fresh tl news₁ ∧ r = .ref L ∧ (L, ({ cls := .type "list", data := .seq (List.toArray items) n } : Obj)) ∈ tl ∧ All2 (PartIn t.dep) (tl ++ news) items t.subs)
section
variable {prog : Program} {w : World} {A : Around} {E : Value → Shared → Prop} {s : Shared} {h₀ : Heap} {L : Addr} {m : Str → Option Value} {news : List (Addr × Obj)} {Q : Value → Shared → Prop}
/-- the slice [1:] of a written tuple of one -/
theorem r_slice1K {K : Frag} {value slice : Expr} {t : Addr} {x : Value} {lo : Obj} {n : Nat} {u : Tok} (F : Fr h₀ L s.heap m) (N : News h₀ L s.heap news) (X₀ : K.In h₀) (hk : K.lookup t = some lo) (hc : lo.cls = .type "tuple") (hd : lo.data = .seq (List.toArray [x]) n)
    (h : ∀ D h', Fr h₀ L h' m → News h₀ L h' ((D, tupO [] 0) :: news) → (∀ p ∈ news, p.1 < D) → Q (.ref D) { s with heap := h' })
    (hs : subscripted slice false (.ref t) (.ref s.heap.objs.size) = operate [.ref s.heap.objs.size, .ref t] (getItem (.ref t) (.ref s.heap.objs.size))) (hg : ∀ r, letTemporaryGo value (.ref t) r = pure ()) :
    wpAny (model prog w) A (subscriptTail value slice (.ref t) (.ref s.heap.objs.size)) Q E { s with heap := s.heap.push { cls := .type "slice", data := .fields #[.int ((1 : Nat) : Int) u, .none, .none] } } :=
  slice_tuple_from (a := 1) F N (show IsTup s.heap t (List.toArray [x]) from ⟨lo, F.keep _ _ (X₀ _ _ hk), hc, n, hd⟩) (Nat.le_refl 1) (by simp) (fun h' F' N' => h _ h' F' N' fun p hp => Nat.lt_succ_of_lt (Heap.lt_size (N p hp).1)) hs hg (by
    have : (List.toArray [x]).size = 1 := by simp
    rw [this, sizeLine_eq]; omega)
end
noncomputable def PartsP (t : Tr) (news news₁ : List (Addr × Obj)) (r : Value) (news' : List (Addr × Obj)) : Prop := ∃ tl L items n, news' = tl ++ news₁ ∧ Fresh tl news₁ ∧ r = .ref L ∧ (L, ({ cls := .type "list", data := .seq (List.toArray items) n } : Obj)) ∈ tl ∧ All2 (PartIn t.dep) (tl ++ news) items t.subs
theorem parts_fin0 {h₀ h : Heap} {L Dl Dp Dt : Addr} {k k1 k2 : Nat} {v : Value} {s c : Addr × Obj} {news news₁ : List (Addr × Obj)} {op : Str} (N : News h₀ L h (s :: (Dl, ({ cls := .type "list", data := .seq (List.toArray [.ref Dp]) k } : Obj)) :: (Dp, tupO [.ref Dt, v] k1) :: (Dt, tupO [] k2) :: c :: news₁))
    (h1 : AllLt Dl news₁) (h2 : AllLt Dp news₁) (h3 : AllLt Dt news₁) (hP : PIn news v (.n0 op)) : ∃ ns, News h₀ L h ns ∧ PartsP (.n0 op) news news₁ (.ref Dl) ns := by
  refine ⟨_, News.sub N (news := [_, (Dp, tupO [.ref Dt, v] k1), (Dt, tupO [] k2)] ++ news₁) (fun p hp => ?_), _, Dl, [.ref Dp], k, rfl, fresh_cons (ktn_ltOf h1) (fresh_cons (ktn_ltOf h2) (fresh_cons (ktn_ltOf h3) Fresh.nil)), rfl, List.mem_cons_self, .cons ?_ .nil⟩
  · simp only [List.mem_append, List.mem_cons, List.not_mem_nil, or_false] at hp ⊢
    rcases hp with (h | h | h) | h <;> simp [h]
  · exact ⟨Dp, k1, .ref Dt, v, [], rfl, by simp, ⟨Dt, k2, [], rfl, by simp, .nil⟩, by simp, hP.mono fun p hp => by simp [hp]⟩
theorem parts_leafK (w : World) (mean : ExcName → Option Value) (mg mb : Str → Option Value) (ad : Addr) (q : Str) (x : Value) (nq : Nat) (hlk : (hd.heap_1 w.params).lookup ad = some ({ cls := .type "tuple", data := .seq (List.toArray [x]) nq } : Obj)) (news news₁ : List (Addr × Obj)) (hP : PIn news (.ref ad) (.n0 q)) :
    Con w mean mg mb 91 (2 * (Tr.n0 q).dep + 10) [.ref ad] news₁ (PartsP (.n0 q) news news₁) := by
  unfold Con
  revert hlk
  k_fill
  intro hlk dp un gd cn cs a' ccd cl outer A₀ base h₀ L m s Q E B F X N T' hkf hd hu hret
  simp only [Tr.dep] at hd hu
  refine wpAny_call ?_
  k_dflt (first | (refine' code_def (by k_asm) (by k_asm) (by k_asm) (by k_asm) (by k_asm) rfl rfl (by first | assumption | exact rfl) (by k_is) (by k_is) (by ktr_room) (by exact BindsTo.of_eq rfl) (by exact locs rfl) ?_ (by exact rfl) (by exact rfl) (by exact rfl) (by decide); k_whole; intro g8 L8 h8 FG8 F8 N8 B8 X8 T8; (try dsimp only); (try k_fold)) | (refine' code_defC (by k_asm) (by k_asm) (by k_asm) (by k_asm) (by k_asm) rfl rfl (by first | assumption | exact rfl) (by k_is) (by k_is) (by ktr_room) (by exact BindsTo.of_eq rfl) (by exact rfl) (by decide +kernel) ?_ (by exact rfl) (by exact rfl) (by exact rfl); k_whole; intro g8 L8 h8 tk8 cells8 FG8 F8 N8 Y8 B8 X8 T8 l8; (try k_lt l8); k_cells Y8; (try simp only [List.cons_append, List.nil_append] at N8); (try dsimp only); (try k_fold)))
  (repeat' (first | (k_unfold; (try dsimp only)) | ((with_reducible show wpAny _ _ (call (Value.type "enumerate") _) _ _ _); (rename Fr _ _ _ _ => lF'); (rename News _ _ _ _ => lN'); (with_unfolding_all refine enum_turns (by rfl) lF' lN' (by k_mem) (by rfl) (by rfl) ?_); clear lF' lN'; intro i' l1; (try k_lt l1); (try simp only [enumItems])) | ((with_reducible show wpAny _ _ (subscriptTail _ (Expr.Slice _ _ _ _) (Value.ref _) (Value.ref _)) _ _ _); k_dflt (refine r_slice1K (by k_asm) (by k_asm) (by k_in) (by assumption) (by rfl) (by rfl) ?_ (by with_unfolding_all rfl) (by intro _; with_unfolding_all rfl)); intro D' h' F' N' l1; (try k_lt l1); (try dsimp only)) | ((with_reducible show wpAny _ _ (exec (Stmt.For (Expr.Tuple _ _ _) (Expr.Call _ _ _ _) _ _ _) _) _ _ _); k_here; (rename Fr _ _ _ _ => lF'); with_unfolding_all refine' For_turns lF' ?_; k_whole) | walk1 | (dsimp only; walk1) | (leave1; (try dsimp only))))
  (rename News _ _ _ _ => NF)
  obtain ⟨ns, NS, hR⟩ := parts_fin0 NF (by tbn_find) (by tbn_find) (by tbn_find) hP
  exact hret _ _ _ _ (by k_asm) NS hR
theorem parts_use {w : World} {mean : ExcName → Option Value} {mg mb : Str → Option Value} {t : Tr} {v : Value} {news news₁ : List (Addr × Obj)}
    {dp un : Nat} {gd : Option (List Code)} {cn : Str} {cs : Scope} {a : Addr} {ccd : Value} {cl : List (Str × Addr)} {outer : List Env} {A₀ : Around} {base h₀ : Heap} {L : Addr} {m : Str → Option Value} {s : Shared} {Q E : Value → Shared → Prop}
    (C : PartsC w mean mg mb t) (hT : PIn news v t) (hsz : t.size ≤ 100) (hdp : t.dep ≤ 30)
    (B : Below A₀ base outer h₀) (F : Fr h₀ L s.heap m) (X : (hd.heap_1 w.params).In h₀) (N : News h₀ L s.heap news₁) (T' : Top hd.view_39 lse mean mg mb h₀) (hs : ∀ p ∈ news, p ∈ news₁) (hk : cs.kind = .function) (hd : dp + (2 * t.dep + 10) < recursionLimit) (hu : un + 8 * (2 * t.dep + 10) < cLine)
    (ret : ∀ tl LL items n h' tk', Fr h₀ L h' m → News h₀ L h' (tl ++ news₁) → Fresh tl news₁ → (LL, ({ cls := .type "list", data := .seq (List.toArray items) n } : Obj)) ∈ tl → All2 (PartIn t.dep) (tl ++ news) items t.subs → Q (.ref LL) { s with heap := h', toks := tk' }) :
    wpAny (model PySem.Challenge.rw_sa0020_01.row.toRowW.prog w) (ktrTop dp un gd cn cs L a ccd cl outer) (call (.ref 91) [v]) Q E s :=
  con_use (C news news₁ v hT hsz hdp hs) B F X N T' (fun _ h => h) hk hd hu fun r news' h' tk' F' N' hP => by
    obtain ⟨tl, LL, items, n, rfl, h1, rfl, h2, h3⟩ := hP
    exact ret _ _ _ _ _ _ F' N' h1 h2 h3
theorem Fresh.lt5 {D D' D'' I C D₀ : Addr} {o o' o'' oI oC oD : Obj} {l : List (Addr × Obj)} (h : (@LT.lt Nat _ I D) ∧ (@LT.lt Nat _ C D) ∧ (@LT.lt Nat _ D₀ D) ∧ AllLt D l) (h' : (@LT.lt Nat _ D D') ∧ (@LT.lt Nat _ I D') ∧ (@LT.lt Nat _ C D') ∧ (@LT.lt Nat _ D₀ D') ∧ AllLt D' l)
    (h'' : (@LT.lt Nat _ D' D'') ∧ (@LT.lt Nat _ D D'') ∧ (@LT.lt Nat _ I D'') ∧ (@LT.lt Nat _ C D'') ∧ (@LT.lt Nat _ D₀ D'') ∧ AllLt D'' l) : Fresh [(D'', o''), (D', o'), (D, o)] ((I, oI) :: (C, oC) :: (D₀, oD) :: l) := fun p hp q hq => by
  rcases List.mem_cons.mp hp with rfl | hp
  · exact Fresh.lt3 (o := o'') h''.2.2 _ List.mem_cons_self q hq
  · exact Fresh.lt4 (o := o) (o' := o') h h' p hp q hq
theorem parts_pairs {N : Nat} {l : List (Addr × Obj)} {items : List Value} {ts : List Tr} (h : All2 (PartIn N) l items ts) : ∃ ps : List (Value × (Value × Value) × Option Tr), ps.map (·.1) = items ∧ ps.filterMap (·.2.2) = ts ∧
    ∀ q ∈ ps, ∃ t n tr ws, q.1 = .ref t ∧ (t, tupO [q.2.1.1, q.2.1.2] n) ∈ l ∧ q.2.2 = some tr ∧ WayIn l q.2.1.1 ws ∧ ws.length ≤ N ∧ PIn l q.2.1.2 tr := by
  induction h with
  | nil => exact ⟨[], rfl, rfl, fun _ h => nomatch h⟩
  | cons x _ ih =>
    rename_i v9 b9 _ _ _
    obtain ⟨ps, e1, e2, hq⟩ := ih
    obtain ⟨a, n, pth, pv, ws, rfl, hm, hw, hl, hp⟩ := x
    refine ⟨(.ref a, (pth, pv), some (by first | exact b9 | exact v9)) :: ps, by simp [e1], by simp [e2], fun q hqm => ?_⟩
    rcases List.mem_cons.mp hqm with rfl | hqm
    · exact ⟨a, n, _, ws, rfl, hm, rfl, hw, hl, hp⟩
    · exact hq q hqm
end
section
example : True := by (w_top off); trivial
open PySem PySem.W PyProof.Rows PySem.Spec PySem.Calls
section
variable {prog : Program} {w : World} {A : Around} {E : Value → Shared → Prop} {s : Shared} {h₀ : Heap} {L : Addr} {m : Str → Option Value} {news news' : List (Addr × Obj)} {Q : Value → Shared → Prop}
theorem r_extend {l b : Addr} {its ys : List Value} {n : Nat} (F : Fr h₀ L s.heap m) (N : News h₀ L s.heap news) (hl : (l, lstO its n) ∈ news) (hb : (b, LCg.lst ys) ∈ news) (hlb : @Ne Nat b l) (sub : ∀ p ∈ news', p ∈ news ∧ p.1 ≠ l) (hy : ys ≠ []) (sz : its.length + ys.length ≤ 1000)
    (h : ∀ h', Fr h₀ L h' m → News h₀ L h' ((l, lstO (its ++ ys) (n + 1)) :: news') → Q .none { s with heap := h' }) : wpAny (model prog w) A (call (.builtin "list.extend") [.ref l, .ref b]) Q E s := by
  have N2 : News h₀ L s.heap ((l, W.listOf its.toArray n) :: (b, W.listOf ys.toArray ys.length) :: news') := fun p hp => by
    rcases List.mem_cons.mp hp with rfl | hp
    · exact N _ hl
    · rcases List.mem_cons.mp hp with rfl | hp
      · exact N _ hb
      · exact N _ (sub p hp).1
  refine kl_extend (its := its.toArray) (its2 := ys.toArray) (n := n) (l := its ++ ys) F N2 (List.Mem.tail _ (List.Mem.head _)) (by simp) ?_ (Upd.head fun p hp => ?_) ?_ (by rw [sizeLine_eq]; simp; omega) (by rw [sizeLine_eq]; simp; omega) fun h' F' N' => h h' F' fun p hp => N' p ?_
  · cases ys with
    | nil => exact absurd rfl hy
    | cons a b => simp
  · rcases List.mem_cons.mp hp with rfl | hp
    · exact hlb
    · exact (sub p hp).2
  · unfold Builtin.List.listTooLong
    simp
    intro _
    rw [sizeLine_eq]
    omega
  · rcases List.mem_cons.mp hp with rfl | hp
    · exact List.Mem.head _
    · exact List.Mem.tail _ (List.Mem.tail _ hp)
end
/-- what holds between the turns: Z is what the loop has made besides the list l and the cell c; i, i + 1 the iterator's -/
structure TS (news₁ Z : List (Addr × Obj)) (l c i : Addr) : Prop where
  fresh : Fresh Z news₁
  nf : ∀ p ∈ Z ++ news₁, (@Ne Nat p.1 l) ∧ (@Ne Nat p.1 c) ∧ (@Ne Nat p.1 (i + 1)) ∧ (@Ne Nat p.1 i)
  lc : @Ne Nat l c
  li : @LT.lt Nat _ l i
  ci : @LT.lt Nat _ c i
theorem TS.grow {news₁ Z tl tm : List (Addr × Obj)} {l c i : Addr} {o1 o2 lo oc : Obj} (T : TS news₁ Z l c i) (ht : Fresh tl ((i + 1, o2) :: (i, o1) :: (l, lo) :: (c, oc) :: (Z ++ news₁))) (hm : Fresh tm (tl ++ (i + 1, o2) :: (i, o1) :: (l, lo) :: (c, oc) :: (Z ++ news₁))) :
    TS news₁ (tm ++ (tl ++ Z)) l c i := by
  refine ⟨(hm.sub fun q hq => by simp [hq]).app ((ht.sub fun q hq => by simp [hq]).app T.fresh), fun p hp => ?_, T.lc, T.li, T.ci⟩
  simp only [List.mem_append] at hp
  rcases hp with (h | h | h) | h
  · exact ⟨hm p h (l, lo) (by simp), hm p h (c, oc) (by simp), hm p h (i + 1, o2) (by simp), hm p h (i, o1) (by simp)⟩
  · exact ⟨ht p h (l, lo) (by simp), ht p h (c, oc) (by simp), ht p h (i + 1, o2) (by simp), ht p h (i, o1) (by simp)⟩
  · exact T.nf p (by simp [h])
  · exact T.nf p (by simp [h])
theorem TS.offC {news₁ Z : List (Addr × Obj)} {l c i : Addr} (T : TS news₁ Z l c i) : ∀ p ∈ Z ++ news₁, p.1 ≠ c := fun p hp => (T.nf p hp).2.1
theorem turn_fin {g h : Heap} {L i l c : Addr} {o1 o2 lo oc : Obj} {Z news₁ : List (Addr × Obj)} {m' : Str → Option Value} {rest : (Str → Option Value) → List (Addr × Obj) → Prop} {s₁ : Shared} {tk : Nat} (T : TS news₁ Z l c i) (F : Fr g L h m') (N : News g L h ((l, lo) :: (i + 1, o2) :: (i, o1) :: (c, oc) :: (Z ++ news₁)))
    (r : rest m' ((l, lo) :: (c, oc) :: (Z ++ news₁))) : UnrEndW g L s₁ [(i + 1, o2), (i, o1)] rest { s₁ with heap := h, toks := tk } := by
  refine ⟨h, tk, m', _, rfl, F, fun p hp => N p ?_, fun p hp q hq => ?_, r⟩
  · simp only [List.mem_cons, List.mem_append, List.not_mem_nil, or_false] at hp ⊢
    rcases hp with (h | h) | h | h | h | h <;> simp [h]
  · have k : (@Ne Nat p.1 (i + 1)) ∧ (@Ne Nat p.1 i) := by
      rcases List.mem_cons.mp hp with rfl | hp
      · have := T.li; exact ⟨by simp only [ne_eq]; omega, by simp only [ne_eq]; omega⟩
      · rcases List.mem_cons.mp hp with rfl | hp
        · have := T.ci; exact ⟨by simp only [ne_eq]; omega, by simp only [ne_eq]; omega⟩
        · exact (T.nf p hp).2.2
    rcases List.mem_cons.mp hq with rfl | hq
    · exact k.1
    · rw [List.mem_singleton.mp hq]; exact k.2
theorem parts_norm {h₀ h : Heap} {L l c : Addr} {lo oc : Obj} {s d1 d2 : Addr × Obj} {news₁ : List (Addr × Obj)} (N : News h₀ L h (s :: (l, lo) :: d1 :: d2 :: (c, oc) :: news₁)) : News h₀ L h ((l, lo) :: (c, oc) :: ([s, d1, d2] ++ news₁)) :=
  News.sub N fun p hp => by simp only [List.mem_cons, List.mem_append, List.not_mem_nil, or_false] at hp ⊢; rcases hp with h | h | (h | h | h) | h <;> simp [h]
theorem TS.start {h₀ h : Heap} {L s l d1 d2 c i : Addr} {os ol o1 o2 oc : Obj} {news₁ : List (Addr × Obj)} (_ : News h₀ L h ((s, os) :: (l, ol) :: (d1, o1) :: (d2, o2) :: (c, oc) :: news₁)) (hls : @LT.lt Nat _ l s) (hcs : @LT.lt Nat _ c s) (h1l : @LT.lt Nat _ d1 l) (h2l : @LT.lt Nat _ d2 l) (hcl : @LT.lt Nat _ c l) (hc1 : @LT.lt Nat _ c d1) (hc2 : @LT.lt Nat _ c d2)
    (as : AllLt s news₁) (al : AllLt l news₁) (a1 : AllLt d1 news₁) (a2 : AllLt d2 news₁) (hc : ∀ p ∈ news₁, p.1 ≠ c)
    (hI : ∀ p ∈ (l, ol) :: (c, oc) :: ([(s, os), (d1, o1), (d2, o2)] ++ news₁), p.1 < i) : TS news₁ [(s, os), (d1, o1), (d2, o2)] l c i := by
  have li : @LT.lt Nat _ l i := hI (l, ol) (List.Mem.head _)
  have ci : @LT.lt Nat _ c i := hI (c, oc) (List.Mem.tail _ (List.Mem.head _))
  refine ⟨fresh_cons (ktn_ltOf as) (fresh_cons (ktn_ltOf a1) (fresh_cons (ktn_ltOf a2) Fresh.nil)), fun p hp => ?_, Nat.ne_of_gt hcl, li, ci⟩
  have pi : @LT.lt Nat _ p.1 i := hI p (List.Mem.tail _ (List.Mem.tail _ hp))
  have k : (@Ne Nat p.1 l) ∧ (@Ne Nat p.1 c) := by
    rcases List.mem_append.mp hp with h | h
    · rcases List.mem_cons.mp h with rfl | h
      · exact ⟨Nat.ne_of_gt hls, Nat.ne_of_gt hcs⟩
      · rcases List.mem_cons.mp h with rfl | h
        · exact ⟨Nat.ne_of_lt h1l, Nat.ne_of_gt hc1⟩
        · rw [List.mem_singleton.mp h]; exact ⟨Nat.ne_of_lt h2l, Nat.ne_of_gt hc2⟩
    · exact ⟨Nat.ne_of_lt (ktn_ltOf al p h), hc p h⟩
  exact ⟨k.1, k.2, Nat.ne_of_lt (Nat.lt_succ_of_lt pi), Nat.ne_of_lt pi⟩
theorem all2_app {β : Type} {R : β → List (Addr × Obj) → Value → Prop} {l : List (Addr × Obj)} {xs ys : List Value} {as bs : List β} (h : All2 R l xs as) (k : All2 R l ys bs) : All2 R l (xs ++ ys) (as ++ bs) := by
  induction h with
  | nil => exact k
  | cons x _ ih => exact .cons x ih
theorem parts_pack0 {h₀ h : Heap} {L s l d1 d2 c : Addr} {n n1 n2 : Nat} {v : Value} {vs : List Value} {oc : Obj} {news news₁ : List (Addr × Obj)} (N : News h₀ L h ((s, tupO vs n) :: (l, lstO [.ref d1] 0) :: (d1, tupO [.ref d2, v] n1) :: (d2, tupO [] n2) :: (c, oc) :: news₁)) (hls : @LT.lt Nat _ l s) (hcs : @LT.lt Nat _ c s) (h1l : @LT.lt Nat _ d1 l) (h2l : @LT.lt Nat _ d2 l) (hcl : @LT.lt Nat _ c l) (hc1 : @LT.lt Nat _ c d1) (hc2 : @LT.lt Nat _ c d2)
    (as : AllLt s news₁) (al : AllLt l news₁) (a1 : AllLt d1 news₁) (a2 : AllLt d2 news₁) (hc : ∀ p ∈ news₁, p.1 ≠ c) :
    ∃ Z, News h₀ L h ((l, lstO [.ref d1] 0) :: (c, oc) :: (Z ++ news₁)) ∧ (s, tupO vs n) ∈ Z ∧ (∀ i, (∀ p ∈ (l, lstO [.ref d1] 0) :: (c, oc) :: (Z ++ news₁), p.1 < i) → TS news₁ Z l c i) ∧ ∀ K t, PIn news v t → All2 (PartIn K) (Z ++ news) [.ref d1] [t] :=
  ⟨[(s, tupO vs n), (d1, tupO [.ref d2, v] n1), (d2, tupO [] n2)], parts_norm N, List.Mem.head _, fun i hI => TS.start N hls hcs h1l h2l hcl hc1 hc2 as al a1 a2 hc hI, fun K t hP => .cons ⟨d1, n1, .ref d2, v, [], rfl, by simp, ⟨d2, n2, [], rfl, by simp, .nil⟩, by simp, hP.mono fun p hp => by simp [hp]⟩ .nil⟩
theorem parts_pack {g h : Heap} {L i l c : Addr} {o1 o2 lo lo0 oc : Obj} {x : Addr × Obj} {Z tm tl news news₁ : List (Addr × Obj)} {K : Nat} {its ys : List Value} {ts us us' : List Tr} (T : TS news₁ Z l c i) (ht : Fresh tl ((i + 1, o2) :: (i, o1) :: (l, lo0) :: (c, oc) :: (Z ++ news₁))) (hm : Fresh tm (tl ++ (i + 1, o2) :: (i, o1) :: (l, lo0) :: (c, oc) :: (Z ++ news₁)))
    (N : News g L h ((l, lo) :: (i + 1, o2) :: (i, o1) :: (c, oc) :: ((tm ++ (tl ++ Z)) ++ news₁))) (hs : x ∈ Z) (hA : All2 (PartIn K) (Z ++ news) its ts) (hB : All2 (PartIn K) (tm ++ (tl ++ news)) ys ([] ++ us)) (hu : us = us') :
    ∃ Z1, TS news₁ Z1 l c i ∧ News g L h ((l, lo) :: (i + 1, o2) :: (i, o1) :: (c, oc) :: (Z1 ++ news₁)) ∧ x ∈ Z1 ∧ All2 (PartIn K) (Z1 ++ news) (its ++ ys) (ts ++ us') := by
  subst hu
  refine ⟨tm ++ (tl ++ Z), T.grow ht hm, N, by simp [hs], all2_app (hA.mono fun b v h => h.mono (Nat.le_refl _) fun p hp => ?_) (hB.mono fun b v h => h.mono (Nat.le_refl _) fun p hp => ?_)⟩
  · simp only [List.mem_append] at hp ⊢; rcases hp with h | h <;> simp [h]
  · simp only [List.mem_append] at hp ⊢; rcases hp with h | h | h <;> simp [h]
theorem parts_fin {h₀ h : Heap} {L l c i : Addr} {n : Nat} {its : List Value} {oc : Obj} {Z news news₁ : List (Addr × Obj)} {t : Tr} (T : TS news₁ Z l c i) (N : News h₀ L h ((l, lstO its n) :: (c, oc) :: (Z ++ news₁))) (hA : All2 (PartIn t.dep) (Z ++ news) its t.subs) : ∃ ns, News h₀ L h ns ∧ PartsP t news news₁ (.ref l) ns := by
  refine ⟨((l, lstO its n) :: Z) ++ news₁, News.sub N fun p hp => ?_, (l, lstO its n) :: Z, l, its, n, rfl, fun p hp q hq => ?_, rfl, List.Mem.head _, hA.mono fun b v h => h.mono (Nat.le_refl _) fun p hp => ?_⟩
  · simp only [List.cons_append, List.mem_cons, List.mem_append] at hp ⊢; rcases hp with h | h | h <;> simp [h]
  · rcases List.mem_cons.mp hp with rfl | hp
    · exact fun e => (T.nf q (by simp [hq])).1 e.symm
    · exact T.fresh p hp q hq
  · simp only [List.cons_append, List.mem_cons, List.mem_append] at hp ⊢; rcases hp with h | h <;> simp [h]
theorem ext_sub {d : Addr × Obj} {i l c : Addr} {o1 o2 lo oc : Obj} {Z tm tl news₁ : List (Addr × Obj)} (T : TS news₁ Z l c i) (ht : Fresh tl ((i + 1, o2) :: (i, o1) :: (l, lo) :: (c, oc) :: (Z ++ news₁))) (hm : Fresh tm (tl ++ (i + 1, o2) :: (i, o1) :: (l, lo) :: (c, oc) :: (Z ++ news₁))) :
    ∀ p ∈ (i + 1, o2) :: (i, o1) :: (c, oc) :: ((tm ++ (tl ++ Z)) ++ news₁), p ∈ d :: (tm ++ (tl ++ (i + 1, o2) :: (i, o1) :: (l, lo) :: (c, oc) :: (Z ++ news₁))) ∧ p.1 ≠ l := by
  have T2 := T.grow ht hm
  intro p hp
  rcases List.mem_cons.mp hp with rfl | hp
  · exact ⟨by simp, fun e => absurd T.li (by rw [← e]; simp)⟩
  · rcases List.mem_cons.mp hp with rfl | hp
    · exact ⟨by simp, Nat.ne_of_gt T.li⟩
    · rcases List.mem_cons.mp hp with rfl | hp
      · exact ⟨by simp, fun e => T.lc e.symm⟩
      · refine ⟨?_, (T2.nf p hp).1⟩
        simp only [List.mem_append, List.mem_cons] at hp ⊢
        rcases hp with (h | h | h) | h <;> simp [h]
theorem off1_mem {D : Addr} {l : List (Addr × Obj)} (h : LCg.Off1 D l) : ∀ p ∈ l, (@Ne Nat p.1 D) := by
  induction l with
  | nil => exact fun p hp => nomatch hp
  | cons a r ih =>
    intro p hp
    rcases List.mem_cons.mp hp with e | hp
    · rw [e]; exact h.1
    · exact ih h.2 p hp
theorem off1_l {DD i l c : Addr} {o1 o2 lo oc : Obj} {R tm tl : List (Addr × Obj)} (h : LCg.Off1 DD (tm ++ (tl ++ (i + 1, o2) :: (i, o1) :: (l, lo) :: (c, oc) :: R))) : @Ne Nat DD l := fun e => off1_mem h (l, lo) (by simp) e.symm
theorem Tr.subs_kids (t : Tr) : t.subs = t :: t.kids.flatMap Tr.subs := by cases t <;> simp [Tr.subs, Tr.kids]
/-- what holds between the turns -/
structure PL (t : Tr) (news news₁ : List (Addr × Obj)) (l c i : Addr) (x : Addr × Obj) (vs : List Value) (m : Str → Option Value) (ns : List (Addr × Obj)) (ks : List Tr) (its : List Value) (ts : List Tr) (Z : List (Addr × Obj)) (nl : Nat) (oc : Obj) (ov : Option Value) : Prop where
  hns : ns = (l, lstO its nl) :: (c, oc) :: (Z ++ news₁)
  hoc : oc.data = .cell ov
  hks : PIns news vs ks
  hsb : ∀ k ∈ ks, k ∈ t.kids
  hT : TS news₁ Z l c i
  hx : x ∈ Z
  hall : All2 (PartIn t.dep) (Z ++ news) its ts
  hlen : its.length + (ks.map Tr.size).sum ≤ 1000
  hsubs : ts ++ ks.flatMap Tr.subs = t.subs
  hm : m (Str.ofString "found") = some (.ref l)
theorem PL.elim0 {t : Tr} {news news₁ : List (Addr × Obj)} {l c i : Addr} {x : Addr × Obj} {m : Str → Option Value} {ns : List (Addr × Obj)} {G : (Str → Option Value) → List (Addr × Obj) → Prop}
    (h : ∃ ks its ts Z nl oc ov, PL t news news₁ l c i x [] m ns ks its ts Z nl oc ov)
    (k : ∀ its Z nl oc, TS news₁ Z l c i → All2 (PartIn t.dep) (Z ++ news) its t.subs → G (fun y => if y = Str.ofString "found" then some (.ref l) else m y) ((l, lstO its nl) :: (c, oc) :: (Z ++ news₁))) : G m ns := by
  obtain ⟨ks, its, ts, Z, nl, oc, ov, rfl, hoc, hks, _, T, hx, hA, hlen, hS, hm⟩ := h
  rw [known_eq hm]
  cases hks
  exact k its Z nl oc T (by rw [← hS]; simpa using hA)
theorem PL.elim1 {t : Tr} {news news₁ : List (Addr × Obj)} {l c i : Addr} {x : Addr × Obj} {m : Str → Option Value} {ns : List (Addr × Obj)} {G : (Str → Option Value) → List (Addr × Obj) → Prop} {v : Value} {vs : List Value}
    (h : ∃ ks its ts Z nl oc ov, PL t news news₁ l c i x (v :: vs) m ns ks its ts Z nl oc ov)
    (k : ∀ kt kts its ts Z nl oc ov, oc.data = .cell ov → PIn news v kt → PIns news vs kts → kt ∈ t.kids → (∀ k ∈ kts, k ∈ t.kids) → TS news₁ Z l c i → x ∈ Z → All2 (PartIn t.dep) (Z ++ news) its ts → its.length + (kt.size + (kts.map Tr.size).sum) ≤ 1000 → (ts ++ kt.subs) ++ kts.flatMap Tr.subs = t.subs → G (fun y => if y = Str.ofString "found" then some (.ref l) else m y) ((l, lstO its nl) :: (c, oc) :: (Z ++ news₁))) : G m ns := by
  obtain ⟨ks, its, ts, Z, nl, oc, ov, rfl, hoc, hks, hsb, T, hx, hA, hlen, hS, hm⟩ := h
  rw [known_eq hm]
  cases hks with
  | cons hT hks => exact k _ _ its ts Z nl oc ov hoc hT hks (hsb _ List.mem_cons_self) (fun k hk => hsb k (List.mem_cons_of_mem _ hk)) T hx hA (by simpa using hlen) (by rw [← hS]; simp)
theorem parts_node (w : World) (mean : ExcName → Option Value) (mg mb : Str → Option Value) (t : Tr) (IH : ∀ k ∈ t.kids, PartsC w mean mg mb k) (news news₁ : List (Addr × Obj)) (a : Addr) (op : Str) (tk : Tok) (nn : Nat) (kvs : List Value)
    (hmt : (a, tupO (.str op tk :: kvs) nn) ∈ news) (hks : PIns news kvs t.kids) (hP0 : PIn news (.ref a) t) (hsz : t.size ≤ 100) (hdp : t.dep ≤ 30) (hsub : ∀ p ∈ news, p ∈ news₁) : Con w mean mg mb 91 (2 * t.dep + 10) [.ref a] news₁ (PartsP t news news₁) := by
  have hmt₁ := hsub _ hmt
  have hkl : kvs.length ≤ 1000 := by have := hks.length; have := t.kids_le; omega
  unfold Con
  k_fill
  intro dp un gd cn cs a' ccd cl outer A₀ base h₀ L m s Q E B F X N T' hkf hd hu hret
  refine wpAny_call ?_
  k_dflt (first | (refine' code_def (by k_asm) (by k_asm) (by k_asm) (by k_asm) (by k_asm) rfl rfl (by first | assumption | exact rfl) (by k_is) (by k_is) (by ktr_room) (by exact BindsTo.of_eq rfl) (by exact locs rfl) ?_ (by exact rfl) (by exact rfl) (by exact rfl) (by decide); k_whole; intro g8 L8 h8 FG8 F8 N8 B8 X8 T8; (try dsimp only); (try k_fold)) | (refine' code_defC (by k_asm) (by k_asm) (by k_asm) (by k_asm) (by k_asm) rfl rfl (by first | assumption | exact rfl) (by k_is) (by k_is) (by ktr_room) (by exact BindsTo.of_eq rfl) (by exact rfl) (by decide +kernel) ?_ (by exact rfl) (by exact rfl) (by exact rfl); k_whole; intro g8 L8 h8 tk8 cells8 FG8 F8 N8 Y8 B8 X8 T8 l8; (try k_lt l8); k_cells Y8; (try simp only [List.cons_append, List.nil_append] at N8); (try dsimp only); (try k_fold)))
  (repeat' (first | (k_unfold; (try dsimp only)) | ((with_reducible show wpAny _ _ (subscriptTail (Expr.Name _ _) (Expr.Slice _ _ _ _) (Value.ref _) (Value.ref _)) _ _ _); k_here; k_dflt (refine r_slice1 (by k_asm) (by k_asm) (by k_mem) (by (first | assumption | exact Nat.le_of_ble_eq_true rfl | omega | (simp only [List.length_cons, List.length_nil, List.length_append, List.length_map]; omega))) ?_ (by with_unfolding_all rfl) (by intro _; with_unfolding_all rfl)); intro D9 h9 F9 N9 l9; (try k_lt l9); (try dsimp only)) | (k_here; (first | with_reducible show wpAny _ _ (eval (Expr.ListComp (Expr.Call _ _ _ _) _ _ _) _) _ _ _ | with_reducible show wpAny _ _ (eval (Expr.ListComp (Expr.Tuple _ _ _) _ _ _) _) _ _ _ | with_reducible show wpAny _ _ (eval (Expr.ListComp (Expr.Subscript _ _ _) _ _ _) _) _ _ _ | with_reducible show wpAny _ _ (eval (Expr.ListComp (Expr.BinOp (Expr.Tuple _ _ _) _ _ _) _ _ _) _) _ _ _); k_dflt (refine z_ListComp (by k_asm) (by rfl) (by decide) (by rfl) (by decide) ?_ (by intro _; rfl) (by intro _ _ _ _ _ n9 h9; first | exact own_name n9 h9 | exact own_tuple n9 h9))) | (k_here; (with_reducible show wpAny _ _ (binaryOp _ (Value.ref _) (Value.ref _)) _ _ _); k_dflt (refine r_addT (by k_asm) (by k_asm) (by k_mem) (by k_mem) (by (first | assumption | exact Nat.le_of_ble_eq_true rfl | omega | (simp only [List.length_cons, List.length_nil, List.length_append, List.length_map]; omega))) ?_); intro D9 h9 F9 N9 l9; (try simp only [List.nil_append, List.cons_append] at N9); (try k_lt l9)) | ((with_reducible show wpAny _ _ (exec (Stmt.For (Expr.Tuple _ _ _) (Expr.Call _ _ _ _) _ _ _) _) _ _ _); k_here; (rename Fr _ _ _ _ => lF'); with_unfolding_all refine' For_turns lF' ?_; k_whole) | walk1 | (dsimp only; walk1) | (leave1; (try dsimp only))))
  (rename Fr _ _ _ _ => FF)
  (rename News _ _ _ _ => NN)
  obtain ⟨Z0, NS, hs0, st, hA0⟩ := parts_pack0 (news := news) NN (by omega) (by omega) (by omega) (by omega) (by omega) (by omega) (by omega) (by tbn_find) (by tbn_find) (by tbn_find) (by tbn_find) (by k_all)
  have hT0 := hA0 t.dep _ hP0
  clear hA0 NN
  with_unfolding_all refine enum_turns (by rfl) FF NS (List.Mem.tail _ (List.Mem.tail _ (List.mem_append_left _ hs0))) (by rfl) (by rfl) (fun i hI => ?_)
  have T0 := st i hI
  clear hI st
  refine items_loop (I := fun vs _ m ns => ∃ ks its ts Z nl oc ov, PL t news news₁ _ _ i _ vs m ns ks its ts Z nl oc ov) ?zero ?turn ⟨t.kids, _, _, Z0, _, _, _, rfl, by assumption, hks, fun _ h => h, T0, hs0, hT0, ?len, (Tr.subs_kids t).symm, rfl⟩
  case len => (have h1 := Tr.size_kids t; simp only [List.length_cons, List.length_nil]; omega)
  case zero =>
    intro _ m9 ns9 hI9
    clear FF NS T0 hs0 hT0
    refine PL.elim0 (G := fun m9 ns9 => ItemsRest _ _ _ _ _ _ _ _ _ _ _ _ _ m9 ns9) hI9 fun its Z nl oc TZ hA => ?_
    with_unfolding_all refine ItemsRest.zero (fun h' tk' F' N' => ?_)
    (repeat' (first | (k_unfold; (try dsimp only)) | ((with_reducible show wpAny _ _ (subscriptTail (Expr.Name _ _) (Expr.Slice _ _ _ _) (Value.ref _) (Value.ref _)) _ _ _); k_here; k_dflt (refine r_slice1 (by k_asm) (by k_asm) (by k_mem) (by (first | assumption | exact Nat.le_of_ble_eq_true rfl | omega | (simp only [List.length_cons, List.length_nil, List.length_append, List.length_map]; omega))) ?_ (by with_unfolding_all rfl) (by intro _; with_unfolding_all rfl)); intro D9 h9 F9 N9 l9; (try k_lt l9); (try dsimp only)) | (k_here; (first | with_reducible show wpAny _ _ (eval (Expr.ListComp (Expr.Call _ _ _ _) _ _ _) _) _ _ _ | with_reducible show wpAny _ _ (eval (Expr.ListComp (Expr.Tuple _ _ _) _ _ _) _) _ _ _ | with_reducible show wpAny _ _ (eval (Expr.ListComp (Expr.Subscript _ _ _) _ _ _) _) _ _ _ | with_reducible show wpAny _ _ (eval (Expr.ListComp (Expr.BinOp (Expr.Tuple _ _ _) _ _ _) _ _ _) _) _ _ _); k_dflt (refine z_ListComp (by k_asm) (by rfl) (by decide) (by rfl) (by decide) ?_ (by intro _; rfl) (by intro _ _ _ _ _ n9 h9; first | exact own_name n9 h9 | exact own_tuple n9 h9))) | (k_here; (with_reducible show wpAny _ _ (binaryOp _ (Value.ref _) (Value.ref _)) _ _ _); k_dflt (refine r_addT (by k_asm) (by k_asm) (by k_mem) (by k_mem) (by (first | assumption | exact Nat.le_of_ble_eq_true rfl | omega | (simp only [List.length_cons, List.length_nil, List.length_append, List.length_map]; omega))) ?_); intro D9 h9 F9 N9 l9; (try simp only [List.nil_append, List.cons_append] at N9); (try k_lt l9)) | ((with_reducible show wpAny _ _ (exec (Stmt.For (Expr.Tuple _ _ _) (Expr.Call _ _ _ _) _ _ _) _) _ _ _); k_here; (rename Fr _ _ _ _ => lF'); with_unfolding_all refine' For_turns lF' ?_; k_whole) | walk1 | (dsimp only; walk1) | (leave1; (try dsimp only))))
    (rename News _ _ _ _ => NF)
    obtain ⟨ns, NS, hR⟩ := parts_fin (t := t) TZ NF hA
    exact hret _ _ _ _ (by k_asm) NS hR
  case turn =>
    intro v9 vs9 j m9 ns9 hI9 ih
    clear FF NS T0 hs0 hT0
    refine PL.elim1 (G := fun m9 ns9 => ItemsRest _ _ _ _ _ _ _ _ _ _ _ _ _ m9 ns9) hI9 fun kt kts its ts Z nl oc ov hoc hTa hks9 hkm hsb T0 hs0 hT0 hlen9 hS => ?_
    clear hI9
    have ia := IH kt hkm
    have hkd := Tr.kids_dep hkm
    have hks := Tr.size_kid hkm
    have hdk : kt.dep ≤ 30 := by omega
    have hsk : kt.size ≤ 100 := by omega
    simp only [enumItems]
    have tci := T0.ci
    have tli := T0.li
    have tlc := T0.lc
    have tz0 := T0.offC
    (repeat' (first | (k_unfold; (try dsimp only)) | ((with_reducible show wpAny _ _ (subscriptTail (Expr.Name _ _) (Expr.Slice _ _ _ _) (Value.ref _) (Value.ref _)) _ _ _); k_here; k_dflt (refine r_slice1 (by k_asm) (by k_asm) (by k_mem) (by (first | assumption | exact Nat.le_of_ble_eq_true rfl | omega | (simp only [List.length_cons, List.length_nil, List.length_append, List.length_map]; omega))) ?_ (by with_unfolding_all rfl) (by intro _; with_unfolding_all rfl)); intro D9 h9 F9 N9 l9; (try k_lt l9); (try dsimp only)) | (k_here; (first | with_reducible show wpAny _ _ (eval (Expr.ListComp (Expr.Call _ _ _ _) _ _ _) _) _ _ _ | with_reducible show wpAny _ _ (eval (Expr.ListComp (Expr.Tuple _ _ _) _ _ _) _) _ _ _ | with_reducible show wpAny _ _ (eval (Expr.ListComp (Expr.Subscript _ _ _) _ _ _) _) _ _ _ | with_reducible show wpAny _ _ (eval (Expr.ListComp (Expr.BinOp (Expr.Tuple _ _ _) _ _ _) _ _ _) _) _ _ _); k_dflt (refine z_ListComp (by k_asm) (by rfl) (by decide) (by rfl) (by decide) ?_ (by intro _; rfl) (by intro _ _ _ _ _ n9 h9; first | exact own_name n9 h9 | exact own_tuple n9 h9))) | (k_here; (with_reducible show wpAny _ _ (binaryOp _ (Value.ref _) (Value.ref _)) _ _ _); k_dflt (refine r_addT (by k_asm) (by k_asm) (by k_mem) (by k_mem) (by (first | assumption | exact Nat.le_of_ble_eq_true rfl | omega | (simp only [List.length_cons, List.length_nil, List.length_append, List.length_map]; omega))) ?_); intro D9 h9 F9 N9 l9; (try simp only [List.nil_append, List.cons_append] at N9); (try k_lt l9)) | ((with_reducible show wpAny _ _ (exec (Stmt.For (Expr.Tuple _ _ _) (Expr.Call _ _ _ _) _ _ _) _) _ _ _); k_here; (rename Fr _ _ _ _ => lF'); with_unfolding_all refine' For_turns lF' ?_; k_whole) | walk1 | (dsimp only; walk1) | (leave1; (try dsimp only))))
    k_dflt (refine' parts_use ia hTa hsk hdk ?c3_0 ?c4_0 ?c5_0 ?c6_0 ?c7_0 ?c1_0 ?c8_0 ?c9_0 ?c10_0 ?_)
    case c6_0 => k_asm
    case c1_0 => (intro p9 h9; have h10 := hsub p9 h9; simp [h10])
    case c3_0 => k_asm
    case c4_0 => k_asm
    case c5_0 => k_asm
    case c7_0 => k_asm
    case c8_0 => exact rfl
    case c9_0 => ktr_room
    case c10_0 => ktr_units
    intro tl0 LL0 items0 n0 h0 tk0 F0 N0 hf0 hL0 hI0
    have hil : items0.length = kt.size := by rw [hI0.length, Tr.subs_len]
    have hps := Tr.size_pos kt
    obtain ⟨ps0, e0, e0', hq0⟩ := parts_pairs hI0
    have hsubR := hsub
    refine ZSrc.lst rfl F0 N0 ⟨_, .inr (List.mem_append_left _ hL0), rfl, _, rfl⟩ (by rw [sizeLine_eq, hil]; omega) fun g => ?_
    rw [← e0]
    refine z_growT (R := fun q l v => PartIn t.dep q l v) (dat := tl0 ++ news) (led := tl0 ++ _) (fun _ _ _ _ h hs => h.mono (Nat.le_refl _) hs) (by rfl) (by rfl) (by decide) (by rfl) (by rfl) (fun tl => ⟨_, .inr (List.mem_append_right _ (List.mem_append_left _ hL0)), rfl, _, by rw [e0]⟩) ps0 [] [] [] Fresh.nil .nil (fun q hqm => ?_) (fun q hqm => ?_) fun ys0 tm0 hft0 hB0 => ?_
    · obtain ⟨t9, n9, _, _, h1, h2, _⟩ := hq0 q hqm
      exact ⟨t9, n9, h1, mem_led N0 (fun p hp => by simp [hsub p hp]) h2⟩
    · refine ex4 (hq0 q hqm) fun t9 n9 tr ws h9 => and6 h9 fun hq1 hqt hq2 hw9 hwl' hqp => ex3 hw9 fun wa wn wvs hw9 => and3 hw9 fun hqv hwm9 hwk => ?_
      have hwm := mem_led N0 (fun p hp => by simp [hsub p hp]) hwm9
      intro tl₀ I oI C oC D oD m₂ h tk hCC hx hy F' N' off ne
      rw [hqv] at hx
      refine wpAny_tests_nil ?_
      simp only [if_true]
      have hwl := hwk.length
      have hwl2 : ws.length + 1 ≤ t.dep := Nat.lt_of_le_of_lt hwl' hkd
      cases hwk with
      | nil =>
        (repeat' (first | (k_unfold; (try dsimp only)) | ((with_reducible show wpAny _ _ (subscriptTail (Expr.Name _ _) (Expr.Slice _ _ _ _) (Value.ref _) (Value.ref _)) _ _ _); k_here; k_dflt (refine r_slice1 (by k_asm) (by k_asm) (by k_mem) (by (first | assumption | exact Nat.le_of_ble_eq_true rfl | omega | (simp only [List.length_cons, List.length_nil, List.length_append, List.length_map]; omega))) ?_ (by with_unfolding_all rfl) (by intro _; with_unfolding_all rfl)); intro D9 h9 F9 N9 l9; (try k_lt l9); (try dsimp only)) | (k_here; (first | with_reducible show wpAny _ _ (eval (Expr.ListComp (Expr.Call _ _ _ _) _ _ _) _) _ _ _ | with_reducible show wpAny _ _ (eval (Expr.ListComp (Expr.Tuple _ _ _) _ _ _) _) _ _ _ | with_reducible show wpAny _ _ (eval (Expr.ListComp (Expr.Subscript _ _ _) _ _ _) _) _ _ _ | with_reducible show wpAny _ _ (eval (Expr.ListComp (Expr.BinOp (Expr.Tuple _ _ _) _ _ _) _ _ _) _) _ _ _); k_dflt (refine z_ListComp (by k_asm) (by rfl) (by decide) (by rfl) (by decide) ?_ (by intro _; rfl) (by intro _ _ _ _ _ n9 h9; first | exact own_name n9 h9 | exact own_tuple n9 h9))) | (k_here; (with_reducible show wpAny _ _ (binaryOp _ (Value.ref _) (Value.ref _)) _ _ _); k_dflt (refine r_addT (by k_asm) (by k_asm) (by k_mem) (by k_mem) (by (first | assumption | exact Nat.le_of_ble_eq_true rfl | omega | (simp only [List.length_cons, List.length_nil, List.length_append, List.length_map]; omega))) ?_); intro D9 h9 F9 N9 l9; (try simp only [List.nil_append, List.cons_append] at N9); (try k_lt l9)) | ((with_reducible show wpAny _ _ (exec (Stmt.For (Expr.Tuple _ _ _) (Expr.Call _ _ _ _) _ _ _) _) _ _ _); k_here; (rename Fr _ _ _ _ => lF'); with_unfolding_all refine' For_turns lF' ?_; k_whole) | walk1 | (dsimp only; walk1) | (leave1; (try dsimp only))))
        (rename News _ _ _ _ => NF)
        exact GBack.intro [_, _] (by k_asm) NF (Fresh.lt4 (by assumption) (by assumption)) ⟨tr, hq2, _, _, _, _, [_], rfl, List.mem_append_left _ List.mem_cons_self, ⟨_, _, _, rfl, List.mem_append_left _ (List.mem_cons_of_mem _ List.mem_cons_self), .cons .nil⟩, Nat.lt_of_le_of_lt (Nat.zero_le _) hkd, hqp.mono fun p hp => List.mem_append_right _ hp⟩
      | @cons kk tkk vs' ks' hk' =>
        have hvl : vs'.length ≤ 900 := by simp only [List.length_cons] at hwl hwl'; omega
        (repeat' (first | (k_unfold; (try dsimp only)) | ((with_reducible show wpAny _ _ (subscriptTail (Expr.Name _ _) (Expr.Slice _ _ _ _) (Value.ref _) (Value.ref _)) _ _ _); k_here; k_dflt (refine r_slice1 (by k_asm) (by k_asm) (by k_mem) (by (first | assumption | exact Nat.le_of_ble_eq_true rfl | omega | (simp only [List.length_cons, List.length_nil, List.length_append, List.length_map]; omega))) ?_ (by with_unfolding_all rfl) (by intro _; with_unfolding_all rfl)); intro D9 h9 F9 N9 l9; (try k_lt l9); (try dsimp only)) | (k_here; (first | with_reducible show wpAny _ _ (eval (Expr.ListComp (Expr.Call _ _ _ _) _ _ _) _) _ _ _ | with_reducible show wpAny _ _ (eval (Expr.ListComp (Expr.Tuple _ _ _) _ _ _) _) _ _ _ | with_reducible show wpAny _ _ (eval (Expr.ListComp (Expr.Subscript _ _ _) _ _ _) _) _ _ _ | with_reducible show wpAny _ _ (eval (Expr.ListComp (Expr.BinOp (Expr.Tuple _ _ _) _ _ _) _ _ _) _) _ _ _); k_dflt (refine z_ListComp (by k_asm) (by rfl) (by decide) (by rfl) (by decide) ?_ (by intro _; rfl) (by intro _ _ _ _ _ n9 h9; first | exact own_name n9 h9 | exact own_tuple n9 h9))) | (k_here; (with_reducible show wpAny _ _ (binaryOp _ (Value.ref _) (Value.ref _)) _ _ _); k_dflt (refine r_addT (by k_asm) (by k_asm) (by k_mem) (by k_mem) (by (first | assumption | exact Nat.le_of_ble_eq_true rfl | omega | (simp only [List.length_cons, List.length_nil, List.length_append, List.length_map]; omega))) ?_); intro D9 h9 F9 N9 l9; (try simp only [List.nil_append, List.cons_append] at N9); (try k_lt l9)) | ((with_reducible show wpAny _ _ (exec (Stmt.For (Expr.Tuple _ _ _) (Expr.Call _ _ _ _) _ _ _) _) _ _ _); k_here; (rename Fr _ _ _ _ => lF'); with_unfolding_all refine' For_turns lF' ?_; k_whole) | walk1 | (dsimp only; walk1) | (leave1; (try dsimp only))))
        (rename News _ _ _ _ => NF)
        exact GBack.intro [_, _, _] (by k_asm) NF (Fresh.lt5 (by assumption) (by assumption) (by assumption)) ⟨tr, hq2, _, _, _, _, _, rfl, List.mem_append_left _ List.mem_cons_self, ⟨_, _, _, rfl, List.mem_append_left _ (List.mem_cons_of_mem _ List.mem_cons_self), .cons (.cons hk')⟩, hwl2, hqp.mono fun p hp => List.mem_append_right _ hp⟩
    unfold LCg.FinE
    intro DD0 hD0 tD0 FD0 ND0 offD0
    have hyl0 : ys0.length = kt.size := by
      have h1 := hB0.length
      rw [e0'] at h1
      rw [h1, List.nil_append, Tr.subs_len]
    (repeat' (first | (k_unfold; (try dsimp only)) | ((with_reducible show wpAny _ _ (subscriptTail (Expr.Name _ _) (Expr.Slice _ _ _ _) (Value.ref _) (Value.ref _)) _ _ _); k_here; k_dflt (refine r_slice1 (by k_asm) (by k_asm) (by k_mem) (by (first | assumption | exact Nat.le_of_ble_eq_true rfl | omega | (simp only [List.length_cons, List.length_nil, List.length_append, List.length_map]; omega))) ?_ (by with_unfolding_all rfl) (by intro _; with_unfolding_all rfl)); intro D9 h9 F9 N9 l9; (try k_lt l9); (try dsimp only)) | (k_here; (first | with_reducible show wpAny _ _ (eval (Expr.ListComp (Expr.Call _ _ _ _) _ _ _) _) _ _ _ | with_reducible show wpAny _ _ (eval (Expr.ListComp (Expr.Tuple _ _ _) _ _ _) _) _ _ _ | with_reducible show wpAny _ _ (eval (Expr.ListComp (Expr.Subscript _ _ _) _ _ _) _) _ _ _ | with_reducible show wpAny _ _ (eval (Expr.ListComp (Expr.BinOp (Expr.Tuple _ _ _) _ _ _) _ _ _) _) _ _ _); k_dflt (refine z_ListComp (by k_asm) (by rfl) (by decide) (by rfl) (by decide) ?_ (by intro _; rfl) (by intro _ _ _ _ _ n9 h9; first | exact own_name n9 h9 | exact own_tuple n9 h9))) | (k_here; (with_reducible show wpAny _ _ (binaryOp _ (Value.ref _) (Value.ref _)) _ _ _); k_dflt (refine r_addT (by k_asm) (by k_asm) (by k_mem) (by k_mem) (by (first | assumption | exact Nat.le_of_ble_eq_true rfl | omega | (simp only [List.length_cons, List.length_nil, List.length_append, List.length_map]; omega))) ?_); intro D9 h9 F9 N9 l9; (try simp only [List.nil_append, List.cons_append] at N9); (try k_lt l9)) | ((with_reducible show wpAny _ _ (exec (Stmt.For (Expr.Tuple _ _ _) (Expr.Call _ _ _ _) _ _ _) _) _ _ _); k_here; (rename Fr _ _ _ _ => lF'); with_unfolding_all refine' For_turns lF' ?_; k_whole) | walk1 | (dsimp only; walk1) | (leave1; (try dsimp only))))
    k_dflt (refine' r_extend (news' := _ :: _ :: _ :: ((tm0 ++ (tl0 ++ Z)) ++ news₁)) ?x1_0 ?x2_0 ?x3_0 ?x4_0 ?x5_0 ?x6_0 ?x7_0 ?x8_0 ?_)
    case x1_0 => exact FD0
    case x2_0 => exact ND0
    case x3_0 => k_mem
    case x4_0 => exact List.Mem.head _
    case x5_0 => exact off1_l offD0
    case x6_0 => exact ext_sub T0 hf0 hft0
    case x7_0 => (intro e; rw [e] at hyl0; simp only [List.length_nil] at hyl0; omega)
    case x8_0 => (rw [hyl0]; omega)
    intro hx0 FX0 NX0
    obtain ⟨Z1, T1, NZ0, hs1, hT1⟩ := parts_pack T0 hf0 hft0 NX0 hs0 hT0 hB0 e0'
    clear NX0 ND0 FD0 offD0 hB0 hq0 e0 hL0 hI0 hf0 hft0 N0 F0 tz0 T0 hT0 hs0
    (repeat' (first | (k_unfold; (try dsimp only)) | ((with_reducible show wpAny _ _ (subscriptTail (Expr.Name _ _) (Expr.Slice _ _ _ _) (Value.ref _) (Value.ref _)) _ _ _); k_here; k_dflt (refine r_slice1 (by k_asm) (by k_asm) (by k_mem) (by (first | assumption | exact Nat.le_of_ble_eq_true rfl | omega | (simp only [List.length_cons, List.length_nil, List.length_append, List.length_map]; omega))) ?_ (by with_unfolding_all rfl) (by intro _; with_unfolding_all rfl)); intro D9 h9 F9 N9 l9; (try k_lt l9); (try dsimp only)) | (k_here; (first | with_reducible show wpAny _ _ (eval (Expr.ListComp (Expr.Call _ _ _ _) _ _ _) _) _ _ _ | with_reducible show wpAny _ _ (eval (Expr.ListComp (Expr.Tuple _ _ _) _ _ _) _) _ _ _ | with_reducible show wpAny _ _ (eval (Expr.ListComp (Expr.Subscript _ _ _) _ _ _) _) _ _ _ | with_reducible show wpAny _ _ (eval (Expr.ListComp (Expr.BinOp (Expr.Tuple _ _ _) _ _ _) _ _ _) _) _ _ _); k_dflt (refine z_ListComp (by k_asm) (by rfl) (by decide) (by rfl) (by decide) ?_ (by intro _; rfl) (by intro _ _ _ _ _ n9 h9; first | exact own_name n9 h9 | exact own_tuple n9 h9))) | (k_here; (with_reducible show wpAny _ _ (binaryOp _ (Value.ref _) (Value.ref _)) _ _ _); k_dflt (refine r_addT (by k_asm) (by k_asm) (by k_mem) (by k_mem) (by (first | assumption | exact Nat.le_of_ble_eq_true rfl | omega | (simp only [List.length_cons, List.length_nil, List.length_append, List.length_map]; omega))) ?_); intro D9 h9 F9 N9 l9; (try simp only [List.nil_append, List.cons_append] at N9); (try k_lt l9)) | ((with_reducible show wpAny _ _ (exec (Stmt.For (Expr.Tuple _ _ _) (Expr.Call _ _ _ _) _ _ _) _) _ _ _); k_here; (rename Fr _ _ _ _ => lF'); with_unfolding_all refine' For_turns lF' ?_; k_whole) | walk1 | (dsimp only; walk1) | (leave1; (try dsimp only))))
    (rename News _ _ _ _ => NW)
    refine turn_fin T1 (by k_asm) NW ⟨⟨List.Mem.tail _ (List.Mem.tail _ (List.mem_append_left _ hs1)), trivial⟩, ?_⟩
    exact ih _ _ ⟨kts, _, _, Z1, _, _, _, rfl, by assumption, hks9, hsb, T1, hs1, hT1, by rw [List.length_append, hyl0]; omega, hS, rfl⟩
theorem parts_all (w : World) (mean : ExcName → Option Value) (mg mb : Str → Option Value) : ∀ t : Tr, PartsC w mean mg mb t := by
  have all : ∀ n, ∀ t : Tr, t.dep < n → PartsC w mean mg mb t := by
    intro n
    induction n with
    | zero => intro t h; exact absurd h (Nat.not_lt_zero _)
    | succ n ih =>
      intro t h news news₁ v hP hsz hdp hsub
      rcases hP.view with ⟨rfl, rfl⟩ | ⟨rfl, rfl⟩ | ⟨rfl, rfl⟩ | ⟨a, tk, nn, vs, rfl, _, hm, hk⟩
      · exact parts_leafK w mean mg mb 118 _ _ _ (by k_is) news news₁ hP
      · exact parts_leafK w mean mg mb 119 _ _ _ (by k_is) news news₁ hP
      · exact parts_leafK w mean mg mb 120 _ _ _ (by k_is) news news₁ hP
      · exact parts_node w mean mg mb t (fun k hk => ih k (Nat.lt_of_lt_of_le (Tr.kids_dep hk) (Nat.le_of_lt_succ h))) news news₁ a _ tk nn vs hm hk hP hsz hdp hsub
  exact fun t => all _ t (Nat.lt_succ_self _)
end
section
example : True := by (w_top off); trivial
open PySem PySem.W PyProof.Rows PySem.Spec PySem.Calls
/-- a contract whose call may draw -/
noncomputable def ConD (w : World) (mean : ExcName → Option Value) (mg mb : Str → Option Value) (f : Addr) (sz : Nat) (vs : List Value) (news : List (Addr × Obj)) (P : Value → List (Addr × Obj) → Prop) : Prop :=
  ∀ (dp un : Nat) (gd : Option (List Code)) (cn : Str) (cs : Scope) (a : Addr) (ccd : Value) (cl : List (Str × Addr)) (outer : List Env) (A₀ : Around) (base h₀ : Heap) (L : Addr) (m : Str → Option Value) (s : Shared)
    (Q E : Value → Shared → Prop),
    Below A₀ base outer h₀ → Fr h₀ L s.heap m → (hd.heap_1 w.params).In h₀ → News h₀ L s.heap news → Top hd.view_39 lse mean mg mb h₀ → cs.kind = .function → dp + sz < recursionLimit → un + 8 * sz < cLine →
    (∀ r news' h' d' tk', Fr h₀ L h' m → News h₀ L h' news' → P r news' → Q r { s with heap := h', drawn := d', toks := tk' }) →
    wpAny (model PySem.Challenge.rw_sa0020_01.row.toRowW.prog w) (ktrTop dp un gd cn cs L a ccd cl outer) (call (.ref f) vs) Q E s
/-- the variables of a pattern, as they stand in it -/
noncomputable def Tr.vars (t : Tr) : List Str := t.subs.filterMap fun q => if q.isV then some q.op else none
theorem Tr.pat_subs : ∀ {t : Tr}, t.pat → ∀ q ∈ t.subs, q.pat
  | .n0 _, h, q, hq => by simp [Tr.subs] at hq; rw [hq]; exact h
  | .n1 _ a, h, q, hq => by
    rcases List.mem_cons.mp hq with e | hq
    · rw [e]; exact h
    · exact Tr.pat_subs (t := a) h q hq
  | .n2 _ a b, h, q, hq => by
    rcases List.mem_cons.mp hq with e | hq
    · rw [e]; exact h
    · rcases List.mem_append.mp hq with hq | hq
      · exact Tr.pat_subs (t := a) h.1 q hq
      · exact Tr.pat_subs (t := b) h.2 q hq
  | .n3 _ _ _ _, h, _, _ => h.elim
theorem vars_pairs {N : Nat} {l : List (Addr × Obj)} {items : List Value} {ts : List Tr} (h : All2 (PartIn N) l items ts) : ∃ ps : List (Value × (Value × Value) × Option Str), ps.map (·.1) = items ∧ ps.filterMap (·.2.2) = (ts.filterMap fun q => if q.isV then some q.op else none) ∧
    ∀ q ∈ ps, ∃ t n tr, q.1 = .ref t ∧ (t, tupO [q.2.1.1, q.2.1.2] n) ∈ l ∧ q.2.2 = (if tr.isV then some tr.op else none) ∧ tr ∈ ts ∧ PIn l q.2.1.2 tr := by
  induction h with
  | nil => exact ⟨[], rfl, rfl, fun _ h => nomatch h⟩
  | @cons v b vs bs x _ ih =>
    obtain ⟨ps, e1, e2, hq⟩ := ih
    obtain ⟨a, n, pth, pv, ws, rfl, hm, hw, hl, hp⟩ := x
    refine ⟨(.ref a, (pth, pv), if b.isV then some b.op else none) :: ps, by simp [e1], ?_, fun q hqm => ?_⟩
    · rw [List.filterMap_cons, List.filterMap_cons, e2]
    · rcases List.mem_cons.mp hqm with rfl | hqm
      · exact ⟨a, n, b, rfl, hm, rfl, List.mem_cons_self, hp⟩
      · obtain ⟨t, n, tr, h1, h2, h3, h4, h5⟩ := hq q hqm
        exact ⟨t, n, tr, h1, h2, h3, List.mem_cons_of_mem _ h4, h5⟩
theorem vars_strs {l : List (Addr × Obj)} {vs : List Value} {ys : List Str} (h : All2 (fun q (_ : List (Addr × Obj)) v => ∃ u, v = .str q u) l vs ys) : StrsAre vs ys := by
  induction h with
  | nil => exact .nil
  | cons x _ ih => obtain ⟨u, rfl⟩ := x; exact .cons _ u ih
noncomputable def VarsC (w : World) (mean : ExcName → Option Value) (mg mb : Str → Option Value) (t : Tr) : Prop :=
  ∀ (news : List (Addr × Obj)) (v : Value), PIn news v t → t.pat → t.size < 64 → t.dep ≤ 30 →
    ConD w mean mg mb 86 (2 * t.dep + 30) [v] news (fun r news' => ∃ tl L items ys n, news' = tl ++ news ∧ Fresh tl news ∧ r = .ref L ∧ (L, lstO items n) ∈ tl ∧ StrsAre items ys ∧ (∀ k, k ∈ ys ↔ k ∈ t.vars) ∧ items.length ≤ t.size)
theorem vars_all (w : World) (mean : ExcName → Option Value) (mg mb : Str → Option Value) (t : Tr) : VarsC w mean mg mb t := by
  intro news v hP hpat hsz hdp
  unfold ConD
  k_fill
  intro dp un gd cn cs a' ccd cl outer A₀ base h₀ L m s Q E B F X N T' hkf hd hu hret
  refine wpAny_call ?_
  k_dflt (first | (refine' code_def (by k_asm) (by k_asm) (by k_asm) (by k_asm) (by k_asm) rfl rfl (by first | assumption | exact rfl) (by k_is) (by k_is) (by ktr_room) (by exact BindsTo.of_eq rfl) (by exact locs rfl) ?_ (by exact rfl) (by exact rfl) (by exact rfl) (by decide); k_whole; intro g8 L8 h8 FG8 F8 N8 B8 X8 T8; (try dsimp only); (try k_fold)) | (refine' code_defC (by k_asm) (by k_asm) (by k_asm) (by k_asm) (by k_asm) rfl rfl (by first | assumption | exact rfl) (by k_is) (by k_is) (by ktr_room) (by exact BindsTo.of_eq rfl) (by exact rfl) (by decide +kernel) ?_ (by exact rfl) (by exact rfl) (by exact rfl); k_whole; intro g8 L8 h8 tk8 cells8 FG8 F8 N8 Y8 B8 X8 T8 l8; (try k_lt l8); k_cells Y8; (try simp only [List.cons_append, List.nil_append] at N8); (try dsimp only); (try k_fold)))
  (repeat' (first | (k_unfold; (try dsimp only)) | (k_here; (first | with_reducible show wpAny _ _ (eval (Expr.ListComp (Expr.Call _ _ _ _) _ _ _) _) _ _ _ | with_reducible show wpAny _ _ (eval (Expr.ListComp (Expr.Tuple _ _ _) _ _ _) _) _ _ _ | with_reducible show wpAny _ _ (eval (Expr.ListComp (Expr.Subscript _ _ _) _ _ _) _) _ _ _ | with_reducible show wpAny _ _ (eval (Expr.ListComp (Expr.BinOp (Expr.Tuple _ _ _) _ _ _) _ _ _) _) _ _ _); k_dflt (refine z_ListComp (by k_asm) (by rfl) (by decide) (by rfl) (by decide) ?_ (by intro _; rfl) (by intro _ _ _ _ _ n9 h9; first | exact own_name n9 h9 | exact own_tuple n9 h9))) | walk1 | (dsimp only; walk1) | (leave1; (try dsimp only))))
  k_dflt (refine' parts_use (parts_all w mean mg mb t) hP ?va2 ?va3 ?vc3 ?vc4 ?vc5 ?vc6 ?vc7 ?vc1 ?vc8 ?vc9 ?vc10 ?_)
  case vc6 => k_asm
  case vc1 => exact fun _ h => h
  case va2 => omega
  case va3 => exact hdp
  case vc3 => k_asm
  case vc4 => k_asm
  case vc5 => k_asm
  case vc7 => k_asm
  case vc8 => exact rfl
  case vc9 => (show dp + 1 + (2 * _ + 10) < recursionLimit; omega)
  case vc10 => (show un + 3 + 8 * (2 * _ + 10) < cLine; omega)
  intro tl1 LL1 items1 n1 h1 tk1 F1 N1 hf1 hL1 hI1
  have hlen : items1.length = t.size := hI1.length.trans (Tr.subs_len t)
  obtain ⟨ps0, e1, e1', hq0⟩ := vars_pairs hI1
  refine ZSrc.lst rfl F1 N1 ⟨_, .inr (List.mem_append_left _ hL1), rfl, _, rfl⟩ (by rw [sizeLine_eq]; omega) fun g => ?_
  rw [← e1]
  refine z_growT (R := fun q l v => ∃ u, v = .str q u) (dat := []) (led := tl1 ++ _) (fun _ _ _ _ h hs => h) (by rfl) (by rfl) (by decide) (by rfl) (by rfl) (fun tl => ⟨_, .inr (List.mem_append_right _ (List.mem_append_left _ hL1)), rfl, _, by rw [e1]⟩) ps0 [] [] [] Fresh.nil .nil (fun q hqm => ?_) (fun q hqm => ?_) fun ys1 tm1 hft1 hB1 => ?_
  · obtain ⟨t9, n9, _, h1, h2, _⟩ := hq0 q hqm
    exact ⟨t9, n9, h1, h2⟩
  · obtain ⟨t9, n9, tr, hq1, hqt, hq2, hqs, hqp⟩ := hq0 q hqm
    obtain ⟨qv, ⟨qa, qb⟩, qo⟩ := q
    dsimp only at hq1 hqt hq2 hqp ⊢
    intro tl₀ I oI C oC D oD m₂ h tk hCC hx hy F' N' off ne
    have hpt := Tr.pat_subs hpat tr hqs
    have hqp' : PIn (tl₀ ++ (tl1 ++ news)) qb tr := hqp.mono fun p hp => List.mem_append_right _ hp
    refine wpAny_tests_one ?_
    (repeat' (first | (k_unfold; (try dsimp only)) | (k_here; (first | with_reducible show wpAny _ _ (eval (Expr.ListComp (Expr.Call _ _ _ _) _ _ _) _) _ _ _ | with_reducible show wpAny _ _ (eval (Expr.ListComp (Expr.Tuple _ _ _) _ _ _) _) _ _ _ | with_reducible show wpAny _ _ (eval (Expr.ListComp (Expr.Subscript _ _ _) _ _ _) _) _ _ _ | with_reducible show wpAny _ _ (eval (Expr.ListComp (Expr.BinOp (Expr.Tuple _ _ _) _ _ _) _ _ _) _) _ _ _); k_dflt (refine z_ListComp (by k_asm) (by rfl) (by decide) (by rfl) (by decide) ?_ (by intro _; rfl) (by intro _ _ _ _ _ n9 h9; first | exact own_name n9 h9 | exact own_tuple n9 h9))) | walk1 | (dsimp only; walk1) | (leave1; (try dsimp only))))
    k_dflt (refine' isvar_use (p := tr) (news := []) (news₁ := (I, oI) :: (C, oC) :: (D, oD) :: (tl₀ ++ (tl1 ++ news))) ?ve1 hpt ?ve3 ?ve4 ?ve5 ?ve6 ?ve7 ?ve8 ?ve9 ?ve10 ?_)
    case ve6 => k_asm
    case ve1 => exact hqp'.mono fun p hp => List.mem_cons_of_mem _ (List.mem_cons_of_mem _ (List.mem_cons_of_mem _ hp))
    case ve3 => k_asm
    case ve4 => k_asm
    case ve5 => k_asm
    case ve7 => k_asm
    case ve8 => exact rfl
    case ve9 => ktr_room
    case ve10 => ktr_units
    intro h9 tk9 F9 N9
    cases hv : tr.isV with
    | false =>
      (repeat' (first | (k_unfold; (try dsimp only)) | (k_here; (first | with_reducible show wpAny _ _ (eval (Expr.ListComp (Expr.Call _ _ _ _) _ _ _) _) _ _ _ | with_reducible show wpAny _ _ (eval (Expr.ListComp (Expr.Tuple _ _ _) _ _ _) _) _ _ _ | with_reducible show wpAny _ _ (eval (Expr.ListComp (Expr.Subscript _ _ _) _ _ _) _) _ _ _ | with_reducible show wpAny _ _ (eval (Expr.ListComp (Expr.BinOp (Expr.Tuple _ _ _) _ _ _) _ _ _) _) _ _ _); k_dflt (refine z_ListComp (by k_asm) (by rfl) (by decide) (by rfl) (by decide) ?_ (by intro _; rfl) (by intro _ _ _ _ _ n9 h9; first | exact own_name n9 h9 | exact own_tuple n9 h9))) | walk1 | (dsimp only; walk1) | (leave1; (try dsimp only))))
      exact GBack.intro [] F9 N9 Fresh.nil (by rw [hq2, hv]; rfl)
    | true =>
      have hvv : (qb = .ref 118 ∧ tr = .n0 qA) ∨ (qb = .ref 119 ∧ tr = .n0 qB) ∨ (qb = .ref 120 ∧ tr = .n0 qC) := by
        cases hqp with
        | va => exact .inl ⟨rfl, rfl⟩
        | vb => exact .inr (.inl ⟨rfl, rfl⟩)
        | vc => exact .inr (.inr ⟨rfl, rfl⟩)
        | n0 hn _ => simp [Tr.isV] at hv; rcases hv with (e | e) | e <;> exact absurd e (by simp [notVar] at hn; simp [hn])
        | n1 => simp [Tr.isV] at hv
        | n2 => simp [Tr.isV] at hv
      rw [hv, if_pos rfl] at hq2
      rcases hvv with ⟨rfl, rfl⟩ | ⟨rfl, rfl⟩ | ⟨rfl, rfl⟩
      · (repeat' (first | (k_unfold; (try dsimp only)) | (k_here; (first | with_reducible show wpAny _ _ (eval (Expr.ListComp (Expr.Call _ _ _ _) _ _ _) _) _ _ _ | with_reducible show wpAny _ _ (eval (Expr.ListComp (Expr.Tuple _ _ _) _ _ _) _) _ _ _ | with_reducible show wpAny _ _ (eval (Expr.ListComp (Expr.Subscript _ _ _) _ _ _) _) _ _ _ | with_reducible show wpAny _ _ (eval (Expr.ListComp (Expr.BinOp (Expr.Tuple _ _ _) _ _ _) _ _ _) _) _ _ _); k_dflt (refine z_ListComp (by k_asm) (by rfl) (by decide) (by rfl) (by decide) ?_ (by intro _; rfl) (by intro _ _ _ _ _ n9 h9; first | exact own_name n9 h9 | exact own_tuple n9 h9))) | walk1 | (dsimp only; walk1) | (leave1; (try dsimp only))))
        exact GBack.intro [] F9 N9 Fresh.nil ⟨_, hq2, _, rfl⟩
      · (repeat' (first | (k_unfold; (try dsimp only)) | (k_here; (first | with_reducible show wpAny _ _ (eval (Expr.ListComp (Expr.Call _ _ _ _) _ _ _) _) _ _ _ | with_reducible show wpAny _ _ (eval (Expr.ListComp (Expr.Tuple _ _ _) _ _ _) _) _ _ _ | with_reducible show wpAny _ _ (eval (Expr.ListComp (Expr.Subscript _ _ _) _ _ _) _) _ _ _ | with_reducible show wpAny _ _ (eval (Expr.ListComp (Expr.BinOp (Expr.Tuple _ _ _) _ _ _) _ _ _) _) _ _ _); k_dflt (refine z_ListComp (by k_asm) (by rfl) (by decide) (by rfl) (by decide) ?_ (by intro _; rfl) (by intro _ _ _ _ _ n9 h9; first | exact own_name n9 h9 | exact own_tuple n9 h9))) | walk1 | (dsimp only; walk1) | (leave1; (try dsimp only))))
        exact GBack.intro [] F9 N9 Fresh.nil ⟨_, hq2, _, rfl⟩
      · (repeat' (first | (k_unfold; (try dsimp only)) | (k_here; (first | with_reducible show wpAny _ _ (eval (Expr.ListComp (Expr.Call _ _ _ _) _ _ _) _) _ _ _ | with_reducible show wpAny _ _ (eval (Expr.ListComp (Expr.Tuple _ _ _) _ _ _) _) _ _ _ | with_reducible show wpAny _ _ (eval (Expr.ListComp (Expr.Subscript _ _ _) _ _ _) _) _ _ _ | with_reducible show wpAny _ _ (eval (Expr.ListComp (Expr.BinOp (Expr.Tuple _ _ _) _ _ _) _ _ _) _) _ _ _); k_dflt (refine z_ListComp (by k_asm) (by rfl) (by decide) (by rfl) (by decide) ?_ (by intro _; rfl) (by intro _ _ _ _ _ n9 h9; first | exact own_name n9 h9 | exact own_tuple n9 h9))) | walk1 | (dsimp only; walk1) | (leave1; (try dsimp only))))
        exact GBack.intro [] F9 N9 Fresh.nil ⟨_, hq2, _, rfl⟩
  · unfold LCg.FinE
    intro DD hDD tDD FD ND offD
    rw [List.nil_append, e1'] at hB1
    have hstr := vars_strs hB1
    have hyl : ys1.length ≤ t.size := by
      have h1 := hB1.length
      have h2 := List.length_filterMap_le (fun q : Tr => if q.isV = true then some q.op else none) t.subs
      have h3 := Tr.subs_len t
      omega
    (repeat' (first | (k_unfold; (try dsimp only)) | (k_here; (first | with_reducible show wpAny _ _ (eval (Expr.ListComp (Expr.Call _ _ _ _) _ _ _) _) _ _ _ | with_reducible show wpAny _ _ (eval (Expr.ListComp (Expr.Tuple _ _ _) _ _ _) _) _ _ _ | with_reducible show wpAny _ _ (eval (Expr.ListComp (Expr.Subscript _ _ _) _ _ _) _) _ _ _ | with_reducible show wpAny _ _ (eval (Expr.ListComp (Expr.BinOp (Expr.Tuple _ _ _) _ _ _) _ _ _) _) _ _ _); k_dflt (refine z_ListComp (by k_asm) (by rfl) (by decide) (by rfl) (by decide) ?_ (by intro _; rfl) (by intro _ _ _ _ _ n9 h9; first | exact own_name n9 h9 | exact own_tuple n9 h9))) | walk1 | (dsimp only; walk1) | (leave1; (try dsimp only))))
    have zD := (ND _ List.mem_cons_self).1
    refine call_set_texts (items := ys1.toArray) rfl ⟨_, zD, rfl, _, rfl⟩ hstr (by simp; omega) fun h2 tk2 hS2 hk2 => ?_
    have hkk : ∀ b o, hDD.get? b = some o → h2.get? b = some o := fun b o e => hk2 b o (Heap.lt_size e) e
    have F2 := FD.kept hkk
    have N2 : News _ _ h2 _ := fun p hp => ⟨hkk _ _ (ND p hp).1, (ND p hp).2⟩
    (repeat' (first | (k_unfold; (try dsimp only)) | (k_here; (first | with_reducible show wpAny _ _ (eval (Expr.ListComp (Expr.Call _ _ _ _) _ _ _) _) _ _ _ | with_reducible show wpAny _ _ (eval (Expr.ListComp (Expr.Tuple _ _ _) _ _ _) _) _ _ _ | with_reducible show wpAny _ _ (eval (Expr.ListComp (Expr.Subscript _ _ _) _ _ _) _) _ _ _ | with_reducible show wpAny _ _ (eval (Expr.ListComp (Expr.BinOp (Expr.Tuple _ _ _) _ _ _) _ _ _) _) _ _ _); k_dflt (refine z_ListComp (by k_asm) (by rfl) (by decide) (by rfl) (by decide) ?_ (by intro _; rfl) (by intro _ _ _ _ _ n9 h9; first | exact own_name n9 h9 | exact own_tuple n9 h9))) | walk1 | (dsimp only; walk1) | (leave1; (try dsimp only))))
    have hvl : (List.filterMap (fun q : Tr => if q.isV = true then some q.op else none) t.subs).length ≤ t.size := by
      have h2 := List.length_filterMap_le (fun q : Tr => if q.isV = true then some q.op else none) t.subs
      have h3 := Tr.subs_len t
      omega
    refine sorted_set rfl hS2 (by omega) fun h3 d3 tk3 r3 out3 e3 ys3 hk3 hr3 hro3 hs3 hm3 hz3 => ?_
    have F3 := F2.kept hk3
    have NN3 : News _ _ h3 ((r3, seqObj "list" out3 e3) :: _) := N2.kept_cons F2 hk3 hro3 hr3
    have hnew : ∀ p ∈ (DD, LCg.lst ys1) :: (tm1 ++ (tl1 ++ news)), p.1 ≠ r3 := fun p hp e => by
      have := Heap.lt_size (N2 p hp).1
      rw [e] at this
      exact absurd (Nat.lt_of_lt_of_le this hro3) (Nat.lt_irrefl _)
    clear N2 F2 hS2 hk3 hkk hk2 zD ND FD N1 F1
    (repeat' (first | (k_unfold; (try dsimp only)) | (k_here; (first | with_reducible show wpAny _ _ (eval (Expr.ListComp (Expr.Call _ _ _ _) _ _ _) _) _ _ _ | with_reducible show wpAny _ _ (eval (Expr.ListComp (Expr.Tuple _ _ _) _ _ _) _) _ _ _ | with_reducible show wpAny _ _ (eval (Expr.ListComp (Expr.Subscript _ _ _) _ _ _) _) _ _ _ | with_reducible show wpAny _ _ (eval (Expr.ListComp (Expr.BinOp (Expr.Tuple _ _ _) _ _ _) _ _ _) _) _ _ _); k_dflt (refine z_ListComp (by k_asm) (by rfl) (by decide) (by rfl) (by decide) ?_ (by intro _; rfl) (by intro _ _ _ _ _ n9 h9; first | exact own_name n9 h9 | exact own_tuple n9 h9))) | walk1 | (dsimp only; walk1) | (leave1; (try dsimp only))))
    (rename News _ _ _ _ => NF)
    have e9 : seqObj "list" out3 e3 = lstO out3.toList e3 := by simp [seqObj, lstO]
    rw [e9] at NF
    refine hret _ ((r3, lstO out3.toList e3) :: news) _ _ _ (by k_asm) (News.sub NF fun p hp => ?_) ⟨[(r3, lstO out3.toList e3)], r3, out3.toList, ys3, e3, rfl, ?_, rfl, List.mem_cons_self, hs3, hm3, ?_⟩
    · rcases List.mem_cons.mp hp with h | h <;> simp [h]
    · intro p hp q hq
      rw [List.mem_singleton.mp hp]
      exact Ne.symm (hnew q (by simp [hq]))
    · rw [Array.length_toList]; omega
theorem vars_use {w : World} {mean : ExcName → Option Value} {mg mb : Str → Option Value} {t : Tr} {v : Value} {news news₁ : List (Addr × Obj)}
    {dp un : Nat} {gd : Option (List Code)} {cn : Str} {cs : Scope} {a : Addr} {ccd : Value} {cl : List (Str × Addr)} {outer : List Env} {A₀ : Around} {base h₀ : Heap} {L : Addr} {m : Str → Option Value} {s : Shared} {Q E : Value → Shared → Prop}
    (hT : PIn news v t) (hs : ∀ p ∈ news, p ∈ news₁) (hpat : t.pat) (hsz : t.size < 64) (hdp : t.dep ≤ 30)
    (B : Below A₀ base outer h₀) (F : Fr h₀ L s.heap m) (X : (hd.heap_1 w.params).In h₀) (N : News h₀ L s.heap news₁) (T' : Top hd.view_39 lse mean mg mb h₀) (hk : cs.kind = .function) (hd : dp + (2 * t.dep + 30) < recursionLimit) (hu : un + 8 * (2 * t.dep + 30) < cLine)
    (ret : ∀ tl LL items ys n h' d' tk', Fr h₀ L h' m → News h₀ L h' (tl ++ news₁) → Fresh tl news₁ → (LL, lstO items n) ∈ tl → StrsAre items ys → (∀ k, k ∈ ys ↔ k ∈ t.vars) → items.length ≤ t.size → Q (.ref LL) { s with heap := h', drawn := d', toks := tk' }) :
    wpAny (model PySem.Challenge.rw_sa0020_01.row.toRowW.prog w) (ktrTop dp un gd cn cs L a ccd cl outer) (call (.ref 86) [v]) Q E s :=
  vars_all w mean mg mb t news₁ v (hT.mono hs) hpat hsz hdp _ _ _ _ _ _ _ _ _ _ _ _ _ _ _ _ _ B F X N T' hk hd hu fun r news' h' d' tk' F' N' hP => by
    obtain ⟨tl, LL, items, ys, n, rfl, h1, rfl, h2, h3, h4, h5⟩ := hP
    exact ret _ _ _ _ _ _ _ _ F' N' h1 h2 h3 h4 h5
end
section
example : True := by (w_top off); trivial
open PySem PySem.W PyProof.Rows PySem.Spec PySem.Calls
theorem pin3 {g h : Heap} {L : Addr} {a b c : Addr × Obj} {news : List (Addr × Obj)} {v : Value} {t : Tr} (_ : News g L h (a :: b :: c :: news)) (hl : PIn news v t) : PIn (a :: b :: c :: news) v t := hl.mono fun p hp => by simp [hp]
theorem cell_off {g h : Heap} {L c : Addr} {oc : Obj} {x y : Addr × Obj} {tl news : List (Addr × Obj)} (_ : News g L h (tl ++ (c, oc) :: x :: y :: news)) (hf : Fresh tl ((c, oc) :: x :: y :: news)) : ∀ p ∈ tl, p.1 ≠ c := fun p hp => hf p hp (c, oc) (by simp)
theorem cell_old {g h : Heap} {L c x d : Addr} {oc ox od : Obj} {tl news : List (Addr × Obj)} (_ : News g L h (tl ++ (c, oc) :: (x, ox) :: (d, od) :: news)) (hx : (@LT.lt Nat _ x L) ∧ (@LT.lt Nat _ d L) ∧ AllLt L news) (e : c = L + 1) : ∀ p ∈ (x, ox) :: (d, od) :: news, p.1 ≠ c := fun p hp => by
  have hlt : @LT.lt Nat _ p.1 L := by
    rcases List.mem_cons.mp hp with rfl | hp
    · exact hx.1
    · rcases List.mem_cons.mp hp with rfl | hp
      · exact hx.2.1
      · exact ktn_ltOf hx.2.2 p hp
  rw [e]; exact Nat.ne_of_lt (Nat.lt_succ_of_lt hlt)
theorem once_keep {g h : Heap} {L I : Addr} {oI : Obj} {a1 a2 a3 t2 q a4 a5 a6 c x d : Addr × Obj} {tl4 tl3 tl1 news : List (Addr × Obj)} (N : News g L h (a1 :: a2 :: a3 :: (tl4 ++ (tl3 ++ t2 :: (I, oI) :: q :: a4 :: a5 :: a6 :: (tl1 ++ c :: x :: d :: news)))))
    (hI : ∀ p ∈ q :: a4 :: a5 :: a6 :: (tl1 ++ c :: x :: d :: news), @LT.lt Nat _ p.1 I) : News g L h ((I, oI) :: q :: c :: x :: d :: news) ∧ (∀ p ∈ q :: c :: x :: d :: news, p.1 ≠ I) := by
  refine ⟨News.sub N fun p hp => ?_, fun p hp => Nat.ne_of_lt (hI p ?_)⟩
  · simp only [List.mem_cons, List.mem_append] at hp ⊢
    rcases hp with h | h | h | h | h | h <;> simp [h]
  · simp only [List.mem_cons, List.mem_append] at hp ⊢
    rcases hp with h | h | h | h | h <;> simp [h]
noncomputable abbrev ruleD (w : World) (t1 t2 t3 t4 : Tok) (n : Str) (tn : Tok) (vl vr vd : Value) : Obj := dictOf [⟨PyData.keyHash w.params (Str.ofString "name"), .str (Str.ofString "name") t1, .str n tn⟩, ⟨PyData.keyHash w.params (Str.ofString "left"), .str (Str.ofString "left") t2, vl⟩,
  ⟨PyData.keyHash w.params (Str.ofString "right"), .str (Str.ofString "right") t3, vr⟩, ⟨PyData.keyHash w.params (Str.ofString "needs"), .str (Str.ofString "needs") t4, vd⟩] 4
/-- a rule of the ledger: its two sides -/
noncomputable def RuleIn (w : World) (q : Tr × Tr) (news : List (Addr × Obj)) (v : Value) : Prop :=
  ∃ x d t1 t2 t3 t4 n tn vl vr vd, v = .ref x ∧ (x, instObj 113 d) ∈ news ∧ (d, ruleD w t1 t2 t3 t4 n tn vl vr vd) ∈ news ∧ PIn news vl q.1 ∧ PIn news vr q.2
theorem RuleIn.mono {w : World} {q : Tr × Tr} {news news' : List (Addr × Obj)} {v : Value} (h : RuleIn w q news v) (hs : ∀ p ∈ news, p ∈ news') : RuleIn w q news' v := by
  obtain ⟨x, d, t1, t2, t3, t4, n, tn, vl, vr, vd, e, h1, h2, h3, h4⟩ := h
  exact ⟨x, d, t1, t2, t3, t4, n, tn, vl, vr, vd, e, hs _ h1, hs _ h2, h3.mono hs, h4.mono hs⟩
theorem RuleIn.elim {w : World} {q : Tr × Tr} {news : List (Addr × Obj)} {v : Value} {G : Value → Prop} (h : RuleIn w q news v) (k : ∀ x d t1 t2 t3 t4 n tn vl vr vd, (x, instObj 113 d) ∈ news → (d, ruleD w t1 t2 t3 t4 n tn vl vr vd) ∈ news → PIn news vl q.1 → PIn news vr q.2 → G (.ref x)) : G v := by
  obtain ⟨x, d, t1, t2, t3, t4, n, tn, vl, vr, vd, rfl, h1, h2, h3, h4⟩ := h
  exact k x d t1 t2 t3 t4 n tn vl vr vd h1 h2 h3 h4
noncomputable def RuleP (w : World) (q : Tr × Tr) (news : List (Addr × Obj)) (r : Value) (news' : List (Addr × Obj)) : Prop := ∃ tl, news' = tl ++ news ∧ Fresh tl news ∧ RuleIn w q (tl ++ news) r
theorem rule_fin {w : World} {g h : Heap} {L x d : Addr} {c : Addr × Obj} {t1 t2 t3 t4 tn : Tok} {n : Str} {vl vr vd : Value} {l r : Tr} {news : List (Addr × Obj)} (N : News g L h (c :: (x, instObj 113 d) :: (d, ruleD w t1 t2 t3 t4 n tn vl vr vd) :: news))
    (h1 : ∀ p ∈ news, @LT.lt Nat _ p.1 d) (h2 : @LT.lt Nat _ d x) (hl : PIn news vl l) (hr : PIn news vr r) : ∃ ns, News g L h ns ∧ RuleP w (l, r) news (.ref x) ns := by
  refine ⟨[(x, instObj 113 d), (d, ruleD w t1 t2 t3 t4 n tn vl vr vd)] ++ news, News.sub N (fun p hp => List.mem_cons_of_mem _ hp), [(x, instObj 113 d), (d, ruleD w t1 t2 t3 t4 n tn vl vr vd)], rfl, ?_, x, d, t1, t2, t3, t4, n, tn, vl, vr, vd, rfl, by simp, by simp, hl.mono (by intro p hp; simp [hp]), hr.mono (by intro p hp; simp [hp])⟩
  exact fresh_cons (fun q hq => Nat.lt_trans (h1 q hq) h2) (fresh_cons h1 Fresh.nil)
theorem one_str : ∀ {items : List Value} {ys : List Str}, StrsAre items ys → ∀ v ∈ items, ∃ y u, v = .str y u ∧ y ∈ ys
  | _, _, .nil, _, h => nomatch h
  | _, _, .cons y u r, v, h => by
    rcases List.mem_cons.mp h with rfl | h
    · exact ⟨y, u, rfl, List.mem_cons_self⟩
    · obtain ⟨y', u', e, hy⟩ := one_str r v h
      exact ⟨y', u', e, List.mem_cons_of_mem _ hy⟩
theorem two_strs {items items' : List Value} {ys ys' : List Str} (h : StrsAre items ys) (h' : StrsAre items' ys') : ∀ v ∈ items ++ items', ∃ y u, v = .str y u ∧ (y ∈ ys ∨ y ∈ ys') := fun v hv => by
  rcases List.mem_append.mp hv with hv | hv
  · obtain ⟨y, u, e, hy⟩ := one_str h v hv
    exact ⟨y, u, e, .inl hy⟩
  · obtain ⟨y, u, e, hy⟩ := one_str h' v hv
    exact ⟨y, u, e, .inr hy⟩
theorem rule_all (w : World) (mean : ExcName → Option Value) (mg mb : Str → Option Value) (nm : Str) (tk₀ : Tok) (vl vr : Value) (nd : Addr) (l r : Tr) (news : List (Addr × Obj)) (kn : Nat) (hl : PIn news vl l) (hr : PIn news vr r) (hn : (nd, tupO [] kn) ∈ news)
    (pl : l.pat) (pr : r.pat) (sl : l.size < 64) (sr : r.size < 64) (dl : l.dep ≤ 30) (dr : r.dep ≤ 30) (hv : l.isV = false) (hsub : ∀ x ∈ r.vars, x ∈ l.vars) :
    ConD w mean mg mb 113 200 [.str nm tk₀, vl, vr, .ref nd] news (RuleP w (l, r) news) := by
  unfold ConD
  k_fill
  intro dp un gd cn cs a' ccd cl outer A₀ base h₀ L m s Q E B F X N T' hkf hd hu hret
  k_dflt (refine' call_cls ?k1 ?k2 ?k3 ?k4 ?k5 ?k6 ?_; (case k1 => k_asm); (case k2 => k_asm); (case k3 => k_asm); (case k4 => k_is); (case k5 => k_is); (case k6 => k_is); intro x' d' h' F' N' l1 l2; (try k_lt l1); (try k_lt2 l2); (first | (refine' code_def (by k_asm) (by k_asm) (by k_asm) (by k_asm) (by k_asm) rfl rfl (by first | assumption | exact rfl) (by k_is) (by k_is) (by ktr_room) (by exact BindsTo.of_eq rfl) (by exact locs rfl) ?_ (by exact rfl) (by exact rfl) (by exact rfl) (by decide); k_whole; intro g8 L8 h8 FG8 F8 N8 B8 X8 T8; (try dsimp only); (try k_fold)) | (refine' code_defC (by k_asm) (by k_asm) (by k_asm) (by k_asm) (by k_asm) rfl rfl (by first | assumption | exact rfl) (by k_is) (by k_is) (by ktr_room) (by exact BindsTo.of_eq rfl) (by exact rfl) (by decide +kernel) ?_ (by exact rfl) (by exact rfl) (by exact rfl); k_whole; intro g8 L8 h8 tk8 cells8 FG8 F8 N8 Y8 B8 X8 T8 l8; (try k_lt l8); k_cells Y8; (try simp only [List.cons_append, List.nil_append] at N8); (try dsimp only); (try k_fold))))
  (repeat' (first | (k_unfold; (try dsimp only)) | ((with_reducible show wpAny _ _ (exec (Stmt.For (Expr.Tuple _ _ _) (Expr.Name _ _) _ _ _) _) _ _ _); (rename Fr _ _ _ _ => lF'); (with_unfolding_all refine' For_once lF' ?_); k_whole) | ((with_reducible show wpAny _ _ (compareOp _ (Value.ref _) (Value.ref _)) _ _ _); k_dflt (refine r_neNil (by k_asm) (by k_mem) (by k_mem) ?_ ?_)) | ((with_reducible show wpAny _ _ (call (Value.type "tuple") [Value.ref _]) _ _ _); k_dflt (refine call_tuple_tup (News.isTup (by k_asm) (by k_mem)) ?_)) | ((with_reducible show wpAny _ _ (exec (Stmt.Assign _ (Expr.ListComp _ _ _ _) _) _) _ _ _); k_here; k_dflt (refine z_Assign (by k_asm) (by rfl) (by with_unfolding_all rfl) (by rfl) (by decide) (by rfl) (by decide) (by rfl) (by rfl) ?_ (by intro _; rfl) (by intro _ _ _ _ _ n9 h9; first | exact own_name n9 h9 | exact own_tuple n9 h9))) | (k_here; (with_reducible show wpAny _ _ (binaryOp _ (Value.ref _) (Value.ref _)) _ _ _); k_dflt (refine r_addL (by k_asm) (by k_asm) (by k_mem) (by k_mem) (by (first | assumption | exact Nat.le_of_ble_eq_true rfl | omega | (simp only [List.length_cons, List.length_nil, List.length_append, List.length_map]; omega))) ?_); intro D9 h9 F9 N9 l9; (try simp only [List.nil_append, List.cons_append] at N9); (try k_lt l9)) | walk1 | (dsimp only; walk1) | (leave1; (try dsimp only))))
  (rename News _ _ _ _ => NN)
  have hl1 := pin3 NN hl
  k_dflt (refine' isvar_use (p := l) (news := []) hl1 pl ?vf3 ?vf4 ?vf5 NN ?vf7 ?vf8 ?vf9 ?vf10 ?_)
  case vf3 => k_asm
  case vf4 => k_asm
  case vf5 => k_asm
  case vf7 => k_asm
  case vf8 => exact rfl
  case vf9 => ktr_room
  case vf10 => (rw [units_under_make]; show un + 1 + 3 + 8 * 10 < cLine; omega)
  intro h9 tk9 F9 N9
  rw [hv]
  (repeat' (first | (k_unfold; (try dsimp only)) | ((with_reducible show wpAny _ _ (exec (Stmt.For (Expr.Tuple _ _ _) (Expr.Name _ _) _ _ _) _) _ _ _); (rename Fr _ _ _ _ => lF'); (with_unfolding_all refine' For_once lF' ?_); k_whole) | ((with_reducible show wpAny _ _ (compareOp _ (Value.ref _) (Value.ref _)) _ _ _); k_dflt (refine r_neNil (by k_asm) (by k_mem) (by k_mem) ?_ ?_)) | ((with_reducible show wpAny _ _ (call (Value.type "tuple") [Value.ref _]) _ _ _); k_dflt (refine call_tuple_tup (News.isTup (by k_asm) (by k_mem)) ?_)) | ((with_reducible show wpAny _ _ (exec (Stmt.Assign _ (Expr.ListComp _ _ _ _) _) _) _ _ _); k_here; k_dflt (refine z_Assign (by k_asm) (by rfl) (by with_unfolding_all rfl) (by rfl) (by decide) (by rfl) (by decide) (by rfl) (by rfl) ?_ (by intro _; rfl) (by intro _ _ _ _ _ n9 h9; first | exact own_name n9 h9 | exact own_tuple n9 h9))) | (k_here; (with_reducible show wpAny _ _ (binaryOp _ (Value.ref _) (Value.ref _)) _ _ _); k_dflt (refine r_addL (by k_asm) (by k_asm) (by k_mem) (by k_mem) (by (first | assumption | exact Nat.le_of_ble_eq_true rfl | omega | (simp only [List.length_cons, List.length_nil, List.length_append, List.length_map]; omega))) ?_); intro D9 h9 F9 N9 l9; (try simp only [List.nil_append, List.cons_append] at N9); (try k_lt l9)) | walk1 | (dsimp only; walk1) | (leave1; (try dsimp only))))
  k_dflt (refine' vars_use (t := l) hl (news₁ := _ :: _ :: _ :: news) ?vg1 pl sl dl ?vg3 ?vg4 ?vg5 N9 ?vg7 ?vg8 ?vg9 ?vg10 ?_)
  case vg1 => (intro p hp; simp [hp])
  case vg3 => k_asm
  case vg4 => k_asm
  case vg5 => k_asm
  case vg7 => k_asm
  case vg8 => exact rfl
  case vg9 => ktr_room
  case vg10 => (rw [units_under_make]; show un + 1 + 3 + 8 * (2 * l.dep + 30) < cLine; omega)
  intro tl1 L1 items1 ys1 n1 h1 d1 tk1 F1 N1 hf1 hL1 hs1 hm1 hz1
  (rename News _ _ _ _ => NC)
  have hc1 := cell_off NC hf1
  have hc2 := cell_old NC (by assumption) rfl
  (repeat' (first | (k_unfold; (try dsimp only)) | ((with_reducible show wpAny _ _ (exec (Stmt.For (Expr.Tuple _ _ _) (Expr.Name _ _) _ _ _) _) _ _ _); (rename Fr _ _ _ _ => lF'); (with_unfolding_all refine' For_once lF' ?_); k_whole) | ((with_reducible show wpAny _ _ (compareOp _ (Value.ref _) (Value.ref _)) _ _ _); k_dflt (refine r_neNil (by k_asm) (by k_mem) (by k_mem) ?_ ?_)) | ((with_reducible show wpAny _ _ (call (Value.type "tuple") [Value.ref _]) _ _ _); k_dflt (refine call_tuple_tup (News.isTup (by k_asm) (by k_mem)) ?_)) | ((with_reducible show wpAny _ _ (exec (Stmt.Assign _ (Expr.ListComp _ _ _ _) _) _) _ _ _); k_here; k_dflt (refine z_Assign (by k_asm) (by rfl) (by with_unfolding_all rfl) (by rfl) (by decide) (by rfl) (by decide) (by rfl) (by rfl) ?_ (by intro _; rfl) (by intro _ _ _ _ _ n9 h9; first | exact own_name n9 h9 | exact own_tuple n9 h9))) | (k_here; (with_reducible show wpAny _ _ (binaryOp _ (Value.ref _) (Value.ref _)) _ _ _); k_dflt (refine r_addL (by k_asm) (by k_asm) (by k_mem) (by k_mem) (by (first | assumption | exact Nat.le_of_ble_eq_true rfl | omega | (simp only [List.length_cons, List.length_nil, List.length_append, List.length_map]; omega))) ?_); intro D9 h9 F9 N9 l9; (try simp only [List.nil_append, List.cons_append] at N9); (try k_lt l9)) | walk1 | (dsimp only; walk1) | (leave1; (try dsimp only))))
  (rename News _ _ _ _ => NA)
  (rename Fr _ _ _ _ => FA)
  refine ⟨_, _, _, _, _, rfl, rfl, FA, NA, by k_mem, ?_⟩
  intro I2 oI2 h2 hI2 F2 N2
  (repeat' (first | (k_unfold; (try dsimp only)) | ((with_reducible show wpAny _ _ (exec (Stmt.For (Expr.Tuple _ _ _) (Expr.Name _ _) _ _ _) _) _ _ _); (rename Fr _ _ _ _ => lF'); (with_unfolding_all refine' For_once lF' ?_); k_whole) | ((with_reducible show wpAny _ _ (compareOp _ (Value.ref _) (Value.ref _)) _ _ _); k_dflt (refine r_neNil (by k_asm) (by k_mem) (by k_mem) ?_ ?_)) | ((with_reducible show wpAny _ _ (call (Value.type "tuple") [Value.ref _]) _ _ _); k_dflt (refine call_tuple_tup (News.isTup (by k_asm) (by k_mem)) ?_)) | ((with_reducible show wpAny _ _ (exec (Stmt.Assign _ (Expr.ListComp _ _ _ _) _) _) _ _ _); k_here; k_dflt (refine z_Assign (by k_asm) (by rfl) (by with_unfolding_all rfl) (by rfl) (by decide) (by rfl) (by decide) (by rfl) (by rfl) ?_ (by intro _; rfl) (by intro _ _ _ _ _ n9 h9; first | exact own_name n9 h9 | exact own_tuple n9 h9))) | (k_here; (with_reducible show wpAny _ _ (binaryOp _ (Value.ref _) (Value.ref _)) _ _ _); k_dflt (refine r_addL (by k_asm) (by k_asm) (by k_mem) (by k_mem) (by (first | assumption | exact Nat.le_of_ble_eq_true rfl | omega | (simp only [List.length_cons, List.length_nil, List.length_append, List.length_map]; omega))) ?_); intro D9 h9 F9 N9 l9; (try simp only [List.nil_append, List.cons_append] at N9); (try k_lt l9)) | walk1 | (dsimp only; walk1) | (leave1; (try dsimp only))))
  (rename News _ _ _ _ => ND)
  k_dflt (refine' vars_use (t := r) (v := vr) (news := news) hr ?vh1 pr sr dr ?vh3 ?vh4 ?vh5 ND ?vh7 ?vh8 ?vh9 ?vh10 ?_)
  case vh1 => (intro p hp; simp [hp])
  case vh3 => k_asm
  case vh4 => k_asm
  case vh5 => k_asm
  case vh7 => k_asm
  case vh8 => exact rfl
  case vh9 => ktr_room
  case vh10 => (rw [units_under_make]; show un + 1 + 3 + 8 * (2 * r.dep + 30) < cLine; omega)
  intro tl3 L3 items3 ys3 n3 h3 d3 tk3 F3 N3 hf3 hL3 hs3 hm3 hz3
  (repeat' (first | (k_unfold; (try dsimp only)) | ((with_reducible show wpAny _ _ (exec (Stmt.For (Expr.Tuple _ _ _) (Expr.Name _ _) _ _ _) _) _ _ _); (rename Fr _ _ _ _ => lF'); (with_unfolding_all refine' For_once lF' ?_); k_whole) | ((with_reducible show wpAny _ _ (compareOp _ (Value.ref _) (Value.ref _)) _ _ _); k_dflt (refine r_neNil (by k_asm) (by k_mem) (by k_mem) ?_ ?_)) | ((with_reducible show wpAny _ _ (call (Value.type "tuple") [Value.ref _]) _ _ _); k_dflt (refine call_tuple_tup (News.isTup (by k_asm) (by k_mem)) ?_)) | ((with_reducible show wpAny _ _ (exec (Stmt.Assign _ (Expr.ListComp _ _ _ _) _) _) _ _ _); k_here; k_dflt (refine z_Assign (by k_asm) (by rfl) (by with_unfolding_all rfl) (by rfl) (by decide) (by rfl) (by decide) (by rfl) (by rfl) ?_ (by intro _; rfl) (by intro _ _ _ _ _ n9 h9; first | exact own_name n9 h9 | exact own_tuple n9 h9))) | (k_here; (with_reducible show wpAny _ _ (binaryOp _ (Value.ref _) (Value.ref _)) _ _ _); k_dflt (refine r_addL (by k_asm) (by k_asm) (by k_mem) (by k_mem) (by (first | assumption | exact Nat.le_of_ble_eq_true rfl | omega | (simp only [List.length_cons, List.length_nil, List.length_append, List.length_map]; omega))) ?_); intro D9 h9 F9 N9 l9; (try simp only [List.nil_append, List.cons_append] at N9); (try k_lt l9)) | walk1 | (dsimp only; walk1) | (leave1; (try dsimp only))))
  k_dflt (refine' vars_use (t := r) (v := vr) (news := news) hr ?vi1 pr sr dr ?vi3 ?vi4 ?vi5 N3 ?vi7 ?vi8 ?vi9 ?vi10 ?_)
  case vi1 => (intro p hp; simp [hp])
  case vi3 => k_asm
  case vi4 => k_asm
  case vi5 => k_asm
  case vi7 => k_asm
  case vi8 => exact rfl
  case vi9 => ktr_room
  case vi10 => (rw [units_under_make]; show un + 1 + 3 + 8 * (2 * r.dep + 30) < cLine; omega)
  intro tl4 L4 items4 ys4 n4 h4 d4 tk4 F4 N4 hf4 hL4 hs4 hm4 hz4
  (repeat' (first | (k_unfold; (try dsimp only)) | ((with_reducible show wpAny _ _ (exec (Stmt.For (Expr.Tuple _ _ _) (Expr.Name _ _) _ _ _) _) _ _ _); (rename Fr _ _ _ _ => lF'); (with_unfolding_all refine' For_once lF' ?_); k_whole) | ((with_reducible show wpAny _ _ (compareOp _ (Value.ref _) (Value.ref _)) _ _ _); k_dflt (refine r_neNil (by k_asm) (by k_mem) (by k_mem) ?_ ?_)) | ((with_reducible show wpAny _ _ (call (Value.type "tuple") [Value.ref _]) _ _ _); k_dflt (refine call_tuple_tup (News.isTup (by k_asm) (by k_mem)) ?_)) | ((with_reducible show wpAny _ _ (exec (Stmt.Assign _ (Expr.ListComp _ _ _ _) _) _) _ _ _); k_here; k_dflt (refine z_Assign (by k_asm) (by rfl) (by with_unfolding_all rfl) (by rfl) (by decide) (by rfl) (by decide) (by rfl) (by rfl) ?_ (by intro _; rfl) (by intro _ _ _ _ _ n9 h9; first | exact own_name n9 h9 | exact own_tuple n9 h9))) | (k_here; (with_reducible show wpAny _ _ (binaryOp _ (Value.ref _) (Value.ref _)) _ _ _); k_dflt (refine r_addL (by k_asm) (by k_asm) (by k_mem) (by k_mem) (by (first | assumption | exact Nat.le_of_ble_eq_true rfl | omega | (simp only [List.length_cons, List.length_nil, List.length_append, List.length_map]; omega))) ?_); intro D9 h9 F9 N9 l9; (try simp only [List.nil_append, List.cons_append] at N9); (try k_lt l9)) | walk1 | (dsimp only; walk1) | (leave1; (try dsimp only))))
  (rename Fr _ _ _ _ => FB)
  (rename News _ _ _ _ => NB)
  refine ZSrc.lst rfl FB NB ⟨_, .inr List.mem_cons_self, rfl, _, rfl⟩ (by rw [sizeLine_eq, List.length_append]; omega) fun g => ?_
  refine z_none (by rfl) (by rfl) ⟨_, .inr List.mem_cons_self, rfl, _, rfl⟩ (items3 ++ items4) (fun v hv => ?_) ?_
  · obtain ⟨y, u, rfl, hy⟩ := two_strs hs3 hs4 v hv
    have hyk : (ys1.any (· == y)) = true := by
      rw [List.any_eq_true]
      refine ⟨y, (hm1 y).mpr (hsub y ?_), by simp⟩
      rcases hy with hy | hy
      · exact (hm3 y).mp hy
      · exact (hm4 y).mp hy
    intro I oI C oC D oD m₂ h tk hCC hx F' N' off ne
    refine wpAny_tests_one ?_
    (repeat' (first | (k_unfold; (try dsimp only)) | ((with_reducible show wpAny _ _ (exec (Stmt.For (Expr.Tuple _ _ _) (Expr.Name _ _) _ _ _) _) _ _ _); (rename Fr _ _ _ _ => lF'); (with_unfolding_all refine' For_once lF' ?_); k_whole) | ((with_reducible show wpAny _ _ (compareOp _ (Value.ref _) (Value.ref _)) _ _ _); k_dflt (refine r_neNil (by k_asm) (by k_mem) (by k_mem) ?_ ?_)) | ((with_reducible show wpAny _ _ (call (Value.type "tuple") [Value.ref _]) _ _ _); k_dflt (refine call_tuple_tup (News.isTup (by k_asm) (by k_mem)) ?_)) | ((with_reducible show wpAny _ _ (exec (Stmt.Assign _ (Expr.ListComp _ _ _ _) _) _) _ _ _); k_here; k_dflt (refine z_Assign (by k_asm) (by rfl) (by with_unfolding_all rfl) (by rfl) (by decide) (by rfl) (by decide) (by rfl) (by rfl) ?_ (by intro _; rfl) (by intro _ _ _ _ _ n9 h9; first | exact own_name n9 h9 | exact own_tuple n9 h9))) | (k_here; (with_reducible show wpAny _ _ (binaryOp _ (Value.ref _) (Value.ref _)) _ _ _); k_dflt (refine r_addL (by k_asm) (by k_asm) (by k_mem) (by k_mem) (by (first | assumption | exact Nat.le_of_ble_eq_true rfl | omega | (simp only [List.length_cons, List.length_nil, List.length_append, List.length_map]; omega))) ?_); intro D9 h9 F9 N9 l9; (try simp only [List.nil_append, List.cons_append] at N9); (try k_lt l9)) | walk1 | (dsimp only; walk1) | (leave1; (try dsimp only))))
    exact ⟨by rw [hyk]; rfl, _, _, rfl, F', N'⟩
  · unfold LCg.FinA
    intro DD hDD tDD FD ND2 offD
    (repeat' (first | (k_unfold; (try dsimp only)) | ((with_reducible show wpAny _ _ (exec (Stmt.For (Expr.Tuple _ _ _) (Expr.Name _ _) _ _ _) _) _ _ _); (rename Fr _ _ _ _ => lF'); (with_unfolding_all refine' For_once lF' ?_); k_whole) | ((with_reducible show wpAny _ _ (compareOp _ (Value.ref _) (Value.ref _)) _ _ _); k_dflt (refine r_neNil (by k_asm) (by k_mem) (by k_mem) ?_ ?_)) | ((with_reducible show wpAny _ _ (call (Value.type "tuple") [Value.ref _]) _ _ _); k_dflt (refine call_tuple_tup (News.isTup (by k_asm) (by k_mem)) ?_)) | ((with_reducible show wpAny _ _ (exec (Stmt.Assign _ (Expr.ListComp _ _ _ _) _) _) _ _ _); k_here; k_dflt (refine z_Assign (by k_asm) (by rfl) (by with_unfolding_all rfl) (by rfl) (by decide) (by rfl) (by decide) (by rfl) (by rfl) ?_ (by intro _; rfl) (by intro _ _ _ _ _ n9 h9; first | exact own_name n9 h9 | exact own_tuple n9 h9))) | (k_here; (with_reducible show wpAny _ _ (binaryOp _ (Value.ref _) (Value.ref _)) _ _ _); k_dflt (refine r_addL (by k_asm) (by k_asm) (by k_mem) (by k_mem) (by (first | assumption | exact Nat.le_of_ble_eq_true rfl | omega | (simp only [List.length_cons, List.length_nil, List.length_append, List.length_map]; omega))) ?_); intro D9 h9 F9 N9 l9; (try simp only [List.nil_append, List.cons_append] at N9); (try k_lt l9)) | walk1 | (dsimp only; walk1) | (leave1; (try dsimp only))))
    case refine_1 => (rw [units_deeper, units_under_make]; show un + 1 + 3 + 64 < cLine; omega)
    (repeat' (first | (k_unfold; (try dsimp only)) | ((with_reducible show wpAny _ _ (exec (Stmt.For (Expr.Tuple _ _ _) (Expr.Name _ _) _ _ _) _) _ _ _); (rename Fr _ _ _ _ => lF'); (with_unfolding_all refine' For_once lF' ?_); k_whole) | ((with_reducible show wpAny _ _ (compareOp _ (Value.ref _) (Value.ref _)) _ _ _); k_dflt (refine r_neNil (by k_asm) (by k_mem) (by k_mem) ?_ ?_)) | ((with_reducible show wpAny _ _ (call (Value.type "tuple") [Value.ref _]) _ _ _); k_dflt (refine call_tuple_tup (News.isTup (by k_asm) (by k_mem)) ?_)) | ((with_reducible show wpAny _ _ (exec (Stmt.Assign _ (Expr.ListComp _ _ _ _) _) _) _ _ _); k_here; k_dflt (refine z_Assign (by k_asm) (by rfl) (by with_unfolding_all rfl) (by rfl) (by decide) (by rfl) (by decide) (by rfl) (by rfl) ?_ (by intro _; rfl) (by intro _ _ _ _ _ n9 h9; first | exact own_name n9 h9 | exact own_tuple n9 h9))) | (k_here; (with_reducible show wpAny _ _ (binaryOp _ (Value.ref _) (Value.ref _)) _ _ _); k_dflt (refine r_addL (by k_asm) (by k_asm) (by k_mem) (by k_mem) (by (first | assumption | exact Nat.le_of_ble_eq_true rfl | omega | (simp only [List.length_cons, List.length_nil, List.length_append, List.length_map]; omega))) ?_); intro D9 h9 F9 N9 l9; (try simp only [List.nil_append, List.cons_append] at N9); (try k_lt l9)) | walk1 | (dsimp only; walk1) | (leave1; (try dsimp only))))
    (rename Fr _ _ _ _ => FE)
    (rename News _ _ _ _ => NE)
    obtain ⟨NE1, hE1⟩ := once_keep NE hI2
    refine OncePost.next FE NE1 _ (fun _ h => h) List.mem_cons_self hE1 ?_
    intro h6 tk6 F6 N6
    have N7 := News.sub N6 (fun p hp => List.mem_cons_of_mem _ hp)
    clear N6 NE1 hE1 NE FE offD hI2 hf4 hf3 hf1
    have hnd : ∀ p ∈ news, p.1 ≠ d' := fun p hp => Nat.ne_of_lt (l1 p hp)
    (repeat' (first | (k_unfold; (try dsimp only)) | ((with_reducible show wpAny _ _ (exec (Stmt.For (Expr.Tuple _ _ _) (Expr.Name _ _) _ _ _) _) _ _ _); (rename Fr _ _ _ _ => lF'); (with_unfolding_all refine' For_once lF' ?_); k_whole) | ((with_reducible show wpAny _ _ (compareOp _ (Value.ref _) (Value.ref _)) _ _ _); k_dflt (refine r_neNil (by k_asm) (by k_mem) (by k_mem) ?_ ?_)) | ((with_reducible show wpAny _ _ (call (Value.type "tuple") [Value.ref _]) _ _ _); k_dflt (refine call_tuple_tup (News.isTup (by k_asm) (by k_mem)) ?_)) | ((with_reducible show wpAny _ _ (exec (Stmt.Assign _ (Expr.ListComp _ _ _ _) _) _) _ _ _); k_here; k_dflt (refine z_Assign (by k_asm) (by rfl) (by with_unfolding_all rfl) (by rfl) (by decide) (by rfl) (by decide) (by rfl) (by rfl) ?_ (by intro _; rfl) (by intro _ _ _ _ _ n9 h9; first | exact own_name n9 h9 | exact own_tuple n9 h9))) | (k_here; (with_reducible show wpAny _ _ (binaryOp _ (Value.ref _) (Value.ref _)) _ _ _); k_dflt (refine r_addL (by k_asm) (by k_asm) (by k_mem) (by k_mem) (by (first | assumption | exact Nat.le_of_ble_eq_true rfl | omega | (simp only [List.length_cons, List.length_nil, List.length_append, List.length_map]; omega))) ?_); intro D9 h9 F9 N9 l9; (try simp only [List.nil_append, List.cons_append] at N9); (try k_lt l9)) | walk1 | (dsimp only; walk1) | (leave1; (try dsimp only))))
    (rename (Fr _ _ (Shared.heap _) _) => FZ)
    (rename (News _ _ (Shared.heap _) _) => NZ)
    obtain ⟨ns, NS, hR⟩ := rule_fin NZ l1 l2 hl hr
    exact hret _ _ _ _ _ FZ NS hR
noncomputable def Tr.patB : Tr → Bool
  | .n0 x => x == sTrue || x == sFalse || x == qA || x == qB || x == qC
  | .n1 _ a => a.patB
  | .n2 _ a b => a.patB && b.patB
  | .n3 _ _ _ _ => false
theorem Tr.pat_of : ∀ {t : Tr}, t.patB = true → t.pat
  | .n0 x, h => by simpa [Tr.patB, Tr.pat, or_assoc] using h
  | .n1 _ a, h => Tr.pat_of (t := a) h
  | .n2 _ a b, h => by
    simp only [Tr.patB, Bool.and_eq_true] at h
    exact ⟨Tr.pat_of h.1, Tr.pat_of h.2⟩
noncomputable def ruleOk (l r : Tr) : Bool := l.patB && r.patB && decide (l.size < 64) && decide (r.size < 64) && decide (l.dep ≤ 8) && decide (r.dep ≤ 8) && !l.isV && r.vars.all fun x => l.vars.any (· == x)
theorem rule_use {w : World} {mean : ExcName → Option Value} {mg mb : Str → Option Value} {l r : Tr} {nm : Str} {tk₀ : Tok} {vl vr : Value} {nd : Addr} {kn : Nat} {news : List (Addr × Obj)}
    {dp un : Nat} {gd : Option (List Code)} {cn : Str} {cs : Scope} {a : Addr} {ccd : Value} {cl : List (Str × Addr)} {outer : List Env} {A₀ : Around} {base h₀ : Heap} {L : Addr} {m : Str → Option Value} {s : Shared} {Q E : Value → Shared → Prop}
    (hl : PIn news vl l) (hr : PIn news vr r) (hn : (nd, tupO [] kn) ∈ news) (ok : ruleOk l r = true)
    (B : Below A₀ base outer h₀) (F : Fr h₀ L s.heap m) (X : (hd.heap_1 w.params).In h₀) (N : News h₀ L s.heap news) (T' : Top hd.view_39 lse mean mg mb h₀) (hk : cs.kind = .function) (hd : dp + 200 < recursionLimit) (hu : un + 8 * 200 < cLine)
    (ret : ∀ tl r' h' d' tk', Fr h₀ L h' m → News h₀ L h' (tl ++ news) → Fresh tl news → RuleIn w (l, r) (tl ++ news) r' → Q r' { s with heap := h', drawn := d', toks := tk' }) :
    wpAny (model PySem.Challenge.rw_sa0020_01.row.toRowW.prog w) (ktrTop dp un gd cn cs L a ccd cl outer) (call (.ref 113) [.str nm tk₀, vl, vr, .ref nd]) Q E s := by
  simp only [ruleOk, Bool.and_eq_true, decide_eq_true_eq, Bool.not_eq_true', List.all_eq_true, List.any_eq_true, beq_iff_eq] at ok
  obtain ⟨⟨⟨⟨⟨⟨⟨p1, p2⟩, s1⟩, s2⟩, d1⟩, d2⟩, hv⟩, hsub⟩ := ok
  refine rule_all w mean mg mb nm tk₀ vl vr nd l r news kn hl hr hn (Tr.pat_of p1) (Tr.pat_of p2) s1 s2 (by omega) (by omega) hv (fun x hx => ?_) _ _ _ _ _ _ _ _ _ _ _ _ _ _ _ _ _ B F X N T' hk hd hu fun r news' h' d' tk' F' N' hP => ?_
  · obtain ⟨y, hy, rfl⟩ := hsub x hx
    exact hy
  · obtain ⟨tl, rfl, h1, h2⟩ := hP
    exact ret _ _ _ _ _ F' N' h1 h2
end
section
example : True := by (w_top off); trivial
open PySem PySem.W PyProof.Rows PySem.Spec PySem.Calls
noncomputable abbrev vA : Tr := .n0 qA
noncomputable abbrev vB : Tr := .n0 qB
noncomputable abbrev vC : Tr := .n0 qC
noncomputable def lawsOf (op unit : Str) : List (Tr × Tr) := [(.n2 op vA vB, .n2 op vB vA), (.n2 op (.n2 op vA vB) vC, .n2 op vA (.n2 op vB vC)), (.n2 op vA (.n0 unit), vA)]
noncomputable def RulesP (w : World) (qs : List (Tr × Tr)) (news : List (Addr × Obj)) (r : Value) (news' : List (Addr × Obj)) : Prop :=
  ∃ tl L items n, news' = tl ++ news ∧ Fresh tl news ∧ r = .ref L ∧ (L, lstO items n) ∈ tl ∧ All2 (RuleIn w) (tl ++ news) items qs
theorem nv_dec {op : Str} (h : (op != qA && op != qB && op != qC) = true) : notVar op := by
  simp only [Bool.and_eq_true, bne_iff_ne, ne_eq] at h
  exact ⟨h.1.1, h.1.2, h.2⟩
theorem fresh_consB {D : Addr} {o : Obj} {xs base : List (Addr × Obj)} (h : AllLt D base) (k : Fresh xs base) : Fresh ((D, o) :: xs) base := fresh_cons (ktn_ltOf h) k
theorem All2.app {β : Type} {R : β → List (Addr × Obj) → Value → Prop} {l : List (Addr × Obj)} {vs vs' : List Value} {bs bs' : List β} (h : All2 R l vs bs) (h' : All2 R l vs' bs') : All2 R l (vs ++ vs') (bs ++ bs') := by
  induction h with
  | nil => exact h'
  | cons y _ ih => exact .cons y ih
section
variable {w : World} {mean : ExcName → Option Value} {mg mb : Str → Option Value} {dp un : Nat} {gd : Option (List Code)} {cn : Str} {cs : Scope} {a : Addr} {ccd : Value} {cl : List (Str × Addr)} {outer : List Env} {h₀ : Heap} {L : Addr} {m : Str → Option Value} {E : Value → Shared → Prop} {base : List (Addr × Obj)}
/-- e is worth the value v at every place of the frame -/
noncomputable def NX (w : World) (dp un : Nat) (gd : Option (List Code)) (cn : Str) (cs : Scope) (a : Addr) (ccd : Value) (cl : List (Str × Addr)) (outer : List Env) (h₀ : Heap) (L : Addr) (m : Str → Option Value) (E : Value → Shared → Prop) (e : Expr) (P : Value → Prop) : Prop :=
  (∀ rest, starEach (e :: rest) (envX cn cs L a ccd cl) = (false, eval e (envX cn cs L a ccd cl)) :: starEach rest (envX cn cs L a ccd cl)) ∧
  ∀ {s : Shared} {Q : Value → Shared → Prop}, Fr h₀ L s.heap m → (∀ v tk, P v → Q v { s with toks := tk }) → wpAny (model PySem.Challenge.rw_sa0020_01.row.toRowW.prog w) (ktrTop dp un gd cn cs L a ccd cl outer) (eval e (envX cn cs L a ccd cl)) Q E s
/-- e makes the term t -/
noncomputable def EX (w : World) (dp un : Nat) (gd : Option (List Code)) (cn : Str) (cs : Scope) (a : Addr) (ccd : Value) (cl : List (Str × Addr)) (outer : List Env) (h₀ : Heap) (L : Addr) (m : Str → Option Value) (E : Value → Shared → Prop) (base : List (Addr × Obj)) (e : Expr) (t : Tr) : Prop :=
  (∀ rest, starEach (e :: rest) (envX cn cs L a ccd cl) = (false, eval e (envX cn cs L a ccd cl)) :: starEach rest (envX cn cs L a ccd cl)) ∧
  ∀ {s : Shared} {news : List (Addr × Obj)} {Q : Value → Shared → Prop}, Fr h₀ L s.heap m → News h₀ L s.heap news → (∀ p ∈ base, p ∈ news) →
    (∀ tl v h' tk', Fr h₀ L h' m → News h₀ L h' (tl ++ news) → Fresh tl news → PIn (tl ++ news) v t → Q v { s with heap := h', toks := tk' }) →
    wpAny (model PySem.Challenge.rw_sa0020_01.row.toRowW.prog w) (ktrTop dp un gd cn cs L a ccd cl outer) (eval e (envX cn cs L a ccd cl)) Q E s
theorem NX.const {op : Str} {k : Nat} {p : Pos} : NX w dp un gd cn cs a ccd cl outer h₀ L m E (.Constant (.str op) k p) (fun v => ∃ tk, v = .str op tk) :=
  ⟨fun _ => rfl, fun _ h => Constant_str (h _ _ ⟨_, rfl⟩)⟩
theorem EX.name {e : Expr} {t : Tr} {v : Value} (h : NX w dp un gd cn cs a ccd cl outer h₀ L m E e (fun x => x = v)) (hP : PIn base v t) : EX w dp un gd cn cs a ccd cl outer h₀ L m E base e t :=
  ⟨h.1, fun F N hs hQ => h.2 F fun v' tk e => by
    subst e
    have := hQ [] v' _ tk F N Fresh.nil (hP.mono hs)
    exact this⟩
theorem EX.n0 {o : Expr} {op : Str} {k : Nat} {p : Pos} (ho : NX w dp un gd cn cs a ccd cl outer h₀ L m E o (fun v => ∃ tk, v = .str op tk)) (hv : notVar op) : EX w dp un gd cn cs a ccd cl outer h₀ L m E base (.Tuple [o] k p) (.n0 op) :=
  ⟨fun _ => rfl, fun F N hs hQ => Tuple_ (args_cons (he := ho.1 _) (ho.2 F fun v tk ⟨t, e⟩ => args_nil (by
    subst e
    exact kup_newTuple F N (fun D h' F' N' l1 => hQ [(D, _)] _ _ _ F' N' (Fresh.one l1) (.n0 (tk := t) (n := 0) hv List.mem_cons_self)) (Nat.le_of_ble_eq_true rfl))))⟩
theorem EX.n1 {o e1 : Expr} {t1 : Tr} {op : Str} {k : Nat} {p : Pos} (ho : NX w dp un gd cn cs a ccd cl outer h₀ L m E o (fun v => ∃ tk, v = .str op tk)) (hv : notVar op) (h1 : EX w dp un gd cn cs a ccd cl outer h₀ L m E base e1 t1) :
    EX w dp un gd cn cs a ccd cl outer h₀ L m E base (.Tuple [o, e1] k p) (.n1 op t1) :=
  ⟨fun _ => rfl, fun F N hs hQ => Tuple_ (args_cons (he := ho.1 _) (ho.2 F fun v tk ⟨t, e⟩ => args_cons (he := h1.1 _) (h1.2 F N hs fun tl1 v1 h' tk' F1 N1 f1 P1 => args_nil (by
    subst e
    exact kup_newTuple F1 N1 (fun D h' F' N' l1 => hQ ((D, _) :: tl1) _ _ _ F' N' (fresh_cons (fun q hq => l1 q (List.mem_append_right _ hq)) f1) (.n1 (tk := t) (n := 0) hv List.mem_cons_self (P1.mono fun p hp => List.mem_cons_of_mem _ hp))) (Nat.le_of_ble_eq_true rfl)))))⟩
theorem EX.n2 {o e1 e2 : Expr} {t1 t2 : Tr} {op : Str} {k : Nat} {p : Pos} (ho : NX w dp un gd cn cs a ccd cl outer h₀ L m E o (fun v => ∃ tk, v = .str op tk)) (hv : notVar op) (h1 : EX w dp un gd cn cs a ccd cl outer h₀ L m E base e1 t1) (h2 : EX w dp un gd cn cs a ccd cl outer h₀ L m E base e2 t2) :
    EX w dp un gd cn cs a ccd cl outer h₀ L m E base (.Tuple [o, e1, e2] k p) (.n2 op t1 t2) :=
  ⟨fun _ => rfl, fun F N hs hQ => Tuple_ (args_cons (he := ho.1 _) (ho.2 F fun v tk ⟨t, e⟩ => args_cons (he := h1.1 _) (h1.2 F N hs fun tl1 v1 h' tk' F1 N1 f1 P1 => args_cons (he := h2.1 _) (h2.2 F1 N1 (fun p hp => List.mem_append_right _ (hs p hp)) fun tl2 v2 h'' tk'' F2 N2 f2 P2 => args_nil (by
    subst e
    exact kup_newTuple F2 N2 (fun D h3 F' N' l1 => hQ ((D, _) :: (tl2 ++ tl1)) _ _ _ F' (by simpa using N') (fresh_cons (fun q hq => l1 q (List.mem_append_right _ (List.mem_append_right _ hq))) ((f2.sub fun q hq => List.mem_append_right _ hq).app f1)) (.n2 (tk := t) (n := 0) hv List.mem_cons_self (P1.mono fun p hp => by simp only [List.cons_append, List.append_assoc, List.mem_cons, List.mem_append] at hp ⊢; rcases hp with h | h <;> simp [h]) (P2.mono fun p hp => by simp only [List.cons_append, List.append_assoc, List.mem_cons, List.mem_append] at hp ⊢; rcases hp with h | h | h <;> simp [h]))) (Nat.le_of_ble_eq_true rfl))))))⟩
/-- e makes the rule q -/
noncomputable def RX (w : World) (dp un : Nat) (gd : Option (List Code)) (cn : Str) (cs : Scope) (a : Addr) (ccd : Value) (cl : List (Str × Addr)) (outer : List Env) (h₀ : Heap) (L : Addr) (m : Str → Option Value) (E : Value → Shared → Prop) (base : List (Addr × Obj)) (e : Expr) (q : Tr × Tr) : Prop :=
  (∀ rest, starEach (e :: rest) (envX cn cs L a ccd cl) = (false, eval e (envX cn cs L a ccd cl)) :: starEach rest (envX cn cs L a ccd cl)) ∧
  ∀ {s : Shared} {news : List (Addr × Obj)} {Q : Value → Shared → Prop}, Fr h₀ L s.heap m → News h₀ L s.heap news → (∀ p ∈ base, p ∈ news) →
    (∀ tl v h' d' tk', Fr h₀ L h' m → News h₀ L h' (tl ++ news) → Fresh tl news → RuleIn w q (tl ++ news) v → Q v { s with heap := h', drawn := d', toks := tk' }) →
    wpAny (model PySem.Challenge.rw_sa0020_01.row.toRowW.prog w) (ktrTop dp un gd cn cs L a ccd cl outer) (eval e (envX cn cs L a ccd cl)) Q E s
inductive L2 (R : Expr → Tr × Tr → Prop) : List Expr → List (Tr × Tr) → Prop where
  | nil : L2 R [] []
  | cons {e : Expr} {q : Tr × Tr} {es : List Expr} {qs : List (Tr × Tr)} : R e q → L2 R es qs → L2 R (e :: es) (q :: qs)
theorem RX.mk {A₀ : Around} {bs : Heap} (B : Below A₀ bs outer h₀) (X : (hd.heap_1 w.params).In h₀) (T' : Top hd.view_39 lse mean mg mb h₀) (hk : cs.kind = .function) (hK : keepIn (hd.heap_1 w.params) (.ref 113) = true) (hd' : dp + 200 < recursionLimit) (hu : un + 8 * 200 < cLine)
    {x : Str} {en eL eR : Expr} {l r : Tr} {p1 p2 p3 : Pos} {k : Nat} (hR : NX w dp un gd cn cs a ccd cl outer h₀ L m E (.Name x p1) (fun v => v = .ref 113)) (hn : NX w dp un gd cn cs a ccd cl outer h₀ L m E en (fun v => ∃ nm tk, v = .str nm tk))
    (hL : EX w dp un gd cn cs a ccd cl outer h₀ L m E base eL l) (hRr : EX w dp un gd cn cs a ccd cl outer h₀ L m E base eR r) (ok : ruleOk l r = true) :
    RX w dp un gd cn cs a ccd cl outer h₀ L m E base (.Call (.Name x p1) [en, eL, eR, .Tuple [] k p2] [] p3) (l, r) :=
  ⟨fun _ => rfl, fun {s news Q} F N hs hQ => Call_ (he := by rfl) (hR.2 F fun v tk e => by
    subst e
    refine callWith_K (he := hn.1 _) (hplain := by rw [hL.1, hRr.1]; rfl) X hK (args_cons (he := hn.1 _) (hn.2 F fun v tk ⟨nm, t, e⟩ => args_cons (he := hL.1 _) (hL.2 F N hs fun tl1 v1 h' tk' F1 N1 f1 P1 => args_cons (he := hRr.1 _) (hRr.2 F1 N1 (fun p hp => List.mem_append_right _ (hs p hp)) fun tl2 v2 h'' tk'' F2 N2 f2 P2 => args_cons (he := by rfl) (Tuple_ (args_nil (kup_newTuple F2 N2 (fun D h3 F3 N3 l3 => args_nil ⟨Frag.In.keeps X (Fr.keep F3), ?_⟩) (Nat.le_of_ble_eq_true rfl))))))))
    subst e
    refine rule_use (kn := 0) (P1.mono fun p hp => List.mem_cons_of_mem _ (List.mem_append_right _ hp)) (P2.mono fun p hp => List.mem_cons_of_mem _ hp) List.mem_cons_self ok B F3 X N3 T' hk hd' hu fun tl3 v3 h4 d4 tk4 F4 N4 f4 R4 => ?_
    have e : tl3 ++ ((D, tupO [] 0) :: (tl2 ++ (tl1 ++ news))) = (tl3 ++ ((D, tupO [] 0) :: (tl2 ++ tl1))) ++ news := by simp only [List.append_assoc, List.cons_append]
    have e4 : News h₀ L h4 ((tl3 ++ ((D, tupO [] 0) :: (tl2 ++ tl1))) ++ news) := by rw [← e]; exact N4
    refine hQ _ _ _ _ _ F4 e4 ((f4.sub fun q hq => by simp [hq]).app (fresh_cons (fun q hq => l3 q (by simp [hq])) ((f2.sub fun q hq => by simp [hq]).app f1))) ?_
    rw [← e]; exact R4)⟩
theorem list_eval {es : List Expr} {qs : List (Tr × Tr)} {pos : Pos} (H : L2 (RX w dp un gd cn cs a ccd cl outer h₀ L m E base) es qs) : ∀ {s : Shared} {news : List (Addr × Obj)} {Q : List Value → Shared → Prop}, Fr h₀ L s.heap m → News h₀ L s.heap news → (∀ p ∈ base, p ∈ news) →
    (∀ tl vs h' d' tk', Fr h₀ L h' m → News h₀ L h' (tl ++ news) → Fresh tl news → All2 (RuleIn w) (tl ++ news) vs qs → Q vs { s with heap := h', drawn := d', toks := tk' }) →
    wpAny (model PySem.Challenge.rw_sa0020_01.row.toRowW.prog w) (ktrTop dp un gd cn cs L a ccd cl outer) (spliced (backTo pos (starEach es (envX cn cs L a ccd cl)))) Q E s := by
  induction H with
  | nil => exact fun {s news Q} F N hs hQ => args_nil (hQ [] [] s.heap s.drawn s.toks F N Fresh.nil .nil)
  | cons x _ ih =>
    exact fun {s news Q} F N hs hQ => args_cons (he := x.1 _) (x.2 F N hs fun tl v h' d' tk' F1 N1 f1 R1 => ih F1 N1 (fun p hp => List.mem_append_right _ (hs p hp)) fun tl2 vs h2 d2 tk2 F2 N2 f2 R2 => by
      rw [← List.append_assoc] at N2 R2
      refine hQ (tl2 ++ tl) (v :: vs) _ _ _ F2 N2 ((f2.sub fun q hq => List.mem_append_right _ hq).app f1) (.cons (R1.mono fun p hp => ?_) R2)
      rw [List.append_assoc]; exact List.mem_append_right _ hp)
theorem rules_list {es : List Expr} {qs : List (Tr × Tr)} {pos : Pos} (H : L2 (RX w dp un gd cn cs a ccd cl outer h₀ L m E base) es qs) (hl : qs.length ≤ 1000) {s : Shared} {news : List (Addr × Obj)} {Q : Value → Shared → Prop} (F : Fr h₀ L s.heap m) (N : News h₀ L s.heap news) (hs : ∀ p ∈ base, p ∈ news)
    (hQ : ∀ tl LL items n h' d' tk', Fr h₀ L h' m → News h₀ L h' (tl ++ news) → Fresh tl news → (LL, lstO items n) ∈ tl → All2 (RuleIn w) (tl ++ news) items qs → Q (.ref LL) { s with heap := h', drawn := d', toks := tk' }) :
    wpAny (model PySem.Challenge.rw_sa0020_01.row.toRowW.prog w) (ktrTop dp un gd cn cs L a ccd cl outer) (eval (.List es pos) (envX cn cs L a ccd cl)) Q E s :=
  List_ (list_eval H F N hs fun tl vs h' d' tk' F1 N1 f1 R1 => newList_K F1 N1 (fun D h2 F2 N2 l2 => hQ ((D, lstO vs 0) :: tl) D vs 0 _ _ _ F2 N2 (fresh_cons (fun q hq => l2 q (List.mem_append_right _ hq)) f1) List.mem_cons_self (R1.mono fun b v hb => hb.mono fun p hp => List.mem_cons_of_mem _ hp)) (by rw [R1.length, sizeLine_eq]; omega))
theorem with_names {A₀ : Around} {bs : Heap} (B : Below A₀ bs outer h₀) (X : (hd.heap_1 w.params).In h₀) (T' : Top hd.view_39 lse mean mg mb h₀) (hk : cs.kind = .function) (hK : keepIn (hd.heap_1 w.params) (.ref 113) = true) (hd' : dp + 200 < recursionLimit) (hu : un + 8 * 200 < cLine) {es : List Expr} {qs : List (Tr × Tr)} {dT dF : Addr}
    (hR : ∀ p, NX w dp un gd cn cs a ccd cl outer h₀ L m E (.Name (Str.ofString "Rule") p) (fun v => v = .ref 113)) (hA : ∀ p, NX w dp un gd cn cs a ccd cl outer h₀ L m E (.Name (Str.ofString "A") p) (fun v => v = .ref 118)) (hB : ∀ p, NX w dp un gd cn cs a ccd cl outer h₀ L m E (.Name (Str.ofString "B") p) (fun v => v = .ref 119))
    (hC : ∀ p, NX w dp un gd cn cs a ccd cl outer h₀ L m E (.Name (Str.ofString "C") p) (fun v => v = .ref 120)) (hT : ∀ p, NX w dp un gd cn cs a ccd cl outer h₀ L m E (.Name (Str.ofString "true") p) (fun v => v = .ref dT)) (hF : ∀ p, NX w dp un gd cn cs a ccd cl outer h₀ L m E (.Name (Str.ofString "false") p) (fun v => v = .ref dF))
    (pT : PIn base (.ref dT) (.n0 sTrue)) (pF : PIn base (.ref dF) (.n0 sFalse))
    (H : (∀ {en eL eR : Expr} {l r : Tr} {p1 p2 p3 : Pos} {k : Nat}, NX w dp un gd cn cs a ccd cl outer h₀ L m E en (fun v => ∃ nm tk, v = .str nm tk) → EX w dp un gd cn cs a ccd cl outer h₀ L m E base eL l → EX w dp un gd cn cs a ccd cl outer h₀ L m E base eR r → ruleOk l r = true → RX w dp un gd cn cs a ccd cl outer h₀ L m E base (.Call (.Name (Str.ofString "Rule") p1) [en, eL, eR, .Tuple [] k p2] [] p3) (l, r)) →
      (∀ p, EX w dp un gd cn cs a ccd cl outer h₀ L m E base (.Name (Str.ofString "A") p) vA) → (∀ p, EX w dp un gd cn cs a ccd cl outer h₀ L m E base (.Name (Str.ofString "B") p) vB) → (∀ p, EX w dp un gd cn cs a ccd cl outer h₀ L m E base (.Name (Str.ofString "C") p) vC) →
      (∀ p, EX w dp un gd cn cs a ccd cl outer h₀ L m E base (.Name (Str.ofString "true") p) (.n0 sTrue)) → (∀ p, EX w dp un gd cn cs a ccd cl outer h₀ L m E base (.Name (Str.ofString "false") p) (.n0 sFalse)) → L2 (RX w dp un gd cn cs a ccd cl outer h₀ L m E base) es qs) : L2 (RX w dp un gd cn cs a ccd cl outer h₀ L m E base) es qs :=
  H (fun hn hL hr ok => RX.mk B X T' hk hK hd' hu (hR _) hn hL hr ok) (fun p => EX.name (hA p) .va) (fun p => EX.name (hB p) .vb) (fun p => EX.name (hC p) .vc) (fun p => EX.name (hT p) pT) (fun p => EX.name (hF p) pF)
theorem NX.const' {op : Str} {k : Nat} {p : Pos} : NX w dp un gd cn cs a ccd cl outer h₀ L m E (.Constant (.str op) k p) (fun v => ∃ nm tk, v = .str nm tk) :=
  ⟨fun _ => rfl, fun _ h => Constant_str (h _ _ ⟨_, _, rfl⟩)⟩
theorem with_laws {A₀ : Around} {bs : Heap} (B : Below A₀ bs outer h₀) (X : (hd.heap_1 w.params).In h₀) (T' : Top hd.view_39 lse mean mg mb h₀) (hk : cs.kind = .function) (hK : keepIn (hd.heap_1 w.params) (.ref 113) = true) (hd' : dp + 200 < recursionLimit) (hu : un + 8 * 200 < cLine) {es : List Expr} {qs : List (Tr × Tr)} {op unit : Str}
    (hR : ∀ p, NX w dp un gd cn cs a ccd cl outer h₀ L m E (.Name (Str.ofString "Rule") p) (fun v => v = .ref 113)) (hA : ∀ p, NX w dp un gd cn cs a ccd cl outer h₀ L m E (.Name (Str.ofString "A") p) (fun v => v = .ref 118)) (hB : ∀ p, NX w dp un gd cn cs a ccd cl outer h₀ L m E (.Name (Str.ofString "B") p) (fun v => v = .ref 119))
    (hC : ∀ p, NX w dp un gd cn cs a ccd cl outer h₀ L m E (.Name (Str.ofString "C") p) (fun v => v = .ref 120)) (hO : ∀ p, NX w dp un gd cn cs a ccd cl outer h₀ L m E (.Name (Str.ofString "op") p) (fun v => ∃ tk, v = .str op tk)) (hU : ∀ p, NX w dp un gd cn cs a ccd cl outer h₀ L m E (.Name (Str.ofString "unit") p) (fun v => ∃ tk, v = .str unit tk))
    (H : (∀ {en eL eR : Expr} {l r : Tr} {p1 p2 p3 : Pos} {k : Nat}, NX w dp un gd cn cs a ccd cl outer h₀ L m E en (fun v => ∃ nm tk, v = .str nm tk) → EX w dp un gd cn cs a ccd cl outer h₀ L m E base eL l → EX w dp un gd cn cs a ccd cl outer h₀ L m E base eR r → ruleOk l r = true → RX w dp un gd cn cs a ccd cl outer h₀ L m E base (.Call (.Name (Str.ofString "Rule") p1) [en, eL, eR, .Tuple [] k p2] [] p3) (l, r)) →
      (∀ p, EX w dp un gd cn cs a ccd cl outer h₀ L m E base (.Name (Str.ofString "A") p) vA) → (∀ p, EX w dp un gd cn cs a ccd cl outer h₀ L m E base (.Name (Str.ofString "B") p) vB) → (∀ p, EX w dp un gd cn cs a ccd cl outer h₀ L m E base (.Name (Str.ofString "C") p) vC) →
      (∀ p, NX w dp un gd cn cs a ccd cl outer h₀ L m E (.Name (Str.ofString "op") p) (fun v => ∃ tk, v = .str op tk)) → (∀ p, NX w dp un gd cn cs a ccd cl outer h₀ L m E (.Name (Str.ofString "unit") p) (fun v => ∃ tk, v = .str unit tk)) → L2 (RX w dp un gd cn cs a ccd cl outer h₀ L m E base) es qs) : L2 (RX w dp un gd cn cs a ccd cl outer h₀ L m E base) es qs :=
  H (fun hn hL hr ok => RX.mk B X T' hk hK hd' hu (hR _) hn hL hr ok) (fun p => EX.name (hA p) .va) (fun p => EX.name (hB p) .vb) (fun p => EX.name (hC p) .vc) hO hU
end
theorem laws_and (w : World) (mean : ExcName → Option Value) (mg mb : Str → Option Value) (tk1 tk2 : Tok) (news : List (Addr × Obj)) :
    ConD w mean mg mb 138 210 [.str sAnd tk1, .str sTrue tk2] news (RulesP w (lawsOf sAnd sTrue) news) := by
  unfold ConD
  k_fill
  intro dp un gd cn cs a' ccd cl outer A₀ base h₀ L m s Q E B F X N T' hkf hd hu hret
  have hv : notVar sAnd := nv_dec (by decide +kernel)
  have hvu : notVar sTrue := nv_dec (by decide +kernel)
  refine wpAny_call ?_
  k_dflt (first | (refine' code_def (by k_asm) (by k_asm) (by k_asm) (by k_asm) (by k_asm) rfl rfl (by first | assumption | exact rfl) (by k_is) (by k_is) (by ktr_room) (by exact BindsTo.of_eq rfl) (by exact locs rfl) ?_ (by exact rfl) (by exact rfl) (by exact rfl) (by decide); k_whole; intro g8 L8 h8 FG8 F8 N8 B8 X8 T8; (try dsimp only); (try k_fold)) | (refine' code_defC (by k_asm) (by k_asm) (by k_asm) (by k_asm) (by k_asm) rfl rfl (by first | assumption | exact rfl) (by k_is) (by k_is) (by ktr_room) (by exact BindsTo.of_eq rfl) (by exact rfl) (by decide +kernel) ?_ (by exact rfl) (by exact rfl) (by exact rfl); k_whole; intro g8 L8 h8 tk8 cells8 FG8 F8 N8 Y8 B8 X8 T8 l8; (try k_lt l8); k_cells Y8; (try simp only [List.cons_append, List.nil_append] at N8); (try dsimp only); (try k_fold)))
  iterate 3 (first | (k_unfold; (try dsimp only)) | walk1 | (dsimp only; walk1))
  try dsimp only
  k_dflt (refine' rules_list (base := news) (qs := lawsOf sAnd sTrue) (with_laws (op := sAnd) (unit := sTrue) ?nB ?nX ?nT ?nk ?nK ?nd ?nu ?nR ?nA ?nBB ?nC ?nO ?nU (fun R rA rB rC rO rU => .cons (R ?j1 (EX.n2 (rO _) hv (rA _) (rB _)) (EX.n2 (rO _) hv (rB _) (rA _)) ?o1) (.cons (R ?j2 (EX.n2 (rO _) hv (EX.n2 (rO _) hv (rA _) (rB _)) (rC _)) (EX.n2 (rO _) hv (rA _) (EX.n2 (rO _) hv (rB _) (rC _))) ?o2) (.cons (R ?j3 (EX.n2 (rO _) hv (rA _) (EX.n0 (rU _) hvu)) (rA _) ?o3) .nil)))) ?nl ?nFF ?nNN (fun _ h => h) ?_)
  case nFF => k_asm
  case nNN => k_asm
  case nB => k_asm
  case nX => k_asm
  case nT => k_asm
  case nk => exact rfl
  case nK => k_is
  case nd => ktr_room
  case nu => ktr_units
  case nR => (intro p; refine ⟨fun _ => rfl, ?_⟩; intro s9 Q9 F9 h9; (repeat' (first | (k_unfold; (try dsimp only)) | walk1 | (dsimp only; walk1) | (leave1; (try dsimp only)))); exact h9 _ _ rfl)
  case nA => (intro p; refine ⟨fun _ => rfl, ?_⟩; intro s9 Q9 F9 h9; (repeat' (first | (k_unfold; (try dsimp only)) | walk1 | (dsimp only; walk1) | (leave1; (try dsimp only)))); exact h9 _ _ rfl)
  case nBB => (intro p; refine ⟨fun _ => rfl, ?_⟩; intro s9 Q9 F9 h9; (repeat' (first | (k_unfold; (try dsimp only)) | walk1 | (dsimp only; walk1) | (leave1; (try dsimp only)))); exact h9 _ _ rfl)
  case nC => (intro p; refine ⟨fun _ => rfl, ?_⟩; intro s9 Q9 F9 h9; (repeat' (first | (k_unfold; (try dsimp only)) | walk1 | (dsimp only; walk1) | (leave1; (try dsimp only)))); exact h9 _ _ rfl)
  case nO => (intro p; refine ⟨fun _ => rfl, ?_⟩; intro s9 Q9 F9 h9; (repeat' (first | (k_unfold; (try dsimp only)) | walk1 | (dsimp only; walk1) | (leave1; (try dsimp only)))); exact h9 _ _ ⟨_, rfl⟩)
  case nU => (intro p; refine ⟨fun _ => rfl, ?_⟩; intro s9 Q9 F9 h9; (repeat' (first | (k_unfold; (try dsimp only)) | walk1 | (dsimp only; walk1) | (leave1; (try dsimp only)))); exact h9 _ _ ⟨_, rfl⟩)
  case j1 => (refine ⟨fun _ => rfl, ?_⟩; intro s9 Q9 F9 h9; (repeat' (first | (k_unfold; (try dsimp only)) | walk1 | (dsimp only; walk1) | (leave1; (try dsimp only)))); exact h9 _ _ ⟨_, _, rfl⟩)
  case j2 => (refine ⟨fun _ => rfl, ?_⟩; intro s9 Q9 F9 h9; (repeat' (first | (k_unfold; (try dsimp only)) | walk1 | (dsimp only; walk1) | (leave1; (try dsimp only)))); exact h9 _ _ ⟨_, _, rfl⟩)
  case j3 => (refine ⟨fun _ => rfl, ?_⟩; intro s9 Q9 F9 h9; (repeat' (first | (k_unfold; (try dsimp only)) | walk1 | (dsimp only; walk1) | (leave1; (try dsimp only)))); exact h9 _ _ ⟨_, _, rfl⟩)
  case o1 => decide +kernel
  case o2 => decide +kernel
  case o3 => decide +kernel
  case nl => decide
  intro tl LL items nL hL dL tkL F1 N1 f1 hLL hA
  (repeat' (first | (k_unfold; (try dsimp only)) | walk1 | (dsimp only; walk1) | (leave1; (try dsimp only))))
  (rename (Fr h₀ _ (Shared.heap _) _) => FZ)
  (rename (News h₀ _ (Shared.heap _) _) => NZ)
  exact hret _ _ _ _ _ FZ NZ ⟨tl, LL, items, nL, rfl, f1, rfl, hLL, hA⟩
theorem laws_or (w : World) (mean : ExcName → Option Value) (mg mb : Str → Option Value) (tk1 tk2 : Tok) (news : List (Addr × Obj)) :
    ConD w mean mg mb 138 210 [.str sOr tk1, .str sFalse tk2] news (RulesP w (lawsOf sOr sFalse) news) := by
  unfold ConD
  k_fill
  intro dp un gd cn cs a' ccd cl outer A₀ base h₀ L m s Q E B F X N T' hkf hd hu hret
  have hv : notVar sOr := nv_dec (by decide +kernel)
  have hvu : notVar sFalse := nv_dec (by decide +kernel)
  refine wpAny_call ?_
  k_dflt (first | (refine' code_def (by k_asm) (by k_asm) (by k_asm) (by k_asm) (by k_asm) rfl rfl (by first | assumption | exact rfl) (by k_is) (by k_is) (by ktr_room) (by exact BindsTo.of_eq rfl) (by exact locs rfl) ?_ (by exact rfl) (by exact rfl) (by exact rfl) (by decide); k_whole; intro g8 L8 h8 FG8 F8 N8 B8 X8 T8; (try dsimp only); (try k_fold)) | (refine' code_defC (by k_asm) (by k_asm) (by k_asm) (by k_asm) (by k_asm) rfl rfl (by first | assumption | exact rfl) (by k_is) (by k_is) (by ktr_room) (by exact BindsTo.of_eq rfl) (by exact rfl) (by decide +kernel) ?_ (by exact rfl) (by exact rfl) (by exact rfl); k_whole; intro g8 L8 h8 tk8 cells8 FG8 F8 N8 Y8 B8 X8 T8 l8; (try k_lt l8); k_cells Y8; (try simp only [List.cons_append, List.nil_append] at N8); (try dsimp only); (try k_fold)))
  iterate 3 (first | (k_unfold; (try dsimp only)) | walk1 | (dsimp only; walk1))
  try dsimp only
  k_dflt (refine' rules_list (base := news) (qs := lawsOf sOr sFalse) (with_laws (op := sOr) (unit := sFalse) ?nB ?nX ?nT ?nk ?nK ?nd ?nu ?nR ?nA ?nBB ?nC ?nO ?nU (fun R rA rB rC rO rU => .cons (R ?j1 (EX.n2 (rO _) hv (rA _) (rB _)) (EX.n2 (rO _) hv (rB _) (rA _)) ?o1) (.cons (R ?j2 (EX.n2 (rO _) hv (EX.n2 (rO _) hv (rA _) (rB _)) (rC _)) (EX.n2 (rO _) hv (rA _) (EX.n2 (rO _) hv (rB _) (rC _))) ?o2) (.cons (R ?j3 (EX.n2 (rO _) hv (rA _) (EX.n0 (rU _) hvu)) (rA _) ?o3) .nil)))) ?nl ?nFF ?nNN (fun _ h => h) ?_)
  case nFF => k_asm
  case nNN => k_asm
  case nB => k_asm
  case nX => k_asm
  case nT => k_asm
  case nk => exact rfl
  case nK => k_is
  case nd => ktr_room
  case nu => ktr_units
  case nR => (intro p; refine ⟨fun _ => rfl, ?_⟩; intro s9 Q9 F9 h9; (repeat' (first | (k_unfold; (try dsimp only)) | walk1 | (dsimp only; walk1) | (leave1; (try dsimp only)))); exact h9 _ _ rfl)
  case nA => (intro p; refine ⟨fun _ => rfl, ?_⟩; intro s9 Q9 F9 h9; (repeat' (first | (k_unfold; (try dsimp only)) | walk1 | (dsimp only; walk1) | (leave1; (try dsimp only)))); exact h9 _ _ rfl)
  case nBB => (intro p; refine ⟨fun _ => rfl, ?_⟩; intro s9 Q9 F9 h9; (repeat' (first | (k_unfold; (try dsimp only)) | walk1 | (dsimp only; walk1) | (leave1; (try dsimp only)))); exact h9 _ _ rfl)
  case nC => (intro p; refine ⟨fun _ => rfl, ?_⟩; intro s9 Q9 F9 h9; (repeat' (first | (k_unfold; (try dsimp only)) | walk1 | (dsimp only; walk1) | (leave1; (try dsimp only)))); exact h9 _ _ rfl)
  case nO => (intro p; refine ⟨fun _ => rfl, ?_⟩; intro s9 Q9 F9 h9; (repeat' (first | (k_unfold; (try dsimp only)) | walk1 | (dsimp only; walk1) | (leave1; (try dsimp only)))); exact h9 _ _ ⟨_, rfl⟩)
  case nU => (intro p; refine ⟨fun _ => rfl, ?_⟩; intro s9 Q9 F9 h9; (repeat' (first | (k_unfold; (try dsimp only)) | walk1 | (dsimp only; walk1) | (leave1; (try dsimp only)))); exact h9 _ _ ⟨_, rfl⟩)
  case j1 => (refine ⟨fun _ => rfl, ?_⟩; intro s9 Q9 F9 h9; (repeat' (first | (k_unfold; (try dsimp only)) | walk1 | (dsimp only; walk1) | (leave1; (try dsimp only)))); exact h9 _ _ ⟨_, _, rfl⟩)
  case j2 => (refine ⟨fun _ => rfl, ?_⟩; intro s9 Q9 F9 h9; (repeat' (first | (k_unfold; (try dsimp only)) | walk1 | (dsimp only; walk1) | (leave1; (try dsimp only)))); exact h9 _ _ ⟨_, _, rfl⟩)
  case j3 => (refine ⟨fun _ => rfl, ?_⟩; intro s9 Q9 F9 h9; (repeat' (first | (k_unfold; (try dsimp only)) | walk1 | (dsimp only; walk1) | (leave1; (try dsimp only)))); exact h9 _ _ ⟨_, _, rfl⟩)
  case o1 => decide +kernel
  case o2 => decide +kernel
  case o3 => decide +kernel
  case nl => decide
  intro tl LL items nL hL dL tkL F1 N1 f1 hLL hA
  (repeat' (first | (k_unfold; (try dsimp only)) | walk1 | (dsimp only; walk1) | (leave1; (try dsimp only))))
  (rename (Fr h₀ _ (Shared.heap _) _) => FZ)
  (rename (News h₀ _ (Shared.heap _) _) => NZ)
  exact hret _ _ _ _ _ FZ NZ ⟨tl, LL, items, nL, rfl, f1, rfl, hLL, hA⟩
end
section
example : True := by (w_top off); trivial
open PySem PySem.W PyProof.Rows PySem.Spec PySem.Calls
theorem laws_use {w : World} {mean : ExcName → Option Value} {mg mb : Str → Option Value} {f : Addr} {sz : Nat} {args : List Value} {qs : List (Tr × Tr)} {news : List (Addr × Obj)}
    {dp un : Nat} {gd : Option (List Code)} {cn : Str} {cs : Scope} {a : Addr} {ccd : Value} {cl : List (Str × Addr)} {outer : List Env} {A₀ : Around} {base h₀ : Heap} {L : Addr} {m : Str → Option Value} {s : Shared} {Q E : Value → Shared → Prop}
    (Cd : ∀ news, ConD w mean mg mb f sz args news (RulesP w qs news))
    (B : Below A₀ base outer h₀) (F : Fr h₀ L s.heap m) (X : (hd.heap_1 w.params).In h₀) (N : News h₀ L s.heap news) (T' : Top hd.view_39 lse mean mg mb h₀) (hk : cs.kind = .function) (hd : dp + sz < recursionLimit) (hu : un + 8 * sz < cLine)
    (ret : ∀ tl LL items n h' d' tk', Fr h₀ L h' m → News h₀ L h' (tl ++ news) → Fresh tl news → (LL, lstO items n) ∈ tl → All2 (RuleIn w) (tl ++ news) items qs → Q (.ref LL) { s with heap := h', drawn := d', toks := tk' }) :
    wpAny (model PySem.Challenge.rw_sa0020_01.row.toRowW.prog w) (ktrTop dp un gd cn cs L a ccd cl outer) (call (.ref f) args) Q E s :=
  Cd news _ _ _ _ _ _ _ _ _ _ _ _ _ _ _ _ _ B F X N T' hk hd hu fun r news' h' d' tk' F' N' hP => by
    obtain ⟨tl, LL, items, n, rfl, h1, rfl, h2, h3⟩ := hP
    exact ret _ _ _ _ _ _ _ F' N' h1 h2 h3
theorem base4 {g h : Heap} {L D3 D4 D5 : Addr} {o3 o4 o5 : Obj} {tlO tlA news : List (Addr × Obj)} (_ : News g L h (tlO ++ (tlA ++ (D3, o3) :: (D4, o4) :: (D5, o5) :: news))) (hfO : Fresh tlO (tlA ++ (D3, o3) :: (D4, o4) :: (D5, o5) :: news)) (hfA : Fresh tlA ((D3, o3) :: (D4, o4) :: (D5, o5) :: news))
    (h3 : AllLt D3 news) (h4 : AllLt D4 news) (h5 : AllLt D5 news) : Fresh (tlO ++ (tlA ++ [(D3, o3), (D4, o4), (D5, o5)])) news :=
  (hfO.sub fun q hq => by simp [hq]).app ((hfA.sub fun q hq => by simp [hq]).app (fresh_consB h3 (fresh_consB h4 (fresh_consB h5 Fresh.nil))))
theorem rules_fin5 {w : World} {g h : Heap} {L DR D2 : Addr} {o2 : Obj} {n : Nat} {d3 d4 d5 : Addr × Obj} {t tlO tlA news : List (Addr × Obj)} {itA itO vs : List Value} {qa qo qs qall : List (Tr × Tr)}
    (N : News g L h ((DR, lstO ((itA ++ itO) ++ vs) n) :: (t ++ (D2, o2) :: (tlO ++ (tlA ++ d3 :: d4 :: d5 :: news))))) (hD : AllLt DR (t ++ (D2, o2) :: (tlO ++ (tlA ++ d3 :: d4 :: d5 :: news)))) (hf : Fresh t ((D2, o2) :: (tlO ++ (tlA ++ d3 :: d4 :: d5 :: news))))
    (hD2 : AllLt D2 (tlO ++ (tlA ++ d3 :: d4 :: d5 :: news))) (hB : Fresh (tlO ++ (tlA ++ [d3, d4, d5])) news) (hA : All2 (RuleIn w) (t ++ (D2, o2) :: (tlO ++ (tlA ++ d3 :: d4 :: d5 :: news))) vs qs)
    (hO : All2 (RuleIn w) (tlO ++ (tlA ++ d3 :: d4 :: d5 :: news)) itO qo) (hAA : All2 (RuleIn w) (tlA ++ d3 :: d4 :: d5 :: news) itA qa) (e : qall = (qa ++ qo) ++ qs) : ∃ ns, News g L h ns ∧ RulesP w qall news (.ref DR) ns := by
  subst e
  have sub : ∀ p ∈ news, p ∈ t ++ (D2, o2) :: (tlO ++ (tlA ++ d3 :: d4 :: d5 :: news)) := fun p hp => by simp [hp]
  refine ⟨((DR, lstO ((itA ++ itO) ++ vs) n) :: (t ++ (D2, o2) :: (tlO ++ (tlA ++ [d3, d4, d5])))) ++ news, News.sub N fun p hp => ?_, _, DR, _, n, rfl, ?_, rfl, List.mem_cons_self, ?_⟩
  · simp only [List.mem_append, List.mem_cons, List.not_mem_nil, or_false] at hp ⊢
    rcases hp with (h | h | h | h | h | h | h | h) | h <;> simp [h]
  · refine fresh_cons (fun q hq => ktn_ltOf hD q (sub q hq)) ((hf.sub fun q hq => ?_).app (fresh_cons (fun q hq => ktn_ltOf hD2 q (by simp [hq])) hB))
    simp [hq]
  · have s1 : ∀ p ∈ tlA ++ d3 :: d4 :: d5 :: news, p ∈ ((DR, lstO ((itA ++ itO) ++ vs) n) :: (t ++ (D2, o2) :: (tlO ++ (tlA ++ [d3, d4, d5])))) ++ news := fun p hp => by
      simp only [List.mem_append, List.mem_cons, List.not_mem_nil, or_false] at hp ⊢
      rcases hp with h | h | h | h | h <;> simp [h]
    have s2 : ∀ p ∈ tlO ++ (tlA ++ d3 :: d4 :: d5 :: news), p ∈ ((DR, lstO ((itA ++ itO) ++ vs) n) :: (t ++ (D2, o2) :: (tlO ++ (tlA ++ [d3, d4, d5])))) ++ news := fun p hp => by
      rcases List.mem_append.mp hp with h | h
      · simp [h]
      · exact s1 p h
    have s3 : ∀ p ∈ t ++ (D2, o2) :: (tlO ++ (tlA ++ d3 :: d4 :: d5 :: news)), p ∈ ((DR, lstO ((itA ++ itO) ++ vs) n) :: (t ++ (D2, o2) :: (tlO ++ (tlA ++ [d3, d4, d5])))) ++ news := fun p hp => by
      rcases List.mem_append.mp hp with h | h
      · simp [h]
      · rcases List.mem_cons.mp h with h | h
        · simp [h]
        · exact s2 p h
    exact ((hAA.mono fun b v hb => hb.mono s1).app (hO.mono fun b v hb => hb.mono s2)).app (hA.mono fun b v hb => hb.mono s3)
noncomputable def moreRules : List (Tr × Tr) := [((Tr.n2 sAnd vA vA), vA), ((Tr.n2 sOr vA vA), vA), ((Tr.n2 sAnd vA (Tr.n0 sFalse)), (Tr.n0 sFalse)), ((Tr.n2 sOr vA (Tr.n0 sTrue)), (Tr.n0 sTrue)), ((Tr.n2 sAnd vA (Tr.n1 sNot vA)), (Tr.n0 sFalse)), ((Tr.n2 sOr vA (Tr.n1 sNot vA)), (Tr.n0 sTrue)), ((Tr.n1 sNot (Tr.n1 sNot vA)), vA), ((Tr.n1 sNot (Tr.n2 sAnd vA vB)), (Tr.n2 sOr (Tr.n1 sNot vA) (Tr.n1 sNot vB))), ((Tr.n1 sNot (Tr.n2 sOr vA vB)), (Tr.n2 sAnd (Tr.n1 sNot vA) (Tr.n1 sNot vB))), ((Tr.n2 sAnd vA (Tr.n2 sOr vB vC)), (Tr.n2 sOr (Tr.n2 sAnd vA vB) (Tr.n2 sAnd vA vC))), ((Tr.n2 sImp vA vB), (Tr.n2 sOr (Tr.n1 sNot vA) vB))]
noncomputable def allRules : List (Tr × Tr) := lawsOf sAnd sTrue ++ lawsOf sOr sFalse ++ moreRules
theorem rules_all (w : World) (mean : ExcName → Option Value) (mg mb : Str → Option Value) (self : Value) (news : List (Addr × Obj)) :
    ConD w mean mg mb 152 230 [self] news (RulesP w allRules news) := by
  unfold ConD
  k_fill
  intro dp un gd cn cs a' ccd cl outer A₀ base h₀ L m s Q E B F X N T' hkf hd hu hret
  refine wpAny_call ?_
  k_dflt (first | (refine' code_def (by k_asm) (by k_asm) (by k_asm) (by k_asm) (by k_asm) rfl rfl (by first | assumption | exact rfl) (by k_is) (by k_is) (by ktr_room) (by exact BindsTo.of_eq rfl) (by exact locs rfl) ?_ (by exact rfl) (by exact rfl) (by exact rfl) (by decide); k_whole; intro g8 L8 h8 FG8 F8 N8 B8 X8 T8; (try dsimp only); (try k_fold)) | (refine' code_defC (by k_asm) (by k_asm) (by k_asm) (by k_asm) (by k_asm) rfl rfl (by first | assumption | exact rfl) (by k_is) (by k_is) (by ktr_room) (by exact BindsTo.of_eq rfl) (by exact rfl) (by decide +kernel) ?_ (by exact rfl) (by exact rfl) (by exact rfl); k_whole; intro g8 L8 h8 tk8 cells8 FG8 F8 N8 Y8 B8 X8 T8 l8; (try k_lt l8); k_cells Y8; (try simp only [List.cons_append, List.nil_append] at N8); (try dsimp only); (try k_fold)))
  (repeat' (first | (k_unfold; (try dsimp only)) | (k_here; (with_reducible show wpAny _ _ (binaryOp _ (Value.ref _) (Value.ref _)) _ _ _); k_dflt (refine r_addL (by k_asm) (by k_asm) (by k_mem) (by k_mem) (by (first | assumption | exact Nat.le_of_ble_eq_true rfl | omega | (simp only [List.length_cons, List.length_nil, List.length_append, List.length_map]; omega))) ?_); intro D9 h9 F9 N9 l9; (try simp only [List.nil_append, List.cons_append] at N9); (try k_lt l9)) | walk1 | (dsimp only; walk1) | (leave1; (try dsimp only))))
  k_dflt (refine' laws_use (laws_and w mean mg mb _ _) ?yac ?yad ?yae ?yaf ?yag ?yah ?yai ?yaj ?_)
  case yac => k_asm
  case yad => k_asm
  case yae => k_asm
  case yaf => k_asm
  case yag => k_asm
  case yah => exact rfl
  case yai => ktr_room
  case yaj => ktr_units
  intro tlA LA itA nA hA dA tkA FA NA hfA hLA hAA
  (repeat' (first | (k_unfold; (try dsimp only)) | (k_here; (with_reducible show wpAny _ _ (binaryOp _ (Value.ref _) (Value.ref _)) _ _ _); k_dflt (refine r_addL (by k_asm) (by k_asm) (by k_mem) (by k_mem) (by (first | assumption | exact Nat.le_of_ble_eq_true rfl | omega | (simp only [List.length_cons, List.length_nil, List.length_append, List.length_map]; omega))) ?_); intro D9 h9 F9 N9 l9; (try simp only [List.nil_append, List.cons_append] at N9); (try k_lt l9)) | walk1 | (dsimp only; walk1) | (leave1; (try dsimp only))))
  k_dflt (refine' laws_use (laws_or w mean mg mb _ _) ?yoc ?yod ?yoe ?yof ?yog ?yoh ?yoi ?yoj ?_)
  case yoc => k_asm
  case yod => k_asm
  case yoe => k_asm
  case yof => k_asm
  case yog => k_asm
  case yoh => exact rfl
  case yoi => ktr_room
  case yoj => ktr_units
  intro tlO LO itO nO hO dO tkO FO NO hfO hLO hAO
  have lenA := hAA.length
  have lenO := hAO.length
  simp only [lawsOf, List.length_cons, List.length_nil] at lenA lenO
  have hB4 := base4 NO hfO hfA (by first | tbn_find | exact allLt_of (by assumption)) (by first | tbn_find | exact allLt_of (by assumption)) (by first | tbn_find | exact allLt_of (by assumption))
  first | (first | (k_here; (with_reducible show wpAny _ _ (binaryOp _ (Value.ref _) (Value.ref _)) _ _ _); k_dflt (refine r_addL (by k_asm) (by k_asm) (by k_mem) (by k_mem) (by (first | assumption | exact Nat.le_of_ble_eq_true rfl | omega | (simp only [List.length_cons, List.length_nil, List.length_append, List.length_map]; omega))) ?_); intro D9 h9 F9 N9 l9; (try simp only [List.nil_append, List.cons_append] at N9); (try k_lt l9))) | (dsimp only; (first | (k_here; (with_reducible show wpAny _ _ (binaryOp _ (Value.ref _) (Value.ref _)) _ _ _); k_dflt (refine r_addL (by k_asm) (by k_asm) (by k_mem) (by k_mem) (by (first | assumption | exact Nat.le_of_ble_eq_true rfl | omega | (simp only [List.length_cons, List.length_nil, List.length_append, List.length_map]; omega))) ?_); intro D9 h9 F9 N9 l9; (try simp only [List.nil_append, List.cons_append] at N9); (try k_lt l9))))
  try dsimp only
  k_dflt (refine' rules_list (qs := moreRules) (with_names ?nB ?nX ?nT ?nk ?nK ?nd ?nu ?nR ?nA ?nBB ?nC ?ntr ?nfa ?npT ?npF (fun R rA rB rC rT rF => ?nH)) ?nl ?nFF ?nNN (fun _ h => h) ?_)
  case nFF => k_asm
  case nNN => k_asm
  case nB => k_asm
  case nX => k_asm
  case nT => k_asm
  case nk => exact rfl
  case nK => k_is
  case nd => ktr_room
  case nu => ktr_units
  case nR => (intro p; refine ⟨fun _ => rfl, ?_⟩; intro s9 Q9 F9 h9; (repeat' (first | (k_unfold; (try dsimp only)) | (k_here; (with_reducible show wpAny _ _ (binaryOp _ (Value.ref _) (Value.ref _)) _ _ _); k_dflt (refine r_addL (by k_asm) (by k_asm) (by k_mem) (by k_mem) (by (first | assumption | exact Nat.le_of_ble_eq_true rfl | omega | (simp only [List.length_cons, List.length_nil, List.length_append, List.length_map]; omega))) ?_); intro D9 h9 F9 N9 l9; (try simp only [List.nil_append, List.cons_append] at N9); (try k_lt l9)) | walk1 | (dsimp only; walk1) | (leave1; (try dsimp only)))); exact h9 _ _ rfl)
  case nA => (intro p; refine ⟨fun _ => rfl, ?_⟩; intro s9 Q9 F9 h9; (repeat' (first | (k_unfold; (try dsimp only)) | (k_here; (with_reducible show wpAny _ _ (binaryOp _ (Value.ref _) (Value.ref _)) _ _ _); k_dflt (refine r_addL (by k_asm) (by k_asm) (by k_mem) (by k_mem) (by (first | assumption | exact Nat.le_of_ble_eq_true rfl | omega | (simp only [List.length_cons, List.length_nil, List.length_append, List.length_map]; omega))) ?_); intro D9 h9 F9 N9 l9; (try simp only [List.nil_append, List.cons_append] at N9); (try k_lt l9)) | walk1 | (dsimp only; walk1) | (leave1; (try dsimp only)))); exact h9 _ _ rfl)
  case nBB => (intro p; refine ⟨fun _ => rfl, ?_⟩; intro s9 Q9 F9 h9; (repeat' (first | (k_unfold; (try dsimp only)) | (k_here; (with_reducible show wpAny _ _ (binaryOp _ (Value.ref _) (Value.ref _)) _ _ _); k_dflt (refine r_addL (by k_asm) (by k_asm) (by k_mem) (by k_mem) (by (first | assumption | exact Nat.le_of_ble_eq_true rfl | omega | (simp only [List.length_cons, List.length_nil, List.length_append, List.length_map]; omega))) ?_); intro D9 h9 F9 N9 l9; (try simp only [List.nil_append, List.cons_append] at N9); (try k_lt l9)) | walk1 | (dsimp only; walk1) | (leave1; (try dsimp only)))); exact h9 _ _ rfl)
  case nC => (intro p; refine ⟨fun _ => rfl, ?_⟩; intro s9 Q9 F9 h9; (repeat' (first | (k_unfold; (try dsimp only)) | (k_here; (with_reducible show wpAny _ _ (binaryOp _ (Value.ref _) (Value.ref _)) _ _ _); k_dflt (refine r_addL (by k_asm) (by k_asm) (by k_mem) (by k_mem) (by (first | assumption | exact Nat.le_of_ble_eq_true rfl | omega | (simp only [List.length_cons, List.length_nil, List.length_append, List.length_map]; omega))) ?_); intro D9 h9 F9 N9 l9; (try simp only [List.nil_append, List.cons_append] at N9); (try k_lt l9)) | walk1 | (dsimp only; walk1) | (leave1; (try dsimp only)))); exact h9 _ _ rfl)
  case ntr => (intro p; refine ⟨fun _ => rfl, ?_⟩; intro s9 Q9 F9 h9; (repeat' (first | (k_unfold; (try dsimp only)) | (k_here; (with_reducible show wpAny _ _ (binaryOp _ (Value.ref _) (Value.ref _)) _ _ _); k_dflt (refine r_addL (by k_asm) (by k_asm) (by k_mem) (by k_mem) (by (first | assumption | exact Nat.le_of_ble_eq_true rfl | omega | (simp only [List.length_cons, List.length_nil, List.length_append, List.length_map]; omega))) ?_); intro D9 h9 F9 N9 l9; (try simp only [List.nil_append, List.cons_append] at N9); (try k_lt l9)) | walk1 | (dsimp only; walk1) | (leave1; (try dsimp only)))); exact h9 _ _ rfl)
  case nfa => (intro p; refine ⟨fun _ => rfl, ?_⟩; intro s9 Q9 F9 h9; (repeat' (first | (k_unfold; (try dsimp only)) | (k_here; (with_reducible show wpAny _ _ (binaryOp _ (Value.ref _) (Value.ref _)) _ _ _); k_dflt (refine r_addL (by k_asm) (by k_asm) (by k_mem) (by k_mem) (by (first | assumption | exact Nat.le_of_ble_eq_true rfl | omega | (simp only [List.length_cons, List.length_nil, List.length_append, List.length_map]; omega))) ?_); intro D9 h9 F9 N9 l9; (try simp only [List.nil_append, List.cons_append] at N9); (try k_lt l9)) | walk1 | (dsimp only; walk1) | (leave1; (try dsimp only)))); exact h9 _ _ rfl)
  case npT => exact PIn.n0 (nv_dec (by decide +kernel)) (by k_mem)
  case npF => exact PIn.n0 (nv_dec (by decide +kernel)) (by k_mem)
  case nl => decide
  case nH => exact (.cons (R NX.const' (EX.n2 NX.const (nv_dec (by decide +kernel)) (rA _) (rA _)) (rA _) (by decide +kernel)) (.cons (R NX.const' (EX.n2 NX.const (nv_dec (by decide +kernel)) (rA _) (rA _)) (rA _) (by decide +kernel)) (.cons (R NX.const' (EX.n2 NX.const (nv_dec (by decide +kernel)) (rA _) (rF _)) (rF _) (by decide +kernel)) (.cons (R NX.const' (EX.n2 NX.const (nv_dec (by decide +kernel)) (rA _) (rT _)) (rT _) (by decide +kernel)) (.cons (R NX.const' (EX.n2 NX.const (nv_dec (by decide +kernel)) (rA _) (EX.n1 NX.const (nv_dec (by decide +kernel)) (rA _))) (rF _) (by decide +kernel)) (.cons (R NX.const' (EX.n2 NX.const (nv_dec (by decide +kernel)) (rA _) (EX.n1 NX.const (nv_dec (by decide +kernel)) (rA _))) (rT _) (by decide +kernel)) (.cons (R NX.const' (EX.n1 NX.const (nv_dec (by decide +kernel)) (EX.n1 NX.const (nv_dec (by decide +kernel)) (rA _))) (rA _) (by decide +kernel)) (.cons (R NX.const' (EX.n1 NX.const (nv_dec (by decide +kernel)) (EX.n2 NX.const (nv_dec (by decide +kernel)) (rA _) (rB _))) (EX.n2 NX.const (nv_dec (by decide +kernel)) (EX.n1 NX.const (nv_dec (by decide +kernel)) (rA _)) (EX.n1 NX.const (nv_dec (by decide +kernel)) (rB _))) (by decide +kernel)) (.cons (R NX.const' (EX.n1 NX.const (nv_dec (by decide +kernel)) (EX.n2 NX.const (nv_dec (by decide +kernel)) (rA _) (rB _))) (EX.n2 NX.const (nv_dec (by decide +kernel)) (EX.n1 NX.const (nv_dec (by decide +kernel)) (rA _)) (EX.n1 NX.const (nv_dec (by decide +kernel)) (rB _))) (by decide +kernel)) (.cons (R NX.const' (EX.n2 NX.const (nv_dec (by decide +kernel)) (rA _) (EX.n2 NX.const (nv_dec (by decide +kernel)) (rB _) (rC _))) (EX.n2 NX.const (nv_dec (by decide +kernel)) (EX.n2 NX.const (nv_dec (by decide +kernel)) (rA _) (rB _)) (EX.n2 NX.const (nv_dec (by decide +kernel)) (rA _) (rC _))) (by decide +kernel)) (.cons (R NX.const' (EX.n2 NX.const (nv_dec (by decide +kernel)) (rA _) (rB _)) (EX.n2 NX.const (nv_dec (by decide +kernel)) (EX.n1 NX.const (nv_dec (by decide +kernel)) (rA _)) (rB _)) (by decide +kernel)) .nil)))))))))))
  intro tl LL items nL hL dL tkL F1 N1 f1 hLL hA
  have lenM := hA.length
  simp only [moreRules, List.length_cons, List.length_nil] at lenM
  (repeat' (first | (k_unfold; (try dsimp only)) | (k_here; (with_reducible show wpAny _ _ (binaryOp _ (Value.ref _) (Value.ref _)) _ _ _); k_dflt (refine r_addL (by k_asm) (by k_asm) (by k_mem) (by k_mem) (by (first | assumption | exact Nat.le_of_ble_eq_true rfl | omega | (simp only [List.length_cons, List.length_nil, List.length_append, List.length_map]; omega))) ?_); intro D9 h9 F9 N9 l9; (try simp only [List.nil_append, List.cons_append] at N9); (try k_lt l9)) | walk1 | (dsimp only; walk1) | (leave1; (try dsimp only))))
  (rename (News h₀ _ (Shared.heap _) _) => NZ)
  (rename (Fr h₀ _ (Shared.heap _) _) => FZ)
  obtain ⟨ns, NS, hR⟩ := rules_fin5 NZ (by first | tbn_find | exact allLt_of (by assumption)) f1 (by first | tbn_find | exact allLt_of (by assumption)) hB4 hA hAO hAA rfl
  exact hret _ _ _ _ _ FZ NS hR
end
section
example : True := by (w_top off); trivial
open PySem PySem.W PyProof.Rows PySem.Spec PySem.Calls
/-! cuts between the law's statements -/
noncomputable def StN (P : Shared → Prop) (f : Flow) (s' : Shared) : Prop := f = .next ∧ P s'
theorem cut {M : Model} {A : Around} {env : Env} {E : Value → Shared → Prop} {Q : Flow → Shared → Prop} {s : Shared} {st : Stmt} {rest : List Stmt} (P : Shared → Prop) (h1 : wpAny M A (exec st env) (StN P) E s) (h2 : ∀ s', P s' → wpAny M A (execs rest env) Q E s') :
    wpAny M A (execs (st :: rest) env) Q E s := wpAny_execs_cons (wpAny_mono h1 (fun f s' hf => by obtain ⟨rfl, hp⟩ := hf; exact h2 s' hp) fun _ _ e => e)
/-- behind the belt's making -/
noncomputable def PA (h₀ : Heap) (L : Addr) (m : Str → Option Value) (s s' : Shared) : Prop :=
  ∃ h' d tk b c tkb n n' vs ns oB oL, s' = { s with heap := h', drawn := d, toks := tk } ∧ Fr h₀ L h' m ∧ News h₀ L h' [(b, beltO c 0 tkb n), (c, cellsO vs n'), (L + 1 + 1, oL), (L + 1, oB)] ∧ oB.data = .cell (some (.ref b)) ∧ oL.data = .cell none ∧
    Belt [(c, cellsO vs n'), (L + 1 + 1, oL), (L + 1, oB)] b c 0 vs ns n' ∧ (@Ne Nat (L + 1 + 1) c) ∧ (@Ne Nat (L + 1) c)
theorem PA.elim {h₀ : Heap} {L : Addr} {m : Str → Option Value} {s s' : Shared} {G : Shared → Prop} (h : PA h₀ L m s s')
    (k : ∀ h' d tk b c tkb n n' vs ns oB oL, Fr h₀ L h' m → News h₀ L h' [(b, beltO c 0 tkb n), (c, cellsO vs n'), (L + 1 + 1, oL), (L + 1, oB)] → oB.data = .cell (some (.ref b)) → oL.data = .cell none →
      Belt [(c, cellsO vs n'), (L + 1 + 1, oL), (L + 1, oB)] b c 0 vs ns n' → (@Ne Nat (L + 1 + 1) c) → (@Ne Nat (L + 1) c) → G { s with heap := h', drawn := d, toks := tk }) : G s' := by
  obtain ⟨h', d, tk, b, c, tkb, n, n', vs, ns, oB, oL, rfl, F, N, hb, hl, hB, h1, h2⟩ := h
  exact k h' d tk b c tkb n n' vs ns oB oL F N hb hl hB h1 h2
theorem cutA {M : Model} {A : Around} {env : Env} {E : Value → Shared → Prop} {Q : Flow → Shared → Prop} {s : Shared} {st : Stmt} {rest : List Stmt} {h₀ h : Heap} {L : Addr} {m : Str → Option Value} (_ : Fr h₀ L h m) (h1 : wpAny M A (exec st env) (StN (PA h₀ L m s)) E s) (h2 : ∀ s', PA h₀ L m s s' → wpAny M A (execs rest env) Q E s') :
    wpAny M A (execs (st :: rest) env) Q E s := cut _ h1 h2
theorem cells_small {ns : List Int} : ∀ i ∈ List.map (fun k' : Int => k'.fmod 1000003) (List.take 50 ns), 0 ≤ i ∧ i < 1000003 := fun i hi => by
  obtain ⟨k, _, rfl⟩ := List.mem_map.mp hi
  exact ⟨Int.fmod_nonneg_of_pos _ (by decide), Int.fmod_lt_of_pos _ (by decide)⟩
theorem PA.intro {h₀ h' : Heap} {L b c : Addr} {m : Str → Option Value} {s : Shared} {d : Drawn} {tk : Nat} {tkb : Tok} {ys : List Value} {ns : List Int} {x : Addr × Obj} {oB oL : Obj} (F : Fr h₀ L h' m)
    (N : News h₀ L h' [(b, ({ cls := .type "list", data := .seq (List.toArray [.ref c, .int 0 tkb]) 0 } : Obj)), (c, LCg.lst ys), x, (L + 1 + 1, oL), (L + 1, oB)]) (hb : oB.data = .cell (some (.ref b))) (hl : oL.data = .cell none) (hi : IntsAre ys (List.map (fun k' : Int => k'.fmod 1000003) (List.take 50 ns)))
    (h1 : (@LT.lt Nat _ c b) ∧ (@LT.lt Nat _ (L + 1 + 1) b) ∧ (@LT.lt Nat _ (L + 1) b)) (h2 : (@Ne Nat x.1 c) ∧ (@Ne Nat (L + 1 + 1) c) ∧ (@Ne Nat (L + 1) c)) : PA h₀ L m s { s with heap := h', drawn := d, toks := tk } :=
  ⟨h', d, tk, b, c, tkb, 0, ys.length, ys, _, oB, oL, rfl, F, News.sub N fun p hp => by simp only [List.mem_cons, List.not_mem_nil, or_false] at hp ⊢; rcases hp with h | h | h | h <;> simp [h], hb, hl, ⟨hi, cells_small, by rw [List.length_map, List.length_take]; omega, List.mem_cons_self, fun p hp => by
    simp only [List.mem_cons, List.not_mem_nil, or_false] at hp
    rcases hp with rfl | rfl | rfl
    · exact Nat.ne_of_lt h1.1
    · exact Nat.ne_of_lt h1.2.1
    · exact Nat.ne_of_lt h1.2.2, Int.le_refl _⟩, h2.2⟩
theorem Belt.off3 {b c x y : Addr} {k : Int} {vs : List Value} {ns : List Int} {n' : Nat} {oc ox oy : Obj} (h : Belt [(c, oc), (x, ox), (y, oy)] b c k vs ns n') : (@Ne Nat c b) ∧ (@Ne Nat x b) ∧ (@Ne Nat y b) :=
  ⟨h.isOff (c, oc) (by simp), h.isOff (x, ox) (by simp), h.isOff (y, oy) (by simp)⟩
/-- a feed of the law's belt -/
theorem feed_B {w : World} {mean : ExcName → Option Value} {mg mb : Str → Option Value} {b c : Addr} {k many : Int} {tk tk2 : Tok} {n n' : Nat} {vs : List Value} {ns : List Int} {rest : List (Addr × Obj)}
    {dp un : Nat} {gd : Option (List Code)} {cn : Str} {cs : Scope} {a : Addr} {ccd : Value} {cl : List (Str × Addr)} {outer : List Env} {A₀ : Around} {base h₀ : Heap} {L : Addr} {m : Str → Option Value} {s : Shared} {Q E : Value → Shared → Prop}
    (hB : Belt rest b c k vs ns n') (N : News h₀ L s.heap ((b, beltO c k tk n) :: rest)) (hk : k < 100) (hm0 : 0 < many) (hm : many < 100)
    (B : Below A₀ base outer h₀) (F : Fr h₀ L s.heap m) (X : (hd.heap_1 w.params).In h₀) (T' : Top hd.view_39 lse mean mg mb h₀)
    (hkf : cs.kind = .function) (hd : dp + 1 < recursionLimit) (hu : un + 8 * 1 < cLine)
    (ret : ∀ i tk' n'' tk'' h' tk₃, Belt rest b c (k + 1) vs ns n' → Fr h₀ L h' m → News h₀ L h' ((b, beltO c (k + 1) tk' n'') :: rest) → 0 ≤ i → i < many → Q (.int i tk'') { s with heap := h', toks := tk₃ }) :
    wpAny (model PySem.Challenge.rw_sa0020_01.row.toRowW.prog w) (ktrTop dp un gd cn cs L a ccd cl outer) (call (.ref 193) [.ref b, .int many tk2]) Q E s :=
  feed_use hB.isInts hB.isSmall hB.isLen B F X N T' (fun _ h => h) hB.hasCells hB.isOff hB.isLo hk hm0 hm hkf hd hu fun i tk' n'' tk'' h' tk₃ F' N' i0 i1 => ret i tk' n'' tk'' h' tk₃ (hB.up (Int.le_add_of_nonneg_right (by decide))) F' N' i0 i1
theorem below_top {p : Program} {loose : List Str} {mean : ExcName → Option Value} {mg mb : Str → Option Value} {h : Heap} (_ : Top p loose mean mg mb h) : Below callerA h [] h := below_caller h
end
section
example : True := by (w_top off); trivial
open PySem PySem.W PyProof.Rows PySem.Spec PySem.Calls
noncomputable def LawAt (K : Frag) (_ : OpenRow) (b : List Stmt × Scope) : Prop := ∃ oc od nm qu pa dV kV doc pm an cdv ct osl, K.lookup 232 = some ⟨oc, od, .func (fnOf nm qu pa b.1 b.2 dV kV doc pm an cdv ct), osl⟩
noncomputable def lawMk {K : Frag} {r : OpenRow} {oc : Value} {od : Option Addr} {nm qu : Str} {pa : Arguments} {body : List Stmt} {sc : Scope} {dV kV doc pm : Value} {an : Option Addr} {cdv ct : Value} {osl : Array (Option Value)}
    (h : K.lookup 232 = some ⟨oc, od, .func (fnOf nm qu pa body sc dV kV doc pm an cdv ct), osl⟩) : { b : List Stmt × Scope // LawAt K r b } := ⟨(body, sc), _, _, _, _, _, _, _, _, _, _, _, _, _, h⟩
/-- the law's own statements and names, as the written heap bears them -/
noncomputable def lawPick (p : Params) : { b : List Stmt × Scope // LawAt (hd.heap_1 p) PySem.Challenge.rw_sa0020_01.row b } := by
  k_fill
  refine' lawMk ?h
  case h => k_is
noncomputable def lawBody (p : Params) : List Stmt := (lawPick p).1.1
noncomputable def lawScope (p : Params) : Scope := (lawPick p).1.2
end
section
example : True := by (w_top off); trivial
open PySem PySem.W PyProof.Rows PySem.Spec PySem.Calls
noncomputable abbrev lawCl (p : Params) (L : Addr) : List (Str × Addr) := cellsFrom (L + 1) (lawScope p).names []
noncomputable abbrev sP : Str := Str.ofString "p"
noncomputable abbrev sQ : Str := Str.ofString "q"
noncomputable abbrev sS : Str := Str.ofString "s"
noncomputable abbrev sXor : Str := Str.ofString "xor"
noncomputable def thirds : List Str := [sAnd, sOr, sImp, sNot, sTrue, sFalse, Str.ofString "r"]
theorem strs7 {a b c d e f g : Str} {t1 t2 t3 t4 t5 t6 t7 : Tok} : StrsAre [.str a t1, .str b t2, .str c t3, .str d t4, .str e t5, .str f t6, .str g t7] [a, b, c, d, e, f, g] := .cons _ _ (.cons _ _ (.cons _ _ (.cons _ _ (.cons _ _ (.cons _ _ (.cons _ _ .nil))))))
theorem Belt.re {r rest : List (Addr × Obj)} {b c : Addr} {k : Int} {vs : List Value} {ns : List Int} {n' : Nat} (hB : Belt r b c k vs ns n') (hc : (c, cellsO vs n') ∈ rest) (off : ∀ p ∈ rest, p.1 ≠ b) : Belt rest b c k vs ns n' :=
  ⟨hB.isInts, hB.isSmall, hB.isLen, hc, off, hB.isLo⟩
section
variable {prog : Program} {w : World} {A : Around} {E : Value → Shared → Prop} {s : Shared} {h₀ : Heap} {L : Addr} {m : Str → Option Value} {news : List (Addr × Obj)} {Q : Value → Shared → Prop}
/-- a text out of a made tuple at an open place -/
theorem r_pickT {value slice : Expr} {l : Addr} {vs : List Value} {ws : List Str} {nl : Nat} {i : Int} {u : Tok} (N : News h₀ L s.heap news) (hm : (l, tupO vs nl) ∈ news) (hw : StrsAre vs ws) (h0 : 0 ≤ i) (h1 : i < ws.length) (hl : ws.length < 50) (h : ∀ x tk, x ∈ ws → Q (.str x tk) s)
    (hs : subscripted slice false (.ref l) (.int i u) = operate [.ref l, .int i u] (getItem (.ref l) (.int i u))) :
    wpAny (model prog w) A (subscriptTail value slice (.ref l) (.int i u)) Q E s := by
  have hi : i.toNat < ws.length := by omega
  obtain ⟨t', e⟩ := hw.get i.toNat ws[i.toNat] (List.getElem?_eq_getElem hi)
  have ln : vs.length = ws.length := hw.length
  refine item_tupleT (News.isTup N hm) (j := i.toNat) (x := .str ws[i.toNat] t') (by omega) (by omega) ?_ e (h _ _ (List.getElem_mem hi)) hs
  unfold seqIndex?
  have h3 : ¬ i < 0 := by omega
  have h4 : (0 ≤ i) ∧ i < (vs.length : Int) := ⟨h0, by omega⟩
  simp only [h3, if_false]
  rw [if_pos (by simpa using h4)]
/-- what is told twice is the same -/
theorem r_isNot {o : Option Bool} (h : Q (.bool false) s) : wpAny (model prog w) A (compareOp .IsNot (optVal o) (optVal o)) Q E s := by
  cases o with
  | none => exact wpAny_isNot_self rfl h
  | some b => exact wpAny_isNot_self rfl h
theorem Fr.known {h : Heap} {x : Str} {v : Value} (F : Fr h₀ L h m) (hm : m x = some v) : Fr h₀ L h (fun y => if y = x then some v else m y) := by
  have e : m = fun y => if y = x then some v else m y := by
    funext y
    by_cases hy : y = x
    · rw [if_pos hy, hy, hm]
    · rw [if_neg hy]
  rw [← e]; exact F
theorem Fr.known2 {h : Heap} {x y : Str} {v u : Value} (F : Fr h₀ L h m) (hm : m x = some v) (hu : m y = some u) : Fr h₀ L h (fun z => if z = x then some v else if z = y then some u else m z) := by
  have e : m = fun z => if z = x then some v else if z = y then some u else m z := by
    funext z
    by_cases hx : z = x
    · rw [if_pos hx, hx, hm]
    · by_cases hy : z = y
      · rw [if_neg hx, if_pos hy, hy, hu]
      · rw [if_neg hx, if_neg hy]
  rw [← e]; exact F
theorem Fr.known3 {h : Heap} {x y z : Str} {v u t : Value} (F : Fr h₀ L h m) (hm : m x = some v) (hu : m y = some u) (ht : m z = some t) : Fr h₀ L h (fun k => if k = x then some v else if k = y then some u else if k = z then some t else m k) := by
  have e : m = fun k => if k = x then some v else if k = y then some u else if k = z then some t else m k := by
    funext k
    by_cases hx : k = x
    · rw [if_pos hx, hx, hm]
    · by_cases hy : k = y
      · rw [if_neg hx, if_pos hy, hy, hu]
      · by_cases hz : k = z
        · rw [if_neg hx, if_neg hy, if_pos hz, hz, ht]
        · rw [if_neg hx, if_neg hy, if_neg hz]
  rw [← e]; exact F
end
theorem execs_join {M : Model} {env : Env} {Γ : PySem.Ctx} {E : Value → Shared → Prop} {Q : Flow → Shared → Prop} (l2 : List Stmt) : ∀ (l1 : List Stmt) (p : Pos) (s : Shared),
    Sem.wp M Γ (execs l1 env) (fun f _ s' => match f with | .next => ∀ p', Sem.wp M Γ (execs l2 env) (fun a _ s' => Q a s') (fun e _ s' => E e s') p' s' | f => Q f s') (fun e _ s' => E e s') p s → Sem.wp M Γ (execs (l1 ++ l2) env) (fun a _ s' => Q a s') (fun e _ s' => E e s') p s
  | [], p, s, h => h p
  | st :: r, p, s, h => by
    rw [execs_cons, Sem.wp_bind'] at h
    rw [List.cons_append, execs_cons, Sem.wp_bind']
    refine Sem.wp_mono M Γ _ (fun f p' s' h' => ?_) (fun _ _ _ h' => h') _ _ h
    cases f with
    | next => exact execs_join l2 r p' s' h'
    | _ => exact h'
/-- some statements first, the others behind them -/
theorem execs_split {M : Model} {A : Around} {env : Env} {E : Value → Shared → Prop} {Q : Flow → Shared → Prop} {P : Shared → Prop} (n : Nat) {l : List Stmt} {s : Shared} (h1 : wpAny M A (execs (l.take n) env) (StN P) E s) (h2 : ∀ s', P s' → wpAny M A (execs (l.drop n) env) Q E s') : wpAny M A (execs l env) Q E s := by
  intro Γ p hΓ
  have e : l = l.take n ++ l.drop n := (List.take_append_drop n l).symm
  rw [e]
  refine execs_join (l.drop n) (l.take n) p s (Sem.wp_mono M Γ _ (fun f p' s' h' => ?_) (fun _ _ _ h' => h') _ _ (h1 Γ p hΓ))
  obtain ⟨rfl, hp⟩ := h'
  exact fun p'' => h2 s' hp Γ p'' hΓ
/-- what the law keeps: belt, cells, leaves, what is told -/
structure RestOk (w : World) (L b c l td : Addr) (third : Str) (T : List (Str × Bool)) (k : Int) (vs : List Value) (ns : List Int) (n' : Nat) (rest : List (Addr × Obj)) : Prop where
  belt : Belt rest b c k vs ns n'
  cellB : ∃ o, (L + 1, o) ∈ rest ∧ o.data = .cell (some (.ref b))
  cellL : ∃ o, (L + 1 + 1, o) ∈ rest ∧ o.data = .cell (some (.ref l))
  leaves : ∃ t1 t2 t3 t4 t5 nl, (l, cellsO [.str sP t1, .str sQ t2, .str third t3, .str sTrue t4, .str sFalse t5] nl) ∈ rest
  told : ToldIn w rest td T
theorem RestOk.app {w : World} {L b c l td : Addr} {third : Str} {T : List (Str × Bool)} {k k' : Int} {vs : List Value} {ns : List Int} {n' : Nat} {rest tl : List (Addr × Obj)} (R : RestOk w L b c l td third T k vs ns n' rest) (hk : k ≤ k') (h : ∀ p ∈ tl, p.1 ≠ b) : RestOk w L b c l td third T k' vs ns n' (tl ++ rest) := by
  have hs : ∀ p ∈ rest, p ∈ tl ++ rest := fun p hp => List.mem_append_right _ hp
  obtain ⟨o1, h1, d1⟩ := R.cellB
  obtain ⟨o2, h2, d2⟩ := R.cellL
  obtain ⟨t1, t2, t3, t4, t5, nl, h3⟩ := R.leaves
  exact ⟨⟨R.belt.isInts, R.belt.isSmall, R.belt.isLen, hs _ R.belt.hasCells, fun p hp => (List.mem_append.mp hp).elim (h p) (R.belt.isOff p), Int.le_trans R.belt.isLo hk⟩, ⟨o1, hs _ h1, d1⟩, ⟨o2, hs _ h2, d2⟩, ⟨t1, t2, t3, t4, t5, nl, hs _ h3⟩, R.told.mono hs⟩
theorem RestOk.elim {w : World} {L b c l td : Addr} {third : Str} {T : List (Str × Bool)} {k : Int} {vs : List Value} {ns : List Int} {n' : Nat} {rest : List (Addr × Obj)} {G : Prop} (R : RestOk w L b c l td third T k vs ns n' rest)
    (g : ∀ oB oL t1 t2 t3 t4 t5 nl, (L + 1, oB) ∈ rest → oB.data = .cell (some (.ref b)) → (L + 1 + 1, oL) ∈ rest → oL.data = .cell (some (.ref l)) → (l, cellsO [.str sP t1, .str sQ t2, .str third t3, .str sTrue t4, .str sFalse t5] nl) ∈ rest → G) : G := by
  obtain ⟨o1, h1, d1⟩ := R.cellB
  obtain ⟨o2, h2, d2⟩ := R.cellL
  obtain ⟨t1, t2, t3, t4, t5, nl, h3⟩ := R.leaves
  exact g _ _ _ _ _ _ _ _ h1 d1 h2 d2 h3
noncomputable def Told3 (third : Str) (b1 b2 b3 : Bool) : List (Str × Bool) := [(sP, b1), (sQ, b2), (third, b3)]
/-- behind the telling -/
noncomputable def PB (w : World) (h₀ : Heap) (L : Addr) (s s' : Shared) : Prop :=
  ∃ m rest b c l td third b1 b2 b3 vs ns n' tk n, s'.os = s.os ∧ s'.gens = s.gens ∧ Fr h₀ L s'.heap m ∧ News h₀ L s'.heap ((b, beltO c 4 tk n) :: rest) ∧ third ∈ thirds ∧ RestOk w L b c l td third (Told3 third b1 b2 b3) 4 vs ns n' rest ∧ m (Str.ofString "told") = some (.ref td)
theorem PB.elim {w : World} {h₀ : Heap} {L : Addr} {s s' : Shared} {G : Prop} (h : PB w h₀ L s s') (k : ∀ m rest b c l td third b1 b2 b3 vs ns n' tk n, s'.os = s.os → s'.gens = s.gens → Fr h₀ L s'.heap m → News h₀ L s'.heap ((b, beltO c 4 tk n) :: rest) → third ∈ thirds → RestOk w L b c l td third (Told3 third b1 b2 b3) 4 vs ns n' rest → m (Str.ofString "told") = some (.ref td) → G) : G := by
  obtain ⟨v0, v1, v2, v3, v4, v5, v6, v7, v8, v9, v10, v11, v12, v13, v14, h0, h1, h2, h3, h4, h5, h6⟩ := h
  exact k _ _ _ _ _ _ _ _ _ _ _ _ _ _ _ h0 h1 h2 h3 h4 h5 h6
theorem told_put {third : Str} (h : third ∈ thirds) (b1 b2 b3 : Bool) :
    PyProof.V.putD (PyData.str third) (PyData.bool b3) (PyProof.V.putD (PyData.str sQ) (PyData.bool b2) (PyProof.V.putD (PyData.str sP) (PyData.bool b1) [])) = toldD (Told3 third b1 b2 b3) := by
  have nPQ : (sP == sQ) = false := by decide +kernel
  have e : ∀ x ∈ thirds, (sP == x) = false ∧ (sQ == x) = false := by decide +kernel
  obtain ⟨e1, e2⟩ := e third h
  simp [PyProof.V.putD, PySem.Spec.same, toldD, Told3, nPQ, e1, e2]
theorem off4 {I : Addr} {x y z : Addr × Obj} {rest : List (Addr × Obj)} (h : ∀ p ∈ x :: y :: z :: rest, @LT.lt Nat _ p.1 I) : (@LT.lt Nat _ x.1 I) ∧ (@LT.lt Nat _ y.1 I) ∧ (@LT.lt Nat _ z.1 I) ∧ (∀ p ∈ rest, p.1 ≠ I) :=
  ⟨h x (by simp), h y (by simp), h z (by simp), fun p hp => Nat.ne_of_lt (h p (by simp [hp]))⟩
theorem turn_end1 {g h : Heap} {L i : Addr} {oi : Obj} {m' : Str → Option Value} {full : List (Addr × Obj)} {rest : (Str → Option Value) → List (Addr × Obj) → Prop} {s₁ : Shared} {tk : Nat} (F : Fr g L h m') (N : News g L h full) (news' : List (Addr × Obj)) (sub : ∀ p ∈ (i, oi) :: news', p ∈ full)
    (off : ∀ p ∈ news', p.1 ≠ i) (r : rest m' news') : UnrEndW g L s₁ [(i, oi)] rest { s₁ with heap := h, toks := tk } :=
  ⟨h, tk, m', news', rfl, F, fun p hp => N p (sub p hp), fun p hp q hq => by rw [List.mem_singleton.mp hq]; exact off p hp, r⟩
theorem turn_end2 {g h : Heap} {L i : Addr} {oi : Obj} {x y z : Addr × Obj} {m' : Str → Option Value} {l : List (Addr × Obj)} {rest : (Str → Option Value) → List (Addr × Obj) → Prop} {s₁ : Shared} {tk : Nat} (F : Fr g L h m') (N : News g L h (x :: (i, oi) :: y :: z :: l))
    (h1 : @LT.lt Nat _ x.1 i) (h2 : @LT.lt Nat _ y.1 i) (h3 : @LT.lt Nat _ z.1 i) (h4 : ∀ p ∈ l, p.1 ≠ i) (r : rest m' (x :: y :: z :: l)) : UnrEndW g L s₁ [(i, oi)] rest { s₁ with heap := h, toks := tk } := by
  refine turn_end1 F N (x :: y :: z :: l) (fun p hp => ?_) (fun p hp => ?_) r
  · simp only [List.mem_cons] at hp ⊢
    rcases hp with h | h | h | h | h <;> simp [h]
  · rcases List.mem_cons.mp hp with rfl | hp
    · exact Nat.ne_of_lt h1
    · rcases List.mem_cons.mp hp with rfl | hp
      · exact Nat.ne_of_lt h2
      · rcases List.mem_cons.mp hp with rfl | hp
        · exact Nat.ne_of_lt h3
        · exact h4 p hp
theorem sub_mid {x y z : Addr × Obj} {l : List (Addr × Obj)} : ∀ p ∈ x :: z :: l, p ∈ x :: y :: z :: l := fun p hp => by
  simp only [List.mem_cons] at hp ⊢
  rcases hp with h | h | h <;> simp [h]
/-- ahead of the telling -/
noncomputable def PA2 (w : World) (h₀ : Heap) (L : Addr) (s s' : Shared) : Prop :=
  ∃ m rest b c l d third tk3 vs ns n' tk n o oB oL u1 u2 u3 u4 u5, s'.os = s.os ∧ s'.gens = s.gens ∧ Fr h₀ L s'.heap m ∧ News h₀ L s'.heap ((b, beltO c 1 tk n) :: (d, o) :: rest) ∧ third ∈ thirds ∧ Belt rest b c 1 vs ns n' ∧ (@Ne Nat d b) ∧ (∀ p ∈ rest, p.1 ≠ d) ∧
    (L + 1, oB) ∈ rest ∧ oB.data = .cell (some (.ref b)) ∧ (L + 1 + 1, oL) ∈ rest ∧ oL.data = .cell (some (.ref l)) ∧ (l, cellsO [.str sP u1, .str sQ u2, .str third u3, .str sTrue u4, .str sFalse u5] 0) ∈ rest ∧
    (d == sysModules) = false ∧ o.IsDictOf (strKind PySem.Challenge.rw_sa0020_01.row.toRowW.prog w) [] ∧ m (Str.ofString "told") = some (.ref d) ∧ m (Str.ofString "third") = some (.str third tk3)
theorem PA2.elim {w : World} {h₀ : Heap} {L : Addr} {s s' : Shared} {G : Prop} (h : PA2 w h₀ L s s') (k : ∀ m rest b c l d third tk3 vs ns n' tk n o oB oL u1 u2 u3 u4 u5, s'.os = s.os → s'.gens = s.gens → Fr h₀ L s'.heap m → News h₀ L s'.heap ((b, beltO c 1 tk n) :: (d, o) :: rest) → third ∈ thirds → Belt rest b c 1 vs ns n' → (@Ne Nat d b) → (∀ p ∈ rest, p.1 ≠ d) → (L + 1, oB) ∈ rest → oB.data = .cell (some (.ref b)) → (L + 1 + 1, oL) ∈ rest → oL.data = .cell (some (.ref l)) → (l, cellsO [.str sP u1, .str sQ u2, .str third u3, .str sTrue u4, .str sFalse u5] 0) ∈ rest → (d == sysModules) = false → o.IsDictOf (strKind PySem.Challenge.rw_sa0020_01.row.toRowW.prog w) [] → m (Str.ofString "told") = some (.ref d) → m (Str.ofString "third") = some (.str third tk3) → G) : G := by
  obtain ⟨v0, v1, v2, v3, v4, v5, v6, v7, v8, v9, v10, v11, v12, v13, v14, v15, v16, v17, v18, v19, v20, h0, h1, h2, h3, h4, h5, h6, h7, h8, h9, h10, h11, h12, h13, h14, h15, h16⟩ := h
  exact k _ _ _ _ _ _ _ _ _ _ _ _ _ _ _ _ _ _ _ _ _ h0 h1 h2 h3 h4 h5 h6 h7 h8 h9 h10 h11 h12 h13 h14 h15 h16
theorem PA2.intro {w : World} {h₀ : Heap} {L b c d l : Addr} {m : Str → Option Value} {s s' : Shared} {k : Int} {tk tk3 : Tok} {n n' : Nat} {vs : List Value} {ns : List Int} {third : Str} {o oL oB : Obj} {t1 t3 : Addr × Obj} {u1 u2 u3 u4 u5 : Tok} {r : List (Addr × Obj)}
    (hs1 : s'.os = s.os) (hs2 : s'.gens = s.gens) (F : Fr h₀ L s'.heap m)
    (N : News h₀ L s'.heap [t1, (l, ({ cls := .type "list", data := .seq (List.toArray [.str sP u1, .str sQ u2, .str third u3, .str sTrue u4, .str sFalse u5]) 0 } : Obj)), (d, o), (b, beltO c k tk n), t3, (c, cellsO vs n'), (L + 1 + 1, oL), (L + 1, oB)])
    (hB : Belt r b c k vs ns n') (hk : k = 1) (hoff : ∀ p ∈ [t1, (l, ({ cls := .type "list", data := .seq (List.toArray [.str sP u1, .str sQ u2, .str third u3, .str sTrue u4, .str sFalse u5]) 0 } : Obj)), t3, (c, cellsO vs n'), (L + 1 + 1, oL), (L + 1, oB)], p.1 ≠ b)
    (hoffd : ∀ p ∈ [t1, (l, ({ cls := .type "list", data := .seq (List.toArray [.str sP u1, .str sQ u2, .str third u3, .str sTrue u4, .str sFalse u5]) 0 } : Obj)), t3, (c, cellsO vs n'), (L + 1 + 1, oL), (L + 1, oB)], p.1 ≠ d) (hdb : @Ne Nat d b)
    (h3 : third ∈ thirds) (hoB : oB.data = .cell (some (.ref b))) (hoL : oL.data = .cell (some (.ref l))) (hd1 : (d == sysModules) = false) (hd2 : o.IsDictOf (strKind PySem.Challenge.rw_sa0020_01.row.toRowW.prog w) [])
    (hm : m (Str.ofString "told") = some (.ref d)) (hm3 : m (Str.ofString "third") = some (.str third tk3)) : PA2 w h₀ L s s' := by
  subst hk
  refine ⟨m, [t1, (l, ({ cls := .type "list", data := .seq (List.toArray [.str sP u1, .str sQ u2, .str third u3, .str sTrue u4, .str sFalse u5]) 0 } : Obj)), t3, (c, cellsO vs n'), (L + 1 + 1, oL), (L + 1, oB)], b, c, l, d, third, tk3, vs, ns, n', tk, n, o, oB, oL, u1, u2, u3, u4, u5, hs1, hs2, F, News.sub N fun p hp => ?_, h3, hB.re (by simp) hoff, hdb, hoffd, by simp, hoB, by simp, hoL, by simp, hd1, hd2, hm, hm3⟩
  simp only [List.mem_cons, List.not_mem_nil, or_false] at hp ⊢
  rcases hp with h | h | h | h | h | h | h | h <;> simp [h]
theorem PB.intro {w : World} {h₀ : Heap} {L b c d l : Addr} {m : Str → Option Value} {s s' : Shared} {k : Int} {tk : Tok} {n n' : Nat} {vs : List Value} {ns : List Int} {third : Str} {b1 b2 b3 : Bool} {o oL oB : Obj} {kvs : List (Str × Value)} {u1 u2 u3 u4 u5 : Tok} {r rest full : List (Addr × Obj)}
    (hs1 : s'.os = s.os) (hs2 : s'.gens = s.gens) (F : Fr h₀ L s'.heap m) (N : News h₀ L s'.heap full) (hsub : ∀ p ∈ (b, beltO c k tk n) :: (d, o) :: rest, p ∈ full)
    (hB : Belt r b c k vs ns n') (hk : k = 4) (hoff : ∀ p ∈ rest, p.1 ≠ b) (hdb : @Ne Nat d b) (hc : (c, cellsO vs n') ∈ rest) (hmB : (L + 1, oB) ∈ rest) (hmL : (L + 1 + 1, oL) ∈ rest) (hml : (l, cellsO [.str sP u1, .str sQ u2, .str third u3, .str sTrue u4, .str sFalse u5] 0) ∈ rest)
    (h3 : third ∈ thirds) (hoB : oB.data = .cell (some (.ref b))) (hoL : oL.data = .cell (some (.ref l))) (hd1 : (d == sysModules) = false) (hd2 : o.IsDictOf (strKind PySem.Challenge.rw_sa0020_01.row.toRowW.prog w) kvs)
    (hd3 : PyProof.V.FlatPairs PyData.str kvs (PyProof.V.putD (PyData.str third) (PyData.bool b3) (PyProof.V.putD (PyData.str sQ) (PyData.bool b2) (PyProof.V.putD (PyData.str sP) (PyData.bool b1) []))))
    (hm : m (Str.ofString "told") = some (.ref d)) : PB w h₀ L s s' := by
  subst hk
  rw [told_put h3] at hd3
  have sub : ∀ p ∈ rest, p ∈ (d, o) :: rest := fun p hp => List.mem_cons_of_mem _ hp
  refine ⟨m, (d, o) :: rest, b, c, l, d, third, b1, b2, b3, vs, ns, n', tk, n, hs1, hs2, F, News.sub N hsub, h3, ⟨hB.re (sub _ hc) fun p hp => ?_, ⟨oB, sub _ hmB, hoB⟩, ⟨oL, sub _ hmL, hoL⟩, ⟨u1, u2, u3, u4, u5, 0, sub _ hml⟩, ⟨o, kvs, List.mem_cons_self, hd1, hd2, hd3⟩⟩, hm⟩
  rcases List.mem_cons.mp hp with rfl | hp
  · exact hdb
  · exact hoff p hp
end
section
example : True := by (w_top off); trivial
open PySem PySem.W PyProof.Rows PySem.Spec PySem.Calls
theorem Tr.fine_over {ok p : Str → Prop} (h : ∀ x, ok x → p x) (h1 : p sAnd) (h2 : p sOr) (h3 : p sImp) (h4 : p sNot) : ∀ {t : Tr}, t.fine ok → t.over p
  | .n0 x, f => h x f
  | .n1 _ a, f => ⟨by rw [f.1]; exact h4, Tr.fine_over h h1 h2 h3 h4 (t := a) f.2⟩
  | .n2 _ a b, f => ⟨by rcases f.1 with e | e | e <;> rw [e] <;> assumption, Tr.fine_over h h1 h2 h3 h4 (t := a) f.2.1, Tr.fine_over h h1 h2 h3 h4 (t := b) f.2.2⟩
  | .n3 _ _ _ _, f => f.elim
theorem Tr.fine_le2 {ok : Str → Prop} : ∀ {t : Tr}, t.fine ok → t.le2
  | .n0 _, _ => trivial
  | .n1 _ a, f => Tr.fine_le2 (t := a) f.2
  | .n2 _ a b, f => ⟨Tr.fine_le2 (t := a) f.2.1, Tr.fine_le2 (t := b) f.2.2⟩
  | .n3 _ _ _ _, f => f.elim
/-- the law's leaves -/
noncomputable def ok5 (third : Str) (x : Str) : Prop := x ∈ [sP, sQ, third, sTrue, sFalse]
noncomputable def ok6 (third : Str) (x : Str) : Prop := x ∈ [sP, sQ, third, sTrue, sFalse, sS]
/-- texts that the model lays, short ones -/
noncomputable def okT (x : Str) : Prop := layS x ∧ x.length ≤ 100
noncomputable def okTB (x : Str) : Bool := PyData.canLay0 (.str x) && decide (x.length ≤ 100)
theorem okT_of {x : Str} (h : okTB x = true) : okT x := by
  simp only [okTB, Bool.and_eq_true, decide_eq_true_eq] at h
  exact h
theorem okT_thirds : ∀ x ∈ thirds, okT x := by
  have h : thirds.all okTB = true := by decide +kernel
  exact fun x hx => okT_of (List.all_eq_true.mp h x hx)
theorem okT_6 {third x : Str} (h : third ∈ thirds) (hx : ok6 third x) : okT x := by
  simp only [ok6, List.mem_cons, List.not_mem_nil, or_false] at hx
  rcases hx with rfl | rfl | rfl | rfl | rfl | rfl
  · exact okT_of (by decide +kernel)
  · exact okT_of (by decide +kernel)
  · exact okT_thirds _ h
  · exact okT_of (by decide +kernel)
  · exact okT_of (by decide +kernel)
  · exact okT_of (by decide +kernel)
theorem ok5_6 {third x : Str} (h : ok5 third x) : ok6 third x := by
  simp only [ok5, ok6, List.mem_cons, List.not_mem_nil, or_false] at h ⊢
  rcases h with h | h | h | h | h <;> simp [h]
theorem fine_okT {third : Str} {t : Tr} (h : third ∈ thirds) (f : t.fine (ok6 third)) : t.over okT :=
  Tr.fine_over (fun _ hx => okT_6 h hx) (okT_of (by decide +kernel)) (okT_of (by decide +kernel)) (okT_of (by decide +kernel)) (okT_of (by decide +kernel)) f
theorem Tr.fine_mono {p q : Str → Prop} (h : ∀ x, p x → q x) : ∀ {t : Tr}, t.fine p → t.fine q
  | .n0 x, f => h x f
  | .n1 _ a, f => ⟨f.1, Tr.fine_mono h (t := a) f.2⟩
  | .n2 _ a b, f => ⟨f.1, Tr.fine_mono h (t := a) f.2.1, Tr.fine_mono h (t := b) f.2.2⟩
  | .n3 _ _ _ _, f => f.elim
theorem okT_lay {t : Tr} (h : t.over okT) : t.over layS := Tr.over_mono (fun _ h => h.1) h
theorem okT_len {t : Tr} (h : t.over okT) : t.over fun op => op.length ≤ 100 := Tr.over_mono (fun _ h => h.2) h
theorem names5 {third : Str} {t1 t2 t3 t4 t5 : Tok} : NamesAre (ok5 third) [.str sP t1, .str sQ t2, .str third t3, .str sTrue t4, .str sFalse t5] := fun v hv => by
  simp only [List.mem_cons, List.not_mem_nil, or_false] at hv
  rcases hv with rfl | rfl | rfl | rfl | rfl <;> exact ⟨_, _, rfl, by simp [ok5]⟩
theorem names6 {third : Str} {t1 t2 t3 t4 t5 t6 : Tok} {ws : List Value} (h : ∀ x ∈ ws, x = .str sS t6) : NamesAre (ok6 third) ([.str sP t1, .str sQ t2, .str third t3, .str sTrue t4, .str sFalse t5] ++ ws) := fun v hv => by
  rcases List.mem_append.mp hv with hv | hv
  · obtain ⟨x, tk, e, hx⟩ := names5 (third := third) v hv
    exact ⟨x, tk, e, ok5_6 hx⟩
  · exact ⟨sS, t6, h v hv, by simp [ok6]⟩
section
variable {prog : Program} {w : World} {A : Around} {E : Value → Shared → Prop} {s : Shared} {h₀ : Heap} {L : Addr} {m : Str → Option Value} {news : List (Addr × Obj)} {Q : Value → Shared → Prop}
/-- a list of one, no or one time -/
theorem r_mulB {D : Addr} {v : Value} {n : Nat} {k : Int} {t : Tok} (F : Fr h₀ L s.heap m) (N : News h₀ L s.heap news) (hm : (D, ({ cls := .type "list", data := .seq (List.toArray [v]) n } : Obj)) ∈ news) (h0 : 0 ≤ k) (h1 : k ≤ 1)
    (h : ∀ D' ws h', Fr h₀ L h' m → News h₀ L h' ((D', ({ cls := .type "list", data := .seq (List.toArray ws) 0 } : Obj)) :: news) → (∀ p ∈ news, p.1 < D') → (∀ x ∈ ws, x = v) → ws.length ≤ 1 → Q (.ref D') { s with heap := h' }) :
    wpAny (model prog w) A (binaryOp .Mult (.ref D) (.int k t)) Q E s := by
  refine KMa.mul F N (News.isList N hm) (by omega) (by omega) (by simp; omega) rfl fun D' h' F' N' hl => h D' _ h' F' N' hl (fun x hx => ?_) ?_
  · obtain ⟨l, hl, hxl⟩ := List.mem_flatten.mp hx
    rw [(List.mem_replicate.mp hl).2] at hxl
    exact List.mem_singleton.mp hxl
  · have hk : k = 0 ∨ k = 1 := by omega
    rcases hk with rfl | rfl <;> simp
end
/-- the law's state between its statements -/
structure LawSt (w : World) (h₀ : Heap) (L : Addr) (s s' : Shared) (third : Str) (T : List (Str × Bool)) (b c l td : Addr) (k : Int) (vs : List Value) (ns : List Int) (n' : Nat) (m : Str → Option Value) (rest : List (Addr × Obj)) : Prop where
  os : s'.os = s.os
  gens : s'.gens = s.gens
  fr : Fr h₀ L s'.heap m
  news : ∃ tk n, News h₀ L s'.heap ((b, beltO c k tk n) :: rest)
  third3 : third ∈ thirds
  told3 : ∃ b1 b2 b3, T = Told3 third b1 b2 b3
  rest : RestOk w L b c l td third T k vs ns n' rest
  toldm : m (Str.ofString "told") = some (.ref td)
theorem LawSt.elim {w : World} {h₀ : Heap} {L : Addr} {s s' : Shared} {third : Str} {T : List (Str × Bool)} {b c l td : Addr} {k : Int} {vs : List Value} {ns : List Int} {n' : Nat} {m : Str → Option Value} {rest : List (Addr × Obj)} {G : Prop} (S : LawSt w h₀ L s s' third T b c l td k vs ns n' m rest)
    (g : s'.os = s.os → s'.gens = s.gens → Fr h₀ L s'.heap m → ∀ tk n, News h₀ L s'.heap ((b, beltO c k tk n) :: rest) → third ∈ thirds → ∀ b1 b2 b3, T = Told3 third b1 b2 b3 → RestOk w L b c l td third T k vs ns n' rest → m (Str.ofString "told") = some (.ref td) → G) : G := by
  obtain ⟨h1, h2, F, ⟨tk, n, N⟩, h3, ⟨b1, b2, b3, h4⟩, h5, h6⟩ := S
  exact g h1 h2 F tk n N h3 b1 b2 b3 h4 h5 h6
noncomputable def PC (w : World) (h₀ : Heap) (L : Addr) (s s' : Shared) : Prop :=
  ∃ third T b c l td k vs ns n' m rest tv t, LawSt w h₀ L s s' third T b c l td k vs ns n' m rest ∧ k ≤ 20 ∧ m (Str.ofString "term") = some tv ∧ TIn rest tv t ∧ t.fine (ok6 third) ∧ t.dep ≤ 4
theorem PC.elim {w : World} {h₀ : Heap} {L : Addr} {s s' : Shared} {G : Prop} (h : PC w h₀ L s s') (k : ∀ third T b c l td k vs ns n' m rest tv t, LawSt w h₀ L s s' third T b c l td k vs ns n' m rest → k ≤ 20 → m (Str.ofString "term") = some tv → TIn rest tv t → t.fine (ok6 third) → t.dep ≤ 4 → G) : G := by
  obtain ⟨v0, v1, v2, v3, v4, v5, v6, v7, v8, v9, v10, v11, v12, v13, h0, h1, h2, h3, h4, h5⟩ := h
  exact k _ _ _ _ _ _ _ _ _ _ _ _ _ _ h0 h1 h2 h3 h4 h5
theorem LawSt.mk' {w : World} {h₀ : Heap} {L : Addr} {s s' : Shared} {third : Str} {T : List (Str × Bool)} {b c l td : Addr} {k k' : Int} {vs : List Value} {ns : List Int} {n' : Nat} {m : Str → Option Value} {rest tl full : List (Addr × Obj)} {b1 b2 b3 : Bool} {tk : Tok} {n : Nat}
    (h1 : s'.os = s.os) (h2 : s'.gens = s.gens) (F : Fr h₀ L s'.heap m) (N : News h₀ L s'.heap ((b, beltO c k' tk n) :: full)) (hf : full = tl ++ rest) (h3 : third ∈ thirds) (hT : T = Told3 third b1 b2 b3) (R : RestOk w L b c l td third T k vs ns n' rest) (hk : k ≤ k') (off : ∀ p ∈ tl, p.1 ≠ b) (hm : m (Str.ofString "told") = some (.ref td)) :
    LawSt w h₀ L s s' third T b c l td k' vs ns n' m full := by
  subst hf
  exact ⟨h1, h2, F, ⟨tk, n, N⟩, h3, ⟨b1, b2, b3, hT⟩, R.app hk off, hm⟩
theorem off_b {b : Addr} {o : Obj} {tl l xs : List (Addr × Obj)} (h : ∀ p ∈ tl, ∀ q ∈ (b, o) :: l, p.1 ≠ q.1) (hx : ∀ p ∈ xs, p.1 ≠ b) : ∀ p ∈ tl ++ xs, p.1 ≠ b := fun p hp => by
  rcases List.mem_append.mp hp with hp | hp
  · exact h p hp (b, o) List.mem_cons_self
  · exact hx p hp
theorem LawSt.mk3 {w : World} {h₀ : Heap} {L : Addr} {s s' : Shared} {third : Str} {T : List (Str × Bool)} {b c l td : Addr} {k k' : Int} {vs : List Value} {ns : List Int} {n' : Nat} {m : Str → Option Value} {rest tl g : List (Addr × Obj)} {b1 b2 b3 : Bool} {tk : Tok} {n : Nat} {x y z : Addr × Obj} {o : Obj}
    (h1 : s'.os = s.os) (h2 : s'.gens = s.gens) (F : Fr h₀ L s'.heap m) (N : News h₀ L s'.heap ((b, beltO c k' tk n) :: (tl ++ x :: y :: z :: rest))) (h3 : third ∈ thirds) (hT : T = Told3 third b1 b2 b3) (R : RestOk w L b c l td third T k vs ns n' rest) (hk : k ≤ k')
    (off : ∀ p ∈ tl, ∀ q ∈ (b, o) :: g, p.1 ≠ q.1) (hx : @LT.lt Nat _ b x.1) (hy : @LT.lt Nat _ b y.1) (hz : @LT.lt Nat _ b z.1) (hm : m (Str.ofString "told") = some (.ref td)) :
    LawSt w h₀ L s s' third T b c l td k' vs ns n' m (tl ++ x :: y :: z :: rest) := by
  refine LawSt.mk' (tl := tl ++ [x, y, z]) h1 h2 F N (by simp only [List.append_assoc, List.cons_append, List.nil_append]) h3 hT R hk (off_b off fun p hp => ?_) hm
  simp only [List.mem_cons, List.not_mem_nil, or_false] at hp
  rcases hp with rfl | rfl | rfl
  · exact Nat.ne_of_gt hx
  · exact Nat.ne_of_gt hy
  · exact Nat.ne_of_gt hz
end
section
example : True := by (w_top off); trivial
open PySem PySem.W PyProof.Rows PySem.Spec PySem.Calls
section
variable {w : World} {A : Around} {E : Value → Shared → Prop} {s : Shared} {h₀ : Heap} {L : Addr} {m : Str → Option Value} {Q : Value → Shared → Prop}
/-- a pair of the text's own table at an open place -/
theorem r_broken {value slice : Expr} {i : Int} {u : Tok} (F : Fr h₀ L s.heap m) (X : (hd.heap_1 w.params).In h₀) (h0 : 0 ≤ i) (h1 : i < 16)
    (h : ∀ a op many tk tk', IsTup s.heap a (List.toArray [.str op tk, .int many tk']) → okT op → (many = 0 ∨ many = 1 ∨ many = 2 ∨ many = 3) → Q (.ref a) s)
    (hs : subscripted slice false (.ref 186) (.int i u) = operate [.ref 186, .int i u] (getItem (.ref 186) (.int i u))) (hg : ∀ r, letTemporaryGo value (.ref 186) r = pure ()) :
    wpAny (model PySem.Challenge.rw_sa0020_01.row.toRowW.prog w) A (subscriptTail value slice (.ref 186) (.int i u)) Q E s := by
  revert X h
  k_fill
  intro X h
  have one : ∀ (a : Addr) (o : Obj), (hd.heap_1 w.params).lookup a = some o → s.heap.get? a = some o := fun a o e => F.keep _ _ (X a o e)
  have r186 := one 186 _ (by k_is)
  have tup : ∀ (a : Addr) (op : Str) (many : Int) (tk tk' : Tok) (n : Nat), s.heap.get? a = some (tupO [.str op tk, .int many tk'] n) → okT op → (many = 0 ∨ many = 1 ∨ many = 2 ∨ many = 3) → Q (.ref a) s := fun a op many tk tk' n e h1 h2 => h a op many tk tk' ⟨_, e, rfl, n, rfl⟩ h1 h2
  have q0 : Q (.ref 170) s := tup 170 _ _ _ _ _ (one 170 _ (by k_is)) (okT_of (by decide +kernel)) (by decide)
  have q1 : Q (.ref 171) s := tup 171 _ _ _ _ _ (one 171 _ (by k_is)) (okT_of (by decide +kernel)) (by decide)
  have q2 : Q (.ref 172) s := tup 172 _ _ _ _ _ (one 172 _ (by k_is)) (okT_of (by decide +kernel)) (by decide)
  have q3 : Q (.ref 173) s := tup 173 _ _ _ _ _ (one 173 _ (by k_is)) (okT_of (by decide +kernel)) (by decide)
  have q4 : Q (.ref 174) s := tup 174 _ _ _ _ _ (one 174 _ (by k_is)) (okT_of (by decide +kernel)) (by decide)
  have q5 : Q (.ref 175) s := tup 175 _ _ _ _ _ (one 175 _ (by k_is)) (okT_of (by decide +kernel)) (by decide)
  have q6 : Q (.ref 176) s := tup 176 _ _ _ _ _ (one 176 _ (by k_is)) (okT_of (by decide +kernel)) (by decide)
  have q7 : Q (.ref 177) s := tup 177 _ _ _ _ _ (one 177 _ (by k_is)) (okT_of (by decide +kernel)) (by decide)
  have q8 : Q (.ref 178) s := tup 178 _ _ _ _ _ (one 178 _ (by k_is)) (okT_of (by decide +kernel)) (by decide)
  have q9 : Q (.ref 179) s := tup 179 _ _ _ _ _ (one 179 _ (by k_is)) (okT_of (by decide +kernel)) (by decide)
  have q10 : Q (.ref 180) s := tup 180 _ _ _ _ _ (one 180 _ (by k_is)) (okT_of (by decide +kernel)) (by decide)
  have q11 : Q (.ref 181) s := tup 181 _ _ _ _ _ (one 181 _ (by k_is)) (okT_of (by decide +kernel)) (by decide)
  have q12 : Q (.ref 182) s := tup 182 _ _ _ _ _ (one 182 _ (by k_is)) (okT_of (by decide +kernel)) (by decide)
  have q13 : Q (.ref 183) s := tup 183 _ _ _ _ _ (one 183 _ (by k_is)) (okT_of (by decide +kernel)) (by decide)
  have q14 : Q (.ref 184) s := tup 184 _ _ _ _ _ (one 184 _ (by k_is)) (okT_of (by decide +kernel)) (by decide)
  have q15 : Q (.ref 185) s := tup 185 _ _ _ _ _ (one 185 _ (by k_is)) (okT_of (by decide +kernel)) (by decide)
  have hall : ∀ x ∈ [Value.ref 170, .ref 171, .ref 172, .ref 173, .ref 174, .ref 175, .ref 176, .ref 177, .ref 178, .ref 179, .ref 180, .ref 181, .ref 182, .ref 183, .ref 184, .ref 185], Q x s := List.forall_mem_cons.mpr ⟨q0, List.forall_mem_cons.mpr ⟨q1, List.forall_mem_cons.mpr ⟨q2, List.forall_mem_cons.mpr ⟨q3, List.forall_mem_cons.mpr ⟨q4, List.forall_mem_cons.mpr ⟨q5, List.forall_mem_cons.mpr ⟨q6, List.forall_mem_cons.mpr ⟨q7, List.forall_mem_cons.mpr ⟨q8, List.forall_mem_cons.mpr ⟨q9, List.forall_mem_cons.mpr ⟨q10, List.forall_mem_cons.mpr ⟨q11, List.forall_mem_cons.mpr ⟨q12, List.forall_mem_cons.mpr ⟨q13, List.forall_mem_cons.mpr ⟨q14, List.forall_mem_cons.mpr ⟨q15, fun _ h => nomatch h⟩⟩⟩⟩⟩⟩⟩⟩⟩⟩⟩⟩⟩⟩⟩⟩
  exact tab_at (l := [Value.ref 170, .ref 171, .ref 172, .ref 173, .ref 174, .ref 175, .ref 176, .ref 177, .ref 178, .ref 179, .ref 180, .ref 181, .ref 182, .ref 183, .ref 184, .ref 185]) ⟨_, r186, rfl, _, rfl⟩ h0 h1 hall (by decide) hs hg
end
noncomputable def PD (w : World) (h₀ : Heap) (L : Addr) (s s' : Shared) : Prop :=
  ∃ third T b c l td k vs ns n' m rest tv t op tko many tkm, LawSt w h₀ L s s' third T b c l td k vs ns n' m rest ∧ k ≤ 21 ∧ m (Str.ofString "term") = some tv ∧ TIn rest tv t ∧ t.fine (ok6 third) ∧ t.dep ≤ 4 ∧
    m (Str.ofString "op") = some (.str op tko) ∧ m (Str.ofString "many") = some (.int many tkm) ∧ okT op ∧ (many = 0 ∨ many = 1 ∨ many = 2 ∨ many = 3)
theorem PD.elim {w : World} {h₀ : Heap} {L : Addr} {s s' : Shared} {G : Prop} (h : PD w h₀ L s s') (k : ∀ third T b c l td k vs ns n' m rest tv t op tko many tkm, LawSt w h₀ L s s' third T b c l td k vs ns n' m rest → k ≤ 21 → m (Str.ofString "term") = some tv → TIn rest tv t → t.fine (ok6 third) → t.dep ≤ 4 → m (Str.ofString "op") = some (.str op tko) → m (Str.ofString "many") = some (.int many tkm) → okT op → (many = 0 ∨ many = 1 ∨ many = 2 ∨ many = 3) → G) : G := by
  obtain ⟨v0, v1, v2, v3, v4, v5, v6, v7, v8, v9, v10, v11, v12, v13, v14, v15, v16, v17, h0, h1, h2, h3, h4, h5, h6, h7, h8, h9⟩ := h
  exact k _ _ _ _ _ _ _ _ _ _ _ _ _ _ _ _ _ _ h0 h1 h2 h3 h4 h5 h6 h7 h8 h9
noncomputable def PE (w : World) (h₀ : Heap) (L : Addr) (s s' : Shared) : Prop :=
  ∃ third T b c l td k vs ns n' m rest tv t pv p, LawSt w h₀ L s s' third T b c l td k vs ns n' m rest ∧ k ≤ 30 ∧ m (Str.ofString "term") = some tv ∧ TIn rest tv t ∧ t.fine (ok6 third) ∧ t.dep ≤ 4 ∧
    m (Str.ofString "part") = some pv ∧ TIn rest pv p ∧ p.over okT ∧ p.dep ≤ 3
theorem PE.elim {w : World} {h₀ : Heap} {L : Addr} {s s' : Shared} {G : Prop} (h : PE w h₀ L s s') (k : ∀ third T b c l td k vs ns n' m rest tv t pv p, LawSt w h₀ L s s' third T b c l td k vs ns n' m rest → k ≤ 30 → m (Str.ofString "term") = some tv → TIn rest tv t → t.fine (ok6 third) → t.dep ≤ 4 → m (Str.ofString "part") = some pv → TIn rest pv p → p.over okT → p.dep ≤ 3 → G) : G := by
  obtain ⟨v0, v1, v2, v3, v4, v5, v6, v7, v8, v9, v10, v11, v12, v13, v14, v15, h0, h1, h2, h3, h4, h5, h6, h7, h8, h9⟩ := h
  exact k _ _ _ _ _ _ _ _ _ _ _ _ _ _ _ _ h0 h1 h2 h3 h4 h5 h6 h7 h8 h9
theorem Belt.consN {g h : Heap} {L D : Addr} {o : Obj} {x : Addr × Obj} {rest : List (Addr × Obj)} {b c : Addr} {k : Int} {vs : List Value} {ns : List Int} {n' : Nat} (_ : News g L h ((D, o) :: x :: rest)) (hB : Belt rest b c k vs ns n') (h : @LT.lt Nat _ b D) : Belt ((D, o) :: rest) b c k vs ns n' := hB.cons (Nat.ne_of_gt h)
theorem sub_q0 {y z q d : Addr × Obj} {r : List (Addr × Obj)} : ∀ p ∈ q :: ([d] ++ r), p ∈ y :: z :: q :: d :: r := fun p hp => by
  simp only [List.singleton_append, List.mem_cons] at hp ⊢
  rcases hp with h | h | h <;> simp [h]
theorem sub_q1 {x y z q d : Addr × Obj} {t1 r : List (Addr × Obj)} : ∀ p ∈ q :: (([x] ++ t1) ++ r), p ∈ x :: y :: z :: q :: (t1 ++ d :: r) := fun p hp => by
  simp only [List.mem_cons, List.mem_append, List.not_mem_nil, or_false] at hp ⊢
  rcases hp with h | (h | h) | h <;> simp [h]
theorem sub_q2 {x y z q d : Addr × Obj} {t1 t2 r : List (Addr × Obj)} : ∀ p ∈ q :: (([x] ++ (t2 ++ t1)) ++ r), p ∈ x :: y :: z :: q :: (t2 ++ (t1 ++ d :: r)) := fun p hp => by
  simp only [List.mem_cons, List.mem_append, List.not_mem_nil, or_false] at hp ⊢
  rcases hp with h | (h | h | h) | h <;> simp [h]
theorem sub_q3 {x y z q d : Addr × Obj} {t1 t2 t3 r : List (Addr × Obj)} : ∀ p ∈ q :: (([x] ++ (t3 ++ (t2 ++ t1))) ++ r), p ∈ x :: y :: z :: q :: (t3 ++ (t2 ++ (t1 ++ d :: r))) := fun p hp => by
  simp only [List.mem_cons, List.mem_append, List.not_mem_nil, or_false] at hp ⊢
  rcases hp with h | (h | h | h | h) | h <;> simp [h]
theorem tup0 {D : Addr} {op : Str} {tk : Tok} {n : Nat} : TIn [(D, tupO [.str op tk] n)] (.ref D) (.n0 op) := .n0 (tk := tk) (n := n) List.mem_cons_self
theorem tup3 {tl1 tl2 tl3 : List (Addr × Obj)} {D : Addr} {op : Str} {tk : Tok} {n : Nat} {r1 r2 r3 : Value} {t1 t2 t3 : Tr} (h1 : TIn tl1 r1 t1) (h2 : TIn tl2 r2 t2) (h3 : TIn tl3 r3 t3) : TIn ([(D, tupO [.str op tk, r1, r2, r3] n)] ++ (tl3 ++ (tl2 ++ tl1))) (.ref D) (.n3 op t1 t2 t3) :=
  .n3 (tk := tk) (n := n) (List.mem_append_left _ List.mem_cons_self) (h1.mono (by intro p hp; simp [hp])) (h2.mono (by intro p hp; simp [hp])) (h3.mono (by intro p hp; simp [hp]))
theorem PE.intro {w : World} {h₀ : Heap} {L : Addr} {s s' : Shared} {third : Str} {T : List (Str × Bool)} {b c l td : Addr} {k k' : Int} {vs : List Value} {ns : List Int} {n' : Nat} {m : Str → Option Value} {rest xs full : List (Addr × Obj)} {tk : Tok} {n : Nat} {tv pv : Value} {t p : Tr} {b1 b2 b3 : Bool}
    (h1 : s'.os = s.os) (h2 : s'.gens = s.gens) (F : Fr h₀ L s'.heap m) (N : News h₀ L s'.heap full) (hsub : ∀ p ∈ (b, beltO c k' tk n) :: (xs ++ rest), p ∈ full) (h3 : third ∈ thirds) (hT3 : T = Told3 third b1 b2 b3) (R : RestOk w L b c l td third T k vs ns n' rest) (hk : k ≤ k') (hk' : k' ≤ 30)
    (hoff : ∀ p ∈ xs, p.1 ≠ b) (hm : m (Str.ofString "told") = some (.ref td)) (hmt : m (Str.ofString "term") = some tv) (hT : TIn rest tv t) (hfine : t.fine (ok6 third)) (htd : t.dep ≤ 4) (hmp : m (Str.ofString "part") = some pv) (hP : TIn xs pv p) (hov : p.over okT) (hdp : p.dep ≤ 3) : PE w h₀ L s s' :=
  ⟨third, T, b, c, l, td, k', vs, ns, n', m, xs ++ rest, tv, t, pv, p, LawSt.mk' (tl := xs) h1 h2 F (News.sub N hsub) rfl h3 hT3 R hk hoff hm, hk', hmt, hT.mono (fun p hp => List.mem_append_right _ hp), hfine, htd, hmp, hP.mono (fun p hp => List.mem_append_left _ hp), hov, hdp⟩
theorem off_cons {P b : Addr} {o : Obj} {xs : List (Addr × Obj)} (h : @LT.lt Nat _ b P) (hx : ∀ p ∈ xs, p.1 ≠ b) : ∀ p ∈ [(P, o)] ++ xs, p.1 ≠ b := fun p hp => by
  rcases List.mem_append.mp hp with hp | hp
  · rw [List.mem_singleton.mp hp]; exact Nat.ne_of_gt h
  · exact hx p hp
theorem off_t {b : Addr} {o : Obj} {tl l : List (Addr × Obj)} (h : ∀ p ∈ tl, ∀ q ∈ (b, o) :: l, p.1 ≠ q.1) : ∀ p ∈ tl, p.1 ≠ b := fun p hp => h p hp (b, o) List.mem_cons_self
theorem off_two {b : Addr} {xs ys : List (Addr × Obj)} (h : ∀ p ∈ xs, p.1 ≠ b) (h' : ∀ p ∈ ys, p.1 ≠ b) : ∀ p ∈ xs ++ ys, p.1 ≠ b := fun p hp => (List.mem_append.mp hp).elim (h p) (h' p)
theorem off_one {P b : Addr} {o : Obj} (h : @LT.lt Nat _ b P) : ∀ p ∈ [(P, o)], p.1 ≠ b := fun p hp => by
  rw [List.mem_singleton.mp hp]; exact Nat.ne_of_gt h
end
section
example : True := by (w_top off); trivial
open PySem PySem.W PyProof.Rows PySem.Spec PySem.Calls
theorem Tr.put_over {ok : Str → Prop} {p : Tr} (hp : p.over ok) : ∀ {t : Tr} {ws : List Nat}, t.over ok → (Tr.put p t ws).over ok
  | .n0 _, [], _ => hp
  | .n1 _ _, [], _ => hp
  | .n2 _ _ _, [], _ => hp
  | .n3 _ _ _ _, [], _ => hp
  | .n0 _, _ :: _, h => by simp only [Tr.put]; exact h
  | .n1 _ a, 0 :: ws, h => ⟨h.1, Tr.put_over hp (t := a) h.2⟩
  | .n1 _ _, (_ + 1) :: _, h => by simp only [Tr.put]; exact h
  | .n2 _ a b, 0 :: ws, h => ⟨h.1, Tr.put_over hp (t := a) h.2.1, h.2.2⟩
  | .n2 _ a b, 1 :: ws, h => ⟨h.1, h.2.1, Tr.put_over hp (t := b) h.2.2⟩
  | .n2 _ _ _, (_ + 2) :: _, h => by simp only [Tr.put]; exact h
  | .n3 _ _ _ _, _ :: _, h => by simp only [Tr.put]; exact h
theorem Tr.put_dep {p : Tr} : ∀ {t : Tr} {ws : List Nat}, (Tr.put p t ws).dep ≤ t.dep + p.dep
  | .n0 _, [] => by simp [Tr.put, Tr.dep]
  | .n1 _ _, [] => by simp only [Tr.put]; omega
  | .n2 _ _ _, [] => by simp only [Tr.put]; omega
  | .n3 _ _ _ _, [] => by simp only [Tr.put]; omega
  | .n0 _, _ :: _ => by simp only [Tr.put]; omega
  | .n1 _ a, 0 :: ws => by have := Tr.put_dep (p := p) (t := a) (ws := ws); simp only [Tr.put, Tr.dep]; omega
  | .n1 _ _, (_ + 1) :: _ => by simp only [Tr.put]; omega
  | .n2 _ a b, 0 :: ws => by have := Tr.put_dep (p := p) (t := a) (ws := ws); simp only [Tr.put, Tr.dep]; omega
  | .n2 _ a b, 1 :: ws => by have := Tr.put_dep (p := p) (t := b) (ws := ws); simp only [Tr.put, Tr.dep]; omega
  | .n2 _ _ _, (_ + 2) :: _ => by simp only [Tr.put]; omega
  | .n3 _ _ _ _, _ :: _ => by simp only [Tr.put]; omega
section
variable {prog : Program} {w : World} {A : Around} {E : Value → Shared → Prop} {s : Shared} {h₀ : Heap} {L : Addr} {m : Str → Option Value} {news : List (Addr × Obj)} {Q : Value → Shared → Prop}
/-- an item of a list at an open place -/
theorem r_pickV {value slice : Expr} {l : Addr} {vs : List Value} {nl : Nat} {i : Int} {u : Tok} (N : News h₀ L s.heap news) (hm : (l, ({ cls := .type "list", data := .seq (List.toArray vs) nl } : Obj)) ∈ news) (h0 : 0 ≤ i) (h1 : i < (vs.length : Nat)) (hl : vs.length ≤ 100) (h : ∀ v ∈ vs, Q v s)
    (hs : subscripted slice false (.ref l) (.int i u) = operate [.ref l, .int i u] (getItem (.ref l) (.int i u))) (hg : ∀ r, letTemporaryGo value (.ref l) r = pure ()) :
    wpAny (model prog w) A (subscriptTail value slice (.ref l) (.int i u)) Q E s := by
  have hi : i.toNat < vs.length := by omega
  exact item_list (News.isList N hm) h0 (by omega) (x := vs[i.toNat]) (by simp [List.getElem?_eq_getElem hi]) (h _ (List.getElem_mem hi)) hs hg
end
theorem sub_b {x : Addr × Obj} {tl rest : List (Addr × Obj)} : ∀ p ∈ x :: (tl ++ rest), p ∈ tl ++ x :: rest := fun p hp => by
  simp only [List.mem_cons, List.mem_append] at hp ⊢
  rcases hp with h | h | h <;> simp [h]
theorem Belt.tl {tl rest : List (Addr × Obj)} {b c : Addr} {k : Int} {vs : List Value} {ns : List Int} {n' : Nat} {o : Obj} (hB : Belt rest b c k vs ns n') (h : Fresh tl ((b, o) :: rest)) : Belt (tl ++ rest) b c k vs ns n' := Belt.app hB h
noncomputable def PF (w : World) (h₀ : Heap) (L : Addr) (s s' : Shared) : Prop :=
  ∃ third T b c l td k vs ns n' m rest, LawSt w h₀ L s s' third T b c l td k vs ns n' m rest ∧ k ≤ 31
theorem PF.elim {w : World} {h₀ : Heap} {L : Addr} {s s' : Shared} {G : Prop} (h : PF w h₀ L s s') (k : ∀ third T b c l td k vs ns n' m rest, LawSt w h₀ L s s' third T b c l td k vs ns n' m rest → k ≤ 31 → G) : G := by
  obtain ⟨v0, v1, v2, v3, v4, v5, v6, v7, v8, v9, v10, v11, h0, h1⟩ := h
  exact k _ _ _ _ _ _ _ _ _ _ _ _ h0 h1
theorem sub_bb {x : Addr × Obj} {t1 t2 rest : List (Addr × Obj)} : ∀ p ∈ x :: rest, p ∈ t1 ++ x :: (t2 ++ rest) := fun p hp => by
  simp only [List.mem_cons, List.mem_append] at hp ⊢
  rcases hp with h | h <;> simp [h]
end
section
example : True := by (w_top off); trivial
open PySem PySem.W PyProof.Rows PySem.Spec PySem.Calls
theorem sub_r {q i d z : Addr × Obj} {tl r : List (Addr × Obj)} : ∀ p ∈ q :: i :: d :: z :: (tl ++ r), p ∈ q :: (tl ++ i :: d :: z :: r) := fun p hp => by
  simp only [List.mem_cons, List.mem_append] at hp ⊢
  rcases hp with h | h | h | h | h | h <;> simp [h]
theorem sub_swap {d z q : Addr × Obj} {r : List (Addr × Obj)} : ∀ p ∈ d :: q :: z :: r, p ∈ d :: z :: q :: r := fun p hp => by
  simp only [List.mem_cons] at hp ⊢
  rcases hp with h | h | h | h <;> simp [h]
theorem turn_facts {b I tb : Addr} {o oI ot : Obj} {d : Addr × Obj} {tl r : List (Addr × Obj)} (hft : ∀ p ∈ tl, ∀ q ∈ (b, o) :: (I, oI) :: d :: (tb, ot) :: r, p.1 ≠ q.1) (h1 : ∀ p ∈ r, p.1 ≠ tb) (h2 : ∀ p ∈ r, p.1 ≠ I) (h3 : ∀ p ∈ r, p.1 ≠ b) :
    (∀ p ∈ tl ++ r, p.1 ≠ tb) ∧ (∀ p ∈ tl ++ r, p.1 ≠ I) ∧ (∀ p ∈ tl ++ r, p.1 ≠ b) :=
  ⟨off_two (fun p hp => hft p hp (tb, ot) (by simp)) h1, off_two (fun p hp => hft p hp (I, oI) (by simp)) h2, off_two (fun p hp => hft p hp (b, o) (by simp)) h3⟩
noncomputable def PG (w : World) (h₀ : Heap) (L : Addr) (s s' : Shared) : Prop :=
  ∃ third T b c l td k vs ns n' m rest tb va vb vc ta tb' tc, LawSt w h₀ L s s' third T b c l td k vs ns n' m rest ∧ m (Str.ofString "table") = some (.ref tb) ∧ TabIn w rest tb va vb vc ∧ TIn rest va ta ∧ TIn rest vb tb' ∧ TIn rest vc tc ∧
    ta.fine (ok5 third) ∧ tb'.fine (ok5 third) ∧ tc.fine (ok5 third) ∧ ta.dep ≤ 2 ∧ tb'.dep ≤ 2 ∧ tc.dep ≤ 2
theorem PG.elim {w : World} {h₀ : Heap} {L : Addr} {s s' : Shared} {G : Prop} (h : PG w h₀ L s s') (k : ∀ third T b c l td k vs ns n' m rest tb va vb vc ta tb' tc, LawSt w h₀ L s s' third T b c l td k vs ns n' m rest → m (Str.ofString "table") = some (.ref tb) → TabIn w rest tb va vb vc → TIn rest va ta → TIn rest vb tb' → TIn rest vc tc → ta.fine (ok5 third) → tb'.fine (ok5 third) → tc.fine (ok5 third) → ta.dep ≤ 2 → tb'.dep ≤ 2 → tc.dep ≤ 2 → G) : G := by
  obtain ⟨v0, v1, v2, v3, v4, v5, v6, v7, v8, v9, v10, v11, v12, v13, v14, v15, v16, v17, v18, h0, h1, h2, h3, h4, h5, h6, h7, h8, h9, h10, h11⟩ := h
  exact k _ _ _ _ _ _ _ _ _ _ _ _ _ _ _ _ _ _ _ h0 h1 h2 h3 h4 h5 h6 h7 h8 h9 h10 h11
theorem tb_off {g h : Heap} {L tb : Addr} {o : Obj} {x y : Addr × Obj} {rest : List (Addr × Obj)} (_ : News g L h (x :: (tb, o) :: y :: rest)) (h : AllLt tb rest) : ∀ p ∈ rest, p.1 ≠ tb := fun p hp => Nat.ne_of_lt (ktn_ltOf h p hp)
theorem tab3 {va vb vc : Value} : stored (stored (stored [] qA va) qB vb) qC vc = [(qA, va), (qB, vb), (qC, vc)] := by rfl
theorem PG.intro {w : World} {h₀ : Heap} {L : Addr} {s s' : Shared} {third : Str} {T : List (Str × Bool)} {b c l td tb : Addr} {k k' : Int} {vs : List Value} {ns : List Int} {n' : Nat} {m : Str → Option Value} {rest t1 t2 t3 full : List (Addr × Obj)} {tk : Tok} {n : Nat} {va vb vc : Value} {ta tb' tc : Tr} {b1 b2 b3 : Bool} {o : Obj}
    (h1 : s'.os = s.os) (h2 : s'.gens = s.gens) (F : Fr h₀ L s'.heap m) (N : News h₀ L s'.heap full) (hsub : ∀ p ∈ (b, beltO c k' tk n) :: (tb, o) :: (t3 ++ (t2 ++ (t1 ++ rest))), p ∈ full) (h3 : third ∈ thirds) (hT3 : T = Told3 third b1 b2 b3) (R : RestOk w L b c l td third T k vs ns n' rest) (hk : k ≤ k')
    (hoff : ∀ p ∈ t3 ++ (t2 ++ (t1 ++ rest)), p.1 ≠ b) (htb : @LT.lt Nat _ b tb) (hm : m (Str.ofString "told") = some (.ref td)) (hmt : m (Str.ofString "table") = some (.ref tb)) (htb2 : (tb == sysModules) = false) (hd : o.IsDictOf (PySem.strKind PySem.Challenge.rw_sa0020_01.row.toRowW.prog w) (stored (stored (stored [] qA va) qB vb) qC vc))
    (hA : TIn t1 va ta) (hB : TIn t2 vb tb') (hC : TIn t3 vc tc) (fA : ta.fine (ok5 third)) (fB : tb'.fine (ok5 third)) (fC : tc.fine (ok5 third)) (dA : ta.dep ≤ 2) (dB : tb'.dep ≤ 2) (dC : tc.dep ≤ 2) : PG w h₀ L s s' := by
  have e : (tb, o) :: (t3 ++ (t2 ++ (t1 ++ rest))) = ((tb, o) :: (t3 ++ (t2 ++ t1))) ++ rest := by simp only [List.cons_append, List.append_assoc]
  rw [tab3] at hd
  refine ⟨third, T, b, c, l, td, k', vs, ns, n', m, (tb, o) :: (t3 ++ (t2 ++ (t1 ++ rest))), tb, va, vb, vc, ta, tb', tc, LawSt.mk' (tl := (tb, o) :: (t3 ++ (t2 ++ t1))) h1 h2 F (News.sub N hsub) e h3 hT3 R hk (fun p hp => ?_) hm, hmt, ⟨o, List.mem_cons_self, htb2, hd⟩,
    hA.mono (fun p hp => by simp [hp]), hB.mono (fun p hp => by simp [hp]), hC.mono (fun p hp => by simp [hp]), fA, fB, fC, dA, dB, dC⟩
  rcases List.mem_cons.mp hp with rfl | hp
  · exact Nat.ne_of_gt htb
  · refine hoff p ?_
    simp only [List.mem_append] at hp ⊢
    rcases hp with h | h | h <;> simp [h]
end
section
example : True := by (w_top off); trivial
open PySem PySem.W PyProof.Rows PySem.Spec PySem.Calls
/-! the plain law: both sides of each rule are worth the same -/
section
variable {T : List (Str × Bool)} {a b ta tb tc : Tr} {op : Str}
theorem w_and : worth T (.n2 sAnd a b) = oand (worth T a) (worth T b) := by rw [worth, if_pos rfl]
theorem w_or : worth T (.n2 sOr a b) = oor (worth T a) (worth T b) := by rw [worth, if_neg ne1, if_pos rfl]
theorem w_imp : worth T (.n2 sImp a b) = oimp (worth T a) (worth T b) := by rw [worth, if_neg ne2, if_neg ne3, if_pos rfl]
theorem w_not : worth T (.n1 sNot a) = onot (worth T a) := by rw [worth, if_pos rfl]
theorem w_true : worth T (.n0 sTrue) = some true := by rw [worth, if_pos rfl]
theorem w_false : worth T (.n0 sFalse) = some false := by rw [worth, if_neg (by decide +kernel), if_pos rfl]
theorem s_A : Tr.subst ta tb tc (.n0 qA) = ta := by rw [Tr.subst, if_pos rfl]
theorem s_B : Tr.subst ta tb tc (.n0 qB) = tb := by rw [Tr.subst, if_neg (by decide +kernel), if_pos rfl]
theorem s_C : Tr.subst ta tb tc (.n0 qC) = tc := by rw [Tr.subst, if_neg (by decide +kernel), if_neg (by decide +kernel), if_pos rfl]
theorem s_T : Tr.subst ta tb tc (.n0 sTrue) = .n0 sTrue := by rw [Tr.subst, if_neg (by decide +kernel), if_neg (by decide +kernel), if_neg (by decide +kernel)]
theorem s_F : Tr.subst ta tb tc (.n0 sFalse) = .n0 sFalse := by rw [Tr.subst, if_neg (by decide +kernel), if_neg (by decide +kernel), if_neg (by decide +kernel)]
theorem s_n1 : Tr.subst ta tb tc (.n1 op a) = .n1 op (Tr.subst ta tb tc a) := rfl
theorem s_n2 : Tr.subst ta tb tc (.n2 op a b) = .n2 op (Tr.subst ta tb tc a) (Tr.subst ta tb tc b) := rfl
end
/-- ops that the model lays -/
noncomputable def Tr.okB : Tr → Bool
  | .n0 x => x == sTrue || x == sFalse || x == qA || x == qB || x == qC
  | .n1 op a => op == sNot && a.okB
  | .n2 op a b => (op == sAnd || op == sOr || op == sImp) && a.okB && b.okB
  | .n3 _ _ _ _ => false
theorem ok_ops : okT sAnd ∧ okT sOr ∧ okT sImp ∧ okT sNot ∧ okT sTrue ∧ okT sFalse :=
  ⟨okT_of (by decide +kernel), okT_of (by decide +kernel), okT_of (by decide +kernel), okT_of (by decide +kernel), okT_of (by decide +kernel), okT_of (by decide +kernel)⟩
theorem Tr.subst_over {ta tb tc : Tr} (ha : ta.over okT) (hb : tb.over okT) (hc : tc.over okT) : ∀ {t : Tr}, t.okB = true → (Tr.subst ta tb tc t).over okT
  | .n0 x, h => by
    simp only [Tr.okB, Bool.or_eq_true, beq_iff_eq] at h
    rcases h with (((rfl | rfl) | rfl) | rfl) | rfl
    · rw [s_T]; exact ok_ops.2.2.2.2.1
    · rw [s_F]; exact ok_ops.2.2.2.2.2
    · rw [s_A]; exact ha
    · rw [s_B]; exact hb
    · rw [s_C]; exact hc
  | .n1 op a, h => by
    simp only [Tr.okB, Bool.and_eq_true, beq_iff_eq] at h
    exact ⟨by rw [h.1]; exact ok_ops.2.2.2.1, Tr.subst_over ha hb hc h.2⟩
  | .n2 op a b, h => by
    simp only [Tr.okB, Bool.and_eq_true, Bool.or_eq_true, beq_iff_eq] at h
    refine ⟨?_, Tr.subst_over ha hb hc h.1.2, Tr.subst_over ha hb hc h.2⟩
    rcases h.1.1 with (e | e) | e
    · rw [e]; exact ok_ops.1
    · rw [e]; exact ok_ops.2.1
    · rw [e]; exact ok_ops.2.2.1
  | .n3 _ _ _ _, h => by simp [Tr.okB] at h
theorem Tr.subst_dep {ta tb tc : Tr} (ha : ta.dep ≤ 2) (hb : tb.dep ≤ 2) (hc : tc.dep ≤ 2) : ∀ {t : Tr}, (Tr.subst ta tb tc t).dep ≤ t.dep + 2
  | .n0 x => by
    simp only [Tr.subst, Tr.dep]
    split
    · omega
    · split
      · omega
      · split
        · omega
        · simp only [Tr.dep]; omega
  | .n1 op a => by have := Tr.subst_dep ha hb hc (t := a); simp only [Tr.subst, Tr.dep]; omega
  | .n2 op a b => by have := Tr.subst_dep ha hb hc (t := a); have := Tr.subst_dep ha hb hc (t := b); simp only [Tr.subst, Tr.dep]; omega
  | .n3 op a b c => by have := Tr.subst_dep ha hb hc (t := a); have := Tr.subst_dep ha hb hc (t := b); have := Tr.subst_dep ha hb hc (t := c); simp only [Tr.subst, Tr.dep]; omega
/-- what the law asks of a rule -/
noncomputable def RuleGood (q : Tr × Tr) : Prop := q.1.okB = true ∧ q.2.okB = true ∧ q.1.dep ≤ 4 ∧ q.2.dep ≤ 4 ∧
  ∀ (T : List (Str × Bool)) (ta tb tc : Tr) (a b c : Bool), worth T ta = some a → worth T tb = some b → worth T tc = some c → worth T (Tr.subst ta tb tc q.1) = worth T (Tr.subst ta tb tc q.2)
theorem rules_shape : ∀ q ∈ allRules, q.1.okB = true ∧ q.2.okB = true ∧ q.1.dep ≤ 4 ∧ q.2.dep ≤ 4 := by decide +kernel
theorem rules_good : ∀ q ∈ allRules, RuleGood q := by
  intro q hq
  obtain ⟨h1, h2, h3, h4⟩ := rules_shape q hq
  refine ⟨h1, h2, h3, h4, fun T ta tb tc a b c ha hb hc => ?_⟩
  simp only [allRules, lawsOf, moreRules, List.mem_append, List.mem_cons, List.not_mem_nil, or_false] at hq
  rcases hq with ((rfl | rfl | rfl) | rfl | rfl | rfl) | rfl | rfl | rfl | rfl | rfl | rfl | rfl | rfl | rfl | rfl | rfl <;>
    simp only [vA, vB, vC, s_n1, s_n2, s_A, s_B, s_C, s_T, s_F, w_and, w_or, w_imp, w_not, w_true, w_false, ha, hb, hc] <;>
    (cases a <;> cases b <;> cases c <;> rfl)
theorem told3_look {third x : Str} {b1 b2 b3 : Bool} (hx : ok5 third x) (h1 : x ≠ sTrue) (h2 : x ≠ sFalse) : ∃ b, (Told3 third b1 b2 b3).lookup x = some b := by
  simp only [ok5, List.mem_cons, List.not_mem_nil, or_false] at hx
  simp only [Told3, List.lookup_cons]
  by_cases hp : x = sP
  · exact ⟨b1, by rw [hp]; simp⟩
  · by_cases hq : x = sQ
    · exact ⟨b2, by rw [hq]; simp [show (sQ == sP) = false by decide +kernel]⟩
    · rcases hx with e | e | e | e | e
      · exact absurd e hp
      · exact absurd e hq
      · exact ⟨b3, by rw [beq_eq_false_iff_ne.mpr hp, beq_eq_false_iff_ne.mpr hq, e]; simp⟩
      · exact absurd e h1
      · exact absurd e h2
theorem fine_worth {third : Str} {b1 b2 b3 : Bool} : ∀ {t : Tr}, t.fine (ok5 third) → ∃ b, worth (Told3 third b1 b2 b3) t = some b
  | .n0 x, f => by
    by_cases h1 : x = sTrue
    · exact ⟨true, by rw [h1]; exact w_true⟩
    · by_cases h2 : x = sFalse
      · exact ⟨false, by rw [h2]; exact w_false⟩
      · rw [worth, if_neg h1, if_neg h2]; exact told3_look f h1 h2
  | .n1 op a, f => by
    obtain ⟨x, e⟩ := fine_worth (b1 := b1) (b2 := b2) (b3 := b3) (t := a) f.2
    rw [f.1, w_not, e]; exact ⟨_, rfl⟩
  | .n2 op a b, f => by
    obtain ⟨x, e⟩ := fine_worth (b1 := b1) (b2 := b2) (b3 := b3) (t := a) f.2.1
    obtain ⟨y, e'⟩ := fine_worth (b1 := b1) (b2 := b2) (b3 := b3) (t := b) f.2.2
    rcases f.1 with h | h | h
    · rw [h, w_and, e, e']; exact ⟨_, rfl⟩
    · rw [h, w_or, e, e']; exact ⟨_, rfl⟩
    · rw [h, w_imp, e, e']; exact ⟨_, rfl⟩
  | .n3 _ _ _ _, f => f.elim
theorem All2.at {β : Type} {R : β → List (Addr × Obj) → Value → Prop} {l : List (Addr × Obj)} {vs : List Value} {bs : List β} (h : All2 R l vs bs) : ∀ v ∈ vs, ∃ b ∈ bs, R b l v := by
  induction h with
  | nil => exact fun _ h => nomatch h
  | @cons v b _ _ x _ ih =>
    intro u hu
    rcases List.mem_cons.mp hu with rfl | hu
    · exact ⟨b, List.mem_cons_self, x⟩
    · obtain ⟨b', hb, hx⟩ := ih u hu
      exact ⟨b', List.mem_cons_of_mem _ hb, hx⟩
/-- behind a turn of the last loop -/
noncomputable def TBack (h₀ : Heap) (L : Addr) (s : Shared) (MP : (Str → Option Value) → Prop) (full : List (Addr × Obj)) (f : Flow) (s₃ : Shared) : Prop :=
  f = .next ∧ ∃ h' tk' m', s₃ = { s with heap := h', toks := tk' } ∧ Fr h₀ L h' m' ∧ MP m' ∧ News h₀ L h' full
theorem items_inv {prog : Program} {w : World} {A : Around} {E : Value → Shared → Prop} {h₀ : Heap} {env : Env} {target : Expr} {body : List Stmt} {Q : Flow → Shared → Prop} {s : Shared} {I : Addr} {c : String} {keep led : List (Addr × Obj)} (MP : (Str → Option Value) → Prop) (hk : SubL keep led) (hoff : ∀ p ∈ led, p.1 ≠ I)
    (hend : ∀ m h tk, MP m → Fr h₀ env.locals h m → News h₀ env.locals h led → Q .next { s with heap := h, toks := tk }) : ∀ (vs : List Value)
    (_step : ∀ v ∈ vs, ∀ m h tk oI, MP m → Fr h₀ env.locals h m → News h₀ env.locals h ((I, oI) :: led) → wpAny (model prog w) A (assign target env v) (fun _ s₂ => wpAny (model prog w) A (execs body env) (TBack h₀ env.locals s MP ((I, oI) :: led)) E s₂) E { s with heap := h, toks := tk })
    (m : Str → Option Value) (_hm : MP m), ItemsRest prog w A E h₀ env target body Q s [(I, c)] keep (vs.map .val) m led
  | [], _, m, hm => fun h tk F N => hend m h tk hm F N
  | v :: vs, step, m, hm => by
    refine ItemsRest.val fun h tk F => AllObj.cons fun oI _ => AllObj.nil fun N => ?_
    refine wpAny_mono (step v List.mem_cons_self m h tk oI hm F N) (fun _ s₂ h₂ => wpAny_mono h₂ (fun f s₃ h₃ => ?_) fun _ _ e => e) fun _ _ e => e
    obtain ⟨rfl, h', tk', m', rfl, F', hm', N'⟩ := h₃
    exact ⟨h', tk', m', led, rfl, F', N', fun p hp q hq => by rw [List.mem_singleton.mp hq]; exact hoff p hp, hk, items_inv MP hk hoff hend vs (fun u hu => step u (List.mem_cons_of_mem _ hu)) m' hm'⟩
theorem pack_led {w : World} {g h : Heap} {L : Addr} {x y q p : Addr × Obj} {tl rest : List (Addr × Obj)} {items : List Value} {qs : List (Tr × Tr)} (N : News g L h (tl ++ x :: y :: q :: rest)) (hL : p ∈ tl) (hA : All2 (RuleIn w) (tl ++ x :: y :: q :: rest) items qs) :
    ∃ led, News g L h led ∧ p ∈ led ∧ All2 (RuleIn w) led items qs ∧ (∀ p ∈ rest, p ∈ led) :=
  ⟨_, N, List.mem_append_left _ hL, hA, fun p hp => by simp [hp]⟩
theorem PIn.isRef {news : List (Addr × Obj)} {v : Value} {t : Tr} (h : PIn news v t) : ∃ a, v = .ref a := by cases h <;> exact ⟨_, rfl⟩
theorem sub_1 {d i : Addr × Obj} {t1 t2 led : List (Addr × Obj)} : ∀ p ∈ t1 ++ led, p ∈ d :: (t2 ++ (t1 ++ i :: led)) := fun p hp => by
  simp only [List.mem_cons, List.mem_append] at hp ⊢
  rcases hp with h | h <;> simp [h]
theorem sub_2 {d i : Addr × Obj} {t1 t2 led : List (Addr × Obj)} : ∀ p ∈ t2 ++ led, p ∈ d :: (t2 ++ (t1 ++ i :: led)) := fun p hp => by
  simp only [List.mem_cons, List.mem_append] at hp ⊢
  rcases hp with h | h <;> simp [h]
theorem sub_3 {d i : Addr × Obj} {t1 t2 led : List (Addr × Obj)} : ∀ p ∈ led, p ∈ d :: (t2 ++ (t1 ++ i :: led)) := fun p hp => by simp [hp]
theorem sub_4 {d i : Addr × Obj} {t1 t2 led : List (Addr × Obj)} : ∀ p ∈ i :: led, p ∈ d :: (t2 ++ (t1 ++ i :: led)) := fun p hp => by
  simp only [List.mem_cons, List.mem_append] at hp ⊢
  rcases hp with h | h <;> simp [h]
end
section
example : True := by (w_top off); trivial
open PySem PySem.W PyProof.Rows PySem.Spec PySem.Calls
theorem seg1 {w : World} {mean : ExcName → Option Value} {mg mb : Str → Option Value} {dp un : Nat} {gd : Option (List Code)} {cn : Str} {a : Addr} {ccd : Value} {outer : List Env} {A₀ : Around} {h₀ : Heap} {L : Addr} {m : Str → Option Value} {s : Shared} {E : Value → Shared → Prop}
    {b c : Addr} {tkb : Tok} {n n' : Nat} {vs : List Value} {ns : List Int} {oB oL : Obj}
    (hdp : dp ≤ 400) (hun : un ≤ 100) (B : Below A₀ h₀ outer h₀) (X : (hd.heap_1 w.params).In h₀) (T : Top hd.view_39 lse mean mg mb h₀)
    (F : Fr h₀ L s.heap m) (N : News h₀ L s.heap [(b, beltO c 0 tkb n), (c, cellsO vs n'), (L + 1 + 1, oL), (L + 1, oB)]) (hoB : oB.data = .cell (some (.ref b))) (hoL : oL.data = .cell none) (hB : Belt [(c, cellsO vs n'), (L + 1 + 1, oL), (L + 1, oB)] b c 0 vs ns n') (hc2 : @Ne Nat (L + 1 + 1) c) (hc1 : @Ne Nat (L + 1) c)
    (hE : PassesOwn (model PySem.Challenge.rw_sa0020_01.row.toRowW.prog w) (ktrTop dp un gd cn (lawScope w.params) L a ccd (lawCl w.params L) outer) (envX cn (lawScope w.params) L a ccd (lawCl w.params L)) E) :
    wpAny (model PySem.Challenge.rw_sa0020_01.row.toRowW.prog w) (ktrTop dp un gd cn (lawScope w.params) L a ccd (lawCl w.params L) outer) (execs (((lawBody w.params).drop 1).take 2) (envX cn (lawScope w.params) L a ccd (lawCl w.params L))) (StN (PA2 w h₀ L s)) E s := by
  dsimp only [lawCl, lawBody, lawScope, lawPick, lawMk, List.drop_succ_cons, List.drop_zero, List.take_succ_cons, List.take_zero]
  obtain ⟨hbc, hb2, hb1⟩ := hB.off3
  revert X
  k_fill
  intro X
  (repeat' (first | (k_unfold; (try dsimp only)) | walk1 | (dsimp only; walk1) | (leave1; (try dsimp only))))
  (rename News _ _ _ _ => NA)
  k_dflt (refine' feed_B (hB.cons ?fa) (News.sub NA (mvS mv0)) ?fb ?fc ?fd ?fe ?ff ?fg ?fh ?fi ?fj ?fk ?_)
  case fe => k_asm
  case ff => k_asm
  case fg => k_asm
  case fh => k_asm
  case fa => omega
  case fb => decide
  case fc => decide
  case fd => decide
  case fi => exact rfl
  case fj => (show dp + 1 < 1000; omega)
  case fk => (show un + 8 < 9900; omega)
  clear hB NA
  intro i1 tk1 n1 tka1 h1 tkb1 hB F1 N1 i1a i1b
  k_dflt (refine' r_pickT (ws := thirds) N1 ?gm ?gw i1a ?ga ?gb ?_ ?gc)
  case gm => k_mem
  case gw => exact strs7
  case ga => exact i1b
  case gb => decide
  case gc => with_unfolding_all rfl
  intro third tk3 hthird
  (repeat' (first | (k_unfold; (try dsimp only)) | walk1 | (dsimp only; walk1) | (leave1; (try dsimp only))))
  refine wpAny_execs_nil ⟨rfl, ?_⟩
  (rename Fr _ _ _ _ => FE)
  (rename News _ _ _ _ => NE)
  refine PA2.intro rfl rfl FE NE hB (by decide) (by k_all) (by k_all) (by omega) hthird hoB (by assumption) (by assumption) (by assumption) rfl rfl
end
section
example : True := by (w_top off); trivial
open PySem PySem.W PyProof.Rows PySem.Spec PySem.Calls
theorem seg2 {w : World} {mean : ExcName → Option Value} {mg mb : Str → Option Value} {dp un : Nat} {gd : Option (List Code)} {cn : Str} {a : Addr} {ccd : Value} {outer : List Env} {A₀ : Around} {h₀ : Heap} {L : Addr} {s₀ s : Shared} {E : Value → Shared → Prop}
    (hdp : dp ≤ 400) (hun : un ≤ 100) (B : Below A₀ h₀ outer h₀) (X : (hd.heap_1 w.params).In h₀) (T : Top hd.view_39 lse mean mg mb h₀) (hP : PA2 w h₀ L s₀ s)
    (hE : PassesOwn (model PySem.Challenge.rw_sa0020_01.row.toRowW.prog w) (ktrTop dp un gd cn (lawScope w.params) L a ccd (lawCl w.params L) outer) (envX cn (lawScope w.params) L a ccd (lawCl w.params L)) E) :
    wpAny (model PySem.Challenge.rw_sa0020_01.row.toRowW.prog w) (ktrTop dp un gd cn (lawScope w.params) L a ccd (lawCl w.params L) outer) (execs (((lawBody w.params).drop 3).take 1) (envX cn (lawScope w.params) L a ccd (lawCl w.params L))) (StN (PB w h₀ L s₀)) E s := by
  with_reducible refine hP.elim fun m rest b c l d third tk3 vs ns n' tk n o oB oL u1 u2 u3 u4 u5 hs1 hs2 F₀ N hthird hB hdb hoffd hmB hoB hmL hoL hml hd1 hd2 hmt hm3 => ?_
  have F := Fr.known2 F₀ hmt hm3
  clear F₀
  have hoffb := hB.isOff
  have hcell := hB.hasCells
  have fs' : PyProof.V.FlatPairs PyData.str [] [] := .nil
  revert X
  dsimp only [lawCl, lawBody, lawScope, lawPick, lawMk, List.drop_succ_cons, List.drop_zero, List.take_succ_cons, List.take_zero]
  k_fill
  intro X
  (repeat' (first | (k_unfold; (try dsimp only)) | ((with_reducible show wpAny _ _ (exec (Stmt.For (Expr.Name _ _) (Expr.Tuple _ _ _) _ _ _) _) _ _ _); k_here; (rename Fr _ _ _ _ => lF'); with_unfolding_all refine' For_turns lF' ?_; k_whole) | walk1 | (dsimp only; walk1) | (leave1; (try dsimp only))))
  (rename News _ _ _ _ => NI)
  (rename Fr _ _ _ _ => FI)
  refine iter_tupTurns (by rfl) FI NI List.mem_cons_self rfl rfl (fun I hI => ?_)
  obtain ⟨hI1, hI2, hI3, hI4⟩ := off4 hI
  clear FI NI hI
  dsimp only at hI1 hI2 hI3
  dsimp only [List.map]
  (repeat' (first | (k_unfold; (try dsimp only)) | ((with_reducible show wpAny _ _ (exec (Stmt.For (Expr.Name _ _) (Expr.Tuple _ _ _) _ _ _) _) _ _ _); k_here; (rename Fr _ _ _ _ => lF'); with_unfolding_all refine' For_turns lF' ?_; k_whole) | walk1 | (dsimp only; walk1) | (leave1; (try dsimp only))))
  (rename News _ _ _ _ => NA2)
  k_dflt (refine' feed_B (Belt.re hB ?y2l ?y2m) (News.sub NA2 ?y2a) ?y2b ?y2c ?y2d ?y2e ?y2f ?y2g ?y2h ?y2i ?y2j ?y2k ?_)
  case y2a => (repeat (first | exact mv0 | apply mvS))
  case y2e => k_asm
  case y2f => k_asm
  case y2g => k_asm
  case y2h => k_asm
  case y2l => k_mem
  case y2m => k_all
  case y2b => decide
  case y2c => decide
  case y2d => decide
  case y2i => exact rfl
  case y2j => (show dp + 1 < 1000; omega)
  case y2k => (show un + 8 < 9900; omega)
  clear hB NA2
  intro j2 tk2 n2 tka2 h2 tkb2 hB F2 N2 j2a j2b
  (repeat' (first | (k_unfold; (try dsimp only)) | ((with_reducible show wpAny _ _ (exec (Stmt.For (Expr.Name _ _) (Expr.Tuple _ _ _) _ _ _) _) _ _ _); k_here; (rename Fr _ _ _ _ => lF'); with_unfolding_all refine' For_turns lF' ?_; k_whole) | walk1 | (dsimp only; walk1) | (leave1; (try dsimp only))))
  (rename Fr _ _ _ _ => FT2)
  (rename News _ _ _ _ => NT2)
  refine turn_end2 FT2 NT2 hI2 hI1 hI3 hI4 ⟨⟨by k_mem, trivial⟩, ?_⟩
  clear FT2 NT2
  (repeat' (first | (k_unfold; (try dsimp only)) | ((with_reducible show wpAny _ _ (exec (Stmt.For (Expr.Name _ _) (Expr.Tuple _ _ _) _ _ _) _) _ _ _); k_here; (rename Fr _ _ _ _ => lF'); with_unfolding_all refine' For_turns lF' ?_; k_whole) | walk1 | (dsimp only; walk1) | (leave1; (try dsimp only))))
  (rename News _ _ _ _ => NA3)
  k_dflt (refine' feed_B (Belt.re hB ?y3l ?y3m) (News.sub NA3 ?y3a) ?y3b ?y3c ?y3d ?y3e ?y3f ?y3g ?y3h ?y3i ?y3j ?y3k ?_)
  case y3a => (repeat (first | exact mv0 | apply mvS))
  case y3e => k_asm
  case y3f => k_asm
  case y3g => k_asm
  case y3h => k_asm
  case y3l => k_mem
  case y3m => k_all
  case y3b => decide
  case y3c => decide
  case y3d => decide
  case y3i => exact rfl
  case y3j => (show dp + 1 < 1000; omega)
  case y3k => (show un + 8 < 9900; omega)
  clear hB NA3
  intro j3 tk3 n3 tka3 h3 tkb3 hB F3 N3 j3a j3b
  (repeat' (first | (k_unfold; (try dsimp only)) | ((with_reducible show wpAny _ _ (exec (Stmt.For (Expr.Name _ _) (Expr.Tuple _ _ _) _ _ _) _) _ _ _); k_here; (rename Fr _ _ _ _ => lF'); with_unfolding_all refine' For_turns lF' ?_; k_whole) | walk1 | (dsimp only; walk1) | (leave1; (try dsimp only))))
  (rename Fr _ _ _ _ => FT3)
  (rename News _ _ _ _ => NT3)
  refine turn_end2 FT3 NT3 hI2 hI1 hI3 hI4 ⟨⟨by k_mem, trivial⟩, ?_⟩
  clear FT3 NT3
  (repeat' (first | (k_unfold; (try dsimp only)) | ((with_reducible show wpAny _ _ (exec (Stmt.For (Expr.Name _ _) (Expr.Tuple _ _ _) _ _ _) _) _ _ _); k_here; (rename Fr _ _ _ _ => lF'); with_unfolding_all refine' For_turns lF' ?_; k_whole) | walk1 | (dsimp only; walk1) | (leave1; (try dsimp only))))
  (rename News _ _ _ _ => NA4)
  k_dflt (refine' feed_B (Belt.re hB ?y4l ?y4m) (News.sub NA4 ?y4a) ?y4b ?y4c ?y4d ?y4e ?y4f ?y4g ?y4h ?y4i ?y4j ?y4k ?_)
  case y4a => (repeat (first | exact mv0 | apply mvS))
  case y4e => k_asm
  case y4f => k_asm
  case y4g => k_asm
  case y4h => k_asm
  case y4l => k_mem
  case y4m => k_all
  case y4b => decide
  case y4c => decide
  case y4d => decide
  case y4i => exact rfl
  case y4j => (show dp + 1 < 1000; omega)
  case y4k => (show un + 8 < 9900; omega)
  clear hB NA4
  intro j4 tk4 n4 tka4 h4 tkb4 hB F4 N4 j4a j4b
  (repeat' (first | (k_unfold; (try dsimp only)) | ((with_reducible show wpAny _ _ (exec (Stmt.For (Expr.Name _ _) (Expr.Tuple _ _ _) _ _ _) _) _ _ _); k_here; (rename Fr _ _ _ _ => lF'); with_unfolding_all refine' For_turns lF' ?_; k_whole) | walk1 | (dsimp only; walk1) | (leave1; (try dsimp only))))
  (rename Fr _ _ _ _ => FT4)
  (rename News _ _ _ _ => NT4)
  refine turn_end2 FT4 NT4 hI2 hI1 hI3 hI4 ⟨⟨by k_mem, trivial⟩, ?_⟩
  clear FT4 NT4
  with_unfolding_all refine ItemsRest.zero (fun h' tk' F' N' => ?_)
  (repeat' (first | (k_unfold; (try dsimp only)) | ((with_reducible show wpAny _ _ (exec (Stmt.For (Expr.Name _ _) (Expr.Tuple _ _ _) _ _ _) _) _ _ _); k_here; (rename Fr _ _ _ _ => lF'); with_unfolding_all refine' For_turns lF' ?_; k_whole) | walk1 | (dsimp only; walk1) | (leave1; (try dsimp only))))
  refine wpAny_execs_nil ⟨rfl, ?_⟩
  (rename Fr _ _ _ _ => FE)
  (rename News _ _ _ _ => NE)
  refine PB.intro hs1 hs2 FE NE sub_mid hB (by decide) hoffb hdb hcell hmB hmL hml hthird hoB hoL hd1 (by assumption) (by assumption) rfl
end
section
example : True := by (w_top off); trivial
open PySem PySem.W PyProof.Rows PySem.Spec PySem.Calls
theorem seg3 {w : World} {mean : ExcName → Option Value} {mg mb : Str → Option Value} {dp un : Nat} {gd : Option (List Code)} {cn : Str} {a : Addr} {ccd : Value} {outer : List Env} {A₀ : Around} {h₀ : Heap} {L : Addr} {s₀ s : Shared} {E : Value → Shared → Prop}
    (hdp : dp ≤ 400) (hun : un ≤ 100) (B : Below A₀ h₀ outer h₀) (X : (hd.heap_1 w.params).In h₀) (T : Top hd.view_39 lse mean mg mb h₀) (hP : PB w h₀ L s₀ s) :
    wpAny (model PySem.Challenge.rw_sa0020_01.row.toRowW.prog w) (ktrTop dp un gd cn (lawScope w.params) L a ccd (lawCl w.params L) outer) (execs (((lawBody w.params).drop 4).take 2) (envX cn (lawScope w.params) L a ccd (lawCl w.params L))) (StN (PC w h₀ L s₀)) E s := by
  with_reducible refine hP.elim fun m rest b c l td third b1 b2 b3 vs ns n' tk n hs1 hs2 F₀ N hthird hR hmt => ?_
  have F := Fr.known F₀ hmt
  with_reducible refine hR.elim fun oB oL t1 t2 t3 t4 t5 nl hmB hoB hmL hoL hml => ?_
  have hB := hR.belt
  have hoffb := hB.isOff
  have hcell := hB.hasCells
  clear F₀
  revert X
  dsimp only [lawCl, lawBody, lawScope, lawPick, lawMk, List.drop_succ_cons, List.drop_zero, List.take_succ_cons, List.take_zero]
  k_fill
  intro X
  (repeat' (first | (k_unfold; (try dsimp only)) | ((with_reducible show wpAny _ _ (binaryOp _ (Value.ref _) (Value.int _ _)) _ _ _); k_dflt (refine r_mulB (by k_asm) (by k_asm) (by k_mem) (by split <;> decide) (by split <;> decide) ?_); intro D' ws' h' F' N' l1 hw1 hw2; (try k_lt l1)) | (k_here; (with_reducible show wpAny _ _ (binaryOp _ (Value.ref _) (Value.ref _)) _ _ _); k_dflt (refine r_addL (by k_asm) (by k_asm) (by k_mem) (by k_mem) (by (first | assumption | exact Nat.le_of_ble_eq_true rfl | omega | (simp only [List.length_cons, List.length_nil, List.length_append, List.length_map]; omega))) ?_); intro D9 h9 F9 N9 l9; (try simp only [List.nil_append, List.cons_append] at N9); (try k_lt l9)) | walk1 | (dsimp only; walk1) | (leave1; (try dsimp only))))
  (rename News _ _ _ _ => NA1)
  k_dflt (refine' feed_B (Belt.re hB ?y1l ?y1m) (News.sub NA1 ?y1a) ?y1b ?y1c ?y1d ?y1e ?y1f ?y1g ?y1h ?y1i ?y1j ?y1k ?_)
  case y1a => (repeat (first | exact mv0 | apply mvS))
  case y1e => k_asm
  case y1f => k_asm
  case y1g => k_asm
  case y1h => k_asm
  case y1l => k_mem
  case y1m => k_all
  case y1b => decide
  case y1c => decide
  case y1d => decide
  case y1i => exact rfl
  case y1j => (show dp + 1 < 1000; omega)
  case y1k => (show un + 8 < 9900; omega)
  clear NA1
  intro j1 tk1 n1 tka1 h1 tkb1 hB1 F1 N1 j1a j1b
  (repeat' (first | (k_unfold; (try dsimp only)) | ((with_reducible show wpAny _ _ (binaryOp _ (Value.ref _) (Value.int _ _)) _ _ _); k_dflt (refine r_mulB (by k_asm) (by k_asm) (by k_mem) (by split <;> decide) (by split <;> decide) ?_); intro D' ws' h' F' N' l1 hw1 hw2; (try k_lt l1)) | (k_here; (with_reducible show wpAny _ _ (binaryOp _ (Value.ref _) (Value.ref _)) _ _ _); k_dflt (refine r_addL (by k_asm) (by k_asm) (by k_mem) (by k_mem) (by (first | assumption | exact Nat.le_of_ble_eq_true rfl | omega | (simp only [List.length_cons, List.length_nil, List.length_append, List.length_map]; omega))) ?_); intro D9 h9 F9 N9 l9; (try simp only [List.nil_append, List.cons_append] at N9); (try k_lt l9)) | walk1 | (dsimp only; walk1) | (leave1; (try dsimp only))))
  (rename News _ _ _ _ => NA2)
  (rename (∀ x ∈ _, x = _) => hws1)
  (rename (List.length _ ≤ 1) => hws2)
  k_dflt (refine' tree_use (fl := 3) (tree_all w mean mg mb 3 (by decide)) (Belt.re hB1 ?z1 ?z2) ?z3 (names6 hws1) ?z4 ?z5 ?z6 ?z7 ?z8 ?z9 NA2 ?z10 ?z11 ?z12 ?z13 ?z14 ?_)
  case z11 => (repeat (first | exact mv0 | apply mvS))
  case z1 => k_mem
  case z2 => k_all
  case z3 => decide
  case z4 => simp
  case z5 => (simp; omega)
  case z6 => k_mem
  case z7 => k_asm
  case z8 => k_asm
  case z9 => k_asm
  case z10 => k_asm
  case z12 => exact rfl
  case z13 => (show dp + (2 * 3 + 10) < 1000; omega)
  case z14 => (show un + 8 * (2 * 3 + 10) < 9900; omega)
  intro tv tl k2 tk2 n2 t h2 tkc F2 N2 hk1 hk2 hft hT hfine htd
  have hoT := fine_okT hthird hfine
  simp only [feeds] at hk2
  (repeat' (first | (k_unfold; (try dsimp only)) | ((with_reducible show wpAny _ _ (binaryOp _ (Value.ref _) (Value.int _ _)) _ _ _); k_dflt (refine r_mulB (by k_asm) (by k_asm) (by k_mem) (by split <;> decide) (by split <;> decide) ?_); intro D' ws' h' F' N' l1 hw1 hw2; (try k_lt l1)) | (k_here; (with_reducible show wpAny _ _ (binaryOp _ (Value.ref _) (Value.ref _)) _ _ _); k_dflt (refine r_addL (by k_asm) (by k_asm) (by k_mem) (by k_mem) (by (first | assumption | exact Nat.le_of_ble_eq_true rfl | omega | (simp only [List.length_cons, List.length_nil, List.length_append, List.length_map]; omega))) ?_); intro D9 h9 F9 N9 l9; (try simp only [List.nil_append, List.cons_append] at N9); (try k_lt l9)) | walk1 | (dsimp only; walk1) | (leave1; (try dsimp only))))
  (rename News _ _ _ _ => NB)
  k_dflt (refine' heard_use (t := t) (T := Told3 third b1 b2 b3) (hT.mono ?v1) (hR.told.mono ?v2) (fun _ h => h) (okT_lay hoT) (okT_len hoT) ?v3 ?v4 ?v5 ?v6 NB ?v7 ?v8 ?v9 ?v10 ?_)
  case v1 => (intro p hp; simp [hp])
  case v2 => (intro p hp; simp [hp])
  case v3 => omega
  case v4 => k_asm
  case v5 => k_asm
  case v6 => k_asm
  case v7 => k_asm
  case v8 => exact rfl
  case v9 => (show dp + (4 * t.dep + 40) < 1000; omega)
  case v10 => (show un + 8 * (4 * t.dep + 40) < 9900; omega)
  clear NB
  intro h3 tk3 F3 N3
  (repeat' (first | (k_unfold; (try dsimp only)) | ((with_reducible show wpAny _ _ (binaryOp _ (Value.ref _) (Value.int _ _)) _ _ _); k_dflt (refine r_mulB (by k_asm) (by k_asm) (by k_mem) (by split <;> decide) (by split <;> decide) ?_); intro D' ws' h' F' N' l1 hw1 hw2; (try k_lt l1)) | (k_here; (with_reducible show wpAny _ _ (binaryOp _ (Value.ref _) (Value.ref _)) _ _ _); k_dflt (refine r_addL (by k_asm) (by k_asm) (by k_mem) (by k_mem) (by (first | assumption | exact Nat.le_of_ble_eq_true rfl | omega | (simp only [List.length_cons, List.length_nil, List.length_append, List.length_map]; omega))) ?_); intro D9 h9 F9 N9 l9; (try simp only [List.nil_append, List.cons_append] at N9); (try k_lt l9)) | walk1 | (dsimp only; walk1) | (leave1; (try dsimp only))))
  k_dflt (refine' worth_use (worth_all w mean mg mb t) (T := Told3 third b1 b2 b3) (hT.mono ?u1) (hR.told.mono ?u2) (fun _ h => h) (okT_lay hoT) ?u3 ?u4 ?u5 ?u6 N3 ?u7 ?u8 ?u9 ?u10 ?_)
  case u1 => (intro p hp; simp [hp])
  case u2 => (intro p hp; simp [hp])
  case u3 => omega
  case u4 => k_asm
  case u5 => k_asm
  case u6 => k_asm
  case u7 => k_asm
  case u8 => exact rfl
  case u9 => (show dp + (2 * t.dep + 10) < 1000; omega)
  case u10 => (show un + 8 * (2 * t.dep + 10) < 9900; omega)
  intro h4 tk4 F4 N4
  k_dflt (refine r_isNot ?_)
  (repeat' (first | (k_unfold; (try dsimp only)) | ((with_reducible show wpAny _ _ (binaryOp _ (Value.ref _) (Value.int _ _)) _ _ _); k_dflt (refine r_mulB (by k_asm) (by k_asm) (by k_mem) (by split <;> decide) (by split <;> decide) ?_); intro D' ws' h' F' N' l1 hw1 hw2; (try k_lt l1)) | (k_here; (with_reducible show wpAny _ _ (binaryOp _ (Value.ref _) (Value.ref _)) _ _ _); k_dflt (refine r_addL (by k_asm) (by k_asm) (by k_mem) (by k_mem) (by (first | assumption | exact Nat.le_of_ble_eq_true rfl | omega | (simp only [List.length_cons, List.length_nil, List.length_append, List.length_map]; omega))) ?_); intro D9 h9 F9 N9 l9; (try simp only [List.nil_append, List.cons_append] at N9); (try k_lt l9)) | walk1 | (dsimp only; walk1) | (leave1; (try dsimp only))))
  refine wpAny_execs_nil ⟨rfl, third, _, b, c, l, td, k2, vs, ns, n', _, _, tv, t, LawSt.mk3 hs1 hs2 F4 N4 hthird rfl hR (by omega) hft (by omega) (by omega) (by omega) rfl, by omega, rfl, hT.mono (by intro p hp; simp [hp]), hfine, htd⟩
end
section
example : True := by (w_top off); trivial
open PySem PySem.W PyProof.Rows PySem.Spec PySem.Calls
theorem seg4 {w : World} {mean : ExcName → Option Value} {mg mb : Str → Option Value} {dp un : Nat} {gd : Option (List Code)} {cn : Str} {a : Addr} {ccd : Value} {outer : List Env} {A₀ : Around} {h₀ : Heap} {L : Addr} {s₀ s : Shared} {E : Value → Shared → Prop}
    (hdp : dp ≤ 400) (hun : un ≤ 100) (B : Below A₀ h₀ outer h₀) (X : (hd.heap_1 w.params).In h₀) (T' : Top hd.view_39 lse mean mg mb h₀) (hP : PC w h₀ L s₀ s) :
    wpAny (model PySem.Challenge.rw_sa0020_01.row.toRowW.prog w) (ktrTop dp un gd cn (lawScope w.params) L a ccd (lawCl w.params L) outer) (execs (((lawBody w.params).drop 6).take 1) (envX cn (lawScope w.params) L a ccd (lawCl w.params L))) (StN (PD w h₀ L s₀)) E s := by
  with_reducible refine hP.elim fun third T b c l td k vs ns n' m rest tv t hS hk hmterm hT hfine htd => hS.elim fun hs1 hs2 F₀ tk n N hthird b1 b2 b3 hT3 hR hmt => ?_
  have F := Fr.known2 F₀ hmt hmterm
  obtain ⟨oB, hmB, hoB⟩ := hR.cellB
  have hB := hR.belt
  have hoffb := hB.isOff
  have hcell := hB.hasCells
  clear F₀
  revert X
  dsimp only [lawCl, lawBody, lawScope, lawPick, lawMk, List.drop_succ_cons, List.drop_zero, List.take_succ_cons, List.take_zero]
  k_fill
  intro X
  (repeat' (first | (k_unfold; (try dsimp only)) | walk1 | (dsimp only; walk1) | (leave1; (try dsimp only))))
  (rename News _ _ _ _ => NA1)
  k_dflt (refine' feed_B hB NA1 ?y1b ?y1c ?y1d ?y1e ?y1f ?y1g ?y1h ?y1i ?y1j ?y1k ?_)
  case y1e => k_asm
  case y1f => k_asm
  case y1g => k_asm
  case y1h => k_asm
  case y1b => omega
  case y1c => decide
  case y1d => decide
  case y1i => exact rfl
  case y1j => (show dp + 1 < 1000; omega)
  case y1k => (show un + 8 < 9900; omega)
  clear NA1
  intro j1 tk1 n1 tka1 h1 tkb1 hB1 F1 N1 j1a j1b
  k_dflt (refine' r_broken F1 X j1a j1b ?_ ?z1 ?z2)
  case z1 => with_unfolding_all rfl
  case z2 => (intro _; with_unfolding_all rfl)
  intro pa op many tko tkm hpa hop hmany
  k_dflt (refine unpackN_ F1 N1 hpa (by rfl) rfl rfl fun h2 F2 N2 => ?_)
  clear hpa
  (repeat' (first | (k_unfold; (try dsimp only)) | walk1 | (dsimp only; walk1) | (leave1; (try dsimp only))))
  (rename Fr _ _ _ _ => FE)
  (rename News _ _ _ _ => NE)
  refine wpAny_execs_nil ⟨rfl, third, T, b, c, l, td, k + 1, vs, ns, n', _, rest, tv, t, op, tko, many, tkm, LawSt.mk' (tl := []) hs1 hs2 FE NE rfl hthird hT3 hR (by omega) (fun _ h => nomatch h) rfl, by omega, rfl, hT, hfine, htd, rfl, rfl, hop, hmany⟩
end
section
example : True := by (w_top off); trivial
open PySem PySem.W PyProof.Rows PySem.Spec PySem.Calls
theorem many_nat {many : Int} (h : many = 0 ∨ many = 1 ∨ many = 2 ∨ many = 3) : ∃ n : Nat, many = (n : Nat) ∧ n ≤ 3 := by
  rcases h with rfl | rfl | rfl | rfl
  · exact ⟨0, rfl, by decide⟩
  · exact ⟨1, rfl, by decide⟩
  · exact ⟨2, rfl, by decide⟩
  · exact ⟨3, rfl, by decide⟩
theorem sub_qG {x y z q d : Addr × Obj} {t1 r : List (Addr × Obj)} : ∀ p ∈ q :: (([x] ++ t1) ++ r), p ∈ x :: y :: z :: q :: (t1 ++ d :: r) := fun p hp => by
  simp only [List.mem_cons, List.mem_append, List.not_mem_nil, or_false] at hp ⊢
  rcases hp with h | (h | h) | h <;> simp [h]
theorem off_G {D t b : Addr} {o : Obj} {news : List (Addr × Obj)} (h : D = t ∨ ∀ p ∈ news, p.1 < D) (ht : @LT.lt Nat _ b t) (hb : (b, o) ∈ news) {xs : List (Addr × Obj)} {oD : Obj} (hx : ∀ p ∈ xs, p.1 ≠ b) : ∀ p ∈ [(D, oD)] ++ xs, p.1 ≠ b :=
  off_cons (h.elim (fun e => e ▸ ht) fun g => g (b, o) hb) hx
theorem seg5 {w : World} {mean : ExcName → Option Value} {mg mb : Str → Option Value} {dp un : Nat} {gd : Option (List Code)} {cn : Str} {a : Addr} {ccd : Value} {outer : List Env} {A₀ : Around} {h₀ : Heap} {L : Addr} {s₀ s : Shared} {E : Value → Shared → Prop}
    (hdp : dp ≤ 400) (hun : un ≤ 100) (B : Below A₀ h₀ outer h₀) (X : (hd.heap_1 w.params).In h₀) (T' : Top hd.view_39 lse mean mg mb h₀) (hP : PD w h₀ L s₀ s) :
    wpAny (model PySem.Challenge.rw_sa0020_01.row.toRowW.prog w) (ktrTop dp un gd cn (lawScope w.params) L a ccd (lawCl w.params L) outer) (execs (((lawBody w.params).drop 7).take 1) (envX cn (lawScope w.params) L a ccd (lawCl w.params L))) (StN (PE w h₀ L s₀)) E s := by
  with_reducible refine hP.elim fun third T b c l td k vs ns n' m rest tv t op tko many tkm hS hk hmterm hT hfine htd hmop hmmany hop hmany => hS.elim fun hs1 hs2 F₀ tk n N hthird b1 b2 b3 hT3 hR hmt => ?_
  have F := Fr.known2 (Fr.known2 F₀ hmt hmterm) (x := Str.ofString "op") (y := Str.ofString "many") (v := .str op tko) (u := .int many tkm) hmop hmmany
  with_reducible refine hR.elim fun oB oL t1 t2 t3 t4 t5 nl hmB hoB hmL hoL hml => ?_
  have hB := hR.belt
  have hoffb := hB.isOff
  have hcell := hB.hasCells
  clear F₀
  revert X
  dsimp only [lawCl, lawBody, lawScope, lawPick, lawMk, List.drop_succ_cons, List.drop_zero, List.take_succ_cons, List.take_zero]
  k_fill
  intro X
  obtain ⟨n9, e9, hn3⟩ := many_nat hmany
  subst e9
  (repeat' (first | (k_unfold; (try dsimp only)) | ((with_reducible show wpAny _ _ (binaryOp _ (Value.ref _) (Value.ref _)) _ _ _); k_dflt (refine r_addTG (by k_asm) (by k_asm) (by k_mem) (by k_mem) (by first | assumption | (simp only [List.length_nil, Nat.zero_add]; assumption)) ?_); intro D' h' n9' F' N' l') | (k_here; (first | with_reducible show wpAny _ _ (eval (Expr.ListComp (Expr.Call _ _ _ _) _ _ _) _) _ _ _ | with_reducible show wpAny _ _ (eval (Expr.ListComp (Expr.Tuple _ _ _) _ _ _) _) _ _ _ | with_reducible show wpAny _ _ (eval (Expr.ListComp (Expr.Subscript _ _ _) _ _ _) _) _ _ _ | with_reducible show wpAny _ _ (eval (Expr.ListComp (Expr.BinOp (Expr.Tuple _ _ _) _ _ _) _ _ _) _) _ _ _); k_dflt (refine z_ListComp (by k_asm) (by rfl) (by decide) (by rfl) (by decide) ?_ (by intro _; rfl) (by intro _ _ _ _ _ n9 h9; first | exact own_name n9 h9 | exact own_tuple n9 h9))) | (k_here; (with_reducible show wpAny _ _ (call (Value.type "tuple") [Value.ref _]) _ _ _); k_dflt (refine r_tupleL (by k_asm) (by k_asm) (by k_mem) (by (first | assumption | exact Nat.le_of_ble_eq_true rfl | omega | (simp only [List.length_cons, List.length_nil, List.length_append, List.length_map]; omega))) ?_); intro D9 h9 F9 N9 l9; (try k_lt l9)) | walk1 | (dsimp only; walk1) | (leave1; (try dsimp only))))
  (rename IsRange _ _ _ _ _ _ _ _ => HR)
  (rename Fr _ _ _ _ => FF)
  (rename News _ _ _ _ => NN)
  have hBD0 := Belt.consN NN hB (by omega)
  refine ZSrc.rng _ rfl FF (News.sub NN (mvS mv0)) HR (rng_small hn3) (rng_size hn3) (Nat.le_trans hn3 (by decide)) fun g => ?_
  clear FF NN HR
  have hM : ((n9 : Nat) : Int) * feeds 1 ≤ 9 := by simp only [feeds]; omega
  refine trees_rest (fl := 1) (ok := ok5 third) (o₀ := beltO c 0 0 0) (by rfl) (by rfl) ?turn _ k _ _ [] [] [] hBD0 ?kb (fun _ h => nomatch h) .nil (fun _ h => nomatch h) ?fin
  case kb => omega
  case turn =>
    clear hM
    intro k1 tkb1 nb1 tl1 v1 I1 oI1 C1 oC1 D1 oD1 m1 h1 tt1 Q1 hC1 hx1 F1 N1 hB1 hk1 hret1
    (repeat' (first | (k_unfold; (try dsimp only)) | ((with_reducible show wpAny _ _ (binaryOp _ (Value.ref _) (Value.ref _)) _ _ _); k_dflt (refine r_addTG (by k_asm) (by k_asm) (by k_mem) (by k_mem) (by first | assumption | (simp only [List.length_nil, Nat.zero_add]; assumption)) ?_); intro D' h' n9' F' N' l') | (k_here; (first | with_reducible show wpAny _ _ (eval (Expr.ListComp (Expr.Call _ _ _ _) _ _ _) _) _ _ _ | with_reducible show wpAny _ _ (eval (Expr.ListComp (Expr.Tuple _ _ _) _ _ _) _) _ _ _ | with_reducible show wpAny _ _ (eval (Expr.ListComp (Expr.Subscript _ _ _) _ _ _) _) _ _ _ | with_reducible show wpAny _ _ (eval (Expr.ListComp (Expr.BinOp (Expr.Tuple _ _ _) _ _ _) _ _ _) _) _ _ _); k_dflt (refine z_ListComp (by k_asm) (by rfl) (by decide) (by rfl) (by decide) ?_ (by intro _; rfl) (by intro _ _ _ _ _ n9 h9; first | exact own_name n9 h9 | exact own_tuple n9 h9))) | (k_here; (with_reducible show wpAny _ _ (call (Value.type "tuple") [Value.ref _]) _ _ _); k_dflt (refine r_tupleL (by k_asm) (by k_asm) (by k_mem) (by (first | assumption | exact Nat.le_of_ble_eq_true rfl | omega | (simp only [List.length_cons, List.length_nil, List.length_append, List.length_map]; omega))) ?_); intro D9 h9 F9 N9 l9; (try k_lt l9)) | walk1 | (dsimp only; walk1) | (leave1; (try dsimp only))))
    k_dflt (refine' tree_use (fl := 1) (tree_all w mean mg mb 1 (by decide)) hB1 hk1 (names5 (third := third) (t1 := t1) (t2 := t2) (t3 := t3) (t4 := t4) (t5 := t5)) ?w11b ?w11c ?w11d ?w11e ?w11f ?w11g ?w11h ?w11i ?w11j ?w11k ?w11l ?w11m hret1)
    case w11h => k_asm
    case w11j => (repeat (first | exact mv0 | apply mvS))
    case w11b => (simp only [List.length_cons, List.length_nil]; omega)
    case w11c => (simp only [List.length_cons, List.length_nil]; omega)
    case w11d => k_mem
    case w11e => k_asm
    case w11f => k_asm
    case w11g => k_asm
    case w11i => k_asm
    case w11k => exact rfl
    case w11l => (show dp + (2 * 1 + 10) < 1000; omega)
    case w11m => (show un + 8 * (2 * 1 + 10) < 9900; omega)
  case fin =>
    intro ys tl k1 ta1 na1 ts hk1 hk2 hf1 hT1 hts hlen
    have hlen' := hT1.length
    rw [List.length_nil, Nat.zero_add] at hlen
    have hys : ys.length ≤ 1000 := by omega
    have hk3 := Int.le_trans hk2 (Int.add_le_add_left hM _)
    unfold LCg.FinE
    intro DD hD tD FD ND offD
    (repeat' (first | (k_unfold; (try dsimp only)) | ((with_reducible show wpAny _ _ (binaryOp _ (Value.ref _) (Value.ref _)) _ _ _); k_dflt (refine r_addTG (by k_asm) (by k_asm) (by k_mem) (by k_mem) (by first | assumption | (simp only [List.length_nil, Nat.zero_add]; assumption)) ?_); intro D' h' n9' F' N' l') | (k_here; (first | with_reducible show wpAny _ _ (eval (Expr.ListComp (Expr.Call _ _ _ _) _ _ _) _) _ _ _ | with_reducible show wpAny _ _ (eval (Expr.ListComp (Expr.Tuple _ _ _) _ _ _) _) _ _ _ | with_reducible show wpAny _ _ (eval (Expr.ListComp (Expr.Subscript _ _ _) _ _ _) _) _ _ _ | with_reducible show wpAny _ _ (eval (Expr.ListComp (Expr.BinOp (Expr.Tuple _ _ _) _ _ _) _ _ _) _) _ _ _); k_dflt (refine z_ListComp (by k_asm) (by rfl) (by decide) (by rfl) (by decide) ?_ (by intro _; rfl) (by intro _ _ _ _ _ n9 h9; first | exact own_name n9 h9 | exact own_tuple n9 h9))) | (k_here; (with_reducible show wpAny _ _ (call (Value.type "tuple") [Value.ref _]) _ _ _); k_dflt (refine r_tupleL (by k_asm) (by k_asm) (by k_mem) (by (first | assumption | exact Nat.le_of_ble_eq_true rfl | omega | (simp only [List.length_cons, List.length_nil, List.length_append, List.length_map]; omega))) ?_); intro D9 h9 F9 N9 l9; (try k_lt l9)) | walk1 | (dsimp only; walk1) | (leave1; (try dsimp only))))
    (rename Fr _ _ _ _ => FE)
    (rename News _ _ _ _ => NE)
    (rename _ = _ ∨ _ => hDt)
    refine wpAny_execs_nil ⟨rfl, PE.intro hs1 hs2 FE NE sub_qG hthird hT3 hR hk1 (by omega) (off_G hDt (by omega) (by k_mem) (off_t hf1)) rfl rfl hT hfine htd rfl (Tr.mk_in hT1 (fun p hp => List.mem_append_right _ hp) (by omega) (List.mem_append_left _ (List.Mem.head _))) (Tr.mk_over hop fun t ht => fine_okT hthird (Tr.fine_mono (fun _ => ok5_6) (hts t ht).1)) (Tr.mk_dep fun t ht => (hts t ht).2)⟩
end
section
example : True := by (w_top off); trivial
open PySem PySem.W PyProof.Rows PySem.Spec PySem.Calls
theorem seg6 {w : World} {mean : ExcName → Option Value} {mg mb : Str → Option Value} {dp un : Nat} {gd : Option (List Code)} {cn : Str} {a : Addr} {ccd : Value} {outer : List Env} {A₀ : Around} {h₀ : Heap} {L : Addr} {s₀ s : Shared} {E : Value → Shared → Prop}
    (hdp : dp ≤ 400) (hun : un ≤ 100) (B : Below A₀ h₀ outer h₀) (X : (hd.heap_1 w.params).In h₀) (T' : Top hd.view_39 lse mean mg mb h₀) (hP : PE w h₀ L s₀ s) :
    wpAny (model PySem.Challenge.rw_sa0020_01.row.toRowW.prog w) (ktrTop dp un gd cn (lawScope w.params) L a ccd (lawCl w.params L) outer) (execs (((lawBody w.params).drop 8).take 3) (envX cn (lawScope w.params) L a ccd (lawCl w.params L))) (StN (PF w h₀ L s₀)) E s := by
  with_reducible refine hP.elim fun third T b c l td k vs ns n' m rest tv t pv p hS hk hmterm hT hfine htd hmpart hPt hPo hPd => hS.elim fun hs1 hs2 F₀ tk n N hthird b1 b2 b3 hT3 hR hmt => ?_
  have F := Fr.known3 F₀ hmt hmterm hmpart
  obtain ⟨oB, hmB, hoB⟩ := hR.cellB
  have hB := hR.belt
  have hoffb := hB.isOff
  have hcell := hB.hasCells
  have hsz : t.size ≤ 15 := by
    have h1 := Tr.size_le t (Tr.fine_le2 hfine)
    have h2 : 2 ^ t.dep ≤ 2 ^ 4 := Nat.pow_le_pow_right (by omega) htd
    omega
  clear F₀
  revert X
  dsimp only [lawCl, lawBody, lawScope, lawPick, lawMk, List.drop_succ_cons, List.drop_zero, List.take_succ_cons, List.take_zero]
  k_fill
  intro X
  (repeat' (first | (k_unfold; (try dsimp only)) | (k_here; (with_reducible show wpAny _ _ (call (Value.builtin "len") [Value.ref _]) _ _ _); k_dflt (first | refine r_lenL (by k_asm) (by k_mem) (by (first | assumption | exact Nat.le_of_ble_eq_true rfl | omega | (simp only [List.length_cons, List.length_nil, List.length_append, List.length_map]; omega))) ?_ | refine r_lenT (by k_asm) (by k_mem) (by (first | assumption | exact Nat.le_of_ble_eq_true rfl | omega | (simp only [List.length_cons, List.length_nil, List.length_append, List.length_map]; omega))) ?_); (try dsimp only)) | walk1 | (dsimp only; walk1) | (leave1; (try dsimp only))))
  (rename News _ _ _ _ => NA)
  k_dflt (refine' spots_use (spots_all w mean mg mb t) (hT.mono ?a1) (Tr.fine_le2 hfine) ?a2 ?a3 ?a4 ?a5 ?a6 NA ?a7 (fun _ h => h) ?a8 ?a9 ?a10 ?_)
  case a1 => (intro p hp; simp [hp])
  case a2 => omega
  case a3 => omega
  case a4 => k_asm
  case a5 => k_asm
  case a6 => k_asm
  case a7 => k_asm
  case a8 => exact rfl
  case a9 => (show dp + (2 * t.dep + 10) < 1000; omega)
  case a10 => (show un + 8 * (2 * t.dep + 10) < 9900; omega)
  clear NA
  intro tlS LS ways nS hS tkS FS NS hfS hLS hw0 hw1 hwO
  have hBS := hB.tl hfS
  have NS1 := News.sub NS sub_b
  clear NS
  (repeat' (first | (k_unfold; (try dsimp only)) | (k_here; (with_reducible show wpAny _ _ (call (Value.builtin "len") [Value.ref _]) _ _ _); k_dflt (first | refine r_lenL (by k_asm) (by k_mem) (by (first | assumption | exact Nat.le_of_ble_eq_true rfl | omega | (simp only [List.length_cons, List.length_nil, List.length_append, List.length_map]; omega))) ?_ | refine r_lenT (by k_asm) (by k_mem) (by (first | assumption | exact Nat.le_of_ble_eq_true rfl | omega | (simp only [List.length_cons, List.length_nil, List.length_append, List.length_map]; omega))) ?_); (try dsimp only)) | walk1 | (dsimp only; walk1) | (leave1; (try dsimp only))))
  (rename News _ _ _ _ => NA1)
  k_dflt (refine' feed_B hBS NA1 ?y1b ?y1c ?y1d ?y1e ?y1f ?y1g ?y1h ?y1i ?y1j ?y1k ?_)
  case y1e => k_asm
  case y1f => k_asm
  case y1g => k_asm
  case y1h => k_asm
  case y1b => omega
  case y1c => omega
  case y1d => omega
  case y1i => exact rfl
  case y1j => (show dp + 1 < 1000; omega)
  case y1k => (show un + 8 < 9900; omega)
  clear NA1
  intro j1 tk1 n1 tka1 h1 tkb1 hB1 F1 N1 j1a j1b
  k_dflt (refine' r_pickV (vs := ways) (nl := nS) N1 (List.mem_cons_of_mem _ (List.mem_append_left _ hLS)) j1a j1b ?b1 ?_ ?b2 ?b3)
  case b1 => omega
  case b2 => with_unfolding_all rfl
  case b3 => (intro _; with_unfolding_all rfl)
  intro wv hwv
  obtain ⟨ws, hwW, hwp⟩ := hwO wv hwv
  (repeat' (first | (k_unfold; (try dsimp only)) | (k_here; (with_reducible show wpAny _ _ (call (Value.builtin "len") [Value.ref _]) _ _ _); k_dflt (first | refine r_lenL (by k_asm) (by k_mem) (by (first | assumption | exact Nat.le_of_ble_eq_true rfl | omega | (simp only [List.length_cons, List.length_nil, List.length_append, List.length_map]; omega))) ?_ | refine r_lenT (by k_asm) (by k_mem) (by (first | assumption | exact Nat.le_of_ble_eq_true rfl | omega | (simp only [List.length_cons, List.length_nil, List.length_append, List.length_map]; omega))) ?_); (try dsimp only)) | walk1 | (dsimp only; walk1) | (leave1; (try dsimp only))))
  k_dflt (refine' put_use (put_all w mean mg mb t) (hT.mono ?c1) hwp (hPt.mono ?c1) ?c2 ?c3 ?c4 ?c5 N1 (hwW.mono ?c6) ?c7 (fun _ h => h) ?c8 ?c9 ?c10 ?_)
  case c1 => exact (fun p hp => List.mem_cons_of_mem _ (List.mem_append_right _ hp))
  case c6 => exact (fun p hp => List.mem_cons_of_mem _ (List.mem_append_left _ hp))
  case c2 => omega
  case c3 => k_asm
  case c4 => k_asm
  case c5 => k_asm
  case c7 => k_asm
  case c8 => exact rfl
  case c9 => (show dp + (2 * t.dep + 10) < 1000; omega)
  case c10 => (show un + 8 * (2 * t.dep + 10) < 9900; omega)
  clear N1
  intro lv tlP hP2 tkP FP NP hfP hTP
  have sR : ∀ p ∈ rest, p ∈ tlP ++ (b, beltO c (k + 1) tk1 n1) :: (tlS ++ rest) := fun p hp => List.mem_append_right _ (List.mem_cons_of_mem _ (List.mem_append_right _ hp))
  have hoL : (Tr.put p t ws).over okT := Tr.put_over hPo (fine_okT hthird hfine)
  have hdL := Tr.put_dep (p := p) (t := t) (ws := ws)
  (repeat' (first | (k_unfold; (try dsimp only)) | (k_here; (with_reducible show wpAny _ _ (call (Value.builtin "len") [Value.ref _]) _ _ _); k_dflt (first | refine r_lenL (by k_asm) (by k_mem) (by (first | assumption | exact Nat.le_of_ble_eq_true rfl | omega | (simp only [List.length_cons, List.length_nil, List.length_append, List.length_map]; omega))) ?_ | refine r_lenT (by k_asm) (by k_mem) (by (first | assumption | exact Nat.le_of_ble_eq_true rfl | omega | (simp only [List.length_cons, List.length_nil, List.length_append, List.length_map]; omega))) ?_); (try dsimp only)) | walk1 | (dsimp only; walk1) | (leave1; (try dsimp only))))
  (rename News _ _ _ _ => NQ)
  (repeat' (first | (k_unfold; (try dsimp only)) | (k_here; (with_reducible show wpAny _ _ (call (Value.builtin "len") [Value.ref _]) _ _ _); k_dflt (first | refine r_lenL (by k_asm) (by k_mem) (by (first | assumption | exact Nat.le_of_ble_eq_true rfl | omega | (simp only [List.length_cons, List.length_nil, List.length_append, List.length_map]; omega))) ?_ | refine r_lenT (by k_asm) (by k_mem) (by (first | assumption | exact Nat.le_of_ble_eq_true rfl | omega | (simp only [List.length_cons, List.length_nil, List.length_append, List.length_map]; omega))) ?_); (try dsimp only)) | walk1 | (dsimp only; walk1) | (leave1; (try dsimp only))))
  k_dflt (refine' heard_use (t := p) (T := T) (hPt.mono sR) (hR.told.mono ?d2) (fun _ h => h) (okT_lay hPo) (okT_len hPo) ?d3 ?d4 ?d5 ?d6 NQ ?d7 ?d8 ?d9 ?d10 ?_)
  case d2 => exact sR
  case d3 => omega
  case d4 => k_asm
  case d5 => k_asm
  case d6 => k_asm
  case d7 => k_asm
  case d8 => exact rfl
  case d9 => (show dp + (4 * Tr.dep _ + 40) < 1000; omega)
  case d10 => (show un + 8 * (4 * Tr.dep _ + 40) < 9900; omega)
  clear NQ
  intro h5 tkd F5 N5
  (repeat' (first | (k_unfold; (try dsimp only)) | (k_here; (with_reducible show wpAny _ _ (call (Value.builtin "len") [Value.ref _]) _ _ _); k_dflt (first | refine r_lenL (by k_asm) (by k_mem) (by (first | assumption | exact Nat.le_of_ble_eq_true rfl | omega | (simp only [List.length_cons, List.length_nil, List.length_append, List.length_map]; omega))) ?_ | refine r_lenT (by k_asm) (by k_mem) (by (first | assumption | exact Nat.le_of_ble_eq_true rfl | omega | (simp only [List.length_cons, List.length_nil, List.length_append, List.length_map]; omega))) ?_); (try dsimp only)) | walk1 | (dsimp only; walk1) | (leave1; (try dsimp only))))
  k_dflt (refine' worth_use (worth_all w mean mg mb p) (T := T) (hPt.mono sR) (hR.told.mono ?e2) (fun _ h => h) (okT_lay hPo) ?e3 ?e4 ?e5 ?e6 N5 ?e7 ?e8 ?e9 ?e10 ?_)
  case e2 => exact sR
  case e3 => omega
  case e4 => k_asm
  case e5 => k_asm
  case e6 => k_asm
  case e7 => k_asm
  case e8 => exact rfl
  case e9 => (show dp + (2 * Tr.dep _ + 10) < 1000; omega)
  case e10 => (show un + 8 * (2 * Tr.dep _ + 10) < 9900; omega)
  clear N5
  intro h6 tke F6 N6
  k_dflt (refine r_isNot ?_)
  (repeat' (first | (k_unfold; (try dsimp only)) | (k_here; (with_reducible show wpAny _ _ (call (Value.builtin "len") [Value.ref _]) _ _ _); k_dflt (first | refine r_lenL (by k_asm) (by k_mem) (by (first | assumption | exact Nat.le_of_ble_eq_true rfl | omega | (simp only [List.length_cons, List.length_nil, List.length_append, List.length_map]; omega))) ?_ | refine r_lenT (by k_asm) (by k_mem) (by (first | assumption | exact Nat.le_of_ble_eq_true rfl | omega | (simp only [List.length_cons, List.length_nil, List.length_append, List.length_map]; omega))) ?_); (try dsimp only)) | walk1 | (dsimp only; walk1) | (leave1; (try dsimp only))))
  k_dflt (refine' heard_use (t := (Tr.put p t ws)) (T := T) hTP (hR.told.mono ?f2) (fun _ h => h) (okT_lay hoL) (okT_len hoL) ?f3 ?f4 ?f5 ?f6 N6 ?f7 ?f8 ?f9 ?f10 ?_)
  case f2 => exact sR
  case f3 => omega
  case f4 => k_asm
  case f5 => k_asm
  case f6 => k_asm
  case f7 => k_asm
  case f8 => exact rfl
  case f9 => (show dp + (4 * Tr.dep _ + 40) < 1000; omega)
  case f10 => (show un + 8 * (4 * Tr.dep _ + 40) < 9900; omega)
  clear N6
  intro h7 tkf F7 N7
  (repeat' (first | (k_unfold; (try dsimp only)) | (k_here; (with_reducible show wpAny _ _ (call (Value.builtin "len") [Value.ref _]) _ _ _); k_dflt (first | refine r_lenL (by k_asm) (by k_mem) (by (first | assumption | exact Nat.le_of_ble_eq_true rfl | omega | (simp only [List.length_cons, List.length_nil, List.length_append, List.length_map]; omega))) ?_ | refine r_lenT (by k_asm) (by k_mem) (by (first | assumption | exact Nat.le_of_ble_eq_true rfl | omega | (simp only [List.length_cons, List.length_nil, List.length_append, List.length_map]; omega))) ?_); (try dsimp only)) | walk1 | (dsimp only; walk1) | (leave1; (try dsimp only))))
  k_dflt (refine' worth_use (worth_all w mean mg mb (Tr.put p t ws)) (T := T) hTP (hR.told.mono ?g2) (fun _ h => h) (okT_lay hoL) ?g3 ?g4 ?g5 ?g6 N7 ?g7 ?g8 ?g9 ?g10 ?_)
  case g2 => exact sR
  case g3 => omega
  case g4 => k_asm
  case g5 => k_asm
  case g6 => k_asm
  case g7 => k_asm
  case g8 => exact rfl
  case g9 => (show dp + (2 * Tr.dep _ + 10) < 1000; omega)
  case g10 => (show un + 8 * (2 * Tr.dep _ + 10) < 9900; omega)
  clear N7
  intro h8 tkg F8 N8
  k_dflt (refine r_isNot ?_)
  (repeat' (first | (k_unfold; (try dsimp only)) | (k_here; (with_reducible show wpAny _ _ (call (Value.builtin "len") [Value.ref _]) _ _ _); k_dflt (first | refine r_lenL (by k_asm) (by k_mem) (by (first | assumption | exact Nat.le_of_ble_eq_true rfl | omega | (simp only [List.length_cons, List.length_nil, List.length_append, List.length_map]; omega))) ?_ | refine r_lenT (by k_asm) (by k_mem) (by (first | assumption | exact Nat.le_of_ble_eq_true rfl | omega | (simp only [List.length_cons, List.length_nil, List.length_append, List.length_map]; omega))) ?_); (try dsimp only)) | walk1 | (dsimp only; walk1) | (leave1; (try dsimp only))))
  refine wpAny_execs_nil ⟨rfl, third, T, b, c, l, td, k + 1, vs, ns, n', _, rest, LawSt.mk' (tl := []) hs1 hs2 F8 (News.sub N8 sub_bb) rfl hthird hT3 hR (by omega) (fun _ h => nomatch h) rfl, by omega⟩
end
section
example : True := by (w_top off); trivial
open PySem PySem.W PyProof.Rows PySem.Spec PySem.Calls
theorem seg7 {w : World} {mean : ExcName → Option Value} {mg mb : Str → Option Value} {dp un : Nat} {gd : Option (List Code)} {cn : Str} {a : Addr} {ccd : Value} {outer : List Env} {A₀ : Around} {h₀ : Heap} {L : Addr} {s₀ s : Shared} {E : Value → Shared → Prop}
    (hdp : dp ≤ 400) (hun : un ≤ 100) (B : Below A₀ h₀ outer h₀) (X : (hd.heap_1 w.params).In h₀) (T' : Top hd.view_39 lse mean mg mb h₀) (hP : PF w h₀ L s₀ s)
    (hE : PassesOwn (model PySem.Challenge.rw_sa0020_01.row.toRowW.prog w) (ktrTop dp un gd cn (lawScope w.params) L a ccd (lawCl w.params L) outer) (envX cn (lawScope w.params) L a ccd (lawCl w.params L)) E) :
    wpAny (model PySem.Challenge.rw_sa0020_01.row.toRowW.prog w) (ktrTop dp un gd cn (lawScope w.params) L a ccd (lawCl w.params L) outer) (execs (((lawBody w.params).drop 11).take 2) (envX cn (lawScope w.params) L a ccd (lawCl w.params L))) (StN (PG w h₀ L s₀)) E s := by
  with_reducible refine hP.elim fun third T b c l td k vs ns n' m rest hS hk => hS.elim fun hs1 hs2 F₀ tk n N hthird b1 b2 b3 hT3 hR hmt => ?_
  have F := Fr.known F₀ hmt
  with_reducible refine hR.elim fun oB oL t1 t2 t3 t4 t5 nl hmB hoB hmL hoL hml => ?_
  have hB := hR.belt
  have hoffb := hB.isOff
  have hcell := hB.hasCells
  clear F₀
  revert X
  dsimp only [lawCl, lawBody, lawScope, lawPick, lawMk, List.drop_succ_cons, List.drop_zero, List.take_succ_cons, List.take_zero]
  k_fill
  intro X
  (repeat' (first | (k_unfold; (try dsimp only)) | ((with_reducible show wpAny _ _ (setItem (Value.ref _) (Value.str _ _) _) _ _ _); k_dflt (refine kda_set (knd := PySem.strKind _ _) (by k_asm) (by k_asm) (by k_updF) (by k_asm) (strKind_is _ _ _ _) (by rw [sizeLine_eq]; exact Nat.le_of_ble_eq_true (by with_unfolding_all rfl)) ?_); intro h' o' F' N' hd'; (try dsimp only at N')) | ((with_reducible show wpAny _ _ (exec (Stmt.For (Expr.Name _ _) (Expr.Tuple _ _ _) _ _ _) _) _ _ _); k_here; (rename Fr _ _ _ _ => lF'); with_unfolding_all refine' For_turns lF' ?_; k_whole) | walk1 | (dsimp only; walk1) | (leave1; (try dsimp only))))
  (rename News _ _ _ _ => NI)
  (rename Fr _ _ _ _ => FI)
  refine iter_tupTurns (by rfl) FI (News.sub NI sub_swap) List.mem_cons_self rfl rfl (fun I hI => ?_)
  obtain ⟨hI1, hI2, hI3, hI4⟩ := off4 hI
  have hod0 := tb_off NI (by first | tbn_find | exact allLt_of (by assumption))
  clear FI NI hI
  dsimp only at hI1 hI2 hI3
  dsimp only [List.map]
  (repeat' (first | (k_unfold; (try dsimp only)) | ((with_reducible show wpAny _ _ (setItem (Value.ref _) (Value.str _ _) _) _ _ _); k_dflt (refine kda_set (knd := PySem.strKind _ _) (by k_asm) (by k_asm) (by k_updF) (by k_asm) (strKind_is _ _ _ _) (by rw [sizeLine_eq]; exact Nat.le_of_ble_eq_true (by with_unfolding_all rfl)) ?_); intro h' o' F' N' hd'; (try dsimp only at N')) | ((with_reducible show wpAny _ _ (exec (Stmt.For (Expr.Name _ _) (Expr.Tuple _ _ _) _ _ _) _) _ _ _); k_here; (rename Fr _ _ _ _ => lF'); with_unfolding_all refine' For_turns lF' ?_; k_whole) | walk1 | (dsimp only; walk1) | (leave1; (try dsimp only))))
  (rename News _ _ _ _ => NA1)
  k_dflt (refine' tree_use (fl := 1) (k := k) (tree_all w mean mg mb 1 (by decide)) (Belt.re hB ?a11 ?a12) ?a13 (names5 (third := third) (t1 := t1) (t2 := t2) (t3 := t3) (t4 := t4) (t5 := t5)) ?a14 ?a15 ?a16 ?a17 ?a18 ?a19 NA1 ?a110 ?a111 ?a112 ?a113 ?a114 ?_)
  case a111 => (repeat (first | exact mv0 | apply mvS))
  case a11 => k_mem
  case a12 => k_all
  case a13 => (simp only [feeds]; omega)
  case a14 => (simp only [List.length_cons, List.length_nil]; omega)
  case a15 => (simp only [List.length_cons, List.length_nil]; omega)
  case a16 => k_mem
  case a17 => k_asm
  case a18 => k_asm
  case a19 => k_asm
  case a110 => k_asm
  case a112 => exact rfl
  case a113 => (show dp + (2 * 1 + 10) < 1000; omega)
  case a114 => (show un + 8 * (2 * 1 + 10) < 9900; omega)
  clear NA1
  intro r1 tl1 k1 ta1 na1 tr1 hh1 tc1 F1 N1 hka1 hkb1 hf1 hQ1 ho1 hdp1
  simp only [feeds] at hkb1
  obtain ⟨fd1, fI1, fb1⟩ := turn_facts hf1 hod0 hI4 hoffb
  have hB1 := hB.up hka1
  have NS1 := News.sub N1 sub_r
  clear N1 hf1 hod0 hI4 hoffb
  (repeat' (first | (k_unfold; (try dsimp only)) | ((with_reducible show wpAny _ _ (setItem (Value.ref _) (Value.str _ _) _) _ _ _); k_dflt (refine kda_set (knd := PySem.strKind _ _) (by k_asm) (by k_asm) (by k_updF) (by k_asm) (strKind_is _ _ _ _) (by rw [sizeLine_eq]; exact Nat.le_of_ble_eq_true (by with_unfolding_all rfl)) ?_); intro h' o' F' N' hd'; (try dsimp only at N')) | ((with_reducible show wpAny _ _ (exec (Stmt.For (Expr.Name _ _) (Expr.Tuple _ _ _) _ _ _) _) _ _ _); k_here; (rename Fr _ _ _ _ => lF'); with_unfolding_all refine' For_turns lF' ?_; k_whole) | walk1 | (dsimp only; walk1) | (leave1; (try dsimp only))))
  (rename Fr _ _ _ _ => FT1)
  (rename News _ _ _ _ => NT1)
  refine turn_end2 FT1 NT1 hI2 hI1 hI3 fI1 ⟨⟨by k_mem, trivial⟩, ?_⟩
  clear FT1 NT1 NS1
  (repeat' (first | (k_unfold; (try dsimp only)) | ((with_reducible show wpAny _ _ (setItem (Value.ref _) (Value.str _ _) _) _ _ _); k_dflt (refine kda_set (knd := PySem.strKind _ _) (by k_asm) (by k_asm) (by k_updF) (by k_asm) (strKind_is _ _ _ _) (by rw [sizeLine_eq]; exact Nat.le_of_ble_eq_true (by with_unfolding_all rfl)) ?_); intro h' o' F' N' hd'; (try dsimp only at N')) | ((with_reducible show wpAny _ _ (exec (Stmt.For (Expr.Name _ _) (Expr.Tuple _ _ _) _ _ _) _) _ _ _); k_here; (rename Fr _ _ _ _ => lF'); with_unfolding_all refine' For_turns lF' ?_; k_whole) | walk1 | (dsimp only; walk1) | (leave1; (try dsimp only))))
  (rename News _ _ _ _ => NA2)
  k_dflt (refine' tree_use (fl := 1) (k := k1) (tree_all w mean mg mb 1 (by decide)) (Belt.re hB1 ?a21 ?a22) ?a23 (names5 (third := third) (t1 := t1) (t2 := t2) (t3 := t3) (t4 := t4) (t5 := t5)) ?a24 ?a25 ?a26 ?a27 ?a28 ?a29 NA2 ?a210 ?a211 ?a212 ?a213 ?a214 ?_)
  case a211 => (repeat (first | exact mv0 | apply mvS))
  case a21 => k_mem
  case a22 => k_all
  case a23 => (simp only [feeds]; omega)
  case a24 => (simp only [List.length_cons, List.length_nil]; omega)
  case a25 => (simp only [List.length_cons, List.length_nil]; omega)
  case a26 => k_mem
  case a27 => k_asm
  case a28 => k_asm
  case a29 => k_asm
  case a210 => k_asm
  case a212 => exact rfl
  case a213 => (show dp + (2 * 1 + 10) < 1000; omega)
  case a214 => (show un + 8 * (2 * 1 + 10) < 9900; omega)
  clear NA2
  intro r2 tl2 k2 ta2 na2 tr2 hh2 tc2 F2 N2 hka2 hkb2 hf2 hQ2 ho2 hdp2
  simp only [feeds] at hkb2
  obtain ⟨fd2, fI2, fb2⟩ := turn_facts hf2 fd1 fI1 fb1
  have hB2 := hB1.up hka2
  have NS2 := News.sub N2 sub_r
  clear N2 hf2 fd1 fI1 fb1
  (repeat' (first | (k_unfold; (try dsimp only)) | ((with_reducible show wpAny _ _ (setItem (Value.ref _) (Value.str _ _) _) _ _ _); k_dflt (refine kda_set (knd := PySem.strKind _ _) (by k_asm) (by k_asm) (by k_updF) (by k_asm) (strKind_is _ _ _ _) (by rw [sizeLine_eq]; exact Nat.le_of_ble_eq_true (by with_unfolding_all rfl)) ?_); intro h' o' F' N' hd'; (try dsimp only at N')) | ((with_reducible show wpAny _ _ (exec (Stmt.For (Expr.Name _ _) (Expr.Tuple _ _ _) _ _ _) _) _ _ _); k_here; (rename Fr _ _ _ _ => lF'); with_unfolding_all refine' For_turns lF' ?_; k_whole) | walk1 | (dsimp only; walk1) | (leave1; (try dsimp only))))
  (rename Fr _ _ _ _ => FT2)
  (rename News _ _ _ _ => NT2)
  refine turn_end2 FT2 NT2 hI2 hI1 hI3 fI2 ⟨⟨by k_mem, trivial⟩, ?_⟩
  clear FT2 NT2 NS2
  (repeat' (first | (k_unfold; (try dsimp only)) | ((with_reducible show wpAny _ _ (setItem (Value.ref _) (Value.str _ _) _) _ _ _); k_dflt (refine kda_set (knd := PySem.strKind _ _) (by k_asm) (by k_asm) (by k_updF) (by k_asm) (strKind_is _ _ _ _) (by rw [sizeLine_eq]; exact Nat.le_of_ble_eq_true (by with_unfolding_all rfl)) ?_); intro h' o' F' N' hd'; (try dsimp only at N')) | ((with_reducible show wpAny _ _ (exec (Stmt.For (Expr.Name _ _) (Expr.Tuple _ _ _) _ _ _) _) _ _ _); k_here; (rename Fr _ _ _ _ => lF'); with_unfolding_all refine' For_turns lF' ?_; k_whole) | walk1 | (dsimp only; walk1) | (leave1; (try dsimp only))))
  (rename News _ _ _ _ => NA3)
  k_dflt (refine' tree_use (fl := 1) (k := k2) (tree_all w mean mg mb 1 (by decide)) (Belt.re hB2 ?a31 ?a32) ?a33 (names5 (third := third) (t1 := t1) (t2 := t2) (t3 := t3) (t4 := t4) (t5 := t5)) ?a34 ?a35 ?a36 ?a37 ?a38 ?a39 NA3 ?a310 ?a311 ?a312 ?a313 ?a314 ?_)
  case a311 => (repeat (first | exact mv0 | apply mvS))
  case a31 => k_mem
  case a32 => k_all
  case a33 => (simp only [feeds]; omega)
  case a34 => (simp only [List.length_cons, List.length_nil]; omega)
  case a35 => (simp only [List.length_cons, List.length_nil]; omega)
  case a36 => k_mem
  case a37 => k_asm
  case a38 => k_asm
  case a39 => k_asm
  case a310 => k_asm
  case a312 => exact rfl
  case a313 => (show dp + (2 * 1 + 10) < 1000; omega)
  case a314 => (show un + 8 * (2 * 1 + 10) < 9900; omega)
  clear NA3
  intro r3 tl3 k3 ta3 na3 tr3 hh3 tc3 F3 N3 hka3 hkb3 hf3 hQ3 ho3 hdp3
  simp only [feeds] at hkb3
  obtain ⟨fd3, fI3, fb3⟩ := turn_facts hf3 fd2 fI2 fb2
  have hB3 := hB2.up hka3
  have NS3 := News.sub N3 sub_r
  clear N3 hf3 fd2 fI2 fb2
  (repeat' (first | (k_unfold; (try dsimp only)) | ((with_reducible show wpAny _ _ (setItem (Value.ref _) (Value.str _ _) _) _ _ _); k_dflt (refine kda_set (knd := PySem.strKind _ _) (by k_asm) (by k_asm) (by k_updF) (by k_asm) (strKind_is _ _ _ _) (by rw [sizeLine_eq]; exact Nat.le_of_ble_eq_true (by with_unfolding_all rfl)) ?_); intro h' o' F' N' hd'; (try dsimp only at N')) | ((with_reducible show wpAny _ _ (exec (Stmt.For (Expr.Name _ _) (Expr.Tuple _ _ _) _ _ _) _) _ _ _); k_here; (rename Fr _ _ _ _ => lF'); with_unfolding_all refine' For_turns lF' ?_; k_whole) | walk1 | (dsimp only; walk1) | (leave1; (try dsimp only))))
  (rename Fr _ _ _ _ => FT3)
  (rename News _ _ _ _ => NT3)
  refine turn_end2 FT3 NT3 hI2 hI1 hI3 fI3 ⟨⟨by k_mem, trivial⟩, ?_⟩
  clear FT3 NT3 NS3
  with_unfolding_all refine ItemsRest.zero (fun h' tk' F' N' => ?_)
  (repeat' (first | (k_unfold; (try dsimp only)) | ((with_reducible show wpAny _ _ (setItem (Value.ref _) (Value.str _ _) _) _ _ _); k_dflt (refine kda_set (knd := PySem.strKind _ _) (by k_asm) (by k_asm) (by k_updF) (by k_asm) (strKind_is _ _ _ _) (by rw [sizeLine_eq]; exact Nat.le_of_ble_eq_true (by with_unfolding_all rfl)) ?_); intro h' o' F' N' hd'; (try dsimp only at N')) | ((with_reducible show wpAny _ _ (exec (Stmt.For (Expr.Name _ _) (Expr.Tuple _ _ _) _ _ _) _) _ _ _); k_here; (rename Fr _ _ _ _ => lF'); with_unfolding_all refine' For_turns lF' ?_; k_whole) | walk1 | (dsimp only; walk1) | (leave1; (try dsimp only))))
  refine wpAny_execs_nil ⟨rfl, ?_⟩
  (rename Fr _ _ _ _ => FE)
  (rename News _ _ _ _ => NE)
  refine PG.intro hs1 hs2 FE NE sub_mid hthird hT3 hR (by omega) fb3 (by omega) rfl rfl (by assumption) (by assumption) hQ1 hQ2 hQ3 ho1 ho2 ho3 hdp1 hdp2 hdp3
end
section
example : True := by (w_top off); trivial
open PySem PySem.W PyProof.Rows PySem.Spec PySem.Calls
theorem seg8 {w : World} {mean : ExcName → Option Value} {mg mb : Str → Option Value} {dp un : Nat} {gd : Option (List Code)} {cn : Str} {a : Addr} {ccd : Value} {outer : List Env} {A₀ : Around} {h₀ : Heap} {L : Addr} {s₀ s : Shared} {Q : Flow → Shared → Prop} {E : Value → Shared → Prop}
    (hdp : dp ≤ 400) (hun : un ≤ 100) (B : Below A₀ h₀ outer h₀) (X : (hd.heap_1 w.params).In h₀) (T' : Top hd.view_39 lse mean mg mb h₀) (hP : PG w h₀ L s₀ s)
    (hE : PassesOwn (model PySem.Challenge.rw_sa0020_01.row.toRowW.prog w) (ktrTop dp un gd cn (lawScope w.params) L a ccd (lawCl w.params L) outer) (envX cn (lawScope w.params) L a ccd (lawCl w.params L)) E)
    (hQ : ∀ s' m', Fr h₀ L s'.heap m' → s'.os = s₀.os → s'.gens = s₀.gens → Q (.ret (.bool true)) s') :
    wpAny (model PySem.Challenge.rw_sa0020_01.row.toRowW.prog w) (ktrTop dp un gd cn (lawScope w.params) L a ccd (lawCl w.params L) outer) (execs ((lawBody w.params).drop 13) (envX cn (lawScope w.params) L a ccd (lawCl w.params L))) Q E s := by
  with_reducible refine hP.elim fun third T b c l td k vs ns n' m rest tb va vb vc ta tb' tc hS hmtab hTab hA hB hC fA fB fC dA dB dC => hS.elim fun hs1 hs2 F₀ tk n N hthird b1 b2 b3 hT3 hR hmt => ?_
  have F := Fr.known2 F₀ hmt hmtab
  clear F₀
  revert X
  dsimp only [lawCl, lawBody, lawScope, lawPick, lawMk, List.drop_succ_cons, List.drop_zero, List.take_succ_cons, List.take_zero]
  k_fill
  intro X
  (repeat' (first | (k_unfold; (try dsimp only)) | ((with_reducible show wpAny _ _ (exec (Stmt.For (Expr.Name _ _) (Expr.Call _ _ _ _) _ _ _) _) _ _ _); (rename Fr _ _ _ _ => lF'); (with_unfolding_all refine' For_turns lF' ?_); k_whole) | walk1 | (dsimp only; walk1) | (leave1; (try dsimp only))))
  dsimp only [List.append_nil]
  (rename News _ _ _ _ => NI)
  k_dflt (refine' laws_use (rules_all w mean mg mb _) ?a1 ?a2 ?a3 NI ?a4 ?a5 ?a6 ?a7 ?_)
  case a1 => k_asm
  case a2 => k_asm
  case a3 => k_asm
  case a4 => k_asm
  case a5 => exact rfl
  case a6 => (show dp + 230 < 1000; omega)
  case a7 => (show un + 8 * 230 < 9900; omega)
  clear NI
  intro tlR LR items nR hR1 dR tkR FR NR hfR hLR hAR
  obtain ⟨led, NL, hLL, hAL, hRest⟩ := pack_led NR hLR hAR
  clear NR hLR hAR hfR
  have hDT := hR.told.mono hRest
  have hTab' := hTab.mono hRest
  have hA' := hA.mono hRest
  have hB' := hB.mono hRest
  have hC' := hC.mono hRest
  clear hTab hA hB hC hRest
  obtain ⟨xa, wa⟩ := fine_worth (b1 := b1) (b2 := b2) (b3 := b3) fA
  obtain ⟨xb, wb⟩ := fine_worth (b1 := b1) (b2 := b2) (b3 := b3) fB
  obtain ⟨xc, wc⟩ := fine_worth (b1 := b1) (b2 := b2) (b3 := b3) fC
  rw [← hT3] at wa wb wc
  have oA := fine_okT hthird (Tr.fine_mono (fun _ => ok5_6) fA)
  have oB := fine_okT hthird (Tr.fine_mono (fun _ => ok5_6) fB)
  have oC := fine_okT hthird (Tr.fine_mono (fun _ => ok5_6) fC)
  clear fA fB fC hR
  refine iter_listTurns (by rfl) FR NL hLL rfl rfl (fun I hI => ?_)
  have hIoff : ∀ p ∈ led, p.1 ≠ I := fun p hp => Nat.ne_of_lt (hI p hp)
  refine items_inv (keep := [(LR, lstO items nR)]) (led := led) (fun m => m (Str.ofString "told") = some (.ref td) ∧ m (Str.ofString "table") = some (.ref tb)) (And.intro hLL trivial) hIoff ?_ items ?_ _ ⟨rfl, rfl⟩
  · intro m₂ h tk hm F N
    (repeat' (first | (k_unfold; (try dsimp only)) | ((with_reducible show wpAny _ _ (exec (Stmt.For (Expr.Name _ _) (Expr.Call _ _ _ _) _ _ _) _) _ _ _); (rename Fr _ _ _ _ => lF'); (with_unfolding_all refine' For_turns lF' ?_); k_whole) | walk1 | (dsimp only; walk1) | (leave1; (try dsimp only))))
    exact hQ _ _ F hs1 hs2
  · intro v hv m₂ h tk oI hm F N
    obtain ⟨q, hq, x, d, t1, t2, t3, t4, nm, tn, vl, vr, vd, rfl, hx, hdd, hl, hr⟩ := hAL.at v hv
    dsimp only [ruleD] at hdd
    obtain ⟨al, rfl⟩ := hl.isRef
    obtain ⟨ar, rfl⟩ := hr.isRef
    obtain ⟨g1, g2, g3, g4, g5⟩ := rules_good q hq
    have g6 := g5 T ta tb' tc xa xb xc wa wb wc
    have F := Fr.known2 F hm.1 hm.2
    have e1 := Tr.subst_dep dA dB dC (t := q.1)
    have e2 := Tr.subst_dep dA dB dC (t := q.2)
    have o1 := Tr.subst_over oA oB oC g1
    have o2 := Tr.subst_over oA oB oC g2
    (repeat' (first | (k_unfold; (try dsimp only)) | ((with_reducible show wpAny _ _ (exec (Stmt.For (Expr.Name _ _) (Expr.Call _ _ _ _) _ _ _) _) _ _ _); (rename Fr _ _ _ _ => lF'); (with_unfolding_all refine' For_turns lF' ?_); k_whole) | walk1 | (dsimp only; walk1) | (leave1; (try dsimp only))))
    (rename News _ _ _ _ => NA)
    k_dflt (refine' with_use (with_all w mean mg mb q.1) hl hTab' hA' hB' hC' ?a1 ?a2 ?a3 NA ?a4 ?a5 ?a6 ?a7 ?a8 ?_)
    case a5 => exact fun p hp => List.mem_cons_of_mem _ hp
    case a1 => k_asm
    case a2 => k_asm
    case a3 => k_asm
    case a4 => k_asm
    case a6 => exact rfl
    case a7 => (show dp + (2 * Tr.dep _ + 10) < 1000; omega)
    case a8 => (show un + 8 * (2 * Tr.dep _ + 10) < 9900; omega)
    intro r1 tl1 h1 tk1 F1 N1 hf1 hT1
    clear NA
    (repeat' (first | (k_unfold; (try dsimp only)) | ((with_reducible show wpAny _ _ (exec (Stmt.For (Expr.Name _ _) (Expr.Call _ _ _ _) _ _ _) _) _ _ _); (rename Fr _ _ _ _ => lF'); (with_unfolding_all refine' For_turns lF' ?_); k_whole) | walk1 | (dsimp only; walk1) | (leave1; (try dsimp only))))
    k_dflt (refine' with_use (with_all w mean mg mb q.2) hr hTab' hA' hB' hC' ?b1 ?b2 ?b3 N1 ?b4 ?b5 ?b6 ?b7 ?b8 ?_)
    case b5 => exact fun p hp => List.mem_append_right _ (List.mem_cons_of_mem _ hp)
    case b1 => k_asm
    case b2 => k_asm
    case b3 => k_asm
    case b4 => k_asm
    case b6 => exact rfl
    case b7 => (show dp + (2 * Tr.dep _ + 10) < 1000; omega)
    case b8 => (show un + 8 * (2 * Tr.dep _ + 10) < 9900; omega)
    intro r2 tl2 h2 tk2 F2 N2 hf2 hT2
    clear N1
    (repeat' (first | (k_unfold; (try dsimp only)) | ((with_reducible show wpAny _ _ (exec (Stmt.For (Expr.Name _ _) (Expr.Call _ _ _ _) _ _ _) _) _ _ _); (rename Fr _ _ _ _ => lF'); (with_unfolding_all refine' For_turns lF' ?_); k_whole) | walk1 | (dsimp only; walk1) | (leave1; (try dsimp only))))
    (rename News _ _ _ _ => NB)
    (repeat' (first | (k_unfold; (try dsimp only)) | ((with_reducible show wpAny _ _ (exec (Stmt.For (Expr.Name _ _) (Expr.Call _ _ _ _) _ _ _) _) _ _ _); (rename Fr _ _ _ _ => lF'); (with_unfolding_all refine' For_turns lF' ?_); k_whole) | walk1 | (dsimp only; walk1) | (leave1; (try dsimp only))))
    k_dflt (refine' heard_use (hT1.mono sub_1) (hDT.mono ?c2) (fun _ h => h) (okT_lay o1) (okT_len o1) ?c3 ?c4 ?c5 ?c6 NB ?c7 ?c8 ?c9 ?c10 ?_)
    case c2 => exact sub_3
    case c3 => omega
    case c4 => k_asm
    case c5 => k_asm
    case c6 => k_asm
    case c7 => k_asm
    case c8 => exact rfl
    case c9 => (show dp + (4 * Tr.dep _ + 40) < 1000; omega)
    case c10 => (show un + 8 * (4 * Tr.dep _ + 40) < 9900; omega)
    clear NB
    intro h3 tkc F3 N3
    (repeat' (first | (k_unfold; (try dsimp only)) | ((with_reducible show wpAny _ _ (exec (Stmt.For (Expr.Name _ _) (Expr.Call _ _ _ _) _ _ _) _) _ _ _); (rename Fr _ _ _ _ => lF'); (with_unfolding_all refine' For_turns lF' ?_); k_whole) | walk1 | (dsimp only; walk1) | (leave1; (try dsimp only))))
    k_dflt (refine' worth_use (worth_all w mean mg mb _) (hT2.mono sub_2) (hDT.mono ?d2) (fun _ h => h) (okT_lay o2) ?d3 ?d4 ?d5 ?d6 N3 ?d7 ?d8 ?d9 ?d10 ?_)
    case d2 => exact sub_3
    case d3 => omega
    case d4 => k_asm
    case d5 => k_asm
    case d6 => k_asm
    case d7 => k_asm
    case d8 => exact rfl
    case d9 => (show dp + (2 * Tr.dep _ + 10) < 1000; omega)
    case d10 => (show un + 8 * (2 * Tr.dep _ + 10) < 9900; omega)
    clear N3
    intro h4 tkd F4 N4
    k_dflt (rw [← g6])
    k_dflt (refine r_isNot ?_)
    (repeat' (first | (k_unfold; (try dsimp only)) | ((with_reducible show wpAny _ _ (exec (Stmt.For (Expr.Name _ _) (Expr.Call _ _ _ _) _ _ _) _) _ _ _); (rename Fr _ _ _ _ => lF'); (with_unfolding_all refine' For_turns lF' ?_); k_whole) | walk1 | (dsimp only; walk1) | (leave1; (try dsimp only))))
    k_dflt (refine' heard_use (hT2.mono sub_2) (hDT.mono ?e2) (fun _ h => h) (okT_lay o2) (okT_len o2) ?e3 ?e4 ?e5 ?e6 N4 ?e7 ?e8 ?e9 ?e10 ?_)
    case e2 => exact sub_3
    case e3 => omega
    case e4 => k_asm
    case e5 => k_asm
    case e6 => k_asm
    case e7 => k_asm
    case e8 => exact rfl
    case e9 => (show dp + (4 * Tr.dep _ + 40) < 1000; omega)
    case e10 => (show un + 8 * (4 * Tr.dep _ + 40) < 9900; omega)
    clear N4
    intro h5 tke F5 N5
    (repeat' (first | (k_unfold; (try dsimp only)) | ((with_reducible show wpAny _ _ (exec (Stmt.For (Expr.Name _ _) (Expr.Call _ _ _ _) _ _ _) _) _ _ _); (rename Fr _ _ _ _ => lF'); (with_unfolding_all refine' For_turns lF' ?_); k_whole) | walk1 | (dsimp only; walk1) | (leave1; (try dsimp only))))
    k_dflt (refine' worth_use (worth_all w mean mg mb _) (hT1.mono sub_1) (hDT.mono ?f2) (fun _ h => h) (okT_lay o1) ?f3 ?f4 ?f5 ?f6 N5 ?f7 ?f8 ?f9 ?f10 ?_)
    case f2 => exact sub_3
    case f3 => omega
    case f4 => k_asm
    case f5 => k_asm
    case f6 => k_asm
    case f7 => k_asm
    case f8 => exact rfl
    case f9 => (show dp + (2 * Tr.dep _ + 10) < 1000; omega)
    case f10 => (show un + 8 * (2 * Tr.dep _ + 10) < 9900; omega)
    clear N5
    intro h6 tkf F6 N6
    k_dflt (rw [g6])
    k_dflt (refine r_isNot ?_)
    (repeat' (first | (k_unfold; (try dsimp only)) | ((with_reducible show wpAny _ _ (exec (Stmt.For (Expr.Name _ _) (Expr.Call _ _ _ _) _ _ _) _) _ _ _); (rename Fr _ _ _ _ => lF'); (with_unfolding_all refine' For_turns lF' ?_); k_whole) | walk1 | (dsimp only; walk1) | (leave1; (try dsimp only))))
    exact ⟨rfl, _, _, _, rfl, F6, ⟨rfl, rfl⟩, News.sub N6 sub_4⟩
end
section
example : True := by (w_top off); trivial
open PySem PySem.W PyProof.Rows PySem.Spec PySem.Calls
theorem chain8 {M : Model} {A : Around} {env : Env} {E : Value → Shared → Prop} {Q : Flow → Shared → Prop} {l : List Stmt} {s : Shared} {P1 P2 P3 P4 P5 P6 P7 : Shared → Prop}
    (g1 : wpAny M A (execs ((l.drop 1).take 2) env) (StN P1) E s) (g2 : ∀ s, P1 s → wpAny M A (execs ((l.drop 3).take 1) env) (StN P2) E s) (g3 : ∀ s, P2 s → wpAny M A (execs ((l.drop 4).take 2) env) (StN P3) E s) (g4 : ∀ s, P3 s → wpAny M A (execs ((l.drop 6).take 1) env) (StN P4) E s)
    (g5 : ∀ s, P4 s → wpAny M A (execs ((l.drop 7).take 1) env) (StN P5) E s) (g6 : ∀ s, P5 s → wpAny M A (execs ((l.drop 8).take 3) env) (StN P6) E s) (g7 : ∀ s, P6 s → wpAny M A (execs ((l.drop 11).take 2) env) (StN P7) E s) (g8 : ∀ s, P7 s → wpAny M A (execs (l.drop 13) env) Q E s) :
    wpAny M A (execs (l.drop 1) env) Q E s := by
  refine execs_split 2 g1 fun s1 h1 => ?_
  rw [List.drop_drop]
  refine execs_split 1 (g2 s1 h1) fun s2 h2 => ?_
  rw [List.drop_drop]
  refine execs_split 2 (g3 s2 h2) fun s3 h3 => ?_
  rw [List.drop_drop]
  refine execs_split 1 (g4 s3 h3) fun s4 h4 => ?_
  rw [List.drop_drop]
  refine execs_split 1 (g5 s4 h4) fun s5 h5 => ?_
  rw [List.drop_drop]
  refine execs_split 3 (g6 s5 h5) fun s6 h6 => ?_
  rw [List.drop_drop]
  refine execs_split 2 (g7 s6 h6) fun s7 h7 => ?_
  rw [List.drop_drop]
  exact g8 s7 h7
theorem law_rest {w : World} {mean : ExcName → Option Value} {mg mb : Str → Option Value} {dp un : Nat} {gd : Option (List Code)} {cn : Str} {a : Addr} {ccd : Value} {outer : List Env} {A₀ : Around} {h₀ : Heap} {L : Addr} {m : Str → Option Value} {s : Shared} {Q : Flow → Shared → Prop} {E : Value → Shared → Prop}
    {b c : Addr} {tkb : Tok} {n n' : Nat} {vs : List Value} {ns : List Int} {oB oL : Obj}
    (hdp : dp ≤ 400) (hun : un ≤ 100) (B : Below A₀ h₀ outer h₀) (X : (hd.heap_1 w.params).In h₀) (T : Top hd.view_39 lse mean mg mb h₀)
    (F : Fr h₀ L s.heap m) (N : News h₀ L s.heap [(b, beltO c 0 tkb n), (c, cellsO vs n'), (L + 1 + 1, oL), (L + 1, oB)]) (hoB : oB.data = .cell (some (.ref b))) (hoL : oL.data = .cell none) (hB : Belt [(c, cellsO vs n'), (L + 1 + 1, oL), (L + 1, oB)] b c 0 vs ns n') (hc2 : @Ne Nat (L + 1 + 1) c) (hc1 : @Ne Nat (L + 1) c)
    (hE : PassesOwn (model PySem.Challenge.rw_sa0020_01.row.toRowW.prog w) (ktrTop dp un gd cn (lawScope w.params) L a ccd (lawCl w.params L) outer) (envX cn (lawScope w.params) L a ccd (lawCl w.params L)) E)
    (hQ : ∀ s' m', Fr h₀ L s'.heap m' → s'.os = s.os → s'.gens = s.gens → Q (.ret (.bool true)) s') :
    wpAny (model PySem.Challenge.rw_sa0020_01.row.toRowW.prog w) (ktrTop dp un gd cn (lawScope w.params) L a ccd (lawCl w.params L) outer) (execs ((lawBody w.params).drop 1) (envX cn (lawScope w.params) L a ccd (lawCl w.params L))) Q E s := by
  with_reducible refine chain8 (l := lawBody w.params) (P1 := PA2 w h₀ L s) (P2 := PB w h₀ L s) (P3 := PC w h₀ L s) (P4 := PD w h₀ L s) (P5 := PE w h₀ L s) (P6 := PF w h₀ L s) (P7 := PG w h₀ L s) ?g1 ?g2 ?g3 ?g4 ?g5 ?g6 ?g7 ?g8
  case g1 => with_reducible exact seg1 hdp hun B X T F N hoB hoL hB hc2 hc1 hE
  case g2 => with_reducible exact fun _ h => seg2 hdp hun B X T h hE
  case g3 => with_reducible exact fun _ h => seg3 hdp hun B X T h
  case g4 => with_reducible exact fun _ h => seg4 hdp hun B X T h
  case g5 => with_reducible exact fun _ h => seg5 hdp hun B X T h
  case g6 => with_reducible exact fun _ h => seg6 hdp hun B X T h
  case g7 => with_reducible exact fun _ h => seg7 hdp hun B X T h hE
  case g8 => with_reducible exact fun _ h => seg8 hdp hun B X T h hE hQ
end
end Mine
end
section
open PySem PySem.W PyProof.Rows PySem.Spec PySem.Calls
namespace Mine
local macro_rules | `(tactic| k_qdec) => `(tactic| decide +kernel)
theorem law_walk : PySem.Challenge.rw_sa0020_01.Holds := hdW (by
  k_go0
  all_goals try k_fold
  dsimp only
  (rename Fr _ _ _ _ => FF)
  (rename Top _ _ _ _ _ _ => TT)
  (rename Frag.In _ _ => KX)
  refine cutA FF ?_ (fun s' hs' => ?_)
  · (repeat' (first | (k_unfold; (try dsimp only)) | walk1 | (dsimp only; walk1) | (leave1; (try dsimp only))))
    (rename Fr _ _ _ _ => FA)
    (rename News _ _ _ _ => NA)
    exact ⟨rfl, PA.intro FA NA (by assumption) (by k_asm) (by assumption) (by omega) (by assumption)⟩
  · with_reducible refine PA.elim hs' fun h1 d1 tk1 b c tkb n n' vs ns oB oL F1 N1 hoB hoL hB hc2 hc1 => ?_
    have T1 : Top hd.view_39 lse _ _ _ _ := TT
    have K1 := below_top T1
    (rename World => w0)
    show wpAny (model PySem.Challenge.rw_sa0020_01.row.toRowW.prog w0) (ktrTop _ _ _ (Str.ofString "law") (lawScope w0.params) _ _ _ (lawCl w0.params _) []) (execs ((lawBody w0.params).drop 1) (envX (Str.ofString "law") (lawScope w0.params) _ _ _ (lawCl w0.params _))) _ _ _
    with_reducible refine law_rest ?a1 ?a2 K1 KX T1 F1 N1 hoB hoL hB hc2 hc1 ?hE ?hQ
    case a1 => decide
    case a2 => decide
    case hE => passes_own
    case hQ =>
      intro s' m' F' ho hg'
      (rename Shared.gens _ = #[] => hg0)
      show GoodW _ _ _ _ _ (.ok (.ret (.bool _))) _
      refine goodW_bool F' (hg'.trans hg0) (raisesW_false ?n1) ?p1 ho
      case n1 => wrow_none_raised
      case p1 => wrow_post)
end Mine
end
theorem PySem.Challenge.cw_sa0020_01_holds : PySem.Challenge.rw_sa0020_01.Holds := by
  exact Mine.law_walk
