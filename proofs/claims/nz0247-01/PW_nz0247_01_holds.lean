import PyProof.Rows.All
import Wide.All
import OpenK.AllK
import Wide.FinOn
import PySem.Challenge.RW_nz0247_01
set_option Elab.async false
section
open PySem PySem.W PyProof.Rows
namespace Mine
def chk (p : Program) (h₀ : Heap) (s : Shared) : Bool := staticsOk (importedModules p.main.body) h₀ s.heap && namesBound p s.heap && gensDone s && laidKept h₀ s.heap
theorem left_gen {p q : Program} {loose : List Str} {Xt : Shared → Bool} {α : Type} {Yf : Shared → α} {Ya : World → α} {N m₀ : Nat} {ann : Option Value} {H₀ : Params → Heap} {gs₀ : Array GenState} {d₀ : Drawn} {k₀ : Nat}
    (open_ : ∀ w : World, (fencedOpening treeTable p w N).map (fun s => (s.heap, s.gens, s.drawn, s.toks)) = some (H₀ w.params, gs₀, d₀, k₀))
    (size1 : ∀ w : World, ((H₀ w.params).isNs mainGlobals && gs₀.size == 0) = true) (size2 : ∀ w : World, (H₀ w.params).objs.size = m₀) (size3 : ∀ w : World, (H₀ w.params).nsMap mainGlobals "__annotations__" = ann)
    (run : ∀ (w : World) (os : OsState), ∃ s₁, topRun treeTable p w m₀ ann N ⟨H₀ w.params, gs₀, d₀, k₀, os⟩ (topStub p) = some s₁ ∧ chk p (H₀ w.params) s₁ = true ∧ openSeen q loose (importedModules p.main.body) Xt true s₁ = openGood q loose ∧ Yf s₁ = Ya w) :
    LeftO p q loose Xt Yf Ya N true := fun w => by
  cases e : fencedOpening treeTable p w N with
  | none => have := open_ w; rw [e] at this; cases this
  | some s =>
    have ho := open_ w
    rw [e] at ho
    obtain ⟨h, gs, d, k, os⟩ := s
    have hq := Option.some.inj ho
    have q1 : h = H₀ w.params := congrArg (·.1) hq
    have q2 : gs = gs₀ := congrArg (·.2.1) hq
    have q3 : d = d₀ := congrArg (·.2.2.1) hq
    have q4 : k = k₀ := congrArg (·.2.2.2) hq
    clear ho hq
    subst q1 q2 q3 q4
    obtain ⟨s₁, hr, hc, hs, hy⟩ := run w os
    have ht : topFrom treeTable p w N ⟨H₀ w.params, gs, d, k, os⟩ = some s₁ := by
      unfold topFrom
      dsimp only
      rw [size1 w, size2 w, size3 w, hr]
      unfold chk at hc
      show (match staticsOk (importedModules p.main.body) (H₀ w.params) s₁.heap && namesBound p s₁.heap && gensDone s₁ && laidKept (H₀ w.params) s₁.heap with | true => some s₁ | false => none) = some s₁
      rw [hc]
    unfold openEnds
    rw [e]
    show (topFrom treeTable p w N _).map _ = _
    rw [ht]
    exact congrArg some (Prod.ext hs hy)
theorem run_gen {p : Program} {w : World} {m₀ : Nat} {ann : Option Value} {env : Env} {q pos pos' pos2 : Pos} {a b n c : Nat} {s0 Sa r : Shared} {sT sT' : SharedT} {l : List Stmt} {cE : Code}
    (pre : topGo treeTable p w m₀ ann a s0 (topStub p) = some (Sa, ⟨denote treeTable (.body l env), cE, pos, [topFrame q]⟩)) (blk : segRun treeTable p w m₀ ann 1 b Sa (blockOf l env cE pos [topFrame q]) = some (.next, sT.abs, cE, pos'))
    (T : segRunT treeTable p w m₀ ann 1 n sT (piecesOf l env cE pos' [topFrame q]) = some (.next, sT', cE, pos2)) (fin : topRun treeTable p w m₀ ann c sT'.abs ⟨doneF .next, cE, pos2, [topFrame q]⟩ = some r) :
    topRun treeTable p w m₀ ann (a + (b + (n + c))) s0 (topStub p) = some r := by
  have h := piece_app (rest := []) (segRun_of T) (piece_nil fin)
  rw [List.append_nil] at h
  exact go_top pre (piece_block blk h)
abbrev P0 : Program := PySem.Challenge.rw_nz0247_01.row.toRowW.1
noncomputable def vw : Program := PySem.W.view PySem.Challenge.rw_nz0247_01.row.toRowW.1 [0, 2, 3, 5, 6, 7, 9, 10, 11, 12, 13, 14, 16, 17, 18, 20, 21, 22, 23, 24, 25, 26, 27]
noncomputable def env0 : Env := { scope := P0.main.scope, locals := mainNs, globals := mainNs, cells := [], code := .ref 13, frame := some 14 }
def pos0 : Pos := { line := 0, col := 0, endLine := 0, endCol := 0 }
noncomputable def CE : Code := .body (behindTheImports P0) env0
def oA (_ : Params) : Obj := { cls := .type "tuple", data := .seq #[] }
def oB (_ : Params) : Obj := { cls := .none, data := .fields #[] }
def oC (_ : Params) : Obj := { cls := .type "code", data := .fields #[.str "<module>" 182, .str "<module>" 183, .str "/claim/cut.py" 184, .int 1 0, .int 0 0, .int 0 0, .int 0 0, .int 0 0, .ref 11, .bool false, .int 181 0, .ref 12, .none, .none, .none, .none, .int 185 0, .int 1 0, .str "/claim/cut.py" 186] }
def oD (_ : Params) : Obj := { cls := .type "frame", slots := #[some (.ref 13), some (.ref 3), some (.ref 3), none, some (.str "__main__" 164), none, some (.ref 0)], data := .plain }
noncomputable def heap0 (P : Params) : Heap := { objs := ⟨[boot_o_0 P, boot_o_1 P, boot_o_2 P, boot_o_3 P, boot_o_4 P, boot_o_5 P, boot_o_6 P, boot_o_7 P, boot_o_8 P, boot_o_9 P, boot_o_10 P, oA P, oB P, oC P, oD P]⟩ }
noncomputable def tree0 (P : Params) : BT :=
  .node (boot_o_0 P) (.node (boot_o_1 P) (.node (boot_o_3 P) (.node (boot_o_7 P) .nil .nil) (.node (oA P) .nil .nil)) (.node (boot_o_5 P) (.node (boot_o_9 P) .nil .nil) (.node (oC P) .nil .nil)))
    (.node (boot_o_2 P) (.node (boot_o_4 P) (.node (boot_o_8 P) .nil .nil) (.node (oB P) .nil .nil)) (.node (boot_o_6 P) (.node (boot_o_10 P) .nil .nil) (.node (oD P) .nil .nil)))
noncomputable def S0 (w : World) (os : OsState) : SharedT := { tree := tree0 w.params, n := 15, life := {}, gens := ⟨[]⟩, drawn := {}, toks := 187, os := os }
noncomputable def B0 (w : World) (os : OsState) : Shared := { heap := boot_heap w.params, gens := ⟨[]⟩, drawn := boot_drawn, toks := boot_toks, os := os }
noncomputable def Xt0 (s : Shared) : Bool := xlAt vw [] s && recOk (RowW.records PySem.Challenge.rw_nz0247_01.row.toRowW) s
noncomputable def TR (w : World) (os : OsState) : Option (Flow × SharedT × Code × Pos) := segRunT treeTable P0 w 11 (some (.ref 6)) 1 2300 (S0 w os) (piecesOf (behindTheImports P0) env0 CE pos0 [topFrame pos0])
theorem pre0 (w : World) (os : OsState) : topGo treeTable P0 w 11 (some (.ref 6)) 12 (B0 w os) (topStub P0) = some (⟨heap0 w.params, ⟨[]⟩, {}, 187, os⟩, ⟨denote treeTable (.body (behindTheImports P0) env0), CE, pos0, [topFrame pos0]⟩) := by
  kernel_rfl
theorem blk0 (w : World) (os : OsState) : segRun treeTable P0 w 11 (some (.ref 6)) 1 1 ⟨heap0 w.params, ⟨[]⟩, {}, 187, os⟩ (blockOf (behindTheImports P0) env0 CE pos0 [topFrame pos0]) = some (.next, (S0 w os).abs, CE, pos0) := by
  kernel_rfl
theorem op0 : opening P0 = plainProg P0.main.scope.names := by kernel_rfl
theorem fe0 (s : Shared) : fenceModules? P0 s = some s := by kernel_rfl
theorem sz1 (w : World) : ((boot_heap w.params).isNs mainGlobals && (⟨[]⟩ : Array GenState).size == 0) = true := by kernel_rfl
theorem sz2 (w : World) : (boot_heap w.params).objs.size = 11 := by kernel_rfl
theorem sz3 (w : World) : (boot_heap w.params).nsMap mainGlobals "__annotations__" = some (.ref 6) := by kernel_rfl
theorem fin0 (w : World) (sT : SharedT) (pos : Pos) : topRun treeTable P0 w 11 (some (.ref 6)) 2 sT.abs ⟨doneF .next, CE, pos, [topFrame pos0]⟩ = some sT.abs := rfl
def lookT (s : SharedT) (a : Addr) : Option Obj := match Nat.blt a s.n with
  | true => (s.tree.get a).bind alive
  | false => none
theorem lookT_get {s : SharedT} {a : Addr} {o : Obj} (h : lookT s a = some o) : s.abs.heap.get? a = some o := by
  unfold lookT at h
  cases e : Nat.blt a s.n with
  | false => rw [e] at h; cases h
  | true =>
    rw [e] at h
    cases g : s.tree.get a with
    | none => rw [g] at h; cases h
    | some x => rw [g] at h; exact (abs_get (Nat.le_of_ble_eq_true e) g).trans h
theorem looks_get {s : SharedT} : ∀ {as : List Addr} {os : List Obj}, as.map (lookT s) = os.map some → as.map s.abs.heap.get? = os.map some
  | [], os, h => h
  | a :: as, [], h => by cases h
  | a :: as, o :: os, h => by
    have h1 := List.head_eq_of_cons_eq h
    have h2 := List.tail_eq_of_cons_eq h
    exact List.cons_eq_cons.mpr ⟨lookT_get h1, looks_get h2⟩
theorem nat0 : 12 + (1 + (2300 + 2)) + 2271 = 4586 := rfl
theorem said0 : PySem.Challenge.rw_nz0247_01.wellSaid = true := by
  rw [PySem.W.Fast.te9446332074065402090]
  kernel_rfl
theorem whole0 : P0.tablesWhole = true := by kernel_rfl
theorem bare0 : P0.bare := ⟨rfl, rfl, rfl, rfl, rfl, whole0⟩
theorem run1 (w : World) (os : OsState) : (TR w os).map (fun r => (r.1, r.2.2.1, chk P0 (boot_heap w.params) r.2.1.abs, openSeen vw [] (importedModules P0.main.body) Xt0 true r.2.1.abs)) = some (.next, CE, true, openGood vw []) := by
  unfold TR
  rw [PySem.W.Fast.te4187177175401517315, PySem.W.Fast.te14364793385576792824, PySem.W.Fast.te10110043849684766642]
  kernel_rfl
theorem left_of {K : Params → Frag} {as : List Addr} {e : ∀ P, as = (K P).map (·.1)}
    (g : ∀ (w : World) (os : OsState), (TR w os).map (fun r => as.map (lookT r.2.1)) = some ((K w.params).map fun p => some p.2)) :
    LeftO P0 vw [] Xt0 (kHook K as e).obs (kHook K as e).val 4586 :=
  left_gen (boot_open op0 (by decide) fe0) sz1 sz2 sz3 fun w os => by
    cases e1 : TR w os with
    | none => have := g w os; rw [e1] at this; cases this
    | some r =>
      have h1 := run1 w os
      have q5 := g w os
      rw [e1] at h1 q5
      obtain ⟨f, sT, c, pos⟩ := r
      have h1 := Option.some.inj h1
      have q1 : f = Flow.next := congrArg (·.1) h1
      have q2 : c = CE := congrArg (·.2.1) h1
      have q3 := congrArg (·.2.2.1) h1
      have q4 := congrArg (·.2.2.2) h1
      have q5 := Option.some.inj q5
      clear h1
      subst q1 q2
      dsimp only at q3 q4 q5
      have hr := topRun_mono 2271 _ _ _ _ (run_gen (pre0 w os) (blk0 w os) e1 (fin0 w sT pos))
      rw [nat0] at hr
      have q6 : as.map (lookT sT) = ((K w.params).map (·.2)).map some := by rw [q5, List.map_map]; rfl
      have q7 := looks_get q6
      rw [List.map_map] at q7
      exact ⟨sT.abs, hr, q3, q4, q7⟩
set_option maxHeartbeats 8000000
local macro_rules | `(tactic| k_qdec) => `(tactic| kernel_rfl)
local macro_rules | `(tactic| o_law) => `(tactic| refine holds_law said0 fun said => ?_)
local macro_rules | `(tactic| o_head $H) => `(tactic| (refine holds_open (q := vw) (loose := []) (Xt := Xt0) (XP := XL vw []) (Yf := Hook.obs $H) (Ya := Hook.val $H) (YP := Hook.says $H) (N := 4586) ?hl (Hook.of $H) (Hook.keeps $H) (fun s e => xl_of s (Bool.and_eq_true_iff.mp e).1) XL.keeps (by rfl) (by rfl) (by rfl) (fun s e => recFacts_of (Bool.and_eq_true_iff.mp e).2) (by rfl) (by assumption) (by kernel_rfl) bare0 ?hw ?hc; (case hl => (refine left_of fun w os => ?_; unfold TR; rw [PySem.W.Fast.te14364793385576792824, PySem.W.Fast.te10110043849684766642]; kernel_rfl))))
open_top hd for PySem.Challenge.rw_nz0247_01
end Mine
end
section
open PySem PySem.W PyProof.Rows PySem.Calls
namespace Mine
abbrev Led := List (Addr × Obj)
def Sp (w : World) (mean : ExcName → Option Value) (mg mb : Str → Option Value) (k : Nat) (f : Value) (args : List Value) (news : Led) (Pre : Heap → Prop) (Post : Heap → Value → Led → Prop) : Prop :=
  ∀ (dp un : Nat) (gd : Option (List Code)) (cn : Str) (cs : Scope) (a : Addr) (ccd : Value) (cl : List (Str × Addr)) (outer : List Env) (A₀ : Around) (base h₀ : Heap) (L : Addr) (m : Str → Option Value) (s : Shared) (Q E : Value → Shared → Prop),
    Below A₀ base outer h₀ → Fr h₀ L s.heap m → (hd.heap_1 w.params).In h₀ → News h₀ L s.heap news → Top vw (looseW vw []) mean mg mb h₀ → cs.kind = .function → dp + k < recursionLimit → un + 8 * k < cLine → Pre s.heap →
    (∀ (v : Value) (h' : Heap) (tk' : Nat) (news' : Led), Post h' v news' → Fr h₀ L h' m → News h₀ L h' news' → GSub s.heap h' (news.map (·.1)) → (∀ p ∈ news', p.1 ∈ news.map (·.1) ∨ s.heap.get? p.1 = none) → Q v { s with heap := h', toks := tk' }) →
    wpAny (model PySem.Challenge.rw_nz0247_01.row.prog w) (ktrTop dp un gd cn cs L a ccd cl outer) (call f args) Q E s
theorem Sp.use {w : World} {mean : ExcName → Option Value} {mg mb : Str → Option Value} {k : Nat} {f : Value} {args : List Value} {news : Led} {Pre : Heap → Prop} {Post : Heap → Value → Led → Prop}
    {dp un : Nat} {gd : Option (List Code)} {cn : Str} {cs : Scope} {a : Addr} {ccd : Value} {cl : List (Str × Addr)} {outer : List Env} {A₀ : Around} {base h₀ : Heap} {L : Addr} {m : Str → Option Value} {s : Shared} {Q E : Value → Shared → Prop}
    (C : Sp w mean mg mb k f args news Pre Post) (B : Below A₀ base outer h₀) (F : Fr h₀ L s.heap m) (X : (hd.heap_1 w.params).In h₀) (N : News h₀ L s.heap news) (T : Top vw (looseW vw []) mean mg mb h₀) (hk : cs.kind = .function) (hd' : dp + k < recursionLimit) (hu : un + 8 * k < cLine) (hp : Pre s.heap)
    (hret : ∀ (v : Value) (h' : Heap) (tk' : Nat) (news' : Led), Post h' v news' → Fr h₀ L h' m → News h₀ L h' news' → GSub s.heap h' (news.map (·.1)) → (∀ p ∈ news', p.1 ∈ news.map (·.1) ∨ s.heap.get? p.1 = none) → Q v { s with heap := h', toks := tk' }) :
    wpAny (model PySem.Challenge.rw_nz0247_01.row.prog w) (ktrTop dp un gd cn cs L a ccd cl outer) (call f args) Q E s :=
  C dp un gd cn cs a ccd cl outer A₀ base h₀ L m s Q E B F X N T hk hd' hu hp hret
theorem Sp.post {w : World} {mean : ExcName → Option Value} {mg mb : Str → Option Value} {k : Nat} {f : Value} {args : List Value} {news : Led} {Pre : Heap → Prop} {Post Post' : Heap → Value → Led → Prop}
    (C : Sp w mean mg mb k f args news Pre Post) (h : ∀ H v n, Post H v n → Post' H v n) : Sp w mean mg mb k f args news Pre Post' :=
  fun dp un gd cn cs a ccd cl outer A₀ base h₀ L m s Q E B F X N T hk hd' hu hp hret => C dp un gd cn cs a ccd cl outer A₀ base h₀ L m s Q E B F X N T hk hd' hu hp fun v h' tk' n p => hret v h' tk' n (h _ _ _ p)
def Stop (P : Prop) : Prop := P
theorem Stop.out {P : Prop} (h : Stop P) : P := h
theorem news_sub {h₀ h : Heap} {L : Addr} {news news' : Led} (N : News h₀ L h news) (hs : ∀ p ∈ news', p ∈ news) : News h₀ L h news' := fun p hp => N p (hs p hp)
theorem sp_keep {H g h' : Heap} {L' : Addr} {m' : Str → Option Value} {adr : List Addr} (G : GSub H g adr) (F : Fr g L' h' m') : GSub H h' adr := fun b o e hb => F.keep b o (G b o e hb)
theorem sp_fresh {H g h' : Heap} {L' : Addr} {adr : List Addr} {news' : Led} (G : GSub H g adr) (N : News g L' h' news') : ∀ p ∈ news', p.1 ∈ adr ∨ H.get? p.1 = none := fun p hp => by
  by_cases hb : p.1 ∈ adr
  · exact .inl hb
  · cases e : H.get? p.1 with
    | none => exact .inr rfl
    | some o => have := G p.1 o e hb; rw [(N p hp).2.2] at this; cases this
theorem news_keep {h₀ h h' : Heap} {L : Addr} {adr : List Addr} {rest : Led} (N : News h₀ L h rest) (G : GSub h h' adr) (off : ∀ p ∈ rest, p.1 ∉ adr) : News h₀ L h' rest := fun p hp => ⟨G _ _ (N p hp).1 (off p hp), (N p hp).2⟩
end Mine
end
section
open PySem PySem.W PyProof.Rows PySem.Calls
namespace Mine
section
variable {prog : Program} {w : World} {A : Around} {E : Value → Shared → Prop} {s : Shared} {h₀ : Heap} {L : Addr} {m : Str → Option Value} {env : Env}
theorem compEnd_mono {I C D : Addr} {oI oC oD : Obj} {S : Led → Prop} {r r' : Value → Led → Prop} {y : Value} {s₂ : Shared} (h : LCg.CompEnd h₀ L m s I oI C oC D oD S r y s₂) (f : ∀ n, r y n → r' y n) :
    LCg.CompEnd h₀ L m s I oI C oC D oD S r' y s₂ := by
  obtain ⟨h', tk, news', e, F, N, o, hS, hr⟩ := h
  exact ⟨h', tk, news', e, F, N, o, hS, f _ hr⟩
theorem comp_ind {elt : PySem.Expr} {x : Str} {scope : Scope} {cl : List (Str × Addr)} {S : Led → Prop} {P : Nat → Value → Prop} {Fin : List Value → Led → Prop} {n : Nat} (J : Nat → List Value → Led → Prop)
    (step : ∀ i ys news, i < n → J i ys news → ∀ v I oI C oC D m₂ h tk (E' : Value → Shared → Prop), P i v → LCg.NsObj oC m₂ → m₂ x = some v → Fr h₀ L h m → News h₀ L h ((I, oI) :: (C, oC) :: (D, LCg.lst ys) :: news) → LCg.Off3 I C D news → ((@Ne Nat I C) ∧ (@Ne Nat I D) ∧ (@Ne Nat C D)) →
      wpAny (model prog w) A (eval elt (compEnvC scope cl C env)) (LCg.CompEnd h₀ L m { s with heap := h, toks := tk } I oI C oC D (LCg.lst ys) S (fun y news' => J (i + 1) (ys ++ [y]) news')) E' { s with heap := h, toks := tk })
    (fin : ∀ ys news, J n ys news → Fin ys news) : ∀ k i ys news, i + k = n → J i ys news → LCg.CompRest prog w A h₀ L m env elt x scope cl s S P Fin k i ys news := by
  intro k
  induction k with
  | zero => intro i ys news e j; exact fin ys news (by rw [← e]; exact j)
  | succ k ih =>
    intro i ys news e j
    refine LCg.CompRest.succ fun v I oI C oC D m₂ h tk E' hP hC hx F N off ne => ?_
    exact wpAny_mono (step i ys news (by omega) j v I oI C oC D m₂ h tk E' hP hC hx F N off ne) (fun y s' h' => compEnd_mono h' fun news' j' => ih (i + 1) _ news' (by omega) j') fun _ _ e => e
theorem comp_indS {elt : PySem.Expr} {x : Str} {scope : Scope} {cl : List (Str × Addr)} {S : Led → Prop} {P : Nat → Value → Prop} {Fin : List Value → Led → Prop} {n : Nat} (J : Nat → List Value → Led → Prop)
    (step : ∀ i ys news, i < n → S news → J i ys news → ∀ v I oI C oC D m₂ h tk (E' : Value → Shared → Prop), P i v → LCg.NsObj oC m₂ → m₂ x = some v → Fr h₀ L h m → News h₀ L h ((I, oI) :: (C, oC) :: (D, LCg.lst ys) :: news) → LCg.Off3 I C D news → ((@Ne Nat I C) ∧ (@Ne Nat I D) ∧ (@Ne Nat C D)) →
      wpAny (model prog w) A (eval elt (compEnvC scope cl C env)) (LCg.CompEnd h₀ L m { s with heap := h, toks := tk } I oI C oC D (LCg.lst ys) S (fun y news' => J (i + 1) (ys ++ [y]) news')) E' { s with heap := h, toks := tk })
    (fin : ∀ ys news, S news → J n ys news → Fin ys news) : ∀ k i ys news, i + k = n → S news → J i ys news → LCg.CompRest prog w A h₀ L m env elt x scope cl s S P Fin k i ys news :=
  fun k i ys news e hS j => comp_ind (fun i ys news => S news ∧ J i ys news)
    (fun i ys news hi j v I oI C oC D m₂ h tk E' hP hC hx F N off ne => wpAny_mono (step i ys news hi j.1 j.2 v I oI C oC D m₂ h tk E' hP hC hx F N off ne) (fun _ _ ⟨h', tk, news', e, F, N, o, hS, hr⟩ => ⟨h', tk, news', e, F, N, o, hS, hS, hr⟩) fun _ _ e => e)
    (fun ys news j => fin ys news j.1 j.2) k i ys news e ⟨hS, j⟩
theorem srcAt_sub {a : Addr} {its : Array Value} {news news' : Led} (h : LCg.SrcAt h₀ a its news) (k : ∀ p ∈ news, p ∈ news') : LCg.SrcAt h₀ a its news' := h.imp id fun ⟨o, hm, r⟩ => ⟨o, k _ hm, r⟩
theorem compP_ind {elt : PySem.Expr} {x x₂ : Str} {scope : Scope} {cl : List (Str × Addr)} {S : Led → Prop} {P : Nat → Value → Prop} {Fin : List Value → Led → Prop} {n : Nat} (J : Nat → List Value → Led → Prop)
    (step : ∀ i ys news, i < n → J i ys news → ∀ v, P i v → ∃ (t : Addr) (ot : Obj) (v₁ v₂ : Value) (nt : Nat), v = .ref t ∧ (t, ot) ∈ news ∧ ot.cls = .type "tuple" ∧ ot.data = .seq #[v₁, v₂] nt ∧
      ∀ I oI C oC D m₂ h tk (E' : Value → Shared → Prop), LCg.NsObj oC m₂ → m₂ x = some v₁ → m₂ x₂ = some v₂ → Fr h₀ L h m → News h₀ L h ((I, oI) :: (C, oC) :: (D, LCg.lst ys) :: news) → LCg.Off3 I C D news → ((@Ne Nat I C) ∧ (@Ne Nat I D) ∧ (@Ne Nat C D)) →
      wpAny (model prog w) A (eval elt (compEnvC scope cl C env)) (LCg.CompEnd h₀ L m { s with heap := h, toks := tk } I oI C oC D (LCg.lst ys) S (fun y news' => J (i + 1) (ys ++ [y]) news')) E' { s with heap := h, toks := tk })
    (fin : ∀ ys news, J n ys news → Fin ys news) : ∀ k i ys news, i + k = n → J i ys news → LCp.CompRestP prog w A h₀ L m env elt x x₂ scope cl s S P Fin k i ys news := by
  intro k
  induction k with
  | zero => intro i ys news e j; exact fin ys news (by rw [← e]; exact j)
  | succ k ih =>
    intro i ys news e j
    refine LCp.CompRestP.succ fun v hP => ?_
    obtain ⟨t, ot, v₁, v₂, nt, e1, e2, e3, e4, H⟩ := step i ys news (by omega) j v hP
    refine ⟨t, ot, v₁, v₂, nt, e1, e2, e3, e4, fun I oI C oC D m₂ h tk E' hC hx hx₂ F N off ne => ?_⟩
    exact wpAny_mono (H I oI C oC D m₂ h tk E' hC hx hx₂ F N off ne) (fun y s' h' => compEnd_mono h' fun news' j' => ih (i + 1) _ news' (by omega) j') fun _ _ e => e
end
section
variable {prog : Program} {w : World} {A : Around} {E : Value → Shared → Prop} {s : Shared} {env : Env} {h₀ : Heap} {x : Str} {body : List Stmt} {Q : Flow → Shared → Prop}
theorem unrPost_mono {L I : Addr} {it : Obj} {r r' : (Str → Option Value) → Led → Prop} {f : Flow} {s₂ : Shared} (h : UnrPost h₀ L s I it r Q f s₂) (k : ∀ m n, r m n → r' m n) : UnrPost h₀ L s I it r' Q f s₂ := by
  have go : UnrEnd h₀ L s I it r s₂ → UnrEnd h₀ L s I it r' s₂ := fun ⟨h', tk, m', news', e, F, N, o, hr⟩ => ⟨h', tk, m', news', e, F, N, o, k _ _ hr⟩
  cases f with
  | ret v => exact h
  | brk => exact h
  | next => exact go h
  | cont => exact go h
theorem range_ind {I : Addr} {a : Int} {n : Nat} (J : Nat → (Str → Option Value) → Led → Prop)
    (step : ∀ i m news, i < n → J i m news → ∀ t h tk, Fr h₀ env.locals h (fun y => if y = x then some (.int (a + (i : Int)) t) else m y) → News h₀ env.locals h ((I, itR (a + ((i + 1 : Nat) : Int)) ((n : Int) - ((i + 1 : Nat) : Int))) :: news) →
      wpAny (model prog w) A (execs body env) (UnrPost h₀ env.locals { s with heap := h, toks := tk } I (itR (a + ((i + 1 : Nat) : Int)) ((n : Int) - ((i + 1 : Nat) : Int))) (fun m' news' => J (i + 1) m' news') Q) E { s with heap := h, toks := tk })
    (fin : ∀ m news, J n m news → ∀ h tk, Fr h₀ env.locals h m → News h₀ env.locals h news → Q .next { s with heap := h, toks := tk }) :
    ∀ k i m news, i + k = n → J i m news → RangeRest prog w A E h₀ env x body Q s I a n k i m news := by
  intro k
  induction k with
  | zero => intro i m news e j; exact fin m news (by rw [← e]; exact j)
  | succ k ih =>
    intro i m news e j
    refine RangeRest.succ fun t h tk F N => ?_
    exact wpAny_mono (step i m news (by omega) j t h tk F N) (fun f s' h' => unrPost_mono h' fun m' news' j' => ih (i + 1) m' news' (by omega) j') fun _ _ e => e
end
end Mine
end
section
open PySem PySem.W PyProof.Rows PySem.Calls
namespace Mine
theorem enter_c0 {prog : Program} {w : World} {A₀ A : Around} {s : Shared} {K : Frag} {L : Addr} {h₀ base : Heap} {m mg mb : Str → Option Value} {p : Program} {loose : List Str} {mean : ExcName → Option Value}
    {env : Env} {outer : List Env} {R : Result → Shared → Prop} {name qual : Str} {params : Arguments} {body : List Stmt} {scope : Scope} {dV kV doc pm cdv ct oc : Value} {an od : Option Addr} {osl : Array (Option Value)} {f : Addr} {args : Args} {binds : List (Str × Value)}
    (B : Below A₀ base outer h₀) (F : Fr h₀ L s.heap m) (X₀ : K.In h₀) (T : Top p loose mean mg mb h₀) (hA : A.frames = some (env :: outer)) (hf : env.frame = some L) (hke : env.scope.kind = .function)
    (ho : K.lookup f = some ⟨oc, od, .func (fnOf name qual params body scope dV kV doc pm an cdv ct), osl⟩) (hcd : codeIn K cdv qual = true) (hroom : A.depth < recursionLimit)
    (hbind : BindsTo s (fnOf name qual params body scope dV kV doc pm an cdv ct) args binds) (hkind : (binds.all fun y => scope.names.lookup y.1 == some .local || scope.names.lookup y.1 == some .cell) = true)
    (hnd : ((cellsFrom 0 scope.names []).map (·.1)).Nodup)
    (h : ∀ L' h₁ tk cells, Fr h₀ L s.heap m → Fr s.heap L' h₁ (bindL (envOfC qual scope L' f cdv).kindOf binds fun _ => none) → News s.heap L' h₁ cells →
      CellsAre (bindC (envOfC qual scope L' f cdv).kindOf binds fun _ => none) (cellsFrom (L' + 1) scope.names []) cells → Below A base (env :: outer) s.heap → K.In s.heap → Top p loose mean mg mb s.heap →
      wpAny (model prog w) (A.deeper (envOfC qual scope L' f cdv)) (execs body (envOfC qual scope L' f cdv))
        (fun fl s' => LeaveK h₀ L m s.heap R (match fl with | .ret v => v | _ => .none) s')
        (fun e s' => wpAny (model prog w) (A.deeper (envOfC qual scope L' f cdv)) (leaving (envOfC qual scope L' f cdv) e) (fun _ s'' => R (.error e) s'') (fun e' s'' => R (.error e') s'') s')
        { s with heap := h₁, toks := tk })
    (hco : scope.isCoroutine = false) (hgen : scope.isGenerator = false) (hk : scope.kind = .function) : codeAny (model prog w) A (.call (.ref f) args) R s := by
  obtain ⟨_, BG, _, lv⟩ := groundX (R := R) (A := A) B F (news := []) News.nil hA hf hke
  have hks : ∀ b o, h₀.get? b = some o → s.heap.get? b = some o := F.keep
  refine codeAny_call_function hroom ((X₀.keeps hks) _ _ ho) rfl hco hgen rfl (codeRec_of (X₀.keeps hks) hcd) (hbind _ _ _ _ ?_)
  refine wpAny_newFunctionEnv_cells hk (kindsX hkind _) fun env' he s' x => ?_
  subst he
  refine ⟨(T.nolimit.keeps hks).keeps x.toInCall.keep, codeAny_func ?_⟩
  obtain ⟨h₁, tk, rfl, _⟩ := x.done
  have up := x.toInCall.keep
  have nd := cellsFrom_names scope.names 0 (s.heap.objs.size + 1) [] [] rfl ▸ hnd
  obtain ⟨cells, NC, Y⟩ := Cl.news (h₀ := s.heap) (Nat.le_refl s.heap.objs.size) (cs := cellsFrom (s.heap.objs.size + 1) scope.names []) fun n c hm => ⟨x.cell n c (lookup_of_mem_nodup nd hm), x.above n c hm⟩
  exact wpAny_mono (h s.heap.objs.size h₁ tk cells F ⟨x.toInCall.ns, up, Nat.le_refl _⟩ NC Y BG (X₀.keeps hks) (T.keeps hks)) (fun fl s' hl => lv _ _ hl) fun _ _ y => y
end Mine
end
section
open PySem PySem.W PyProof.Rows PySem.Calls
namespace Mine
def IsMax (M : Int) (ns : List Int) : Prop := M ∈ ns ∧ ∀ a, a ∈ ns → a ≤ M
theorem IsMax.uniq {M M' : Int} {ns : List Int} (h : IsMax M ns) (h' : IsMax M' ns) : M = M' := Int.le_antisymm (h'.2 _ h.1) (h.2 _ h'.1)
def IntAttr (es : List DictEntry) (name : Str) (a : Int) : Prop := ∃ t, getL name es = some (some (.int a t))
structure CompAt (H : Heap) (c : Addr) (i a b : Int) : Prop where
  ex : ∃ dx es k ti ta tb, H.get? c = some (instObj 77 dx) ∧ H.get? dx = some (dictOf es k) ∧ getL "ident" es = some (some (.int i ti)) ∧ getL "across" es = some (some (.int a ta)) ∧ getL "down" es = some (some (.int b tb))
theorem CompAt.keep {H H' : Heap} {c : Addr} {i a b : Int} (k : ∀ p o, H.get? p = some o → H'.get? p = some o) (h : CompAt H c i a b) : CompAt H' c i a b := by
  obtain ⟨dx, es, n, ti, ta, tb, h1, h2, r⟩ := h.ex
  exact ⟨dx, es, n, ti, ta, tb, k _ _ h1, k _ _ h2, r⟩
structure CompsAt (H : Heap) (l : Addr) (refs : List Value) (sam : List (Int × Int)) : Prop where
  list : H.IsList l refs.toArray
  len : refs.length = sam.length
  at' : ∀ (i : Nat) (p : Int × Int), sam[i]? = some p → ∃ c, refs[i]? = some (Value.ref c) ∧ CompAt H c ((i : Int) + 1) p.1 p.2
theorem CompsAt.keep {H H' : Heap} {l : Addr} {refs : List Value} {sam : List (Int × Int)} (k : ∀ p o, H.get? p = some o → H'.get? p = some o) (h : CompsAt H l refs sam) : CompsAt H' l refs sam :=
  ⟨let ⟨o, ho, r⟩ := h.list; ⟨o, k _ _ ho, r⟩, h.len, fun i p e => let ⟨c, h1, h2⟩ := h.at' i p e; ⟨c, h1, h2.keep k⟩⟩
structure FrameAt (H : Heap) (f l : Addr) (W Hh prec : Int) : Prop where
  ex : ∃ dx es k tk tp th tw tn, H.get? f = some (instObj 143 dx) ∧ H.get? dx = some (dictOf es k) ∧ getL "kind" es = some (some (.str "lossless" tk)) ∧ getL "precision" es = some (some (.int prec tp)) ∧ getL "height" es = some (some (.int Hh th)) ∧
    getL "width" es = some (some (.int W tw)) ∧ getL "components" es = some (some (Value.ref l)) ∧ getL "n" es = some (some (.int 1 tn)) ∧ getL "most_across" es = some none ∧ getL "most_down" es = some none ∧ getL "plane_size" es = some none
theorem FrameAt.keep {H H' : Heap} {f l : Addr} {W Hh prec : Int} (k : ∀ p o, H.get? p = some o → H'.get? p = some o) (h : FrameAt H f l W Hh prec) : FrameAt H' f l W Hh prec := by
  obtain ⟨dx, es, n, a, b, c, d, e, h1, h2, r⟩ := h.ex
  exact ⟨dx, es, n, a, b, c, d, e, k _ _ h1, k _ _ h2, r⟩
structure PlaneAt (H : Heap) (p : Addr) (a b : Int) : Prop where
  ex : ∃ dx es k ta tb, H.get? p = some (instObj 204 dx) ∧ H.get? dx = some (dictOf es k) ∧ getL "width" es = some (some (.int a ta)) ∧ getL "height" es = some (some (.int b tb))
theorem PlaneAt.keep {H H' : Heap} {c : Addr} {a b : Int} (k : ∀ p o, H.get? p = some o → H'.get? p = some o) (h : PlaneAt H c a b) : PlaneAt H' c a b := by
  obtain ⟨dx, es, n, ta, tb, h1, h2, r⟩ := h.ex
  exact ⟨dx, es, n, ta, tb, k _ _ h1, k _ _ h2, r⟩
structure PlanesAt (H : Heap) (l : Addr) (refs : List Value) (kept : List (Int × Int)) : Prop where
  list : H.IsList l refs.toArray
  len : refs.length = kept.length
  at' : ∀ (i : Nat) (p : Int × Int), kept[i]? = some p → ∃ c, refs[i]? = some (Value.ref c) ∧ PlaneAt H c p.1 p.2
theorem PlanesAt.keep {H H' : Heap} {l : Addr} {refs : List Value} {kept : List (Int × Int)} (k : ∀ p o, H.get? p = some o → H'.get? p = some o) (h : PlanesAt H l refs kept) : PlanesAt H' l refs kept :=
  ⟨let ⟨o, ho, r⟩ := h.list; ⟨o, k _ _ ho, r⟩, h.len, fun i p e => let ⟨c, h1, h2⟩ := h.at' i p e; ⟨c, h1, h2.keep k⟩⟩
structure PictAt (H : Heap) (f l : Addr) (prec : Int) : Prop where
  ex : ∃ dx es k tp, H.get? f = some (instObj 242 dx) ∧ H.get? dx = some (dictOf es k) ∧ getL "precision" es = some (some (.int prec tp)) ∧ getL "planes" es = some (some (Value.ref l)) ∧ getL "width" es = some none ∧ getL "height" es = some none
theorem PictAt.keep {H H' : Heap} {f l : Addr} {prec : Int} (k : ∀ p o, H.get? p = some o → H'.get? p = some o) (h : PictAt H f l prec) : PictAt H' f l prec := by
  obtain ⟨dx, es, n, a, h1, h2, r⟩ := h.ex
  exact ⟨dx, es, n, a, k _ _ h1, k _ _ h2, r⟩
section
variable {prog : Program} {w : World} {A : Around} {E : Value → Shared → Prop} {s : Shared} {K : Frag} {x C dx L : Addr} {h₀ : Heap} {m : Str → Option Value} {es : List DictEntry} {n : Nat} {name : Str} {v : Value}
theorem attr_g {expr : Bool} {Q : Value → Shared → Prop} {attr : Option Value} (F : Fr h₀ L s.heap m) (X₀ : K.In h₀) (hx : h₀.get? x = some (instObj C dx)) (hd : h₀.get? dx = some (dictOf es n)) (hg : plainGet K C name = true) (hh : hasDictIn K C = true)
    (ha : findIn K (.ref C) name = some attr) (hn : noGet K attr = true) (hl : getL name es = some (some v)) (hv : handedIn v = true) (h : Q v { s with toks := s.toks + 1 }) :
    wpAny (model prog w) A (getAttr (.ref x) name expr) Q E s := get_own F X₀ (ox := instObj C dx) (es := es) (n := n) ⟨F.keep _ _ hx, rfl, rfl, F.keep _ _ hd⟩ hg hh ha hn hl hv h
theorem meth_g {pl : Sem Bool} {Q : Value × List Value → Shared → Prop} {f : Addr} (F : Fr h₀ L s.heap m) (X₀ : K.In h₀) (hx : h₀.get? x = some (instObj C dx)) (hd : h₀.get? dx = some (dictOf es n)) (hg : plainGet K C name = true)
    (hf : findIn K (.ref C) name = some (some (.ref f))) (ht : isFn K (.ref f) = true) (hl : getL name es = some none) (h : Q (.ref f, [.ref x]) s) : wpAny (model prog w) A (getMethod (.ref x) name pl) Q E s :=
  method_inst F X₀ (es := es) (n := n) (ox := instObj C dx) ⟨F.keep _ _ hx, rfl, rfl, F.keep _ _ hd⟩ hg hf ht hl h
end
end Mine
end
section
open PySem PySem.W PyProof.Rows PySem.Calls
namespace Mine
section
variable {prog : Program} {w : World} {A : Around} {E : Value → Shared → Prop} {s : Shared} {h₀ : Heap} {L l : Addr} {news : List (Addr × Obj)}
theorem item_0 {value slice : PySem.Expr} {a b : Value} {n : Nat} {u : Tok} {Q : Value → Shared → Prop}
    (N : News h₀ L s.heap news) (hm : (l, listOf #[a, b] n) ∈ news) (h : Q a s)
    (hs : subscripted slice false (.ref l) (.int 0 u) = operate [.ref l, .int 0 u] (getItem (.ref l) (.int 0 u)) := by with_unfolding_all rfl) :
    wpAny (model prog w) A (subscriptTail value slice (.ref l) (.int 0 u)) Q E s :=
  have hl : s.heap.IsList l #[a, b] := ⟨_, N.get hm, rfl, _, rfl⟩
  tail_any hl.typeIs slot_list_getitem.lookup (wpAny_getItem_list hl (by decide) (by decide) rfl h) hs
theorem item_1 {value slice : PySem.Expr} {a b : Value} {n : Nat} {u : Tok} {Q : Value → Shared → Prop}
    (N : News h₀ L s.heap news) (hm : (l, listOf #[a, b] n) ∈ news) (h : Q b s)
    (hs : subscripted slice false (.ref l) (.int 1 u) = operate [.ref l, .int 1 u] (getItem (.ref l) (.int 1 u)) := by with_unfolding_all rfl) :
    wpAny (model prog w) A (subscriptTail value slice (.ref l) (.int 1 u)) Q E s :=
  have hl : s.heap.IsList l #[a, b] := ⟨_, N.get hm, rfl, _, rfl⟩
  tail_any hl.typeIs slot_list_getitem.lookup (wpAny_getItem_list hl (by decide) (by decide) rfl h) hs
end
theorem mul_fit {a b : Int} (h0 : 0 ≤ a) (h1 : a < 4294967296) : IntMulOk a b := PySem.IntMulOk.of_left (PySem.intBits_le_64 (by omega) (by omega))
theorem fmod_lo (a b : Int) (h : 0 < b) : 0 ≤ a.fmod b := by rw [Int.fmod_eq_emod_of_nonneg _ (by omega)]; exact Int.emod_nonneg _ (by omega)
theorem fmod_hi (a b : Int) (h : 0 < b) : a.fmod b < b := by rw [Int.fmod_eq_emod_of_nonneg _ (by omega)]; exact Int.emod_lt_of_pos _ h
theorem fdiv_lo (a b : Int) (h : 0 < b) (ha : 0 ≤ a) : 0 ≤ a.fdiv b := by rw [Int.fdiv_eq_ediv_of_nonneg _ (by omega)]; exact Int.ediv_nonneg ha (by omega)
def cdiv (x y : Int) : Int := -((-x).fdiv y)
theorem parts_eq (x y : Int) (h : 0 < y) : (x + y - 1).fdiv y = cdiv x y := by
  unfold cdiv
  rw [Int.fdiv_eq_ediv_of_nonneg _ (by omega), Int.fdiv_eq_ediv_of_nonneg _ (by omega)]
  have e1 := Int.mul_ediv_add_emod (x + y - 1) y
  have e2 := Int.mul_ediv_add_emod (-x) y
  have a1 := Int.emod_nonneg (x + y - 1) (show y ≠ 0 by omega)
  have a2 := Int.emod_lt_of_pos (x + y - 1) h
  have b1 := Int.emod_nonneg (-x) (show y ≠ 0 by omega)
  have b2 := Int.emod_lt_of_pos (-x) h
  generalize (x + y - 1) / y = p at *
  generalize (-x) / y = q at *
  have : y * (p + q) < y * 1 ∧ y * (-1) < y * (p + q) := by
    rw [Int.mul_add]; constructor <;> omega
  have h1 : p + q < 1 := Int.lt_of_mul_lt_mul_left this.1 (by omega)
  have h2 : -1 < p + q := Int.lt_of_mul_lt_mul_left this.2 (by omega)
  omega
local macro_rules | `(tactic| k_room) => `(tactic| ktr_room)
local macro_rules | `(tactic| k_units) => `(tactic| ktr_units)
local macro_rules | `(tactic| passes_own) => `(tactic| exact PySem.PassesOwn.leaving)
local macro_rules | `(tactic| walk_at "exec For Tuple List cons nil") => `(tactic| (k_here; (rename Fr _ _ _ _ => lF'); (with_reducible refine' For_turns lF' ?h ?hs ?hE); k_dflt ((case hE => exact PySem.PassesOwn.leaving); (case hs => intro _; rfl))))
local macro_rules | `(tactic| walk_at "subscriptTail Name Constant ref int") => `(tactic| (k_here; (with_reducible show wpAny _ _ (subscriptTail _ _ (Value.ref _) (Value.int _ _)) _ _ _); k_dflt (first | ((with_reducible refine' item_0 ?k1 ?k2 ?_ ?k6); (case k1 => k_asm); (case k2 => k_mem); (case k6 => with_unfolding_all rfl); k_whole) | ((with_reducible refine' item_1 ?k1 ?k2 ?_ ?k6); (case k1 => k_asm); (case k2 => k_mem); (case k6 => with_unfolding_all rfl); k_whole))))
local macro_rules | `(tactic| k_qdec) => `(tactic| kernel_rfl)
section
local macro_rules | `(tactic| walk_at "binaryOp Mult int int") => `(tactic| (with_reducible refine mul_int ?_ (mul_fit (fmod_lo _ _ (by decide)) (by have := fmod_hi (_ : Int) 2147483647 (by decide); exact Int.lt_trans this (by decide)))))
set_option maxRecDepth 100000 in
set_option maxHeartbeats 8000000 in
theorem take_c {w : World} {mean : ExcName → Option Value} {mg mb : Str → Option Value} (l : Addr) (n : Nat) (x y top : Int) (tx ty tt : Tok) (hx : 0 ≤ x) (hy : 0 ≤ y) (hy2 : y < 2147483647) (ht : 0 < top) (ht2 : top < 100) :
    Sp w mean mg mb 5 (.ref 267) [.ref l, .int top tt] [(l, listOf #[.int x tx, .int y ty] n)] (fun _ => True)
      (fun _ v news' => ∃ d x' y' t tx' ty', v = .int d t ∧ 0 ≤ d ∧ d < top ∧ 0 ≤ x' ∧ 0 ≤ y' ∧ y' < 2147483647 ∧ news' = [(l, listOf #[.int x' tx', .int y' ty'] n)]) := by
  unfold Sp
  k_fill
  intro dp un gd cn cs a ccd cl outer A₀ base h₀ L m s Q E B F X N T hk hd hu hp hret
  refine wpAny_call ?_
  k_dflt (refine' code_defG ?k1 ?k2 ?k3 ?k4 ?k5 ?kA ?kF ?kK ?k6 ?k7 ?k8 ?k9 ?kB ?_ ?c2 ?c3 ?c4 ?c5; (case kA => exact rfl); (case kF => exact rfl); (case kK => assumption); (case k1 => k_asm); (case k2 => k_asm); (case k3 => k_asm); (case k4 => k_asm); (case k5 => k_asm); (case k6 => k_is); (case k7 => k_is); (case k8 => ktr_room); (case k9 => exact BindsTo.of_eq rfl); (case c5 => decide); (case kB => exact locs rfl); (case c2 => exact rfl); (case c3 => exact rfl); (case c4 => exact rfl); k_whole; intro g' L' h' FG' F' N' B' X' T' kG'; (try dsimp only); (try k_lift B'); (try k_fold))
  k_steps
  · exact hret _ _ _ _ ⟨_, _, _, _, _, _, rfl, fmod_lo _ _ ht, fmod_hi _ _ ht, fdiv_lo _ _ ht hx, hy, hy2, rfl⟩ (by assumption) (by assumption) (sp_keep kG' (by assumption)) (sp_fresh kG' (by assumption))
  · exact hret _ _ _ _ ⟨_, _, _, _, _, _, rfl, fmod_lo _ _ ht, fmod_hi _ _ ht, hx, fmod_lo _ _ (by decide), fmod_hi _ _ (by decide), rfl⟩ (by assumption) (by assumption) (sp_keep kG' (by assumption)) (sp_fresh kG' (by assumption))
end
set_option maxRecDepth 100000 in
set_option maxHeartbeats 8000000 in
theorem ceil_c {w : World} {mean : ExcName → Option Value} {mg mb : Str → Option Value} (x y : Int) (tx ty : Tok) (hy : 0 < y) (hy2 : y < 100) :
    Sp w mean mg mb 5 (.ref 281) [.int x tx, .int y ty] [] (fun _ => True) (fun _ v news' => ∃ t, v = .int (cdiv x y) t ∧ news' = []) := by
  unfold Sp
  k_fill
  intro dp un gd cn cs a ccd cl outer A₀ base h₀ L m s Q E B F X N T hk hd hu hp hret
  refine wpAny_call ?_
  k_dflt (refine' code_defG ?k1 ?k2 ?k3 ?k4 ?k5 ?kA ?kF ?kK ?k6 ?k7 ?k8 ?k9 ?kB ?_ ?c2 ?c3 ?c4 ?c5; (case kA => exact rfl); (case kF => exact rfl); (case kK => assumption); (case k1 => k_asm); (case k2 => k_asm); (case k3 => k_asm); (case k4 => k_asm); (case k5 => k_asm); (case k6 => k_is); (case k7 => k_is); (case k8 => ktr_room); (case k9 => exact BindsTo.of_eq rfl); (case c5 => decide); (case kB => exact locs rfl); (case c2 => exact rfl); (case c3 => exact rfl); (case c4 => exact rfl); k_whole; intro g' L' h' FG' F' N' B' X' T' kG'; (try dsimp only); (try k_lift B'); (try k_fold))
  k_steps
  exact hret _ _ _ _ ⟨_, rfl, rfl⟩ (by assumption) (by assumption) (sp_keep kG' (by assumption)) (sp_fresh kG' (by assumption))
set_option maxRecDepth 100000 in
set_option maxHeartbeats 8000000 in
theorem parts_c {w : World} {mean : ExcName → Option Value} {mg mb : Str → Option Value} (x y : Int) (tx ty : Tok) (hy : 0 < y) (hy2 : y < 100) :
    Sp w mean mg mb 5 (.ref 60) [.int x tx, .int y ty] [] (fun _ => True) (fun _ v news' => ∃ t, v = .int (cdiv x y) t ∧ news' = []) := by
  unfold Sp
  k_fill
  intro dp un gd cn cs a ccd cl outer A₀ base h₀ L m s Q E B F X N T hk hd hu hp hret
  refine wpAny_call ?_
  k_dflt (refine' code_defG ?k1 ?k2 ?k3 ?k4 ?k5 ?kA ?kF ?kK ?k6 ?k7 ?k8 ?k9 ?kB ?_ ?c2 ?c3 ?c4 ?c5; (case kA => exact rfl); (case kF => exact rfl); (case kK => assumption); (case k1 => k_asm); (case k2 => k_asm); (case k3 => k_asm); (case k4 => k_asm); (case k5 => k_asm); (case k6 => k_is); (case k7 => k_is); (case k8 => ktr_room); (case k9 => exact BindsTo.of_eq rfl); (case c5 => decide); (case kB => exact locs rfl); (case c2 => exact rfl); (case c3 => exact rfl); (case c4 => exact rfl); k_whole; intro g' L' h' FG' F' N' B' X' T' kG'; (try dsimp only); (try k_lift B'); (try k_fold))
  k_steps
  exact hret _ _ _ _ ⟨_, by rw [parts_eq _ _ hy], rfl⟩ (by assumption) (by assumption) (sp_keep kG' (by assumption)) (sp_fresh kG' (by assumption))
end Mine
end
section
open PySem PySem.W PyProof.Rows PySem.Calls
namespace Mine
local macro_rules | `(tactic| k_room) => `(tactic| ktr_room)
local macro_rules | `(tactic| k_units) => `(tactic| ktr_units)
local macro_rules | `(tactic| passes_own) => `(tactic| exact PySem.PassesOwn.leaving)
local macro_rules | `(tactic| walk_at "exec For Tuple List cons nil") => `(tactic| (k_here; (rename Fr _ _ _ _ => lF'); (with_reducible refine' For_turns lF' ?h ?hs ?hE); k_dflt ((case hE => exact PySem.PassesOwn.leaving); (case hs => intro _; rfl))))
local macro_rules | `(tactic| walk_at "subscriptTail Name Constant ref int") => `(tactic| (k_here; (with_reducible show wpAny _ _ (subscriptTail _ _ (Value.ref _) (Value.int _ _)) _ _ _); k_dflt (first | ((with_reducible refine' item_0 ?k1 ?k2 ?_ ?k6); (case k1 => k_asm); (case k2 => k_mem); (case k6 => with_unfolding_all rfl); k_whole) | ((with_reducible refine' item_1 ?k1 ?k2 ?_ ?k6); (case k1 => k_asm); (case k2 => k_mem); (case k6 => with_unfolding_all rfl); k_whole))))
local macro_rules | `(tactic| k_qdec) => `(tactic| kernel_rfl)
theorem isList_sub {H g : Heap} {l : Addr} {its : Array Value} (G : GSub H g []) (h : H.IsList l its) : g.IsList l its := let ⟨o, ho, r⟩ := h; ⟨o, G l o ho (fun q => nomatch q), r⟩
set_option maxRecDepth 100000 in
set_option maxHeartbeats 8000000 in
theorem pool_c {w : World} {mean : ExcName → Option Value} {mg mb : Str → Option Value} (sc : Addr) (vs : List Value) (ns : List Int) (tz : Tok) (hi : IntsAre vs ns) (hn : ns.length < 100) :
    Sp w mean mg mb 5 (.ref 260) [.ref sc, .int 0 tz] [] (fun H => H.IsList sc vs.toArray)
      (fun _ v news' => ∃ l x y tx ty, v = .ref l ∧ 0 ≤ x ∧ 0 ≤ y ∧ y < 2147483647 ∧ news' = [(l, listOf #[.int x tx, .int y ty] 0)]) := by
  unfold Sp
  k_fill
  intro dp un gd cn cs a ccd cl outer A₀ base h₀ L m s Q E B F X N T hk hd hu hp hret
  refine wpAny_call ?_
  k_dflt (refine' code_defG ?k1 ?k2 ?k3 ?k4 ?k5 ?kA ?kF ?kK ?k6 ?k7 ?k8 ?k9 ?kB ?_ ?c2 ?c3 ?c4 ?c5; (case kA => exact rfl); (case kF => exact rfl); (case kK => assumption); (case k1 => k_asm); (case k2 => k_asm); (case k3 => k_asm); (case k4 => k_asm); (case k5 => k_asm); (case k6 => k_is); (case k7 => k_is); (case k8 => ktr_room); (case k9 => exact BindsTo.of_eq rfl); (case c5 => decide); (case kB => exact locs rfl); (case c2 => exact rfl); (case c3 => exact rfl); (case c4 => exact rfl); k_whole; intro g' L' h' FG' F' N' B' X' T' kG'; (try dsimp only); (try k_lift B'); (try k_fold))
  have hL := isList_sub kG' hp
  k_steps
  all_goals (refine hret _ _ _ _ ⟨_, _, _, _, _, rfl, ?_, ?_, ?_, rfl⟩ (by assumption) (by assumption) (sp_keep kG' (by assumption)) (sp_fresh kG' (by assumption)))
  all_goals first
    | exact fmod_lo _ _ (by decide)
    | exact fmod_hi _ _ (by decide)
    | exact Int.mul_nonneg (by split <;> omega) (by split <;> omega)
end Mine
end
section
open PySem PySem.W PyProof.Rows PySem.Calls
namespace Mine
local macro_rules | `(tactic| k_room) => `(tactic| ktr_room)
local macro_rules | `(tactic| k_units) => `(tactic| ktr_units)
local macro_rules | `(tactic| passes_own) => `(tactic| exact PySem.PassesOwn.leaving)
local macro_rules | `(tactic| walk_at "exec For Tuple List cons nil") => `(tactic| (k_here; (rename Fr _ _ _ _ => lF'); (with_reducible refine' For_turns lF' ?h ?hs ?hE); k_dflt ((case hE => exact PySem.PassesOwn.leaving); (case hs => intro _; rfl))))
local macro_rules | `(tactic| walk_at "subscriptTail Name Constant ref int") => `(tactic| (k_here; (with_reducible show wpAny _ _ (subscriptTail _ _ (Value.ref _) (Value.int _ _)) _ _ _); k_dflt (first | ((with_reducible refine' item_0 ?k1 ?k2 ?_ ?k6); (case k1 => k_asm); (case k2 => k_mem); (case k6 => with_unfolding_all rfl); k_whole) | ((with_reducible refine' item_1 ?k1 ?k2 ?_ ?k6); (case k1 => k_asm); (case k2 => k_mem); (case k6 => with_unfolding_all rfl); k_whole))))
local macro_rules | `(tactic| k_qdec) => `(tactic| kernel_rfl)
local macro_rules | `(tactic| walk_at "eval ListComp") => `(tactic| (k_here; k_dflt (refine LCg.ListComp_U (F₀ := by k_asm) (by rfl) (by decide) (by rfl) (by decide) (by rfl) ?_)))
local macro_rules | `(tactic| walk_at "getAttr ref") => `(tactic| (k_here; k_dflt (refine' attr_g ?k1 ?k2 ?k3 ?k4 ?k5 ?k6 ?k7 ?k8 ?k9 ?k10 ?_; (case k1 => k_asm); (case k2 => k_asm); (case k3 => assumption); (case k4 => assumption); (case k5 => k_is); (case k6 => k_is); (case k7 => k_is); (case k8 => k_is); (case k9 => assumption); (case k10 => k_handed); k_whole)))
set_option maxRecDepth 100000 in
set_option maxHeartbeats 8000000 in
theorem most_across_c {w : World} {mean : ExcName → Option Value} {mg mb : Str → Option Value} (f l : Addr) (refs : List Value) (sam : List (Int × Int)) (W Hh prec : Int) (hne : 0 < sam.length) (hlen : sam.length < 100) :
    Sp w mean mg mb 5 (.ref 100) [.ref f] [] (fun H => FrameAt H f l W Hh prec ∧ CompsAt H l refs sam) (fun _ v news' => ∃ M t, v = .int M t ∧ IsMax M (sam.map (·.1)) ∧ news' = []) := by
  unfold Sp
  k_fill
  intro dp un gd cn cs a ccd cl outer A₀ base h₀ L m s Q E B F X N T hk hd hu hp hret
  refine wpAny_call ?_
  k_dflt (refine' code_defG ?k1 ?k2 ?k3 ?k4 ?k5 ?kA ?kF ?kK ?k6 ?k7 ?k8 ?k9 ?kB ?_ ?c2 ?c3 ?c4 ?c5; (case kA => exact rfl); (case kF => exact rfl); (case kK => assumption); (case k1 => k_asm); (case k2 => k_asm); (case k3 => k_asm); (case k4 => k_asm); (case k5 => k_asm); (case k6 => k_is); (case k7 => k_is); (case k8 => ktr_room); (case k9 => exact BindsTo.of_eq rfl); (case c5 => decide); (case kB => exact locs rfl); (case c2 => exact rfl); (case c3 => exact rfl); (case c4 => exact rfl); k_whole; intro g' L' h' FG' F' N' B' X' T' kG'; (try dsimp only); (try k_lift B'); (try k_fold))
  have kp : ∀ p o, s.heap.get? p = some o → g'.get? p = some o := fun p o e => kG' p o e (fun q => nomatch q)
  obtain ⟨hF, hC⟩ := hp
  replace hF := hF.keep kp
  replace hC := hC.keep kp
  obtain ⟨fdx, fes, fk, tk1, tp, th, tw, tn, hf1, hf2, fa1, fa2, fa3, fa4, fa5, fa6, fa7, fa8, fa9⟩ := hF.ex
  k_steps
  refine LCg.CompSrc.base rfl (by k_asm) (by k_asm) hC.list (by rw [List.size_toArray, hC.len]; exact Nat.le_trans (Nat.le_of_lt hlen) (by decide)) ?_
  intro gg
  refine comp_ind (fun i ys news => news = [] ∧ IntsAre ys ((sam.map (·.1)).take i)) ?step ?fin _ 0 [] _ (Nat.zero_add _) ⟨rfl, IntsAre.nil⟩
  case step =>
    rintro i ys news hi ⟨rfl, hys⟩ v I oI C oC D m₂ h tk E' hv hoC hm₂ FF NN off ne
    have hi' : i < sam.length := by rw [List.size_toArray, hC.len] at hi; exact hi
    obtain ⟨c, hc1, hc2⟩ := hC.at' i sam[i] (List.getElem?_eq_getElem hi')
    obtain ⟨cdx, ces, ck, cti, cta, ctb, hcc1, hcc2, ca1, ca2, ca3⟩ := hc2.ex
    have hvc : v = .ref c := by
      have : refs.toArray[i]? = refs[i]? := by simp
      rw [this, hc1] at hv; exact (Option.some.inj hv).symm
    subst hvc
    k_steps
    refine LCg.CompEnd.intro FF NN [] (fun _ q => q) off (.inl hC.list) ⟨rfl, ?_⟩
    have e : (sam.map (·.1)).take (i + 1) = (sam.map (·.1)).take i ++ [sam[i].1] := by
      rw [List.take_add_one, List.getElem?_map, List.getElem?_eq_getElem hi']; rfl
    rw [e]
    exact hys.append (.cons _ _ .nil)
  case fin =>
    rintro ys news ⟨rfl, hys⟩
    have e : (sam.map (·.1)).take refs.toArray.size = sam.map (·.1) := List.take_of_length_le (by rw [List.size_toArray, hC.len, List.length_map]; exact Nat.le_refl _)
    rw [e] at hys
    intro D h tk FF NN off
    k_steps
    exact hret _ _ _ [] ⟨_, _, rfl, ⟨by assumption, by assumption⟩, rfl⟩ (by assumption) (fun _ q => nomatch q) (sp_keep kG' (by assumption)) (fun _ q => nomatch q)
set_option maxRecDepth 100000 in
set_option maxHeartbeats 8000000 in
theorem most_down_c {w : World} {mean : ExcName → Option Value} {mg mb : Str → Option Value} (f l : Addr) (refs : List Value) (sam : List (Int × Int)) (W Hh prec : Int) (hne : 0 < sam.length) (hlen : sam.length < 100) :
    Sp w mean mg mb 5 (.ref 105) [.ref f] [] (fun H => FrameAt H f l W Hh prec ∧ CompsAt H l refs sam) (fun _ v news' => ∃ M t, v = .int M t ∧ IsMax M (sam.map (·.2)) ∧ news' = []) := by
  unfold Sp
  k_fill
  intro dp un gd cn cs a ccd cl outer A₀ base h₀ L m s Q E B F X N T hk hd hu hp hret
  refine wpAny_call ?_
  k_dflt (refine' code_defG ?k1 ?k2 ?k3 ?k4 ?k5 ?kA ?kF ?kK ?k6 ?k7 ?k8 ?k9 ?kB ?_ ?c2 ?c3 ?c4 ?c5; (case kA => exact rfl); (case kF => exact rfl); (case kK => assumption); (case k1 => k_asm); (case k2 => k_asm); (case k3 => k_asm); (case k4 => k_asm); (case k5 => k_asm); (case k6 => k_is); (case k7 => k_is); (case k8 => ktr_room); (case k9 => exact BindsTo.of_eq rfl); (case c5 => decide); (case kB => exact locs rfl); (case c2 => exact rfl); (case c3 => exact rfl); (case c4 => exact rfl); k_whole; intro g' L' h' FG' F' N' B' X' T' kG'; (try dsimp only); (try k_lift B'); (try k_fold))
  have kp : ∀ p o, s.heap.get? p = some o → g'.get? p = some o := fun p o e => kG' p o e (fun q => nomatch q)
  obtain ⟨hF, hC⟩ := hp
  replace hF := hF.keep kp
  replace hC := hC.keep kp
  obtain ⟨fdx, fes, fk, tk1, tp, th, tw, tn, hf1, hf2, fa1, fa2, fa3, fa4, fa5, fa6, fa7, fa8, fa9⟩ := hF.ex
  k_steps
  refine LCg.CompSrc.base rfl (by k_asm) (by k_asm) hC.list (by rw [List.size_toArray, hC.len]; exact Nat.le_trans (Nat.le_of_lt hlen) (by decide)) ?_
  intro gg
  refine comp_ind (fun i ys news => news = [] ∧ IntsAre ys ((sam.map (·.2)).take i)) ?step ?fin _ 0 [] _ (Nat.zero_add _) ⟨rfl, IntsAre.nil⟩
  case step =>
    rintro i ys news hi ⟨rfl, hys⟩ v I oI C oC D m₂ h tk E' hv hoC hm₂ FF NN off ne
    have hi' : i < sam.length := by rw [List.size_toArray, hC.len] at hi; exact hi
    obtain ⟨c, hc1, hc2⟩ := hC.at' i sam[i] (List.getElem?_eq_getElem hi')
    obtain ⟨cdx, ces, ck, cti, cta, ctb, hcc1, hcc2, ca1, ca2, ca3⟩ := hc2.ex
    have hvc : v = .ref c := by
      have : refs.toArray[i]? = refs[i]? := by simp
      rw [this, hc1] at hv; exact (Option.some.inj hv).symm
    subst hvc
    k_steps
    refine LCg.CompEnd.intro FF NN [] (fun _ q => q) off (.inl hC.list) ⟨rfl, ?_⟩
    have e : (sam.map (·.2)).take (i + 1) = (sam.map (·.2)).take i ++ [sam[i].2] := by
      rw [List.take_add_one, List.getElem?_map, List.getElem?_eq_getElem hi']; rfl
    rw [e]
    exact hys.append (.cons _ _ .nil)
  case fin =>
    rintro ys news ⟨rfl, hys⟩
    have e : (sam.map (·.2)).take refs.toArray.size = sam.map (·.2) := List.take_of_length_le (by rw [List.size_toArray, hC.len, List.length_map]; exact Nat.le_refl _)
    rw [e] at hys
    intro D h tk FF NN off
    k_steps
    exact hret _ _ _ [] ⟨_, _, rfl, ⟨by assumption, by assumption⟩, rfl⟩ (by assumption) (fun _ q => nomatch q) (sp_keep kG' (by assumption)) (fun _ q => nomatch q)
set_option maxRecDepth 100000 in
set_option maxHeartbeats 8000000 in
theorem pict_width_c {w : World} {mean : ExcName → Option Value} {mg mb : Str → Option Value} (f l : Addr) (refs : List Value) (sam : List (Int × Int)) (prec : Int) (hne : 0 < sam.length) (hlen : sam.length < 100) :
    Sp w mean mg mb 5 (.ref 227) [.ref f] [] (fun H => PictAt H f l prec ∧ PlanesAt H l refs sam) (fun _ v news' => ∃ M t, v = .int M t ∧ IsMax M (sam.map (·.1)) ∧ news' = []) := by
  unfold Sp
  k_fill
  intro dp un gd cn cs a ccd cl outer A₀ base h₀ L m s Q E B F X N T hk hd hu hp hret
  refine wpAny_call ?_
  k_dflt (refine' code_defG ?k1 ?k2 ?k3 ?k4 ?k5 ?kA ?kF ?kK ?k6 ?k7 ?k8 ?k9 ?kB ?_ ?c2 ?c3 ?c4 ?c5; (case kA => exact rfl); (case kF => exact rfl); (case kK => assumption); (case k1 => k_asm); (case k2 => k_asm); (case k3 => k_asm); (case k4 => k_asm); (case k5 => k_asm); (case k6 => k_is); (case k7 => k_is); (case k8 => ktr_room); (case k9 => exact BindsTo.of_eq rfl); (case c5 => decide); (case kB => exact locs rfl); (case c2 => exact rfl); (case c3 => exact rfl); (case c4 => exact rfl); k_whole; intro g' L' h' FG' F' N' B' X' T' kG'; (try dsimp only); (try k_lift B'); (try k_fold))
  have kp : ∀ p o, s.heap.get? p = some o → g'.get? p = some o := fun p o e => kG' p o e (fun q => nomatch q)
  obtain ⟨hF, hC⟩ := hp
  replace hF := hF.keep kp
  replace hC := hC.keep kp
  obtain ⟨fdx, fes, fk, tp, hf1, hf2, fa1, fa2, fa3, fa4⟩ := hF.ex
  k_steps
  refine LCg.CompSrc.base rfl (by k_asm) (by k_asm) hC.list (by rw [List.size_toArray, hC.len]; exact Nat.le_trans (Nat.le_of_lt hlen) (by decide)) ?_
  intro gg
  refine comp_ind (fun i ys news => news = [] ∧ IntsAre ys ((sam.map (·.1)).take i)) ?step ?fin _ 0 [] _ (Nat.zero_add _) ⟨rfl, IntsAre.nil⟩
  case step =>
    rintro i ys news hi ⟨rfl, hys⟩ v I oI C oC D m₂ h tk E' hv hoC hm₂ FF NN off ne
    have hi' : i < sam.length := by rw [List.size_toArray, hC.len] at hi; exact hi
    obtain ⟨c, hc1, hc2⟩ := hC.at' i sam[i] (List.getElem?_eq_getElem hi')
    obtain ⟨cdx, ces, ck, cta, ctb, hcc1, hcc2, ca1, ca2⟩ := hc2.ex
    have hvc : v = .ref c := by
      have : refs.toArray[i]? = refs[i]? := by simp
      rw [this, hc1] at hv; exact (Option.some.inj hv).symm
    subst hvc
    k_steps
    refine LCg.CompEnd.intro FF NN [] (fun _ q => q) off (.inl hC.list) ⟨rfl, ?_⟩
    have e : (sam.map (·.1)).take (i + 1) = (sam.map (·.1)).take i ++ [sam[i].1] := by
      rw [List.take_add_one, List.getElem?_map, List.getElem?_eq_getElem hi']; rfl
    rw [e]
    exact hys.append (.cons _ _ .nil)
  case fin =>
    rintro ys news ⟨rfl, hys⟩
    have e : (sam.map (·.1)).take refs.toArray.size = sam.map (·.1) := List.take_of_length_le (by rw [List.size_toArray, hC.len, List.length_map]; exact Nat.le_refl _)
    rw [e] at hys
    intro D h tk FF NN off
    k_steps
    exact hret _ _ _ [] ⟨_, _, rfl, ⟨by assumption, by assumption⟩, rfl⟩ (by assumption) (fun _ q => nomatch q) (sp_keep kG' (by assumption)) (fun _ q => nomatch q)
set_option maxRecDepth 100000 in
set_option maxHeartbeats 8000000 in
theorem pict_height_c {w : World} {mean : ExcName → Option Value} {mg mb : Str → Option Value} (f l : Addr) (refs : List Value) (sam : List (Int × Int)) (prec : Int) (hne : 0 < sam.length) (hlen : sam.length < 100) :
    Sp w mean mg mb 5 (.ref 232) [.ref f] [] (fun H => PictAt H f l prec ∧ PlanesAt H l refs sam) (fun _ v news' => ∃ M t, v = .int M t ∧ IsMax M (sam.map (·.2)) ∧ news' = []) := by
  unfold Sp
  k_fill
  intro dp un gd cn cs a ccd cl outer A₀ base h₀ L m s Q E B F X N T hk hd hu hp hret
  refine wpAny_call ?_
  k_dflt (refine' code_defG ?k1 ?k2 ?k3 ?k4 ?k5 ?kA ?kF ?kK ?k6 ?k7 ?k8 ?k9 ?kB ?_ ?c2 ?c3 ?c4 ?c5; (case kA => exact rfl); (case kF => exact rfl); (case kK => assumption); (case k1 => k_asm); (case k2 => k_asm); (case k3 => k_asm); (case k4 => k_asm); (case k5 => k_asm); (case k6 => k_is); (case k7 => k_is); (case k8 => ktr_room); (case k9 => exact BindsTo.of_eq rfl); (case c5 => decide); (case kB => exact locs rfl); (case c2 => exact rfl); (case c3 => exact rfl); (case c4 => exact rfl); k_whole; intro g' L' h' FG' F' N' B' X' T' kG'; (try dsimp only); (try k_lift B'); (try k_fold))
  have kp : ∀ p o, s.heap.get? p = some o → g'.get? p = some o := fun p o e => kG' p o e (fun q => nomatch q)
  obtain ⟨hF, hC⟩ := hp
  replace hF := hF.keep kp
  replace hC := hC.keep kp
  obtain ⟨fdx, fes, fk, tp, hf1, hf2, fa1, fa2, fa3, fa4⟩ := hF.ex
  k_steps
  refine LCg.CompSrc.base rfl (by k_asm) (by k_asm) hC.list (by rw [List.size_toArray, hC.len]; exact Nat.le_trans (Nat.le_of_lt hlen) (by decide)) ?_
  intro gg
  refine comp_ind (fun i ys news => news = [] ∧ IntsAre ys ((sam.map (·.2)).take i)) ?step ?fin _ 0 [] _ (Nat.zero_add _) ⟨rfl, IntsAre.nil⟩
  case step =>
    rintro i ys news hi ⟨rfl, hys⟩ v I oI C oC D m₂ h tk E' hv hoC hm₂ FF NN off ne
    have hi' : i < sam.length := by rw [List.size_toArray, hC.len] at hi; exact hi
    obtain ⟨c, hc1, hc2⟩ := hC.at' i sam[i] (List.getElem?_eq_getElem hi')
    obtain ⟨cdx, ces, ck, cta, ctb, hcc1, hcc2, ca1, ca2⟩ := hc2.ex
    have hvc : v = .ref c := by
      have : refs.toArray[i]? = refs[i]? := by simp
      rw [this, hc1] at hv; exact (Option.some.inj hv).symm
    subst hvc
    k_steps
    refine LCg.CompEnd.intro FF NN [] (fun _ q => q) off (.inl hC.list) ⟨rfl, ?_⟩
    have e : (sam.map (·.2)).take (i + 1) = (sam.map (·.2)).take i ++ [sam[i].2] := by
      rw [List.take_add_one, List.getElem?_map, List.getElem?_eq_getElem hi']; rfl
    rw [e]
    exact hys.append (.cons _ _ .nil)
  case fin =>
    rintro ys news ⟨rfl, hys⟩
    have e : (sam.map (·.2)).take refs.toArray.size = sam.map (·.2) := List.take_of_length_le (by rw [List.size_toArray, hC.len, List.length_map]; exact Nat.le_refl _)
    rw [e] at hys
    intro D h tk FF NN off
    k_steps
    exact hret _ _ _ [] ⟨_, _, rfl, ⟨by assumption, by assumption⟩, rfl⟩ (by assumption) (fun _ q => nomatch q) (sp_keep kG' (by assumption)) (fun _ q => nomatch q)
theorem most_across_e {w : World} {mean : ExcName → Option Value} {mg mb : Str → Option Value} (f l : Addr) (refs : List Value) (sam : List (Int × Int)) (W Hh prec : Int) (M : Int) (hM : IsMax M (sam.map (·.1))) (hlen : sam.length < 100) :
    Sp w mean mg mb 5 (.ref 100) [.ref f] [] (fun H => FrameAt H f l W Hh prec ∧ CompsAt H l refs sam) (fun _ v news' => ∃ t, v = .int M t ∧ news' = []) :=
  (most_across_c f l refs sam W Hh prec (by have := hM.1; cases sam with | nil => cases this | cons a b => exact Nat.succ_pos _) hlen).post fun _ v n ⟨M', t, e, h', e'⟩ => ⟨t, by rw [e, h'.uniq hM], e'⟩
theorem most_down_e {w : World} {mean : ExcName → Option Value} {mg mb : Str → Option Value} (f l : Addr) (refs : List Value) (sam : List (Int × Int)) (W Hh prec : Int) (M : Int) (hM : IsMax M (sam.map (·.2))) (hlen : sam.length < 100) :
    Sp w mean mg mb 5 (.ref 105) [.ref f] [] (fun H => FrameAt H f l W Hh prec ∧ CompsAt H l refs sam) (fun _ v news' => ∃ t, v = .int M t ∧ news' = []) :=
  (most_down_c f l refs sam W Hh prec (by have := hM.1; cases sam with | nil => cases this | cons a b => exact Nat.succ_pos _) hlen).post fun _ v n ⟨M', t, e, h', e'⟩ => ⟨t, by rw [e, h'.uniq hM], e'⟩
theorem pict_width_e {w : World} {mean : ExcName → Option Value} {mg mb : Str → Option Value} (f l : Addr) (refs : List Value) (sam : List (Int × Int)) (prec : Int) (M : Int) (hM : IsMax M (sam.map (·.1))) (hlen : sam.length < 100) :
    Sp w mean mg mb 5 (.ref 227) [.ref f] [] (fun H => PictAt H f l prec ∧ PlanesAt H l refs sam) (fun _ v news' => ∃ t, v = .int M t ∧ news' = []) :=
  (pict_width_c f l refs sam prec (by have := hM.1; cases sam with | nil => cases this | cons a b => exact Nat.succ_pos _) hlen).post fun _ v n ⟨M', t, e, h', e'⟩ => ⟨t, by rw [e, h'.uniq hM], e'⟩
theorem pict_height_e {w : World} {mean : ExcName → Option Value} {mg mb : Str → Option Value} (f l : Addr) (refs : List Value) (sam : List (Int × Int)) (prec : Int) (M : Int) (hM : IsMax M (sam.map (·.2))) (hlen : sam.length < 100) :
    Sp w mean mg mb 5 (.ref 232) [.ref f] [] (fun H => PictAt H f l prec ∧ PlanesAt H l refs sam) (fun _ v news' => ∃ t, v = .int M t ∧ news' = []) :=
  (pict_height_c f l refs sam prec (by have := hM.1; cases sam with | nil => cases this | cons a b => exact Nat.succ_pos _) hlen).post fun _ v n ⟨M', t, e, h', e'⟩ => ⟨t, by rw [e, h'.uniq hM], e'⟩
end Mine
end
section
open PySem PySem.W PyProof.Rows PySem.Calls
namespace Mine
local macro_rules | `(tactic| k_room) => `(tactic| ktr_room)
local macro_rules | `(tactic| k_units) => `(tactic| ktr_units)
local macro_rules | `(tactic| passes_own) => `(tactic| exact PySem.PassesOwn.leaving)
local macro_rules | `(tactic| walk_at "exec For Tuple List cons nil") => `(tactic| (k_here; (rename Fr _ _ _ _ => lF'); (with_reducible refine' For_turns lF' ?h ?hs ?hE); k_dflt ((case hE => exact PySem.PassesOwn.leaving); (case hs => intro _; rfl))))
local macro_rules | `(tactic| walk_at "subscriptTail Name Constant ref int") => `(tactic| (k_here; (with_reducible show wpAny _ _ (subscriptTail _ _ (Value.ref _) (Value.int _ _)) _ _ _); k_dflt (first | ((with_reducible refine' item_0 ?k1 ?k2 ?_ ?k6); (case k1 => k_asm); (case k2 => k_mem); (case k6 => with_unfolding_all rfl); k_whole) | ((with_reducible refine' item_1 ?k1 ?k2 ?_ ?k6); (case k1 => k_asm); (case k2 => k_mem); (case k6 => with_unfolding_all rfl); k_whole))))
local macro_rules | `(tactic| k_qdec) => `(tactic| kernel_rfl)
local macro_rules | `(tactic| walk_at "getAttr ref") => `(tactic| (k_here; k_dflt (refine' attr_g ?k1 ?k2 ?k3 ?k4 ?k5 ?k6 ?k7 ?k8 ?k9 ?k10 ?_; (case k1 => k_asm); (case k2 => k_asm); (case k3 => assumption); (case k4 => assumption); (case k5 => k_is); (case k6 => k_is); (case k7 => k_is); (case k8 => k_is); (case k9 => assumption); (case k10 => k_handed); k_whole)))
local macro_rules | `(tactic| walk_at "getMethod ref") => `(tactic| (k_here; k_dflt (refine' meth_g ?k1 ?k2 ?k3 ?k4 ?k5 ?k6 ?k7 ?k8 ?_; (case k1 => k_asm); (case k2 => k_asm); (case k3 => assumption); (case k4 => assumption); (case k5 => k_is); (case k6 => k_is); (case k7 => k_is); (case k8 => assumption); k_whole)))
section
variable {prog : Program} {w : World} {A : Around} {E : Value → Shared → Prop} {s : Shared} {g : Heap} {L l : Addr} {m : Str → Option Value}
theorem item_g {value slice : PySem.Expr} {refs : List Value} {i : Nat} {u : Tok} {v : Value} {Q : Value → Shared → Prop}
    (F : Fr g L s.heap m) (hl : g.IsList l refs.toArray) (hx : refs[i]? = some v) (hb : i < 1000) (h : Q v s)
    (hs : subscripted slice false (.ref l) (.int (i : Int) u) = operate [.ref l, .int (i : Int) u] (getItem (.ref l) (.int (i : Int) u)) := by with_unfolding_all rfl) :
    wpAny (model prog w) A (subscriptTail value slice (.ref l) (.int (i : Int) u)) Q E s :=
  have hl' : s.heap.IsList l refs.toArray := let ⟨o, ho, r⟩ := hl; ⟨o, F.keep _ _ ho, r⟩
  tail_any hl'.typeIs slot_list_getitem.lookup (wpAny_getItem_list hl' (by omega) (by omega) (by simpa using hx) h) hs
end
theorem mul_fit2 {a b : Int} (h0 : 0 ≤ b) (h1 : b < 100) : IntMulOk a b := PySem.IntMulOk.of_right (PySem.intBits_le_64 (by omega) (by omega))
local macro_rules | `(tactic| walk_at "subscriptTail Name Name ref int") => `(tactic| (k_here; (with_reducible show wpAny _ _ (subscriptTail _ _ (Value.ref _) (Value.int _ _)) _ _ _); k_dflt ((with_reducible refine' item_g ?k1 ?k2 ?k3 ?k4 ?_ ?k6); (case k1 => k_asm); (case k2 => assumption); (case k3 => assumption); (case k4 => assumption); (case k6 => with_unfolding_all rfl); k_whole)))
local macro_rules | `(tactic| walk_at "binaryOp Mult int int") => `(tactic| (with_reducible refine mul_int ?_ (mul_fit2 (by k_dflt omega) (by k_dflt omega))))
local macro_rules | `(tactic| walk_at "call ref") => `(tactic| (k_here; k_dflt (show wpAny _ _ (call (Value.ref 60) _) _ _ _); refine Stop.out ?_))
local macro_rules | `(tactic| walk_at "call ref") => `(tactic| (k_here; k_dflt (show wpAny _ _ (call (Value.ref 100) _) _ _ _); refine Stop.out ?_))
local macro_rules | `(tactic| walk_at "call ref") => `(tactic| (k_here; k_dflt (show wpAny _ _ (call (Value.ref 105) _) _ _ _); refine Stop.out ?_))
set_option maxRecDepth 100000 in
set_option maxHeartbeats 8000000 in
theorem plane_size_c {w : World} {mean : ExcName → Option Value} {mg mb : Str → Option Value} (f l : Addr) (refs : List Value) (sam : List (Int × Int)) (W Hh prec MA MD : Int) (i : Nat) (p : Int × Int) (ti : Tok) (hlen : sam.length < 100) (hi : sam[i]? = some p) (hA : IsMax MA (sam.map (·.1))) (hD : IsMax MD (sam.map (·.2)))
    (hp1 : 0 ≤ p.1 ∧ p.1 < 100) (hp2 : 0 ≤ p.2 ∧ p.2 < 100) (hA1 : 0 < MA ∧ MA < 100) (hD1 : 0 < MD ∧ MD < 100) :
    Sp w mean mg mb 10 (.ref 126) [.ref f, .int (i : Int) ti] [] (fun H => FrameAt H f l W Hh prec ∧ CompsAt H l refs sam) (fun _ v news' => ∃ t ta tb, v = .ref t ∧ news' = [(t, { cls := .type "tuple", data := .seq #[.int (cdiv (W * p.1) MA) ta, .int (cdiv (Hh * p.2) MD) tb] })]) := by
  unfold Sp
  k_fill
  intro dp un gd cn cs a ccd cl outer A₀ base h₀ L m s Q E B F X N T hk hd hu hp hret
  refine wpAny_call ?_
  k_dflt (refine' code_defG ?k1 ?k2 ?k3 ?k4 ?k5 ?kA ?kF ?kK ?k6 ?k7 ?k8 ?k9 ?kB ?_ ?c2 ?c3 ?c4 ?c5; (case kA => exact rfl); (case kF => exact rfl); (case kK => assumption); (case k1 => k_asm); (case k2 => k_asm); (case k3 => k_asm); (case k4 => k_asm); (case k5 => k_asm); (case k6 => k_is); (case k7 => k_is); (case k8 => ktr_room); (case k9 => exact BindsTo.of_eq rfl); (case c5 => decide); (case kB => exact locs rfl); (case c2 => exact rfl); (case c3 => exact rfl); (case c4 => exact rfl); k_whole; intro g' L' h' FG' F' N' B' X' T' kG'; (try dsimp only); (try k_lift B'); (try k_fold))
  have kp : ∀ p o, s.heap.get? p = some o → g'.get? p = some o := fun p o e => kG' p o e (fun q => nomatch q)
  obtain ⟨hF, hC⟩ := hp
  replace hF := hF.keep kp
  replace hC := hC.keep kp
  obtain ⟨fdx, fes, fk, tk1, tp, th, tw, tn, hf1, hf2, fa1, fa2, fa3, fa4, fa5, fa6, fa7, fa8, fa9⟩ := hF.ex
  obtain ⟨c, hc1, hc2⟩ := hC.at' i p hi
  obtain ⟨cdx, ces, ck, cti, cta, ctb, hcc1, hcc2, ca1, ca2, ca3⟩ := hc2.ex
  have hCl := hC.list
  have hib : i < 1000 := Nat.lt_trans (List.getElem?_eq_some_iff.mp hi).1 (Nat.lt_trans hlen (by decide))
  have hne : 0 < sam.length := Nat.lt_of_le_of_lt (Nat.zero_le _) (List.getElem?_eq_some_iff.mp hi).1
  k_steps
  refine Sp.use (most_across_e f l refs sam W Hh prec MA hA hlen) (by k_asm) (by k_asm) (by k_asm) (fun _ q => nomatch q) (by k_asm) (by first | exact rfl | assumption) (by ktr_room) (by ktr_units) (⟨hF.keep (Fr.keep (by k_asm)), hC.keep (Fr.keep (by k_asm))⟩) ?_
  rename News _ _ _ _ => nN
  rintro v' h' tk' news' ⟨t1, rfl, rfl⟩ F' N0' G' fr'
  have N' := news_keep nN G' (fun _ _ q => nomatch q)
  clear nN N0' G' fr'
  (try dsimp only)
  (try k_sweep)
  k_steps
  refine Sp.use (parts_c _ _ _ _ hA1.1 hA1.2) (by k_asm) (by k_asm) (by k_asm) (fun _ q => nomatch q) (by k_asm) (by first | exact rfl | assumption) (by ktr_room) (by ktr_units) (trivial) ?_
  rename News _ _ _ _ => nN
  rintro v' h' tk' news' ⟨t2, rfl, rfl⟩ F' N0' G' fr'
  have N' := news_keep nN G' (fun _ _ q => nomatch q)
  clear nN N0' G' fr'
  (try dsimp only)
  (try k_sweep)
  k_steps
  refine Sp.use (most_down_e f l refs sam W Hh prec MD hD hlen) (by k_asm) (by k_asm) (by k_asm) (fun _ q => nomatch q) (by k_asm) (by first | exact rfl | assumption) (by ktr_room) (by ktr_units) (⟨hF.keep (Fr.keep (by k_asm)), hC.keep (Fr.keep (by k_asm))⟩) ?_
  rename News _ _ _ _ => nN
  rintro v' h' tk' news' ⟨t3, rfl, rfl⟩ F' N0' G' fr'
  have N' := news_keep nN G' (fun _ _ q => nomatch q)
  clear nN N0' G' fr'
  (try dsimp only)
  (try k_sweep)
  k_steps
  refine Sp.use (parts_c _ _ _ _ hD1.1 hD1.2) (by k_asm) (by k_asm) (by k_asm) (fun _ q => nomatch q) (by k_asm) (by first | exact rfl | assumption) (by ktr_room) (by ktr_units) (trivial) ?_
  rename News _ _ _ _ => nN
  rintro v' h' tk' news' ⟨t4, rfl, rfl⟩ F' N0' G' fr'
  have N' := news_keep nN G' (fun _ _ q => nomatch q)
  clear nN N0' G' fr'
  (try dsimp only)
  (try k_sweep)
  k_steps
  exact hret _ _ _ _ ⟨_, _, _, rfl, rfl⟩ (by assumption) (by assumption) (sp_keep kG' (by assumption)) (sp_fresh kG' (by assumption))
end Mine
end
section
open PySem PySem.W PyProof.Rows PySem.Calls
namespace Mine
local macro_rules | `(tactic| k_room) => `(tactic| ktr_room)
local macro_rules | `(tactic| k_units) => `(tactic| ktr_units)
local macro_rules | `(tactic| passes_own) => `(tactic| exact PySem.PassesOwn.leaving)
local macro_rules | `(tactic| walk_at "exec For Tuple List cons nil") => `(tactic| (k_here; (rename Fr _ _ _ _ => lF'); (with_reducible refine' For_turns lF' ?h ?hs ?hE); k_dflt ((case hE => exact PySem.PassesOwn.leaving); (case hs => intro _; rfl))))
local macro_rules | `(tactic| walk_at "subscriptTail Name Constant ref int") => `(tactic| (k_here; (with_reducible show wpAny _ _ (subscriptTail _ _ (Value.ref _) (Value.int _ _)) _ _ _); k_dflt (first | ((with_reducible refine' item_0 ?k1 ?k2 ?_ ?k6); (case k1 => k_asm); (case k2 => k_mem); (case k6 => with_unfolding_all rfl); k_whole) | ((with_reducible refine' item_1 ?k1 ?k2 ?_ ?k6); (case k1 => k_asm); (case k2 => k_mem); (case k6 => with_unfolding_all rfl); k_whole))))
local macro_rules | `(tactic| k_qdec) => `(tactic| kernel_rfl)
local macro_rules | `(tactic| walk_at "eval ListComp") => `(tactic| (k_here; k_dflt (refine LCg.ListComp_U (F₀ := by k_asm) (by rfl) (by decide) (by rfl) (by decide) (by rfl) ?_)))
local macro_rules | `(tactic| walk_at "CompSrc") => `(tactic| (k_here; refine Stop.out ?_))
theorem news_two {h₀ h : Heap} {L a b : Addr} {o o' : Obj} {rest : Led} (N : News h₀ L h ((a, o) :: (b, o') :: rest)) : News h₀ L h [(a, o), (b, o')] := news_sub N fun p hp => by
  rcases List.mem_cons.mp hp with rfl | hp
  · exact .head _
  · rw [List.mem_singleton.mp hp]; exact .tail _ (.head _)
set_option maxRecDepth 100000 in
set_option maxHeartbeats 8000000 in
theorem blank_c {w : World} {mean : ExcName → Option Value} {mg mb : Str → Option Value} (x y : Int) (tx ty : Tok) (hx : 0 ≤ x ∧ x < 100) (hy : 0 ≤ y ∧ y < 100) :
    Sp w mean mg mb 10 (.ref 293) [.int x tx, .int y ty] [] (fun _ => True) (fun _ v news' => ∃ p dx es k ta tb, v = .ref p ∧ news' = [(p, instObj 204 dx), (dx, dictOf es k)] ∧ getL "width" es = some (some (.int x ta)) ∧ getL "height" es = some (some (.int y tb))) := by
  unfold Sp
  k_fill
  intro dp un gd cn cs a ccd cl outer A₀ base h₀ L m s Q E B F X N T hk hd hu hp hret
  have kG' : GSub s.heap s.heap (List.map (fun x => x.1) ([] : Led)) := fun _ _ e _ => e
  refine wpAny_call ?_
  k_dflt (refine' enter_c0 ?k1 ?k2 ?k3 ?k5 ?kA ?kF ?kK ?k6 ?k7 ?k8 ?k9 ?kB ?kD ?_ ?c2 ?c3 ?c4; (case kA => exact rfl); (case kF => exact rfl); (case kK => assumption); (case k1 => k_asm); (case k2 => k_asm); (case k3 => k_asm); (case k5 => k_asm); (case k6 => k_is); (case k7 => k_is); (case k8 => ktr_room); (case k9 => exact BindsTo.of_eq rfl); (case kB => exact rfl); (case kD => decide +kernel); (case c2 => exact rfl); (case c3 => exact rfl); (case c4 => exact rfl); k_whole; intro L' h' tk' cells' FG' F' N' Y' B' X' T'; k_cells Y'; (try dsimp only); (try k_lift B'); (try k_fold))
  k_steps
  refine LCg.CompSrc.range (n := (y - 0).toNat) rfl (by k_asm) (by k_asm) (by assumption) (small_one (by decide) (by decide) (by omega) (by omega)) (rangeSize_nat _ _) (by show _ ≤ 2 ^ 24; omega) ?_
  intro gg
  refine comp_ind (fun _ _ news => news = _) ?step ?fin _ 0 [] _ (Nat.zero_add _) rfl
  case step =>
    rintro i ys news hi rfl v I oI C oC D m₂ h tk E' ⟨tv, rfl⟩ hoC hm₂ FF NN off ne
    k_steps
    exact LCg.CompEnd.intro (by k_asm) (by k_asm) _ (by lcg_sub) off trivial rfl
  case fin =>
    rintro ys news rfl D h tk FF NN off
    k_steps
    rename News h₀ L _ _ => kN1
    rename News s.heap L' _ _ => kN2
    exact hret _ _ _ _ ⟨_, _, _, _, _, _, rfl, rfl, by k_get, by k_get⟩ (by assumption) (news_two kN1) (sp_keep kG' (by assumption)) (sp_fresh kG' (news_two kN2))
end Mine
end
section
open PySem PySem.W PyProof.Rows PySem.Calls
namespace Mine
section
variable {prog : Program} {w : World} {A : Around} {E : Value → Shared → Prop} {s : Shared} {g : Heap} {L l : Addr} {m : Str → Option Value}
theorem len_g {refs : List Value} {n : Nat} {Q : Value → Shared → Prop} (F : Fr g L s.heap m) (hl : g.IsList l refs.toArray) (hn : refs.length = n) (hb : n < 1000)
    (h : Q (.int (n : Nat) (s.toks + 1)) { s with toks := s.toks + 1 + 1 }) : wpAny (model prog w) A (call (.builtin "len") [.ref l]) Q E s := by
  have hl' : s.heap.IsList l refs.toArray := let ⟨o, ho, r⟩ := hl; ⟨o, F.keep _ _ ho, r⟩
  have e : refs.toArray.size = n := by rw [List.size_toArray, hn]
  refine Calls.call_len_list hl' (by omega) ?_
  rw [e]
  exact h
end
theorem reads_singles {h : Heap} : ∀ (ys : List Value) (k : Nat), (∀ (j : Nat) (v : Value), ys[j]? = some v → ∃ a t, v = .ref a ∧ h.get? a = some (listOf #[.int ((k + j : Nat) : Int) t] 0)) →
    ∃ as, ReadsAll h ys ((List.range' k ys.length).map fun (j : Nat) => PyData.list [.int (j : Int)]) as
  | [], _, _ => ⟨[], .nil⟩
  | y :: ys, k, H => by
    obtain ⟨a, t, e, ho⟩ := H 0 y rfl
    subst e
    obtain ⟨as, r⟩ := reads_singles ys (k + 1) fun j v hv => by
      obtain ⟨a, t, e, ho⟩ := H (j + 1) v (by simpa using hv)
      exact ⟨a, t, e, by rw [show k + 1 + j = k + (j + 1) by omega]; exact ho⟩
    rw [List.length_cons, List.range'_succ, List.map_cons]
    exact ⟨_, .cons (reads_list_at ho rfl rfl (.cons (.int _ _) .nil)) r⟩
theorem reads_ints {h : Heap} {a : Addr} {vs : List Value} {ns : List Int} {c : Nat} (ho : h.get? a = some (listOf vs.toArray c)) (hi : IntsAre vs ns) : Reads h (.ref a) (.list (ns.map PyData.int)) [a] :=
  reads_list_at ho rfl rfl (as := []) (by have := hi.reads h; simpa using this)
def wholeD (n : Nat) : PyData := .list [.list ((rangeKs 0 n).map PyData.int)]
def singlesD (n : Nat) : PyData := .list ((List.range' 0 n).map fun (j : Nat) => PyData.list [.int (j : Int)])
def scanD (n : Nat) (S : Int) : PyData := if (n : Int) ≤ 4 ∧ S ≤ 10 then wholeD n else singlesD n
def SinglesIn (news : Led) (ys : List Value) : Prop := ∀ (j : Nat) (v : Value), ys[j]? = some v → ∃ a t, v = .ref a ∧ (a, listOf #[.int (j : Int) t] 0) ∈ news
theorem SinglesIn.nil {news : Led} : SinglesIn news [] := fun j v e => by simp at e
theorem SinglesIn.snoc {news : Led} {ys : List Value} (h : SinglesIn news ys) {a : Addr} {t : Tok} {i : Nat} (hi : ys.length = i) : SinglesIn ((a, listOf #[.int (i : Int) t] 0) :: news) (ys ++ [.ref a]) := by
  intro j v e
  by_cases hj : j < ys.length
  · rw [List.getElem?_append_left hj] at e
    obtain ⟨a', t', e', hm⟩ := h j v e
    exact ⟨a', t', e', .tail _ hm⟩
  · have hj' : j = ys.length := by
      have := (List.getElem?_eq_some_iff.mp e).1
      rw [List.length_append, List.length_singleton] at this
      omega
    subst hj'
    rw [List.getElem?_append_right (Nat.le_refl _), Nat.sub_self] at e
    cases e
    rw [hi]
    exact ⟨a, t, rfl, .head _⟩
theorem SinglesIn.reads {h₀ h : Heap} {L D : Addr} {news : Led} {ys : List Value} (S : SinglesIn news ys) (N : News h₀ L h news) (hD : h.get? D = some (LCg.lst ys)) : ∃ as, Reads h (.ref D) (singlesD ys.length) as := by
  obtain ⟨as, r⟩ := reads_singles ys 0 fun j v e => by
    obtain ⟨a, t, e', hm⟩ := S j v e
    exact ⟨a, t, e', by rw [Nat.zero_add]; exact (N _ hm).1⟩
  exact ⟨_, reads_list_at hD rfl rfl r⟩
theorem sub4 {a b c d : Addr × Obj} {r : Led} : ∀ p ∈ a :: b :: c :: d :: r, p ∈ d :: a :: b :: c :: r := by
  intro p hp
  simp only [List.mem_cons] at hp ⊢
  rcases hp with h | h | h | h | h <;> simp [h]
theorem ints_step {f : Int × Int → Int} {sam : List (Int × Int)} {i : Nat} (hi : i < sam.length) {ys : List Value} (h : IntsAre ys ((sam.map f).take i)) (t : Tok) : IntsAre (ys ++ [.int (f sam[i]) t]) ((sam.map f).take (i + 1)) := by
  have e : (sam.map f).take (i + 1) = (sam.map f).take i ++ [f sam[i]] := by
    rw [List.take_add_one, List.getElem?_map, List.getElem?_eq_getElem hi]; rfl
  rw [e]
  exact h.append (.cons _ _ .nil)
theorem ints_all {f : Int × Int → Int} {sam : List (Int × Int)} {k : Nat} (hk : sam.length ≤ k) {ys : List Value} (h : IntsAre ys ((sam.map f).take k)) : IntsAre ys (sam.map f) := by
  rwa [List.take_of_length_le (by rw [List.length_map]; exact hk)] at h
theorem ref_of {refs : List Value} {i : Nat} {v : Value} {c : Addr} (hv : refs.toArray[i]? = some v) (hc : refs[i]? = some (Value.ref c)) : v = .ref c := by
  have : refs.toArray[i]? = refs[i]? := by simp
  rw [this, hc] at hv; exact (Option.some.inj hv).symm
local macro_rules | `(tactic| k_room) => `(tactic| ktr_room)
local macro_rules | `(tactic| k_units) => `(tactic| ktr_units)
local macro_rules | `(tactic| passes_own) => `(tactic| exact PySem.PassesOwn.leaving)
local macro_rules | `(tactic| walk_at "exec For Tuple List cons nil") => `(tactic| (k_here; (rename Fr _ _ _ _ => lF'); (with_reducible refine' For_turns lF' ?h ?hs ?hE); k_dflt ((case hE => exact PySem.PassesOwn.leaving); (case hs => intro _; rfl))))
local macro_rules | `(tactic| walk_at "subscriptTail Name Constant ref int") => `(tactic| (k_here; (with_reducible show wpAny _ _ (subscriptTail _ _ (Value.ref _) (Value.int _ _)) _ _ _); k_dflt (first | ((with_reducible refine' item_0 ?k1 ?k2 ?_ ?k6); (case k1 => k_asm); (case k2 => k_mem); (case k6 => with_unfolding_all rfl); k_whole) | ((with_reducible refine' item_1 ?k1 ?k2 ?_ ?k6); (case k1 => k_asm); (case k2 => k_mem); (case k6 => with_unfolding_all rfl); k_whole))))
local macro_rules | `(tactic| k_qdec) => `(tactic| kernel_rfl)
local macro_rules | `(tactic| walk_at "call builtin:len") => `(tactic| (k_here; (with_reducible show wpAny _ _ (call (Value.builtin "len") [Value.ref _]) _ _ _); k_dflt (refine len_g (by k_asm) (by assumption) (by assumption) (by omega) ?_)))
local macro_rules | `(tactic| walk_at "eval ListComp") => `(tactic| (k_here; k_dflt (refine LCg.ListComp_U (F₀ := by k_asm) (by rfl) (by decide) (by rfl) (by decide) (by rfl) ?_)))
local macro_rules | `(tactic| walk_at "CompSrc") => `(tactic| (k_here; refine Stop.out ?_))
local macro_rules | `(tactic| walk_at "getAttr ref") => `(tactic| (k_here; k_dflt (refine' attr_g ?k1 ?k2 ?k3 ?k4 ?k5 ?k6 ?k7 ?k8 ?k9 ?k10 ?_; (case k1 => k_asm); (case k2 => k_asm); (case k3 => assumption); (case k4 => assumption); (case k5 => k_is); (case k6 => k_is); (case k7 => k_is); (case k8 => k_is); (case k9 => assumption); (case k10 => k_handed); k_whole)))
local macro_rules | `(tactic| walk_at "binaryOp Mult int int") => `(tactic| (with_reducible refine mul_int ?_ (mul_fit2 (by k_dflt omega) (by k_dflt omega))))
set_option maxRecDepth 100000 in
set_option maxHeartbeats 8000000 in
theorem scan_c {w : World} {mean : ExcName → Option Value} {mg mb : Str → Option Value} (f l : Addr) (refs : List Value) (sam : List (Int × Int)) (W Hh prec : Int) (hlen : sam.length < 100) (hsm : ∀ p, p ∈ sam → 0 ≤ p.1 ∧ p.1 < 100 ∧ 0 ≤ p.2 ∧ p.2 < 100) :
    Sp w mean mg mb 10 (.ref 173) [.ref f] [] (fun H => FrameAt H f l W Hh prec ∧ CompsAt H l refs sam) (fun H v news' => (∃ as, Reads H v (scanD sam.length (sam.map (fun p => p.1 * p.2)).sum) as) ∧ news' = []) := by
  unfold Sp
  k_fill
  intro dp un gd cn cs a ccd cl outer A₀ base h₀ L m s Q E B F X N T hk hd hu hp hret
  refine wpAny_call ?_
  k_dflt (refine' code_defG ?k1 ?k2 ?k3 ?k4 ?k5 ?kA ?kF ?kK ?k6 ?k7 ?k8 ?k9 ?kB ?_ ?c2 ?c3 ?c4 ?c5; (case kA => exact rfl); (case kF => exact rfl); (case kK => assumption); (case k1 => k_asm); (case k2 => k_asm); (case k3 => k_asm); (case k4 => k_asm); (case k5 => k_asm); (case k6 => k_is); (case k7 => k_is); (case k8 => ktr_room); (case k9 => exact BindsTo.of_eq rfl); (case c5 => decide); (case kB => exact locs rfl); (case c2 => exact rfl); (case c3 => exact rfl); (case c4 => exact rfl); k_whole; intro g' L' h' FG' F' N' B' X' T' kG'; (try dsimp only); (try k_lift B'); (try k_fold))
  have kp : ∀ p o, s.heap.get? p = some o → g'.get? p = some o := fun p o e => kG' p o e (fun q => nomatch q)
  obtain ⟨hF, hC⟩ := hp
  replace hF := hF.keep kp
  replace hC := hC.keep kp
  obtain ⟨fdx, fes, fk, tk1, tp, th, tw, tn, hf1, hf2, fa1, fa2, fa3, fa4, fa5, fa6, fa7, fa8, fa9⟩ := hF.ex
  have hCl := hC.list
  have hCn := hC.len
  k_steps
  refine LCg.CompSrc.base rfl (by k_asm) (by k_asm) hCl (by rw [List.size_toArray, hCn]; exact Nat.le_trans (Nat.le_of_lt hlen) (by decide)) ?_
  intro gg
  refine comp_ind (fun i ys news => news = _ ∧ IntsAre ys ((sam.map (fun p => p.1 * p.2)).take i)) ?step ?fin _ 0 [] _ (Nat.zero_add _) ⟨rfl, IntsAre.nil⟩
  case step =>
    rintro i ys news hi ⟨rfl, hys⟩ v I oI C oC D m₂ h tk E' hv hoC hm₂ FF NN off ne
    have hi' : i < sam.length := by rw [List.size_toArray, hCn] at hi; exact hi
    obtain ⟨c, hc1, hc2⟩ := hC.at' i sam[i] (List.getElem?_eq_getElem hi')
    obtain ⟨cdx, ces, ck, cti, cta, ctb, hcc1, hcc2, ca1, ca2, ca3⟩ := hc2.ex
    cases ref_of hv hc1
    have hbd := hsm sam[i] (List.getElem_mem hi')
    k_steps
    exact LCg.CompEnd.intro FF NN _ (fun _ q => q) off (.inl hCl) ⟨rfl, ints_step hi' hys _⟩
  case fin =>
    rintro ys news ⟨rfl, hys⟩ D h tk FF NN off
    replace hys := ints_all (by rw [List.size_toArray, hCn]; exact Nat.le_refl _) hys
    have hrk : (((sam.length : Nat) : Int) - 0).toNat = sam.length := by omega
    k_steps
    · rename News h₀ L _ _ => kN1
      rename IntsAre _ (rangeKs _ _) => hRK
      rw [hrk] at hRK
      rename (((rangeKs _ _).length : Int) ≤ 4) => hle
      rw [rangeKs_length, hrk] at hle
      rename (_ ≤ (10 : Int)) => hS
      exact hret _ _ _ [] ⟨by rw [show scanD sam.length (sam.map (fun p => p.1 * p.2)).sum = wholeD sam.length from if_pos ⟨hle, hS⟩]; exact ⟨_, reads_list_at (kN1.get (.head _)) rfl rfl (.cons (reads_ints (kN1.get (.tail _ (.tail _ (.head _)))) hRK) .nil)⟩, rfl⟩ (by assumption) (fun _ q => nomatch q) (sp_keep kG' (by assumption)) (fun _ q => nomatch q)
    all_goals (
      rename IntsAre _ (rangeKs _ _) => hRK
      rw [hrk] at hRK
      have hno : ¬ (((sam.length : Nat) : Int) ≤ 4 ∧ (sam.map (fun p => p.1 * p.2)).sum ≤ 10) := by
        simp only [rangeKs_length] at *
        omega
      refine LCg.CompSrc.ledger rfl (by k_asm) (by k_asm) (by k_mem) (by rw [List.size_toArray, hRK.length, rangeKs_length]; exact Nat.le_trans (Nat.le_of_lt hlen) (by decide)) ?_
      intro gg2
      refine comp_indS (fun i ys news => ys.length = i ∧ SinglesIn news ys) ?step2 ?fin2 _ 0 [] _ (Nat.zero_add _) (.inr ⟨_, by k_mem, rfl, _, rfl⟩) ⟨rfl, SinglesIn.nil⟩
      case step2 =>
        rintro i ys news hi hS ⟨hyl, hys⟩ v I oI C oC D m₂ h tk E' hv hoC hm₂ FF NN off ne
        obtain ⟨k, t, rfl, hk2⟩ := hRK.at i v (by simpa using hv)
        have hk3 : k = (i : Int) := by
          unfold rangeKs at hk2
          rw [List.getElem?_map] at hk2
          have hi' : i < sam.length := by rw [List.size_toArray, hRK.length, rangeKs_length] at hi; exact hi
          rw [List.getElem?_range hi'] at hk2
          simpa using hk2.symm
        subst hk3
        k_steps
        exact LCg.CompEnd.intro (by k_asm) (by k_asm) _ sub4 ⟨⟨by k_ne, by k_ne, by k_ne⟩, off⟩ (srcAt_sub hS (fun _ q => .tail _ q)) ⟨by rw [List.length_append, hyl]; rfl, hys.snoc hyl⟩
      case fin2 =>
        rintro ys news hS ⟨hyl, hys⟩ D h tk FF NN off
        k_steps
        rename News h₀ L _ _ => kN1
        have hyn : ys.length = sam.length := by rw [hyl, List.size_toArray, hRK.length, rangeKs_length]
        exact hret _ _ _ [] ⟨by rw [show scanD sam.length (sam.map (fun p => p.1 * p.2)).sum = singlesD sam.length from if_neg hno, ← hyn]; exact hys.reads (news_sub kN1 fun _ q => .tail _ q) (kN1.get (.head _)), rfl⟩ (by assumption) (fun _ q => nomatch q) (sp_keep kG' (by assumption)) (fun _ q => nomatch q))
end Mine
end
section
open PySem PySem.W PyProof.Rows PySem.Calls
namespace Mine
local macro_rules | `(tactic| k_room) => `(tactic| ktr_room)
local macro_rules | `(tactic| k_units) => `(tactic| ktr_units)
local macro_rules | `(tactic| passes_own) => `(tactic| exact PySem.PassesOwn.leaving)
local macro_rules | `(tactic| walk_at "exec For Tuple List cons nil") => `(tactic| (k_here; (rename Fr _ _ _ _ => lF'); (with_reducible refine' For_turns lF' ?h ?hs ?hE); k_dflt ((case hE => exact PySem.PassesOwn.leaving); (case hs => intro _; rfl))))
local macro_rules | `(tactic| walk_at "subscriptTail Name Constant ref int") => `(tactic| (k_here; (with_reducible show wpAny _ _ (subscriptTail _ _ (Value.ref _) (Value.int _ _)) _ _ _); k_dflt (first | ((with_reducible refine' item_0 ?k1 ?k2 ?_ ?k6); (case k1 => k_asm); (case k2 => k_mem); (case k6 => with_unfolding_all rfl); k_whole) | ((with_reducible refine' item_1 ?k1 ?k2 ?_ ?k6); (case k1 => k_asm); (case k2 => k_mem); (case k6 => with_unfolding_all rfl); k_whole))))
local macro_rules | `(tactic| k_qdec) => `(tactic| kernel_rfl)
set_option maxRecDepth 100000 in
set_option maxHeartbeats 8000000 in
theorem tr_none {w : World} {mean : ExcName → Option Value} {mg mb : Str → Option Value} (x : Str) (t : Tok) (h : x = "grey" ∨ x = "raw") : Sp w mean mg mb 3 (.ref 154) [.str x t] [] (fun _ => True) (fun _ v news' => v = .none ∧ news' = []) := by
  rcases h with rfl | rfl
  all_goals (
    unfold Sp
    k_fill
    intro dp un gd cn cs a ccd cl outer A₀ base h₀ L m s Q E B F X N T hk hd hu hp hret
    refine wpAny_call ?_
    k_dflt (refine' code_defG ?k1 ?k2 ?k3 ?k4 ?k5 ?kA ?kF ?kK ?k6 ?k7 ?k8 ?k9 ?kB ?_ ?c2 ?c3 ?c4 ?c5; (case kA => exact rfl); (case kF => exact rfl); (case kK => assumption); (case k1 => k_asm); (case k2 => k_asm); (case k3 => k_asm); (case k4 => k_asm); (case k5 => k_asm); (case k6 => k_is); (case k7 => k_is); (case k8 => ktr_room); (case k9 => exact BindsTo.of_eq rfl); (case c5 => decide); (case kB => exact locs rfl); (case c2 => exact rfl); (case c3 => exact rfl); (case c4 => exact rfl); k_whole; intro g' L' h' FG' F' N' B' X' T' kG'; (try dsimp only); (try k_lift B'); (try k_fold))
    k_steps
    exact hret _ _ _ [] ⟨rfl, rfl⟩ (by assumption) (fun _ h => nomatch h) (sp_keep kG' (by assumption)) (fun _ h => nomatch h))
theorem get_int {v : Value} {d : PyData} {n : Int} (h : PyProof.V.Flat v d) (e : d = PyData.int n) : ∃ t, v = .int n t := PyProof.V.Flat.int_inv (e ▸ h)
local macro_rules | `(tactic| walk_at "call builtin:dict.get") => `(tactic| (k_here; k_dflt (show wpAny _ _ (call (Value.builtin "dict.get") _) _ _ _); refine Stop.out ?_))
set_option maxRecDepth 100000 in
set_option maxHeartbeats 8000000 in
theorem tr_rgb {w : World} {mean : ExcName → Option Value} {mg mb : Str → Option Value} (t : Tok) : Sp w mean mg mb 3 (.ref 154) [.str "rgb" t] [] (fun _ => True) (fun _ v news' => (∃ u, v = .int 0 u) ∧ news' = []) := by
  unfold Sp
  k_fill
  intro dp un gd cn cs a ccd cl outer A₀ base h₀ L m s Q E B F X N T hk hd hu hp hret
  refine wpAny_call ?_
  k_dflt (refine' code_defG ?k1 ?k2 ?k3 ?k4 ?k5 ?kA ?kF ?kK ?k6 ?k7 ?k8 ?k9 ?kB ?_ ?c2 ?c3 ?c4 ?c5; (case kA => exact rfl); (case kF => exact rfl); (case kK => assumption); (case k1 => k_asm); (case k2 => k_asm); (case k3 => k_asm); (case k4 => k_asm); (case k5 => k_asm); (case k6 => k_is); (case k7 => k_is); (case k8 => ktr_room); (case k9 => exact BindsTo.of_eq rfl); (case c5 => decide); (case kB => exact locs rfl); (case c2 => exact rfl); (case c3 => exact rfl); (case c4 => exact rfl); k_whole; intro g' L' h' FG' F' N' B' X' T' kG'; (try dsimp only); (try k_lift B'); (try k_fold))
  k_steps
  (first | (rename TabAt _ _ _ _ _ => dictLook) | (rename Obj.IsDictOf _ _ _ => dictLook))
  refine call_get1_strTab (by first | assumption | exact TabAt.ofFr (by assumption) (by assumption) | exact TabAt.ofNews (by assumption) (by first | exact .head _ | exact .tail _ (.head _)) (by assumption) (by assumption) (by assumption)) ?_
  intro v' hv'
  refine Exists.elim (get_int (n := 0) hv' (by kernel_rfl)) fun tf' ef' => ?_
  subst ef'
  k_steps
  exact hret _ _ _ [] ⟨⟨_, rfl⟩, rfl⟩ (by assumption) (fun _ h => nomatch h) (sp_keep kG' (by assumption)) (fun _ h => nomatch h)
set_option maxRecDepth 100000 in
set_option maxHeartbeats 8000000 in
theorem tr_ycc {w : World} {mean : ExcName → Option Value} {mg mb : Str → Option Value} (t : Tok) : Sp w mean mg mb 3 (.ref 154) [.str "ycc" t] [] (fun _ => True) (fun _ v news' => (∃ u, v = .int 1 u) ∧ news' = []) := by
  unfold Sp
  k_fill
  intro dp un gd cn cs a ccd cl outer A₀ base h₀ L m s Q E B F X N T hk hd hu hp hret
  refine wpAny_call ?_
  k_dflt (refine' code_defG ?k1 ?k2 ?k3 ?k4 ?k5 ?kA ?kF ?kK ?k6 ?k7 ?k8 ?k9 ?kB ?_ ?c2 ?c3 ?c4 ?c5; (case kA => exact rfl); (case kF => exact rfl); (case kK => assumption); (case k1 => k_asm); (case k2 => k_asm); (case k3 => k_asm); (case k4 => k_asm); (case k5 => k_asm); (case k6 => k_is); (case k7 => k_is); (case k8 => ktr_room); (case k9 => exact BindsTo.of_eq rfl); (case c5 => decide); (case kB => exact locs rfl); (case c2 => exact rfl); (case c3 => exact rfl); (case c4 => exact rfl); k_whole; intro g' L' h' FG' F' N' B' X' T' kG'; (try dsimp only); (try k_lift B'); (try k_fold))
  k_steps
  (first | (rename TabAt _ _ _ _ _ => dictLook) | (rename Obj.IsDictOf _ _ _ => dictLook))
  refine call_get1_strTab (by first | assumption | exact TabAt.ofFr (by assumption) (by assumption) | exact TabAt.ofNews (by assumption) (by first | exact .head _ | exact .tail _ (.head _)) (by assumption) (by assumption) (by assumption)) ?_
  intro v' hv'
  refine Exists.elim (get_int (n := 1) hv' (by kernel_rfl)) fun tf' ef' => ?_
  subst ef'
  k_steps
  exact hret _ _ _ [] ⟨⟨_, rfl⟩, rfl⟩ (by assumption) (fun _ h => nomatch h) (sp_keep kG' (by assumption)) (fun _ h => nomatch h)
set_option maxRecDepth 100000 in
set_option maxHeartbeats 8000000 in
theorem tr_cmyk {w : World} {mean : ExcName → Option Value} {mg mb : Str → Option Value} (t : Tok) : Sp w mean mg mb 3 (.ref 154) [.str "cmyk" t] [] (fun _ => True) (fun _ v news' => (∃ u, v = .int 0 u) ∧ news' = []) := by
  unfold Sp
  k_fill
  intro dp un gd cn cs a ccd cl outer A₀ base h₀ L m s Q E B F X N T hk hd hu hp hret
  refine wpAny_call ?_
  k_dflt (refine' code_defG ?k1 ?k2 ?k3 ?k4 ?k5 ?kA ?kF ?kK ?k6 ?k7 ?k8 ?k9 ?kB ?_ ?c2 ?c3 ?c4 ?c5; (case kA => exact rfl); (case kF => exact rfl); (case kK => assumption); (case k1 => k_asm); (case k2 => k_asm); (case k3 => k_asm); (case k4 => k_asm); (case k5 => k_asm); (case k6 => k_is); (case k7 => k_is); (case k8 => ktr_room); (case k9 => exact BindsTo.of_eq rfl); (case c5 => decide); (case kB => exact locs rfl); (case c2 => exact rfl); (case c3 => exact rfl); (case c4 => exact rfl); k_whole; intro g' L' h' FG' F' N' B' X' T' kG'; (try dsimp only); (try k_lift B'); (try k_fold))
  k_steps
  (first | (rename TabAt _ _ _ _ _ => dictLook) | (rename Obj.IsDictOf _ _ _ => dictLook))
  refine call_get1_strTab (by first | assumption | exact TabAt.ofFr (by assumption) (by assumption) | exact TabAt.ofNews (by assumption) (by first | exact .head _ | exact .tail _ (.head _)) (by assumption) (by assumption) (by assumption)) ?_
  intro v' hv'
  refine Exists.elim (get_int (n := 0) hv' (by kernel_rfl)) fun tf' ef' => ?_
  subst ef'
  k_steps
  exact hret _ _ _ [] ⟨⟨_, rfl⟩, rfl⟩ (by assumption) (fun _ h => nomatch h) (sp_keep kG' (by assumption)) (fun _ h => nomatch h)
set_option maxRecDepth 100000 in
set_option maxHeartbeats 8000000 in
theorem tr_ycck {w : World} {mean : ExcName → Option Value} {mg mb : Str → Option Value} (t : Tok) : Sp w mean mg mb 3 (.ref 154) [.str "ycck" t] [] (fun _ => True) (fun _ v news' => (∃ u, v = .int 2 u) ∧ news' = []) := by
  unfold Sp
  k_fill
  intro dp un gd cn cs a ccd cl outer A₀ base h₀ L m s Q E B F X N T hk hd hu hp hret
  refine wpAny_call ?_
  k_dflt (refine' code_defG ?k1 ?k2 ?k3 ?k4 ?k5 ?kA ?kF ?kK ?k6 ?k7 ?k8 ?k9 ?kB ?_ ?c2 ?c3 ?c4 ?c5; (case kA => exact rfl); (case kF => exact rfl); (case kK => assumption); (case k1 => k_asm); (case k2 => k_asm); (case k3 => k_asm); (case k4 => k_asm); (case k5 => k_asm); (case k6 => k_is); (case k7 => k_is); (case k8 => ktr_room); (case k9 => exact BindsTo.of_eq rfl); (case c5 => decide); (case kB => exact locs rfl); (case c2 => exact rfl); (case c3 => exact rfl); (case c4 => exact rfl); k_whole; intro g' L' h' FG' F' N' B' X' T' kG'; (try dsimp only); (try k_lift B'); (try k_fold))
  k_steps
  (first | (rename TabAt _ _ _ _ _ => dictLook) | (rename Obj.IsDictOf _ _ _ => dictLook))
  refine call_get1_strTab (by first | assumption | exact TabAt.ofFr (by assumption) (by assumption) | exact TabAt.ofNews (by assumption) (by first | exact .head _ | exact .tail _ (.head _)) (by assumption) (by assumption) (by assumption)) ?_
  intro v' hv'
  refine Exists.elim (get_int (n := 2) hv' (by kernel_rfl)) fun tf' ef' => ?_
  subst ef'
  k_steps
  exact hret _ _ _ [] ⟨⟨_, rfl⟩, rfl⟩ (by assumption) (fun _ h => nomatch h) (sp_keep kG' (by assumption)) (fun _ h => nomatch h)
set_option maxRecDepth 100000 in
set_option maxHeartbeats 8000000 in
theorem mo_none {w : World} {mean : ExcName → Option Value} {mg mb : Str → Option Value} (n : Int) (x : Str) (tn : Tok) (h : (n = 1 ∧ x = "grey") ∨ (n ≠ 1 ∧ x = "raw")) : Sp w mean mg mb 3 (.ref 161) [.int n tn, .none] [] (fun _ => True) (fun _ v news' => (∃ u, v = .str x u) ∧ news' = []) := by
  unfold Sp
  k_fill
  intro dp un gd cn cs a ccd cl outer A₀ base h₀ L m s Q E B F X N T hk hd hu hp hret
  refine wpAny_call ?_
  k_dflt (refine' code_defG ?k1 ?k2 ?k3 ?k4 ?k5 ?kA ?kF ?kK ?k6 ?k7 ?k8 ?k9 ?kB ?_ ?c2 ?c3 ?c4 ?c5; (case kA => exact rfl); (case kF => exact rfl); (case kK => assumption); (case k1 => k_asm); (case k2 => k_asm); (case k3 => k_asm); (case k4 => k_asm); (case k5 => k_asm); (case k6 => k_is); (case k7 => k_is); (case k8 => ktr_room); (case k9 => exact BindsTo.of_eq rfl); (case c5 => decide); (case kB => exact locs rfl); (case c2 => exact rfl); (case c3 => exact rfl); (case c4 => exact rfl); k_whole; intro g' L' h' FG' F' N' B' X' T' kG'; (try dsimp only); (try k_lift B'); (try k_fold))
  k_steps
  all_goals (
    rcases h with ⟨h1, rfl⟩ | ⟨h1, rfl⟩
    all_goals (first | (exfalso; omega) | exact hret _ _ _ [] ⟨⟨_, rfl⟩, rfl⟩ (by assumption) (fun _ h => nomatch h) (sp_keep kG' (by assumption)) (fun _ h => nomatch h)))
set_option maxRecDepth 100000 in
set_option maxHeartbeats 8000000 in
theorem mo_some {w : World} {mean : ExcName → Option Value} {mg mb : Str → Option Value} (n a : Int) (x : Str) (tn ta : Tok) (h : (n = 1 ∧ x = "grey") ∨ (n = 3 ∧ a = 0 ∧ x = "rgb") ∨ (n = 3 ∧ a ≠ 0 ∧ x = "ycc") ∨ (n = 4 ∧ a = 2 ∧ x = "ycck") ∨ (n = 4 ∧ a ≠ 2 ∧ x = "cmyk") ∨ (n ≠ 1 ∧ n ≠ 3 ∧ n ≠ 4 ∧ x = "raw")) :
    Sp w mean mg mb 3 (.ref 161) [.int n tn, .int a ta] [] (fun _ => True) (fun _ v news' => (∃ u, v = .str x u) ∧ news' = []) := by
  unfold Sp
  k_fill
  intro dp un gd cn cs a ccd cl outer A₀ base h₀ L m s Q E B F X N T hk hd hu hp hret
  refine wpAny_call ?_
  k_dflt (refine' code_defG ?k1 ?k2 ?k3 ?k4 ?k5 ?kA ?kF ?kK ?k6 ?k7 ?k8 ?k9 ?kB ?_ ?c2 ?c3 ?c4 ?c5; (case kA => exact rfl); (case kF => exact rfl); (case kK => assumption); (case k1 => k_asm); (case k2 => k_asm); (case k3 => k_asm); (case k4 => k_asm); (case k5 => k_asm); (case k6 => k_is); (case k7 => k_is); (case k8 => ktr_room); (case k9 => exact BindsTo.of_eq rfl); (case c5 => decide); (case kB => exact locs rfl); (case c2 => exact rfl); (case c3 => exact rfl); (case c4 => exact rfl); k_whole; intro g' L' h' FG' F' N' B' X' T' kG'; (try dsimp only); (try k_lift B'); (try k_fold))
  k_steps
  all_goals (
    rcases h with ⟨h1, rfl⟩ | ⟨h1, h2, rfl⟩ | ⟨h1, h2, rfl⟩ | ⟨h1, h2, rfl⟩ | ⟨h1, h2, rfl⟩ | ⟨h1, h2, h3, rfl⟩
    all_goals (first | (exfalso; omega) | exact hret _ _ _ [] ⟨⟨_, rfl⟩, rfl⟩ (by assumption) (fun _ h => nomatch h) (sp_keep kG' (by assumption)) (fun _ h => nomatch h)))
end Mine
end
section
open PySem PySem.W PyProof.Rows PySem.Calls
namespace Mine
local macro_rules | `(tactic| k_room) => `(tactic| ktr_room)
local macro_rules | `(tactic| k_units) => `(tactic| ktr_units)
local macro_rules | `(tactic| passes_own) => `(tactic| exact PySem.PassesOwn.leaving)
local macro_rules | `(tactic| walk_at "exec For Tuple List cons nil") => `(tactic| (k_here; (rename Fr _ _ _ _ => lF'); (with_reducible refine' For_turns lF' ?h ?hs ?hE); k_dflt ((case hE => exact PySem.PassesOwn.leaving); (case hs => intro _; rfl))))
local macro_rules | `(tactic| walk_at "subscriptTail Name Constant ref int") => `(tactic| (k_here; (with_reducible show wpAny _ _ (subscriptTail _ _ (Value.ref _) (Value.int _ _)) _ _ _); k_dflt (first | ((with_reducible refine' item_0 ?k1 ?k2 ?_ ?k6); (case k1 => k_asm); (case k2 => k_mem); (case k6 => with_unfolding_all rfl); k_whole) | ((with_reducible refine' item_1 ?k1 ?k2 ?_ ?k6); (case k1 => k_asm); (case k2 => k_mem); (case k6 => with_unfolding_all rfl); k_whole))))
local macro_rules | `(tactic| k_qdec) => `(tactic| kernel_rfl)
local macro_rules | `(tactic| walk_at "call ref") => `(tactic| (k_here; k_dflt ((show wpAny _ _ (call (Value.ref 154) [Value.str _ _]) _ _ _); (refine Sp.use (tr_none _ _ (by first | exact .inl rfl | exact .inr rfl)) (by k_asm) (by k_asm) (by k_asm) (fun _ q => nomatch q) (by k_asm) (by first | exact rfl | assumption) (by ktr_room) (by ktr_units) trivial ?_); (rename News _ _ _ _ => nN); (rintro v' h' tk' news' ⟨hv', hn'⟩ F' N0' G' fr'); (subst hv' hn'); (have N' := news_keep nN G' (fun _ _ q => nomatch q)); (clear nN N0' G' fr'); (try dsimp only); (try k_sweep))))
local macro_rules | `(tactic| walk_at "call ref") => `(tactic| (k_here; k_dflt ((show wpAny _ _ (call (Value.ref 154) [Value.str (Str.ofString "rgb") _]) _ _ _); (refine Sp.use (tr_rgb _) (by k_asm) (by k_asm) (by k_asm) (fun _ q => nomatch q) (by k_asm) (by first | exact rfl | assumption) (by ktr_room) (by ktr_units) trivial ?_); (rename News _ _ _ _ => nN); (rintro v' h' tk' news' ⟨⟨u', hv'⟩, hn'⟩ F' N0' G' fr'); (subst hv' hn'); (have N' := news_keep nN G' (fun _ _ q => nomatch q)); (clear nN N0' G' fr'); (try dsimp only); (try k_sweep))))
local macro_rules | `(tactic| walk_at "call ref") => `(tactic| (k_here; k_dflt ((show wpAny _ _ (call (Value.ref 154) [Value.str (Str.ofString "ycc") _]) _ _ _); (refine Sp.use (tr_ycc _) (by k_asm) (by k_asm) (by k_asm) (fun _ q => nomatch q) (by k_asm) (by first | exact rfl | assumption) (by ktr_room) (by ktr_units) trivial ?_); (rename News _ _ _ _ => nN); (rintro v' h' tk' news' ⟨⟨u', hv'⟩, hn'⟩ F' N0' G' fr'); (subst hv' hn'); (have N' := news_keep nN G' (fun _ _ q => nomatch q)); (clear nN N0' G' fr'); (try dsimp only); (try k_sweep))))
local macro_rules | `(tactic| walk_at "call ref") => `(tactic| (k_here; k_dflt ((show wpAny _ _ (call (Value.ref 154) [Value.str (Str.ofString "cmyk") _]) _ _ _); (refine Sp.use (tr_cmyk _) (by k_asm) (by k_asm) (by k_asm) (fun _ q => nomatch q) (by k_asm) (by first | exact rfl | assumption) (by ktr_room) (by ktr_units) trivial ?_); (rename News _ _ _ _ => nN); (rintro v' h' tk' news' ⟨⟨u', hv'⟩, hn'⟩ F' N0' G' fr'); (subst hv' hn'); (have N' := news_keep nN G' (fun _ _ q => nomatch q)); (clear nN N0' G' fr'); (try dsimp only); (try k_sweep))))
local macro_rules | `(tactic| walk_at "call ref") => `(tactic| (k_here; k_dflt ((show wpAny _ _ (call (Value.ref 154) [Value.str (Str.ofString "ycck") _]) _ _ _); (refine Sp.use (tr_ycck _) (by k_asm) (by k_asm) (by k_asm) (fun _ q => nomatch q) (by k_asm) (by first | exact rfl | assumption) (by ktr_room) (by ktr_units) trivial ?_); (rename News _ _ _ _ => nN); (rintro v' h' tk' news' ⟨⟨u', hv'⟩, hn'⟩ F' N0' G' fr'); (subst hv' hn'); (have N' := news_keep nN G' (fun _ _ q => nomatch q)); (clear nN N0' G' fr'); (try dsimp only); (try k_sweep))))
local macro_rules | `(tactic| walk_at "call ref") => `(tactic| (k_here; k_dflt ((show wpAny _ _ (call (Value.ref 161) [Value.int _ _, Value.none]) _ _ _); (refine Sp.use (mo_none _ _ _ (by first | exact .inl ⟨rfl, rfl⟩ | exact .inr ⟨by decide, rfl⟩)) (by k_asm) (by k_asm) (by k_asm) (fun _ q => nomatch q) (by k_asm) (by first | exact rfl | assumption) (by ktr_room) (by ktr_units) trivial ?_); (rename News _ _ _ _ => nN); (rintro v' h' tk' news' ⟨⟨u', hv'⟩, hn'⟩ F' N0' G' fr'); (subst hv' hn'); (have N' := news_keep nN G' (fun _ _ q => nomatch q)); (clear nN N0' G' fr'); (try dsimp only); (try k_sweep))))
local macro_rules | `(tactic| walk_at "call ref") => `(tactic| (k_here; k_dflt ((show wpAny _ _ (call (Value.ref 161) [Value.int _ _, Value.int _ _]) _ _ _); (refine Sp.use (mo_some _ _ _ _ _ (by first | exact .inl ⟨rfl, rfl⟩ | exact .inr (.inl ⟨rfl, rfl, rfl⟩) | exact .inr (.inr (.inl ⟨rfl, by decide, rfl⟩)) | exact .inr (.inr (.inr (.inl ⟨rfl, rfl, rfl⟩))) | exact .inr (.inr (.inr (.inr (.inl ⟨rfl, by decide, rfl⟩)))) | exact .inr (.inr (.inr (.inr (.inr ⟨by decide, by decide, by decide, rfl⟩)))))) (by k_asm) (by k_asm) (by k_asm) (fun _ q => nomatch q) (by k_asm) (by first | exact rfl | assumption) (by ktr_room) (by ktr_units) trivial ?_); (rename News _ _ _ _ => nN); (rintro v' h' tk' news' ⟨⟨u', hv'⟩, hn'⟩ F' N0' G' fr'); (subst hv' hn'); (have N' := news_keep nN G' (fun _ _ q => nomatch q)); (clear nN N0' G' fr'); (try dsimp only); (try k_sweep))))
local macro_rules | `(tactic| walk_at "pyIter ref") => `(tactic| (k_here; (with_reducible show wpAny _ _ (pyIter (Value.ref _)) (fun it s₂ => TurnsAt _ _ _ _ _ _ _ _ _ it s₂) _ _); ktu_seq))
local macro_rules | `(tactic| walk_at "execs cons") => `(tactic| (k_here; (with_reducible refine wpAny_execs_cons ?_); try dsimp only))
local macro_rules | `(tactic| walk_at "newList") => `(tactic| (k_here; k_dflt ((refine' newList_K ?k1 ?k2 ?_; (case k1 => k_asm); (case k2 => k_asm); k_whole); intro l' h' F' N' l1; (try k_lt l1); (try k_sweep))))
set_option maxRecDepth 100000 in
set_option maxHeartbeats 8000000 in
theorem models_c {w : World} {mean : ExcName → Option Value} {mg mb : Str → Option Value} :
    Sp w mean mg mb 5 (.ref 288) [] [] (fun _ => True) (fun _ v news' => v = .bool true ∧ news' = []) := by
  unfold Sp
  k_fill
  intro dp un gd cn cs a ccd cl outer A₀ base h₀ L m s Q E B F X N T hk hd hu hp hret
  refine wpAny_call ?_
  k_dflt (refine' code_defG ?k1 ?k2 ?k3 ?k4 ?k5 ?kA ?kF ?kK ?k6 ?k7 ?k8 ?k9 ?kB ?_ ?c2 ?c3 ?c4 ?c5; (case kA => exact rfl); (case kF => exact rfl); (case kK => assumption); (case k1 => k_asm); (case k2 => k_asm); (case k3 => k_asm); (case k4 => k_asm); (case k5 => k_asm); (case k6 => k_is); (case k7 => k_is); (case k8 => ktr_room); (case k9 => exact BindsTo.of_eq rfl); (case c5 => decide); (case kB => exact locs rfl); (case c2 => exact rfl); (case c3 => exact rfl); (case c4 => exact rfl); k_whole; intro g' L' h' FG' F' N' B' X' T' kG'; (try dsimp only); (try k_lift B'); (try k_fold))
  k_steps
  exact hret _ _ _ [] ⟨rfl, rfl⟩ (by assumption) (fun _ h => nomatch h) (sp_keep kG' (by assumption)) (fun _ h => nomatch h)
end Mine
end
section
open PySem PySem.W PyProof.Rows PySem.Calls
namespace Mine
set_option maxRecDepth 100000
open Sem (wp)
section
variable {M : Model} {A : Around} {E : Value → Shared → Prop} {h : Heap} {g : Array GenState} {d : Drawn} {t : Nat} {os : OsState}
variable {nm q : Str} {C N : Addr} {bs bm : List Value} {hdct : Bool} {sn : List Str} {sub : List Value} {ab : Bool} {col : Option Bool} {dd : Option Addr} {k0 k1 k2 k3 k5 : Option Value}
theorem oc_check_new (hB : bm.contains (.type "Exception") = true) {rest : List Value} {Q : Unit → Shared → Prop} (hC : h.get? C = some (excClassObj nm q C N bs bm hdct sn sub ab col dd k0 k1 k2 k3 k5 "Exception.__new__"))
    (hq : Q () ⟨h, g, d, t, os⟩) : wpAny M A (checkBuiltinCall "Exception.__new__" ⟨.ref C :: rest, []⟩) Q E ⟨h, g, d, t, os⟩ := by
  have F := PySem.F.excBase_Exception
  have hcont : (Value.ref C :: bm).contains (.type "Exception") = true := by rw [List.contains_cons, hB, Bool.or_true]
  have hstar := F.noStar
  simp only [checkBuiltinCall, F.newKind, F.newSplit, F.newRow]
  repeat (first | refine wpAny_loadPart_at hC ?_ | (refine wpAny_isSubtype_exc hC ?_; rw [hcont]) | refine wpAny_staticBase_exc hC ?_ | refine wpAny_madeBy_exc hC ?_ | simp only [bne_self_eq_false, Bool.false_eq_true, if_false] | wp_step)
  exact hq
theorem oc_check_init (hB : bm.contains (.type "Exception") = true) {e : Addr} {oe : Obj} {rest : List Value} {Q : Unit → Shared → Prop} (hC : h.get? C = some (excClassObj nm q C N bs bm hdct sn sub ab col dd k0 k1 k2 k3 k5 "Exception.__new__"))
    (he : h.get? e = some oe) (hcls : oe.cls = .ref C) (hq : Q () ⟨h, g, d, t, os⟩) :
    wpAny M A (checkBuiltinCall "Exception.__init__" ⟨.ref e :: rest, []⟩) Q E ⟨h, g, d, t, os⟩ := by
  have F := PySem.F.excBase_Exception
  have hcB : (Value.ref C :: bm).contains (.type "Exception") = true := by rw [List.contains_cons, hB, Bool.or_true]
  have hshort := F.noStar
  simp only [checkBuiltinCall, F.initKind, F.initSplit, F.initRow]
  repeat (first | (with_reducible refine wpAny_loadPart_at he ?_; rw [hcls]) | with_reducible refine wpAny_loadPart_at hC ?_ | (with_reducible refine wpAny_isSubtype_exc hC ?_; rw [hcB]) | wp_step)
  refine wpAny_onRaise ?_
  rw [show ∀ (a b : String) (n : Nat), Bind.check ⟨.positional, "*", "Exception", .self, [⟨"args", .varPos, false⟩]⟩ a b n (List.map (fun x => x.fst) ({ pos := Value.ref e :: rest } : Args).kw) = pure () from
    fun a b n => check_star_args _ _ _ _ _ _]
  exact wpAny_pure hq
end
section
variable {prog : Program} {w : World} {A : Around} {E : Value → Shared → Prop} {R : Result → Shared → Prop} {h : Heap} {g : Array GenState} {d : Drawn} {t : Nat} {os : OsState}
variable {nm q : Str} {C N : Addr} {bs bm : List Value} {hdct : Bool} {sn : List Str} {sub : List Value} {ab : Bool} {col : Option Bool} {dd : Option Addr} {k0 k1 k2 k3 k5 : Option Value}
theorem oc_newF {B newId initId : String} {bmB : List Value} (F : ExcBaseFacts B newId initId bmB) (hB : bm.contains (.type B) = true) (hA : bm.contains (.type "AttributeError") = false) (hN : bm.contains (.type "NameError") = false) {rest : List Value}
    (hC : h.get? C = some (excClassObj nm q C N bs bm hdct sn sub ab col dd k0 k1 k2 k3 k5 newId))
    (hq : R (.ok (.ret (.ref (h.objs.size + 1)))) ⟨(h.push { cls := .type "tuple", data := .seq rest.toArray }).push
      { cls := .ref C, data := .fields #[.ref h.objs.size, .none, .none, .none, .bool false, .none] }, g, d, t, os⟩) (hrest : rest.length ≤ sizeLine) :
    codeAny (model prog w) A (.builtin newId ⟨.ref C :: rest, []⟩) R ⟨h, g, d, t, os⟩ := by
  have hends := F.ends
  have hcB : (Value.ref C :: bm).contains (.type B) = true := by rw [List.contains_cons, hB, Bool.or_true]
  have hcA : (Value.ref C :: bm).contains (.type "AttributeError") = false := by rw [List.contains_cons, hA]; rfl
  have hcN : (Value.ref C :: bm).contains (.type "NameError") = false := by rw [List.contains_cons, hN]; rfl
  refine codeAny_builtinAt F.entry ?_
  unfold Builtin.«BaseException.__new__»
  refine PySem.wpAt_bind ?_
  show PySem.wpAt _ _ _ (stack >>= _) _ _ _
  refine PySem.wpAt_bind (PySem.wpAt_stack fun p below => PySem.wpAt_of_wpAny ?_)
  wp_walk
  refine PySem.wpAt_of_wpAny ?_
  rw [F.owner]
  repeat (first | with_reducible refine wpAny_madeHere_exc F.canon hC ?_ | with_reducible refine wpAny_loadPart_at hC ?_ | (with_reducible refine wpAny_isSubtype_exc hC ?_; first | rw [hcB] | rw [hcA] | rw [hcN]) | wp_step)
  show R _ _
  rw [Heap.size_push]
  exact hq
theorem oc_new (hB : bm.contains (.type "Exception") = true) (hA : bm.contains (.type "AttributeError") = false) (hN : bm.contains (.type "NameError") = false) {rest : List Value}
    (hC : h.get? C = some (excClassObj nm q C N bs bm hdct sn sub ab col dd k0 k1 k2 k3 k5 "Exception.__new__"))
    (hq : R (.ok (.ret (.ref (h.objs.size + 1)))) ⟨(h.push { cls := .type "tuple", data := .seq rest.toArray }).push
      { cls := .ref C, data := .fields #[.ref h.objs.size, .none, .none, .none, .bool false, .none] }, g, d, t, os⟩) (hrest : rest.length ≤ sizeLine) :
    codeAny (model prog w) A (.builtin "Exception.__new__" ⟨.ref C :: rest, []⟩) R ⟨h, g, d, t, os⟩ := oc_newF PySem.F.excBase_Exception hB hA hN hC hq hrest
theorem oc_type_call (hB : bm.contains (.type "Exception") = true) (hA : bm.contains (.type "AttributeError") = false) (hN : bm.contains (.type "NameError") = false) {rest : List Value} {fI : Addr} {oI : Obj} {Q : Fin → Shared → Prop}
    (hC : h.get? C = some (excClassObj nm q C N bs bm hdct sn sub ab col dd k0 k1 k2 k3 k5 "Exception.__new__")) (hL : Looks (model prog w) h (typeLookup (.ref C) "__init__") (some (.ref fI)))
    (hfI : h.get? fI = some oI) (hfc : oI.cls = .type "function")
    (hq : ∀ h' e, Heap.MadeExcOf h h' e (.ref C) rest →
      wpAny (model prog w) A (call (.ref fI) (.ref e :: rest)) (fun r s' => r = .none ∧ Q (.done (.ret (.ref e))) s') E ⟨h', g, d, t, os⟩) (hrest : rest.length ≤ sizeLine) :
    wpAny (model prog w) A (Builtin.«type.__call__» ⟨.ref C :: rest, []⟩) Q E ⟨h, g, d, t, os⟩ := by
  have F := PySem.F.excBase_Exception
  repeat (first | with_reducible refine wpAny_loadPart_at hC ?_ | with_reducible refine wpAny_madeBy_exc hC ?_ | wp_step)
  refine codeAny_call_builtin_code (Code.quiet_builtin _ F.quiet) (oc_check_new hB hC ?_)
  refine oc_new hB hA hN hC ?_ hrest
  show wpAny _ _ _ _ _ _
  have kp : ∀ b o, h.get? b = some o → ((h.push { cls := .type "tuple", data := .seq rest.toArray }).push { cls := .ref C, data := .fields #[.ref h.objs.size, .none, .none, .none, .bool false, .none] }).get? b = some o :=
    fun b o e => Heap.get?_push_of_some _ (Heap.get?_push_of_some _ e)
  have hC₁ := kp _ _ hC
  have hfI₁ := kp _ _ hfI
  have hget : ((h.push { cls := .type "tuple", data := .seq rest.toArray }).push
      { cls := .ref C, data := .fields #[.ref h.objs.size, .none, .none, .none, .bool false, .none] }).get? (h.objs.size + 1) = some
      { cls := .ref C, data := .fields #[.ref h.objs.size, .none, .none, .none, .bool false, .none] } := by heap_get
  have hcC : (Value.ref C :: bm).contains (.ref C) = true := by simp
  unfold isInstance
  repeat (first | with_reducible refine wpAny_loadPart_at hget ?_ | (with_reducible refine wpAny_isSubtype_exc hC₁ ?_; rw [hcC]) | wp_step)
  show wpAny _ _ (typeLookup (.ref C) _) _ _ _
  refine hL _ _ _ _ kp ?_
  refine wpAny_holding (wpAny_bind ?_)
  unfold bindSpecial
  refine wpAny_bind (wpAny_typeOf (T := "function") ⟨_, hfI₁, hfc⟩ ?_)
  rw [if_pos (by decide)]
  refine wpAny_pure (wpAny_bind (wpAny_mono (hq _ (h.objs.size + 1) ⟨kp, Heap.get?_none_of_le (Nat.le_succ _), h.objs.size, hget, Heap.get?_none_of_le (Nat.le_refl _), ?_⟩) (fun r s' hr => ?_) fun _ _ x => x))
  · exact Heap.get?_push_of_some _ (Heap.get?_push_at rfl rfl)
  · obtain ⟨rfl, hQ⟩ := hr
    wp_walk
    exact hQ
theorem oc_call (hB : bm.contains (.type "Exception") = true) (hA : bm.contains (.type "AttributeError") = false) (hN : bm.contains (.type "NameError") = false) {rest : List Value} {fI : Addr} {oI : Obj} {Q : Value → Shared → Prop}
    (hC : h.get? C = some (excClassObj nm q C N bs bm hdct sn sub ab col dd k0 k1 k2 k3 k5 "Exception.__new__")) (hL : Looks (model prog w) h (typeLookup (.ref C) "__init__") (some (.ref fI)))
    (hfI : h.get? fI = some oI) (hfc : oI.cls = .type "function")
    (hq : ∀ h' e, Heap.MadeExcOf h h' e (.ref C) rest →
      wpAny (model prog w) (A.under (.builtin "type.__call__" ⟨.ref C :: rest, []⟩)) (call (.ref fI) (.ref e :: rest)) (fun r s' => r = .none ∧ Q (.ref e) s') E ⟨h', g, d, t, os⟩) (hrest : rest.length ≤ sizeLine) :
    wpAny (model prog w) A (call (.ref C) rest) Q E ⟨h, g, d, t, os⟩ := by
  have f1 := tc_lookup
  have f2 := tc_bind (.ref C)
  have hT : (⟨h, g, d, t, os⟩ : Shared).TypeIs (.ref C) "type" := ⟨_, hC, rfl⟩
  refine wpAny_call (codeAny_of_tree ?_)
  show wpAny _ _ (callAny (.ref C) _) _ _ _
  repeat (any_goals (first | assumption | with_reducible refine wpAny_loadPart_at hC ?_ | wp_step))
  refine ⟨rfl, ?_⟩
  refine codeAny_call_builtin_at (Code.quiet_builtin _ (by decide +kernel)) entry_typeCall (wpAny_check_type_call_sub hC (oc_type_call (hrest := hrest) hB hA hN hC hL hfI hfc fun h' e hm => ?_))
  exact hq h' e hm
end
end Mine
end
section
open PySem PySem.W PyProof.Rows PySem.Calls
namespace Mine
set_option maxRecDepth 100000
open Sem (wp)
section
variable {prog : Program} {w : World} {A : Around} {E : Value → Shared → Prop} {h : Heap} {g : Array GenState} {d : Drawn} {t : Nat} {os : OsState}
variable {nm q : Str} {C N : Addr} {bs bm : List Value} {hdct : Bool} {sn : List Str} {sub : List Value} {ab : Bool} {col : Option Bool} {dd : Option Addr} {k0 k1 k2 k3 k5 : Option Value}
theorem oc_init {e t₀ : Addr} {v : Value} {Q : Value → Shared → Prop} (hB : bm.contains (.type "Exception") = true)
    (hC : h.get? C = some (excClassObj nm q C N bs bm hdct sn sub ab col dd k0 k1 k2 k3 k5 "Exception.__new__"))
    (he : h.get? e = some { cls := .ref C, data := .fields #[.ref t₀, .none, .none, .none, .bool false, .none] })
    (hq : ∀ h' t', h'.get? e = some { cls := .ref C, data := .fields #[.ref t', .none, .none, .none, .bool false, .none] } → (∀ b o, b ≠ e → h.get? b = some o → h'.get? b = some o) → Q .none ⟨h', g, d, t, os⟩) :
    wpAny (model prog w) A (call (.builtin "Exception.__init__") [.ref e, v]) Q E ⟨h, g, d, t, os⟩ := by
  have F := PySem.F.excBase_Exception
  refine wpAny_call (codeAny_call_builtin F.init.plain F.initEntry (oc_check_init hB hC he rfl ?_))
  wp_walk
  refine hq _ h.objs.size ?_ fun b o hb e' => ?_
  · rw [Heap.get?_update_self _ (Heap.get?_push_of_some _ he) rfl]
    rfl
  · rw [Heap.get?_update_other _ _ (Ne.symm hb)]
    exact Heap.get?_push_of_some _ e'
end
section
variable {prog : Program} {w : World} {A : Around} {E : Value → Shared → Prop} {s : Shared} {K : Frag} {x C C2 : Addr} {ox : Obj} {cd : ClassData} {name : Str} {v : Value}
theorem ex_osa {R : Result → Shared → Prop} {tk : Tok} (X : K.In s.heap) (hx : s.heap.get? x = some ox) (hcl : ox.cls = .ref C) (hno : notCls ox = true) (hdn : ox.dict = none) (hfr : ∀ dd, ({ ox with dict := dd } : Obj).isFreed = false)
    (hc : clsIn K C = some cd) (hmro : cd.mro = [.ref C, .ref C2, .type "Exception", .type "BaseException", .type "object"]) (hdct : cd.hasDict = true) (ha : findIn K (.ref C) name = some none)
    (h : ∀ h' tk', h'.get? x = some { ox with dict := some s.heap.objs.size } → (∀ b o, b ≠ x → s.heap.get? b = some o → h'.get? b = some o) → R (.ok (.ret .none)) { s with heap := h', toks := tk' }) :
    codeAny (model prog w) A (.call (.builtin "object.__setattr__") ⟨[.ref x, .str name tk, v], []⟩) R s := by
  have I : InstAt s.heap x ox C none := ⟨hx, hcl, hno, by rw [hdn]; trivial⟩
  have SF := PySem.F.store_object
  have sub : Looks (model prog w) s.heap (isInstance (.ref x) (.type "object")) true := I.type.andThen (looks_mroIn X (by unfold mroIn; rw [hc, Option.bind_some, hmro]; rfl))
  refine codeAny_call_builtin SF.slot.plain SF.entry (@check_slot (model prog w) _ _ s "object.__setattr__" "object" "__setattr__" (.ref x) [.str name tk, v] [] _ SF.kind SF.split sub (SF.args (.ref x) (.str name tk) v) ?_)
  have hm : Looks (model prog w) s.heap (mroOf (.ref C)) cd.mro := (looks_clsIn X hc).andThen .now
  have hcd : Looks (model prog w) s.heap (classData C) cd := looks_clsIn X hc
  rw [osa_eq, refuse_eq]
  refine wpAny_bind (wpAny_bind (I.type.here (wpAny_bind (hm.here ?_))))
  rw [hmro, refuseLoop_ref, refuseLoop_ref, PySem.F.store_Exception.passes]
  refine wpAny_pure (wpAny_bind (I.type.here (wpAny_bind ((looks_findIn X ha).here (wpAny_bind ?_)))))
  obtain ⟨hh, g, dr, t, os⟩ := s
  dsimp only at hx hcd h ⊢
  obtain ⟨oc, od, oda, osl⟩ := ox
  dsimp only at hcl hdn
  subst hcl hdn
  refine wpAny_pure ?_
  show wpAny _ _ (Builtin.ObjectAttr.storeInOwnDict _ _ _ _ _ _) _ _ _
  unfold Builtin.ObjectAttr.storeInOwnDict
  refine wpAny_bind (wpAny_pure ?_)
  show wpAny _ _ (instanceDict x true >>= _) _ _ _
  refine wpAny_bind ?_
  unfold instanceDict
  refine wpAny_bind (wpAny_loadPart_at hx ?_)
  dsimp only
  refine wpAny_bind (hcd.here ?_)
  simp only [hdct, Bool.not_true, Bool.false_eq_true, if_false]
  have hnc : ∀ c, oda ≠ .cls c := fun c q => by subst q; cases hno
  rw [if_neg (by simp [typeHasDict])]
  split
  · exact absurd rfl (hnc _)
  have hx₁ : (hh.push { cls := .type "dict", data := .dict #[] }).get? x = some { cls := .ref C, dict := none, data := oda, slots := osl } := Heap.get?_push_of_some _ hx
  have hxs : x ≠ hh.objs.size := Nat.ne_of_lt (Heap.lt_size hx)
  refine wpAny_bind (wpAny_alloc' ?_)
  refine wpAny_bind (wpAny_update' hx₁ ?_)
  refine wpAny_pure ?_
  have hgd : ((hh.push { cls := .type "dict", data := .dict #[] }).update x fun o => { cls := o.cls, dict := some hh.objs.size, data := o.data, slots := o.slots }).get? hh.objs.size
      = some { cls := .type "dict", data := .dict #[] } :=
    (Heap.get?_update_ne _ _ _ _ hxs.symm).trans (Heap.get?_push_at rfl rfl)
  have hnd : ((hh.push { cls := .type "dict", data := .dict #[] }).update x fun o => { cls := o.cls, dict := some hh.objs.size, data := o.data, slots := o.slots }).Ns hh.objs.size (fun _ => none) :=
    ⟨_, #[], _, hgd, rfl, fun e he => absurd he (by simp), fun _ => rfl⟩
  show wpAny _ _ (Builtin.ObjectAttr.storeInDict hh.objs.size (.str name tk) name v) _ _ _
  unfold Builtin.ObjectAttr.storeInDict Builtin.ObjectAttr.newKeyGuard
  refine wpAny_bind (wpAny_pure (wpAny_bind (wpAny_nsSet1 (Heap.Ns1.of_empty hnd) fun h' hn' hs => ?_)))
  obtain ⟨oD, esD, epD, hoD, hdD, hcD⟩ := hn'.count (Within.cons name v Within.nil)
  refine wpAny_bind (wpAny_lookBehind hoD (by rw [hdD]; exact pastItsLine_dict (Nat.le_trans hcD (by rw [List.length_cons, List.length_nil, sizeLine_eq]; omega))) ?_)
  refine wpAny_pure ?_
  refine h h' _ ((hs.2 x hxs).trans (Heap.get?_update_self _ hx₁ (hfr _))) fun b ob hbx hb => ?_
  exact (hs.2 b (Nat.ne_of_lt (Heap.lt_size hb))).trans ((Heap.get?_update_ne _ _ _ _ hbx).trans (Heap.get?_push_of_some _ hb))
theorem ex_set {Q : Unit → Shared → Prop} (X : K.In s.heap) (hx : s.heap.get? x = some ox) (hcl : ox.cls = .ref C) (hno : notCls ox = true) (hdn : ox.dict = none) (hfr : ∀ dd, ({ ox with dict := dd } : Obj).isFreed = false)
    (hs : findIn K (.ref C) "__setattr__" = some (some (.builtin "object.__setattr__")))
    (hc : clsIn K C = some cd) (hmro : cd.mro = [.ref C, .ref C2, .type "Exception", .type "BaseException", .type "object"]) (hdct : cd.hasDict = true) (ha : findIn K (.ref C) name = some none)
    (h : ∀ h' tk', h'.get? x = some { ox with dict := some s.heap.objs.size } → (∀ b o, b ≠ x → s.heap.get? b = some o → h'.get? b = some o) → Q () { s with heap := h', toks := tk' }) :
    wpAny (model prog w) A (setAttr (.ref x) name v) Q E s :=
  set_plain (od := none) X ⟨hx, hcl, hno, by rw [hdn]; trivial⟩ hs (ex_osa (s := { s with toks := s.toks + 1 }) X hx hcl hno hdn hfr hc hmro hdct ha h)
end
end Mine
end
section
open PySem PySem.W PyProof.Rows PySem.Calls
namespace Mine
set_option maxRecDepth 100000
local macro_rules | `(tactic| k_room) => `(tactic| ktr_room)
local macro_rules | `(tactic| k_units) => `(tactic| ktr_units)
local macro_rules | `(tactic| passes_own) => `(tactic| exact PySem.PassesOwn.leaving)
local macro_rules | `(tactic| walk_at "exec For Tuple List cons nil") => `(tactic| (k_here; (rename Fr _ _ _ _ => lF'); (with_reducible refine' For_turns lF' ?h ?hs ?hE); k_dflt ((case hE => exact PySem.PassesOwn.leaving); (case hs => intro _; rfl))))
local macro_rules | `(tactic| walk_at "subscriptTail Name Constant ref int") => `(tactic| (k_here; (with_reducible show wpAny _ _ (subscriptTail _ _ (Value.ref _) (Value.int _ _)) _ _ _); k_dflt (first | ((with_reducible refine' item_0 ?k1 ?k2 ?_ ?k6); (case k1 => k_asm); (case k2 => k_mem); (case k6 => with_unfolding_all rfl); k_whole) | ((with_reducible refine' item_1 ?k1 ?k2 ?_ ?k6); (case k1 => k_asm); (case k2 => k_mem); (case k6 => with_unfolding_all rfl); k_whole))))
local macro_rules | `(tactic| k_qdec) => `(tactic| kernel_rfl)
theorem fr_off {h₀ h h' : Heap} {L x : Addr} {m : Str → Option Value} (F : Fr h₀ L h m) (hL : x ≠ L) (hn : h₀.get? x = none) (k : ∀ b o, b ≠ x → h.get? b = some o → h'.get? b = some o) : Fr h₀ L h' m := by
  obtain ⟨oL, es, ep, e, r⟩ := F.ns
  exact ⟨⟨oL, es, ep, k _ _ (Ne.symm hL) e, r⟩, fun b o e => k _ _ (fun q => by rw [q, hn] at e; cases e) (F.keep _ _ e), F.above⟩
theorem fr_more {h₀ h h' : Heap} {L : Addr} {m : Str → Option Value} (F : Fr h₀ L h m) (k : ∀ b o, h.get? b = some o → h'.get? b = some o) : Fr h₀ L h' m := by
  obtain ⟨oL, es, ep, e, r⟩ := F.ns
  exact ⟨⟨oL, es, ep, k _ _ e, r⟩, fun b o e => k _ _ (F.keep _ _ e), F.above⟩
abbrev excO (C : Addr) (d : Option Addr) (t : Addr) : Obj := { cls := .ref C, dict := d, data := .fields #[.ref t, .none, .none, .none, .bool false, .none] }

local macro_rules | `(tactic| walk_at "call builtin:Exception.__init__") => `(tactic| (k_here; refine Stop.out ?_))
local macro_rules | `(tactic| walk_at "setAttr ref") => `(tactic| (k_here; refine Stop.out ?_))
set_option maxRecDepth 100000 in
set_option maxHeartbeats 8000000 in
theorem range_err_c {w : World} {mean : ExcName → Option Value} {mg mb : Str → Option Value} (msg : Str) (tm : Tok) :
    Sp w mean mg mb 5 (.ref 51) [.str msg tm] [] (fun _ => True) (fun _ v news' => ∃ e d t, v = .ref e ∧ news' = [(e, excO 51 (some d) t)]) := by
  unfold Sp
  k_fill
  intro dp un gd cn cs a ccd cl outer A₀ base h₀ L m s Q E B F X N T hk hd hu hp hret
  obtain ⟨hp0, g0, d0, t0, os0⟩ := s
  refine oc_call (fI := 35) (bm := [.ref 38, .type "Exception", .type "BaseException", .type "object"]) (by decide) (by decide) (by decide) (F.keep _ _ (X 51 _ rfl)) (looks_findIn (X.keeps F.keep) (by k_is)) (F.keep _ _ (X 35 _ rfl)) rfl ?_ (by show 1 ≤ sizeLine; rw [sizeLine_eq]; decide)
  intro hh e hm
  dsimp only at F N hret
  have F1 : Fr h₀ L hh m := fr_more F hm.keeps
  obtain ⟨t1, he1, ht1, htt⟩ := hm.there
  have eL : e ≠ L := fun q => by
    obtain ⟨oL, es, ep, x, r⟩ := F.ns
    rw [← q, hm.new] at x; cases x
  have e0 : h₀.get? e = none := by
    cases q : h₀.get? e with
    | none => rfl
    | some o => have := F.keep _ _ q; rw [hm.new] at this; cases this
  have N1 : News h₀ L hh [(e, excO 51 none t1)] := fun p hp => by
    rw [List.mem_singleton.mp hp]; exact ⟨he1, eL, e0⟩
  have fresh := hm.new
  have keep := hm.keeps
  clear F N hm ht1 htt
  refine wpAny_call ?_
  k_dflt (refine' code_defG ?k1 ?k2 ?k3 ?k4 ?k5 ?kA ?kF ?kK ?k6 ?k7 ?k8 ?k9 ?kB ?_ ?c2 ?c3 ?c4 ?c5; (case kA => exact rfl); (case kF => exact rfl); (case kK => assumption); (case k1 => k_asm); (case k2 => k_asm); (case k3 => k_asm); (case k4 => k_asm); (case k5 => k_asm); (case k6 => k_is); (case k7 => k_is); (case k8 => ktr_room); (case k9 => exact BindsTo.of_eq rfl); (case c5 => decide); (case kB => exact locs rfl); (case c2 => exact rfl); (case c3 => exact rfl); (case c4 => exact rfl); k_whole; intro g' L' h' FG' F' N' B' X' T' kG'; (try dsimp only); (try k_lift B'); (try k_fold))
  k_steps
  refine' method_type ?F ?X ?m (by decide +kernel) ?e ?h ?_
  case F => k_asm
  case X => k_asm
  case m => first | exact meta_Exception | (simp only [typeOf]; kernel_rfl) | kernel_rfl
  case e => k_dflt k_is
  case h => k_handed
  k_steps
  rename Fr g' L' _ _ => FF
  rename News g' L' _ _ => NN
  rename Frag.In _ g' => XX
  refine oc_init (C := 51) (bm := [.ref 38, .type "Exception", .type "BaseException", .type "object"]) (by decide) (FF.keep _ _ (XX 51 _ rfl)) (NN.get (.head _)) ?_
  intro h2 t2 he2 k2
  have F2 := fr_off FF (NN _ (.head _)).2.1 (NN _ (.head _)).2.2 k2
  have N2 : News g' L' h2 [(e, excO 51 none t2)] := fun p hp => by
    rw [List.mem_singleton.mp hp]; exact ⟨he2, (NN _ (.head _)).2⟩
  have k12 := fun b o (q : hh.get? b = some o) (n : b ≠ e) => k2 b o n (FF.keep _ _ (kG' b o q (by simpa using n)))
  clear k2 FF NN he2
  k_steps
  rename Fr g' L' _ _ => FF
  rename News g' L' _ _ => NN
  refine ex_set (C := 51) (C2 := 38) (XX.keeps FF.keep) (NN.get (.head _)) rfl rfl rfl (fun _ => rfl) (by k_is) rfl rfl rfl (by k_is) ?_
  dsimp only
  intro h3 tk3 he3 k3
  have F3 := fr_off FF (NN _ (.head _)).2.1 (NN _ (.head _)).2.2 k3
  have N3 : News g' L' h3 [(e, excO 51 (some h2.objs.size) t2)] := fun p hp => by
    rw [List.mem_singleton.mp hp]; exact ⟨he3, (NN _ (.head _)).2⟩
  have k13 := fun b o (q : hh.get? b = some o) (n : b ≠ e) => k3 b o n (k12 b o q n)
  clear k3 k12 FF NN he3
  k_steps
  exact hret _ h3 tk3 _ ⟨_, _, _, rfl, rfl⟩ (by assumption) (by assumption) (fun b o q _ => k13 b o (keep b o q) (fun z => by rw [z, fresh] at q; cases q)) (fun p hp => .inr (by rw [List.mem_singleton.mp hp]; exact fresh))
end Mine
end
section
open PySem PySem.W PyProof.Rows PySem.Calls
namespace Mine
set_option maxRecDepth 100000
section
variable {M : Model} {A : Around} {E : Value → Shared → Prop} {env : Env} {s : Shared}
variable {nm q : Str} {C N : Addr} {bs bm : List Value} {hdct : Bool} {sn : List Str} {sub : List Value} {ab : Bool} {col : Option Bool} {dd : Option Addr} {k0 k1 k2 k3 k5 : Option Value} {newId : String}
theorem raise_inst {x : Sem Value} {Q : Flow → Shared → Prop} (hbase : bm.contains (.type "BaseException") = true) (hh : A.handled = none)
    (h : wpAny M A x (fun v s₁ => ∃ e d t, v = .ref e ∧ s₁.heap.get? C = some (excClassObj nm q C N bs bm hdct sn sub ab col dd k0 k1 k2 k3 k5 newId) ∧ s₁.heap.get? e = some (excO C d t) ∧ E (.ref e) s₁) E s) :
    wpAny M A (raiseStmt env (some x) none) Q E s := by
  have hcB : (Value.ref C :: bm).contains (.type "BaseException") = true := by rw [List.contains_cons, hbase, Bool.or_true]
  unfold raiseStmt
  refine wpAny_bind (wpAny_mono h (fun v s₁ h₁ => ?_) fun _ _ x => x)
  obtain ⟨e, d', t, rfl, hC, he, hE⟩ := h₁
  obtain ⟨hp, g, d, tk, os⟩ := s₁
  repeat (first | with_reducible refine wpAny_loadPart_at he ?_ | with_reducible refine wpAny_loadPart_at hC ?_ | (with_reducible refine wpAny_isSubtype_exc hC ?_; rw [hcB]) | wp_step)
  exact wpAny_raiseNew_none hh hE
theorem raise_own {prog : Program} {w : World} {g : Heap} {x : Str} {np cpos pos : Pos} {args : List PySem.Expr} {Q : Flow → Shared → Prop} (hC0 : g.get? C = some (excClassObj nm q C N bs bm hdct sn sub ab col dd k0 k1 k2 k3 k5 newId)) (hbase : bm.contains (.type "BaseException") = true) (hh : A.handled = none)
    (h : wpAny (model prog w) A (eval (.Call (.Name x np) args [] cpos) env) (fun v s₁ => ∃ e d t, v = .ref e ∧ (∀ b o, g.get? b = some o → s₁.heap.get? b = some o) ∧ s₁.heap.get? e = some (excO C d t) ∧ E (.ref e) s₁) E s) :
    wpAny (model prog w) A (exec (.Raise (some (.Call (.Name x np) args [] cpos)) none pos) env) Q E s := by
  rw [arm_exec_Raise]
  exact wpAny_bind (wpAny_standAt (raise_inst hbase hh (wpAny_bind (wpAny_mono h (fun v s₁ ⟨e, d, t, h1, h2, h3⟩ => wpAny_bind (wpAny_standAt (wpAny_pure ⟨e, d, t, h1, h2 _ _ hC0, h3⟩))) fun _ _ z => z))))
end
section
variable {M : Model} {A : Around} {E : Value → Shared → Prop} {s' : Shared} {base g : Heap} {outer : List Env} {L a e C t : Addr} {d : Option Addr} {m : Str → Option Value} {name : Str} {scope : Scope} {cd : Value} {Q : Unit → Shared → Prop} {news : List (Addr × Obj)}
theorem leave_own (K : Below A base outer g) (F : Fr g L s'.heap m) (he : s'.heap.get? e = some (excO C d t)) (e0 : g.get? e = none) (N : News g L s'.heap news) (off : ∀ p ∈ news, p.1 ≠ e)
    (hQ : ∀ h', RaisedSN base g outer e (.ref C) news h' → g.UpToSlots h' → Q () { s' with heap := h' }) (hk : scope.kind = .function := by rfl) :
    wpAny M (A.deeper (envOf name scope L a cd)) (leaving (envOf name scope L a cd) (.ref e)) Q E s' := by
  have K' := K.push (name := name) (a := a) (cd := cd) F hk
  have hin : ∀ env ∈ (envOf name scope L a cd :: outer), ∀ b, env.frame = some b → b ∈ e :: (envOf name scope L a cd :: outer).filterMap (·.frame) := fun env he b hb => .tail _ (List.mem_filterMap.mpr ⟨env, he, hb⟩)
  have b0 : base.get? e = none := fresh_of_stays K.stays e0
  have st : base.StaysIn (hideAll s'.heap (e :: (envOf name scope L a cd :: outer).filterMap (·.frame))) := fun b o q => hideAll_get _ (K'.stays b o q) fun hm => by
    rcases List.mem_cons.mp hm with z | hm
    · rw [z, b0] at q; cases q
    · rw [(K'.frames.mem hm).1] at q; cases q
  have sg : ∀ b o, g.get? b = some o → b ∉ outer.filterMap (·.frame) → (hideAll s'.heap (e :: (envOf name scope L a cd :: outer).filterMap (·.frame))).get? b = some o := fun b o q nm => hideAll_get _ (F.keep b o q) fun hm => by
    rcases List.mem_cons.mp hm with z | hm
    · rw [z, e0] at q; cases q
    · rcases kts_mem hm with z | z
      · rw [z, kts_self F] at q
        cases q
      · exact nm z
  have hl : ∀ q ∈ news, (hideAll s'.heap (e :: (envOf name scope L a cd :: outer).filterMap (·.frame))).get? q.1 = some q.2 ∧ g.get? q.1 = none ∧ base.get? q.1 = none := fun q hq => by
    refine ⟨hideAll_get _ (N q hq).1 fun hm => ?_, (N q hq).2.2, fresh_of_stays K.stays (N q hq).2.2⟩
    rcases List.mem_cons.mp hm with z | hm
    · exact off q hq z
    obtain ⟨env, he, hf⟩ := List.mem_filterMap.mp hm
    rcases List.mem_cons.mp he with rfl | he
    · exact (N q hq).2.1 (Option.some.inj hf).symm
    · obtain ⟨o, ho, _⟩ := (K.frames.mem (List.mem_filterMap.mpr ⟨env, he, hf⟩)).2
      rw [(N q hq).2.2] at ho; cases ho
  have hen : (hideAll s'.heap (e :: (envOf name scope L a cd :: outer).filterMap (·.frame))).get? e = none := hideAll_none _ (.head _)
  refine wpAny_leaving_firstW (a0 := .ref t) K'.stack (funFrames_hide K'.frames hin) rfl he (fun b o hb => of_hideAll _ hb) hen rfl rfl rfl fun h' hL => ?_
  obtain ⟨k1, ⟨_, _, k2⟩, k3, k4⟩ := hL
  exact hQ h' ⟨_, .ref t, st, sg, hl, k1, hen, k2, k3⟩ ((Heap.UpToSlots.of_keeps F.keep).trans k4)
end
end Mine
end
section
open PySem PySem.W PyProof.Rows PySem.Calls
namespace Mine
def SpN (w : World) (mean : ExcName → Option Value) (mg mb : Str → Option Value) (k : Nat) (f : Value) (args : List Value) (Post : Value → Led → Prop) : Prop :=
  ∀ (dp un : Nat) (gd : Option (List Code)) (cn : Str) (cs : Scope) (a : Addr) (ccd : Value) (cl : List (Str × Addr)) (outer : List Env) (A₀ : Around) (base h₀ : Heap) (L : Addr) (m : Str → Option Value) (news : Led) (s : Shared) (Q E : Value → Shared → Prop),
    Below A₀ base outer h₀ → Fr h₀ L s.heap m → (hd.heap_1 w.params).In h₀ → News h₀ L s.heap news → Top vw (looseW vw []) mean mg mb h₀ → cs.kind = .function → dp + k < recursionLimit → un + 8 * k < cLine →
    (∀ (v : Value) (h' : Heap) (tk' : Nat) (new' : Led), Post v new' → Fr h₀ L h' m → News h₀ L h' (new' ++ news) → (∀ p ∈ new', ∀ q ∈ news, q.1 ≠ p.1) → Q v { s with heap := h', toks := tk' }) →
    wpAny (model PySem.Challenge.rw_nz0247_01.row.prog w) (ktrTop dp un gd cn cs L a ccd cl outer) (call f args) Q E s
theorem SpN.use {w : World} {mean : ExcName → Option Value} {mg mb : Str → Option Value} {k : Nat} {f : Value} {args : List Value} {Post : Value → Led → Prop}
    {dp un : Nat} {gd : Option (List Code)} {cn : Str} {cs : Scope} {a : Addr} {ccd : Value} {cl : List (Str × Addr)} {outer : List Env} {A₀ : Around} {base h₀ : Heap} {L : Addr} {m : Str → Option Value} {news : Led} {s : Shared} {Q E : Value → Shared → Prop}
    (C : SpN w mean mg mb k f args Post) (B : Below A₀ base outer h₀) (F : Fr h₀ L s.heap m) (X : (hd.heap_1 w.params).In h₀) (N : News h₀ L s.heap news) (T : Top vw (looseW vw []) mean mg mb h₀) (hk : cs.kind = .function) (hd' : dp + k < recursionLimit) (hu : un + 8 * k < cLine)
    (hret : ∀ (v : Value) (h' : Heap) (tk' : Nat) (new' : Led), Post v new' → Fr h₀ L h' m → News h₀ L h' (new' ++ news) → (∀ p ∈ new', ∀ q ∈ news, q.1 ≠ p.1) → Q v { s with heap := h', toks := tk' }) :
    wpAny (model PySem.Challenge.rw_nz0247_01.row.prog w) (ktrTop dp un gd cn cs L a ccd cl outer) (call f args) Q E s :=
  C dp un gd cn cs a ccd cl outer A₀ base h₀ L m news s Q E B F X N T hk hd' hu hret
local macro_rules | `(tactic| k_room) => `(tactic| ktr_room)
local macro_rules | `(tactic| k_units) => `(tactic| ktr_units)
local macro_rules | `(tactic| passes_own) => `(tactic| exact PySem.PassesOwn.leaving)
local macro_rules | `(tactic| walk_at "exec For Tuple List cons nil") => `(tactic| (k_here; (rename Fr _ _ _ _ => lF'); (with_reducible refine' For_turns lF' ?h ?hs ?hE); k_dflt ((case hE => exact PySem.PassesOwn.leaving); (case hs => intro _; rfl))))
local macro_rules | `(tactic| walk_at "subscriptTail Name Constant ref int") => `(tactic| (k_here; (with_reducible show wpAny _ _ (subscriptTail _ _ (Value.ref _) (Value.int _ _)) _ _ _); k_dflt (first | ((with_reducible refine' item_0 ?k1 ?k2 ?_ ?k6); (case k1 => k_asm); (case k2 => k_mem); (case k6 => with_unfolding_all rfl); k_whole) | ((with_reducible refine' item_1 ?k1 ?k2 ?_ ?k6); (case k1 => k_asm); (case k2 => k_mem); (case k6 => with_unfolding_all rfl); k_whole))))
local macro_rules | `(tactic| k_qdec) => `(tactic| kernel_rfl)
local macro_rules | `(tactic| k_all) => `(tactic| assumption)
set_option maxRecDepth 100000 in
set_option maxHeartbeats 8000000 in
theorem comp_c {w : World} {mean : ExcName → Option Value} {mg mb : Str → Option Value} (i x y z : Int) (ti tx ty tz : Tok) :
    SpN w mean mg mb 5 (.ref 77) [.int i ti, .int x tx, .int y ty, .int z tz] (fun v news' => ∃ c dx es k ta tb tc, v = .ref c ∧ news' = [(c, instObj 77 dx), (dx, dictOf es k)] ∧ getL "ident" es = some (some (.int i ta)) ∧ getL "across" es = some (some (.int x tb)) ∧ getL "down" es = some (some (.int y tc))) := by
  unfold SpN
  k_fill
  intro dp un gd cn cs a ccd cl outer A₀ base h₀ L m news s Q E B F X N T hk hd hu hret
  refine call_cls F X N (by k_is) (by k_is) (by k_is) ?_
  intro c dx h1 F1 N1 lt1 lt2
  have ne1 : ∀ p ∈ news, p.1 ≠ dx := fun p hp => Nat.ne_of_lt (lt1 p hp)
  have ne2 : ∀ p ∈ news, p.1 ≠ c := fun p hp => Nat.ne_of_lt (Nat.lt_trans (lt1 p hp) lt2)
  have ne3 : @Ne Nat dx c := Nat.ne_of_lt lt2
  have ne4 : @Ne Nat c dx := Nat.ne_of_gt lt2
  clear F N
  k_dflt (refine' code_defG ?k1 ?k2 ?k3 ?k4 ?k5 ?kA ?kF ?kK ?k6 ?k7 ?k8 ?k9 ?kB ?_ ?c2 ?c3 ?c4 ?c5; (case kA => exact rfl); (case kF => exact rfl); (case kK => assumption); (case k1 => k_asm); (case k2 => k_asm); (case k3 => k_asm); (case k4 => k_asm); (case k5 => k_asm); (case k6 => k_is); (case k7 => k_is); (case k8 => ktr_room); (case k9 => exact BindsTo.of_eq rfl); (case c5 => decide); (case kB => exact locs rfl); (case c2 => exact rfl); (case c3 => exact rfl); (case c4 => exact rfl); k_whole; intro g' L' h' FG' F' N' B' X' T' kG'; (try dsimp only); (try k_lift B'); (try k_fold))
  k_steps
  rename News h₀ L _ _ => kN1
  exact hret _ _ _ [_, _] ⟨_, _, _, _, _, _, _, rfl, rfl, by k_get, by k_get, by k_get⟩ (by assumption) kN1 (fun p hp q hq => by
    rcases List.mem_cons.mp hp with rfl | hp
    · exact ne2 q hq
    · rw [List.mem_singleton.mp hp]; exact ne1 q hq)
set_option maxRecDepth 100000 in
set_option maxHeartbeats 8000000 in
theorem frame_c {w : World} {mean : ExcName → Option Value} {mg mb : Str → Option Value} (p hh ww : Int) (l : Addr) (t1 t2 t3 t4 t5 : Tok) :
    SpN w mean mg mb 5 (.ref 143) [.str "lossless" t1, .int p t2, .int hh t3, .int ww t4, .ref l, .int 1 t5] (fun v news' => ∃ f dx es k tk tp th tw tn, v = .ref f ∧ news' = [(f, instObj 143 dx), (dx, dictOf es k)] ∧ getL "kind" es = some (some (.str "lossless" tk)) ∧ getL "precision" es = some (some (.int p tp)) ∧ getL "height" es = some (some (.int hh th)) ∧ getL "width" es = some (some (.int ww tw)) ∧ getL "components" es = some (some (Value.ref l)) ∧ getL "n" es = some (some (.int 1 tn)) ∧ getL "most_across" es = some none ∧ getL "most_down" es = some none ∧ getL "plane_size" es = some none) := by
  unfold SpN
  k_fill
  intro dp un gd cn cs a ccd cl outer A₀ base h₀ L m news s Q E B F X N T hk hd hu hret
  refine call_cls F X N (by k_is) (by k_is) (by k_is) ?_
  intro c dx h1 F1 N1 lt1 lt2
  have ne1 : ∀ p ∈ news, p.1 ≠ dx := fun p hp => Nat.ne_of_lt (lt1 p hp)
  have ne2 : ∀ p ∈ news, p.1 ≠ c := fun p hp => Nat.ne_of_lt (Nat.lt_trans (lt1 p hp) lt2)
  have ne3 : @Ne Nat dx c := Nat.ne_of_lt lt2
  have ne4 : @Ne Nat c dx := Nat.ne_of_gt lt2
  clear F N
  k_dflt (refine' code_defG ?k1 ?k2 ?k3 ?k4 ?k5 ?kA ?kF ?kK ?k6 ?k7 ?k8 ?k9 ?kB ?_ ?c2 ?c3 ?c4 ?c5; (case kA => exact rfl); (case kF => exact rfl); (case kK => assumption); (case k1 => k_asm); (case k2 => k_asm); (case k3 => k_asm); (case k4 => k_asm); (case k5 => k_asm); (case k6 => k_is); (case k7 => k_is); (case k8 => ktr_room); (case k9 => exact BindsTo.of_eq rfl); (case c5 => decide); (case kB => exact locs rfl); (case c2 => exact rfl); (case c3 => exact rfl); (case c4 => exact rfl); k_whole; intro g' L' h' FG' F' N' B' X' T' kG'; (try dsimp only); (try k_lift B'); (try k_fold))
  k_steps
  rename News h₀ L _ _ => kN1
  exact hret _ _ _ [_, _] ⟨_, _, _, _, _, _, _, _, _, rfl, rfl, by k_get, by k_get, by k_get, by k_get, by k_get, by k_get, by k_get, by k_get, by k_get⟩ (by assumption) kN1 (fun p hp q hq => by
    rcases List.mem_cons.mp hp with rfl | hp
    · exact ne2 q hq
    · rw [List.mem_singleton.mp hp]; exact ne1 q hq)
set_option maxRecDepth 100000 in
set_option maxHeartbeats 8000000 in
theorem pict_c {w : World} {mean : ExcName → Option Value} {mg mb : Str → Option Value} (p : Int) (l : Addr) (t1 t2 : Tok) :
    SpN w mean mg mb 5 (.ref 242) [.str "raw" t1, .int p t2, .ref l] (fun v news' => ∃ f dx es k tp, v = .ref f ∧ news' = [(f, instObj 242 dx), (dx, dictOf es k)] ∧ getL "precision" es = some (some (.int p tp)) ∧ getL "planes" es = some (some (Value.ref l)) ∧ getL "width" es = some none ∧ getL "height" es = some none) := by
  unfold SpN
  k_fill
  intro dp un gd cn cs a ccd cl outer A₀ base h₀ L m news s Q E B F X N T hk hd hu hret
  refine call_cls F X N (by k_is) (by k_is) (by k_is) ?_
  intro c dx h1 F1 N1 lt1 lt2
  have ne1 : ∀ p ∈ news, p.1 ≠ dx := fun p hp => Nat.ne_of_lt (lt1 p hp)
  have ne2 : ∀ p ∈ news, p.1 ≠ c := fun p hp => Nat.ne_of_lt (Nat.lt_trans (lt1 p hp) lt2)
  have ne3 : @Ne Nat dx c := Nat.ne_of_lt lt2
  have ne4 : @Ne Nat c dx := Nat.ne_of_gt lt2
  clear F N
  k_dflt (refine' code_defG ?k1 ?k2 ?k3 ?k4 ?k5 ?kA ?kF ?kK ?k6 ?k7 ?k8 ?k9 ?kB ?_ ?c2 ?c3 ?c4 ?c5; (case kA => exact rfl); (case kF => exact rfl); (case kK => assumption); (case k1 => k_asm); (case k2 => k_asm); (case k3 => k_asm); (case k4 => k_asm); (case k5 => k_asm); (case k6 => k_is); (case k7 => k_is); (case k8 => ktr_room); (case k9 => exact BindsTo.of_eq rfl); (case c5 => decide); (case kB => exact locs rfl); (case c2 => exact rfl); (case c3 => exact rfl); (case c4 => exact rfl); k_whole; intro g' L' h' FG' F' N' B' X' T' kG'; (try dsimp only); (try k_lift B'); (try k_fold))
  k_steps
  rename News h₀ L _ _ => kN1
  exact hret _ _ _ [_, _] ⟨_, _, _, _, _, rfl, rfl, by k_get, by k_get, by k_get, by k_get⟩ (by assumption) kN1 (fun p hp q hq => by
    rcases List.mem_cons.mp hp with rfl | hp
    · exact ne2 q hq
    · rw [List.mem_singleton.mp hp]; exact ne1 q hq)
end Mine
end
section
open PySem PySem.W PyProof.Rows PySem.Calls
namespace Mine
def tupO (a b : Int) (ta tb : Tok) : Obj := { cls := .type "tuple", data := .seq #[.int a ta, .int b tb] }
structure PairsAt (H : Heap) (l : Addr) (refs : List Value) (sam : List (Int × Int)) : Prop where
  list : H.IsList l refs.toArray
  len : refs.length = sam.length
  at' : ∀ (i : Nat) (p : Int × Int), sam[i]? = some p → ∃ c ta tb, refs[i]? = some (Value.ref c) ∧ H.get? c = some (tupO p.1 p.2 ta tb)
theorem PairsAt.keep {H H' : Heap} {l : Addr} {refs : List Value} {sam : List (Int × Int)} (k : ∀ p o, H.get? p = some o → H'.get? p = some o) (h : PairsAt H l refs sam) : PairsAt H' l refs sam :=
  ⟨let ⟨o, ho, r⟩ := h.list; ⟨o, k _ _ ho, r⟩, h.len, fun i p e => let ⟨c, ta, tb, h1, h2⟩ := h.at' i p e; ⟨c, ta, tb, h1, k _ _ h2⟩⟩
def LossSp (w : World) (mean : ExcName → Option Value) (mg mb : Str → Option Value) (k : Nat) (f : Value) (args : List Value) (Pre : Heap → Prop) (Post : Heap → Value → Led → Prop) (Bad : Prop) : Prop :=
  ∀ (dp un : Nat) (gd : Option (List Code)) (cn : Str) (cs : Scope) (a : Addr) (ccd : Value) (cl : List (Str × Addr)) (outer : List Env) (A₀ : Around) (base h₀ : Heap) (L : Addr) (m : Str → Option Value) (s : Shared) (Q E : Value → Shared → Prop),
    Below A₀ base outer h₀ → Fr h₀ L s.heap m → (hd.heap_1 w.params).In h₀ → News h₀ L s.heap [] → Top vw (looseW vw []) mean mg mb h₀ → cs.kind = .function → dp + k < recursionLimit → un + 8 * k < cLine → Pre s.heap →
    (∀ (v : Value) (h' : Heap) (tk' : Nat) (news' : Led), Post h' v news' → Fr h₀ L h' m → News h₀ L h' news' → GSub s.heap h' [] → (∀ p ∈ news', s.heap.get? p.1 = none) → Q v { s with heap := h', toks := tk' }) →
    (∀ (G : Heap) (e : Addr) (h' : Heap) (tk' : Nat), Bad → Fr h₀ L G m → RaisedSN base G (envX cn cs L a ccd cl :: outer) e (.ref 51) [] h' → G.UpToSlots h' → E (.ref e) { s with heap := h', toks := tk' }) →
    wpAny (model PySem.Challenge.rw_nz0247_01.row.prog w) (ktrTop dp un gd cn cs L a ccd cl outer) (call f args) Q E s
def LedComp (news : Led) (c : Addr) (i a b : Int) : Prop := ∃ dx es k ti ta tb, (c, instObj 77 dx) ∈ news ∧ (dx, dictOf es k) ∈ news ∧ getL "ident" es = some (some (.int i ti)) ∧ getL "across" es = some (some (.int a ta)) ∧ getL "down" es = some (some (.int b tb))
def LedComps (news : Led) (refs : List Value) (sam : List (Int × Int)) (i : Nat) : Prop := refs.length = i ∧ ∀ (j : Nat) (p : Int × Int), j < i → sam[j]? = some p → ∃ c, refs[j]? = some (Value.ref c) ∧ LedComp news c ((j : Int) + 1) p.1 p.2
theorem LedComp.sub {n n' : Led} {c : Addr} {i a b : Int} (h : LedComp n c i a b) (k : ∀ p ∈ n, p ∈ n') : LedComp n' c i a b := by
  obtain ⟨dx, es, e, ti, ta, tb, h1, h2, r⟩ := h
  exact ⟨dx, es, e, ti, ta, tb, k _ h1, k _ h2, r⟩
theorem LedComps.snoc {n n' : Led} {refs : List Value} {sam : List (Int × Int)} {i : Nat} {c : Addr} (h : LedComps n refs sam i) (hi : i < sam.length) (hc : LedComp n' c ((i : Int) + 1) sam[i].1 sam[i].2) (k : ∀ p ∈ n, p ∈ n') : LedComps n' (refs ++ [.ref c]) sam (i + 1) := by
  refine ⟨by rw [List.length_append, h.1]; rfl, fun j p hj e => ?_⟩
  by_cases q : j < i
  · obtain ⟨c', h1, h2⟩ := h.2 j p q e
    exact ⟨c', by rw [List.getElem?_append_left (by rw [h.1]; exact q)]; exact h1, h2.sub k⟩
  · have q' : j = i := by omega
    subst q'
    rw [List.getElem?_eq_getElem hi] at e
    obtain rfl := Option.some.inj e
    exact ⟨c, by rw [List.getElem?_append_right (by rw [h.1]; exact Nat.le_refl _), h.1, Nat.sub_self]; rfl, hc⟩
def LedFrame (news : Led) (f l : Addr) (W Hh prec : Int) : Prop := ∃ dx es k tk tp th tw tn, (f, instObj 143 dx) ∈ news ∧ (dx, dictOf es k) ∈ news ∧ getL "kind" es = some (some (.str "lossless" tk)) ∧ getL "precision" es = some (some (.int prec tp)) ∧ getL "height" es = some (some (.int Hh th)) ∧
    getL "width" es = some (some (.int W tw)) ∧ getL "components" es = some (some (Value.ref l)) ∧ getL "n" es = some (some (.int 1 tn)) ∧ getL "most_across" es = some none ∧ getL "most_down" es = some none ∧ getL "plane_size" es = some none
def mL (m : Str → Option Value) (o1 o2 o3 : Option Value) : Str → Option Value := fun y => if y = "place" then o1 else if y = "across" then o2 else if y = "down" then o3 else m y
theorem news_both {h₀ h h' : Heap} {L : Addr} {adr : List Addr} {rest new : Led} (N : News h₀ L h rest) (N0 : News h₀ L h' new) (G : GSub h h' adr) (off : ∀ p ∈ rest, p.1 ∉ adr) : News h₀ L h' (new ++ rest) :=
  fun p hp => (List.mem_append.mp hp).elim (N0 p) (news_keep N G off p)
theorem news_off {h₀ h : Heap} {L : Addr} {rest new : Led} (N : News h₀ L h rest) (fr : ∀ p ∈ new, p.1 ∈ ([] : List Addr) ∨ h.get? p.1 = none) : ∀ p ∈ new, ∀ q ∈ rest, q.1 ≠ p.1 := fun p hp q hq e => by
  rcases fr p hp with z | z
  · cases z
  · rw [← e, (N q hq).1] at z; cases z
def mP (m : Str → Option Value) (o1 o2 : Option Value) : Str → Option Value := fun y => if y = "place" then o1 else if y = "plane" then o2 else m y
theorem mP_eq {m : Str → Option Value} {o1 o2 v1 v2 : Option Value} : (fun (y : Str) => if y = ("plane" : Str) then v2 else if y = ("place" : Str) then v1 else mP m o1 o2 y) = mP m v1 v2 := by
  funext y
  by_cases h2 : y = ("plane" : Str)
  · subst h2; rfl
  by_cases h1 : y = ("place" : Str)
  · subst h1; rfl
  unfold mP
  simp only [if_neg h1, if_neg h2]
theorem mP_self {m : Str → Option Value} : m = mP m (m "place") (m "plane") := by
  funext y
  unfold mP
  by_cases q1 : y = ("place" : Str)
  · subst q1; rfl
  by_cases q2 : y = ("plane" : Str)
  · subst q2; rfl
  simp only [if_neg q1, if_neg q2]
theorem LedFrame.at_ {h₀ h : Heap} {L : Addr} {news : Led} {f l : Addr} {W Hh prec : Int} (x : LedFrame news f l W Hh prec) (N : News h₀ L h news) : FrameAt h f l W Hh prec := by
  obtain ⟨dx, es, n, a, b, c, d, e, h1, h2, r⟩ := x
  exact ⟨dx, es, n, a, b, c, d, e, N.get h1, N.get h2, r⟩
theorem LedComps.at_ {h₀ h : Heap} {L l : Addr} {news : Led} {refs : List Value} {sam : List (Int × Int)} {c : Nat} (x : LedComps news refs sam sam.length) (hl : (l, PySem.W.listOf refs.toArray c) ∈ news) (N : News h₀ L h news) : CompsAt h l refs sam :=
  ⟨⟨_, N.get hl, rfl, _, rfl⟩, x.1, fun i p e => by
    obtain ⟨c, h1, dx, es, n, ti, ta, tb, h2, h3, r⟩ := x.2 i p (List.getElem?_eq_some_iff.mp e).1 e
    exact ⟨c, h1, dx, es, n, ti, ta, tb, N.get h2, N.get h3, r⟩⟩
theorem LedFrame.sub {n n' : Led} {f l : Addr} {W Hh prec : Int} (x : LedFrame n f l W Hh prec) (k : ∀ p ∈ n, p ∈ n') : LedFrame n' f l W Hh prec := by
  obtain ⟨dx, es, e, a, b, c, d, g, h1, h2, r⟩ := x
  exact ⟨dx, es, e, a, b, c, d, g, k _ h1, k _ h2, r⟩
theorem LedComps.sub {n n' : Led} {refs : List Value} {sam : List (Int × Int)} {i : Nat} (x : LedComps n refs sam i) (k : ∀ p ∈ n, p ∈ n') : LedComps n' refs sam i :=
  ⟨x.1, fun j p hj e => let ⟨c, h1, h2⟩ := x.2 j p hj e; ⟨c, h1, h2.sub k⟩⟩
section
variable {prog : Program} {w : World} {A : Around} {E : Value → Shared → Prop} {s : Shared} {K : Frag} {x C dx L : Addr} {h₀ : Heap} {m : Str → Option Value} {es : List DictEntry} {n : Nat} {name : Str} {news : Led}
theorem meth_l {pl : Sem Bool} {Q : Value × List Value → Shared → Prop} {f : Addr} (F : Fr h₀ L s.heap m) (X₀ : K.In h₀) (N : News h₀ L s.heap news) (hx : (x, instObj C dx) ∈ news) (hd : (dx, dictOf es n) ∈ news) (hg : plainGet K C name = true)
    (hf : findIn K (.ref C) name = some (some (.ref f))) (ht : isFn K (.ref f) = true) (hl : getL name es = some none) (h : Q (.ref f, [.ref x]) s) : wpAny (model prog w) A (getMethod (.ref x) name pl) Q E s :=
  method_inst F X₀ (es := es) (n := n) (ox := instObj C dx) ⟨N.get hx, rfl, rfl, N.get hd⟩ hg hf ht hl h
theorem attr_l {expr : Bool} {v : Value} {Q : Value → Shared → Prop} {attr : Option Value} (F : Fr h₀ L s.heap m) (X₀ : K.In h₀) (N : News h₀ L s.heap news) (hx : (x, instObj C dx) ∈ news) (hd : (dx, dictOf es n) ∈ news) (hg : plainGet K C name = true) (hh : hasDictIn K C = true)
    (ha : findIn K (.ref C) name = some attr) (hn : noGet K attr = true) (hl : getL name es = some (some v)) (hv : handedIn v = true) (h : Q v { s with toks := s.toks + 1 }) :
    wpAny (model prog w) A (getAttr (.ref x) name expr) Q E s := get_own F X₀ (ox := instObj C dx) (es := es) (n := n) ⟨N.get hx, rfl, rfl, N.get hd⟩ hg hh ha hn hl hv h
end
theorem mL_eq {m : Str → Option Value} {o1 o2 o3 v1 v2 v3 : Option Value} : (fun (y : Str) => if y = ("down" : Str) then v3 else if y = ("across" : Str) then v2 else if y = ("place" : Str) then v1 else mL m o1 o2 o3 y) = mL m v1 v2 v3 := by
  funext y
  by_cases h3 : y = ("down" : Str)
  · subst h3; rfl
  by_cases h2 : y = ("across" : Str)
  · subst h2; rfl
  by_cases h1 : y = ("place" : Str)
  · subst h1; rfl
  unfold mL
  simp only [if_neg h1, if_neg h2, if_neg h3]
theorem mL_none {m : Str → Option Value} (h1 : m "place" = none) (h2 : m "across" = none) (h3 : m "down" = none) : m = mL m none none none := by
  funext y
  unfold mL
  by_cases q1 : y = "place"
  · subst q1; exact h1
  by_cases q2 : y = "across"
  · subst q2; exact h2
  by_cases q3 : y = "down"
  · subst q3; exact h3
  simp only [if_neg q1, if_neg q2, if_neg q3]
local macro_rules | `(tactic| k_room) => `(tactic| ktr_room)
local macro_rules | `(tactic| k_units) => `(tactic| ktr_units)
local macro_rules | `(tactic| passes_own) => `(tactic| exact PySem.PassesOwn.leaving)
local macro_rules | `(tactic| walk_at "exec For Tuple List cons nil") => `(tactic| (k_here; (rename Fr _ _ _ _ => lF'); (with_reducible refine' For_turns lF' ?h ?hs ?hE); k_dflt ((case hE => exact PySem.PassesOwn.leaving); (case hs => intro _; rfl))))
local macro_rules | `(tactic| walk_at "subscriptTail Name Constant ref int") => `(tactic| (k_here; (with_reducible show wpAny _ _ (subscriptTail _ _ (Value.ref _) (Value.int _ _)) _ _ _); k_dflt (first | ((with_reducible refine' item_0 ?k1 ?k2 ?_ ?k6); (case k1 => k_asm); (case k2 => k_mem); (case k6 => with_unfolding_all rfl); k_whole) | ((with_reducible refine' item_1 ?k1 ?k2 ?_ ?k6); (case k1 => k_asm); (case k2 => k_mem); (case k6 => with_unfolding_all rfl); k_whole))))
local macro_rules | `(tactic| k_qdec) => `(tactic| kernel_rfl)
local macro_rules | `(tactic| walk_at "call builtin:len") => `(tactic| (k_here; (with_reducible show wpAny _ _ (call (Value.builtin "len") [Value.ref _]) _ _ _); k_dflt (refine len_g (by k_asm) (by assumption) (by assumption) (by omega) ?_)))
local macro_rules | `(tactic| walk_at "getAttr ref") => `(tactic| (k_here; k_dflt (refine' attr_g ?k1 ?k2 ?k3 ?k4 ?k5 ?k6 ?k7 ?k8 ?k9 ?k10 ?_; (case k1 => k_asm); (case k2 => k_asm); (case k3 => assumption); (case k4 => assumption); (case k5 => k_is); (case k6 => k_is); (case k7 => k_is); (case k8 => k_is); (case k9 => assumption); (case k10 => k_handed); k_whole)))
local macro_rules | `(tactic| walk_at "exec For Name Call cons nil") => `(tactic| (k_here; (rename Fr _ _ _ _ => lF'); (with_reducible refine' For_invVF lF' ?k1 ?k2 ?_ ?hs ?hE); k_dflt ((case k1 => exact rfl); (case k2 => exact rfl); (case hE => exact PySem.PassesOwn.leaving); (case hs => intro _; rfl)); k_whole))
local macro_rules | `(tactic| walk_at "pyIter ref") => `(tactic| (k_here; refine Stop.out ?_))
local macro_rules | `(tactic| k_all) => `(tactic| assumption)
local macro_rules | `(tactic| walk_at "subscriptTail Name Name ref int") => `(tactic| (k_here; (with_reducible show wpAny _ _ (subscriptTail _ _ (Value.ref _) (Value.int _ _)) _ _ _); k_dflt ((with_reducible refine' item_g ?k1 ?k2 ?k3 ?k4 ?_ ?k6); (case k1 => k_asm); (case k2 => assumption); (case k3 => assumption); (case k4 => assumption); (case k6 => with_unfolding_all rfl); k_whole)))
local macro_rules | `(tactic| walk_at "assign Tuple") => `(tactic| (k_here; (with_reducible show wpAny _ _ (assign (Expr.Tuple _ _ _) _ (Value.ref _)) _ _ _); k_dflt (refine' unpackN_ ?k1 ?k2 ?k3 ?k4 ?k5 ?k6 ?_; (case k1 => k_asm); (case k2 => k_asm); (case k3 => exact Fr.tup (by k_asm) (by assumption)); (case k4 => exact rfl); (case k5 => exact rfl); (case k6 => exact rfl); k_whole); intro h' F' N'; (try k_sweep)))
local macro_rules | `(tactic| walk_at "getMethod ref") => `(tactic| (k_here; k_dflt (refine' meth_g ?k1 ?k2 ?k3 ?k4 ?k5 ?k6 ?k7 ?k8 ?_; (case k1 => k_asm); (case k2 => k_asm); (case k3 => assumption); (case k4 => assumption); (case k5 => k_is); (case k6 => k_is); (case k7 => k_is); (case k8 => assumption); k_whole)))
local macro_rules | `(tactic| walk_at "getMethod ref") => `(tactic| (k_here; k_dflt (refine' meth_l ?k1 ?k2 ?k3 ?k3a ?k4 ?k5 ?k6 ?k7 ?k8 ?_; (case k1 => k_asm); (case k2 => k_asm); (case k3 => k_asm); (case k3a => k_mem); (case k4 => k_mem); (case k5 => k_is); (case k6 => k_is); (case k7 => k_is); (case k8 => assumption); k_whole)))
local macro_rules | `(tactic| walk_at "exec Raise some none") => `(tactic| (k_here; refine Stop.out ?_))
local macro_rules | `(tactic| walk_at "call ref") => `(tactic| (k_here; k_dflt (show wpAny _ _ (call (Value.ref 77) _) _ _ _); refine Stop.out ?_))
local macro_rules | `(tactic| walk_at "call ref") => `(tactic| (k_here; k_dflt (show wpAny _ _ (call (Value.ref 51) _) _ _ _); refine Stop.out ?_))
local macro_rules | `(tactic| walk_at "call ref") => `(tactic| (k_here; k_dflt (show wpAny _ _ (call (Value.ref 126) _) _ _ _); refine Stop.out ?_))
local macro_rules | `(tactic| walk_at "call ref") => `(tactic| (k_here; k_dflt (show wpAny _ _ (call (Value.ref 143) _) _ _ _); refine Stop.out ?_))
local macro_rules | `(tactic| walk_at "call ref") => `(tactic| (k_here; k_dflt (show wpAny _ _ (call (Value.ref 227) _) _ _ _); refine Stop.out ?_))
local macro_rules | `(tactic| walk_at "call ref") => `(tactic| (k_here; k_dflt (show wpAny _ _ (call (Value.ref 232) _) _ _ _); refine Stop.out ?_))
theorem fr_name {h₀ h : Heap} {L : Addr} {m : Str → Option Value} (F : Fr h₀ L h m) : ∃ m₀, m₀ = m ∧ Fr h₀ L h m₀ := ⟨m, rfl, F⟩
theorem news_name {h₀ h : Heap} {L c : Addr} {o : Obj} (N : News h₀ L h [(c, o)]) : ∃ c', c' = c ∧ News h₀ L h [(c', o)] := ⟨c, rfl, N⟩
set_option maxRecDepth 100000 in
set_option maxHeartbeats 8000000 in
theorem loss_c {w : World} {mean : ExcName → Option Value} {mg mb : Str → Option Value} (pic pl sl : Addr) (prefs srefs : List Value) (kept sam : List (Int × Int)) (W Hh prec MA MD : Int) (hlen : sam.length < 100) (hne : 0 < sam.length) (hks : kept.length = sam.length)
    (hA : IsMax MA (sam.map (·.1))) (hD : IsMax MD (sam.map (·.2))) (hW : IsMax W (kept.map (·.1))) (hH : IsMax Hh (kept.map (·.2)))
    (hsm : ∀ p, p ∈ sam → 0 < p.1 ∧ p.1 < 100 ∧ 0 < p.2 ∧ p.2 < 100) :
    LossSp w mean mg mb 20 (.ref 168) [.ref pic, .ref sl] (fun H => PictAt H pic pl prec ∧ PlanesAt H pl prefs kept ∧ PairsAt H sl srefs sam)
      (fun _ v news' => ∃ f l crefs c, v = .ref f ∧ LedFrame news' f l W Hh prec ∧ (l, listOf crefs.toArray c) ∈ news' ∧ LedComps news' crefs sam sam.length ∧ ∀ (i : Nat) (p q : Int × Int), sam[i]? = some p → kept[i]? = some q → q = (cdiv (W * p.1) MA, cdiv (Hh * p.2) MD))
      (∃ (i : Nat) (p q : Int × Int), sam[i]? = some p ∧ kept[i]? = some q ∧ q ≠ (cdiv (W * p.1) MA, cdiv (Hh * p.2) MD)) := by
  unfold LossSp
  k_fill
  intro dp un gd cn cs a ccd cl outer A₀ base h₀ L m s Q E B F X N T hk hd hu hp hret hbad
  refine wpAny_call ?_
  k_dflt (refine' code_defG ?k1 ?k2 ?k3 ?k4 ?k5 ?kA ?kF ?kK ?k6 ?k7 ?k8 ?k9 ?kB ?_ ?c2 ?c3 ?c4 ?c5; (case kA => exact rfl); (case kF => exact rfl); (case kK => assumption); (case k1 => k_asm); (case k2 => k_asm); (case k3 => k_asm); (case k4 => k_asm); (case k5 => k_asm); (case k6 => k_is); (case k7 => k_is); (case k8 => ktr_room); (case k9 => exact BindsTo.of_eq rfl); (case c5 => decide); (case kB => exact locs rfl); (case c2 => exact rfl); (case c3 => exact rfl); (case c4 => exact rfl); k_whole; intro g' L' h' FG' F' N' B' X' T' kG'; (try dsimp only); (try k_lift B'); (try k_fold))
  have kp : ∀ p o, s.heap.get? p = some o → g'.get? p = some o := fun p o e => kG' p o e (fun q => nomatch q)
  obtain ⟨hP, hK, hS⟩ := hp
  replace hP := hP.keep kp
  replace hK := hK.keep kp
  replace hS := hS.keep kp
  obtain ⟨pdx, pes, pk, tp, hp1, hp2, pa1, pa2, pa3, pa4⟩ := hP.ex
  have hKl := hK.list
  have hKn : prefs.length = sam.length := hK.len.trans hks
  have hSl := hS.list
  have hMA : 0 < MA ∧ MA < 100 := by
    obtain ⟨p, hp, e⟩ := List.mem_map.mp hA.1
    have := hsm p hp
    (try dsimp only at e)
    omega
  have hMD : 0 < MD ∧ MD < 100 := by
    obtain ⟨p, hp, e⟩ := List.mem_map.mp hD.1
    have := hsm p hp
    (try dsimp only at e)
    omega
  k_steps
  rename Fr g' L' _ _ => FF
  rename News g' L' _ _ => NN
  obtain ⟨m₀, hm₀, F0⟩ := fr_name FF
  obtain ⟨cl0, hcl0, N0⟩ := news_name NN
  clear FF NN
  subst hcl0
  refine iter_rangeUnr (n := sam.length) rfl (by assumption) (small_one (by decide) (by decide) (by omega) (by omega)) ((rangeSize_nat _ _).trans (by omega)) F0 N0 ?_
  intro I hI
  refine range_ind (fun i m news => ∃ o1 o2 o3 rest crefs c, m = mL m₀ o1 o2 o3 ∧ news = (cl0, PySem.W.listOf crefs.toArray c) :: rest ∧ LedComps rest crefs sam i ∧ (∀ p ∈ rest, p.1 ≠ cl0) ∧ (∀ p ∈ rest, p.1 ≠ I)) ?step ?fin sam.length 0 m₀ _ (Nat.zero_add _) ⟨none, none, none, [], [], 0, ?_, rfl, ⟨rfl, fun j p hj => absurd hj (Nat.not_lt_zero _)⟩, fun _ q => (nomatch q), fun _ q => nomatch q⟩
  case step =>
    rintro i m news hi ⟨o1, o2, o3, rest, crefs, cc, rfl, rfl, hcs, hoff, hrest⟩ t h tk FF NN
    rw [Int.zero_add] at FF
    subst hm₀
    obtain ⟨sc, sta, stb, hs1, hs2⟩ := hS.at' i sam[i] (List.getElem?_eq_getElem hi)
    have hST : IsTup g' sc #[.int sam[i].1 sta, .int sam[i].2 stb] := ⟨_, hs2, rfl, _, rfl⟩
    clear hs2
    have hib : i < 1000 := by omega
    clear F0 N0
    k_steps
    refine SpN.use (comp_c _ _ _ _ _ _ _ _) (by k_asm) (by k_asm) (by k_asm) (by k_asm) (by k_asm) (by first | exact rfl | assumption) (by ktr_room) (by ktr_units) ?_
    rintro v' h' tk' new' ⟨c, dx, es, ek1, ta, tb, tc, rfl, rfl, ga, gb, gc⟩ F' N' off'
    (try dsimp only)
    (try k_sweep)
    have oc := off' _ (.head _)
    have od := off' _ (.tail _ (.head _))
    have hIc : @Ne Nat I cl0 := Nat.ne_of_gt (hI _ (.head _))
    have occ : @Ne Nat c cl0 := Ne.symm (oc _ (.tail _ (.head _)))
    have odc : @Ne Nat dx cl0 := Ne.symm (od _ (.tail _ (.head _)))
    have ocI : @Ne Nat c I := Ne.symm (oc _ (.head _))
    have odI : @Ne Nat dx I := Ne.symm (od _ (.head _))
    k_steps
    rename News g' L' _ _ => NN2
    refine PyProof.Rows.append_in (own := [_, _, _]) (by k_asm) NN2 (fun p hp => ?_) hoff ?_ ?_
    · rcases List.mem_cons.mp hp with rfl | hp
      · exact occ
      rcases List.mem_cons.mp hp with rfl | hp
      · exact odc
      rw [List.mem_singleton.mp hp]; exact hIc
    · intro h3 F3 N3
      clear NN2
      k_steps
      refine UnrEnd.intro (by k_asm) N3 ((cl0, PySem.W.listOf (crefs ++ [Value.ref c]).toArray (cc + 1)) :: (c, instObj 77 dx) :: (dx, dictOf es ek1) :: rest) ?_ ?_ ?_
      · intro p hp
        rcases List.mem_cons.mp hp with rfl | hp
        · exact .tail _ (.tail _ (.head _))
        rcases List.mem_cons.mp hp with rfl | hp
        · exact .tail _ (.tail _ (.tail _ (.head _)))
        rcases List.mem_cons.mp hp with rfl | hp
        · exact .head _
        rcases List.mem_cons.mp hp with rfl | hp
        · exact .tail _ (.head _)
        exact .tail _ (.tail _ (.tail _ (.tail _ hp)))
      · intro p hp
        rcases List.mem_cons.mp hp with rfl | hp
        · exact Ne.symm hIc
        rcases List.mem_cons.mp hp with rfl | hp
        · exact ocI
        rcases List.mem_cons.mp hp with rfl | hp
        · exact odI
        exact hrest p hp
      · refine ⟨some (.int (i : Int) t), some (.int sam[i].1 sta), some (.int sam[i].2 stb), (c, instObj 77 dx) :: (dx, dictOf es ek1) :: rest, crefs ++ [Value.ref c], cc + 1, mL_eq, rfl, ?_, ?_, ?_⟩
        · exact hcs.snoc hi ⟨dx, es, ek1, ta, tb, tc, .head _, .tail _ (.head _), ga, gb, gc⟩ (fun _ q => .tail _ (.tail _ q))
        · intro p hp
          rcases List.mem_cons.mp hp with rfl | hp
          · exact occ
          rcases List.mem_cons.mp hp with rfl | hp
          · exact odc
          exact hoff p hp
        · intro p hp
          rcases List.mem_cons.mp hp with rfl | hp
          · exact ocI
          rcases List.mem_cons.mp hp with rfl | hp
          · exact odI
          exact hrest p hp
    · have := hcs.1
      rw [this, sizeLine_eq]; omega
  case fin =>
    rintro m news ⟨o1, o2, o3, rest, crefs, cc, rfl, rfl, hcs, hoff, hrest⟩ h tk FF NN
    subst hm₀
    clear F0 N0
    k_steps
    refine Sp.use (pict_height_e pic pl prefs kept prec Hh hH (by omega)) (by k_asm) (by k_asm) (by k_asm) (fun _ q => nomatch q) (by k_asm) (by first | exact rfl | assumption) (by ktr_room) (by ktr_units) (⟨hP.keep (Fr.keep (by k_asm)), hK.keep (Fr.keep (by k_asm))⟩) ?_
    rename News _ _ _ _ => nN
    rintro v' h' tk' news' ⟨t1, rfl, rfl⟩ F' N0' G' fr'
    have N' := news_keep nN G' (fun _ _ q => nomatch q)
    clear nN N0' G' fr'
    (try dsimp only)
    (try k_sweep)
    k_steps
    refine Sp.use (pict_width_e pic pl prefs kept prec W hW (by omega)) (by k_asm) (by k_asm) (by k_asm) (fun _ q => nomatch q) (by k_asm) (by first | exact rfl | assumption) (by ktr_room) (by ktr_units) (⟨hP.keep (Fr.keep (by k_asm)), hK.keep (Fr.keep (by k_asm))⟩) ?_
    rename News _ _ _ _ => nN
    rintro v' h' tk' news' ⟨t2, rfl, rfl⟩ F' N0' G' fr'
    have N' := news_keep nN G' (fun _ _ q => nomatch q)
    clear nN N0' G' fr'
    (try dsimp only)
    (try k_sweep)
    k_steps
    refine SpN.use (frame_c _ _ _ _ _ _ _ _ _) (by k_asm) (by k_asm) (by k_asm) (by k_asm) (by k_asm) (by first | exact rfl | assumption) (by ktr_room) (by ktr_units) ?_
    rintro v' h' tk' new' ⟨f, fdx, fes, fk, tk1, tp1, th1, tw1, tn1, rfl, rfl, fa1, fa2, fa3, fa4, fa5, fa6, fa7, fa8, fa9⟩ F' N' off'
    (try dsimp only)
    (try k_sweep)
    have hLF : LedFrame [(f, instObj 143 fdx), (fdx, dictOf fes fk)] f cl0 W Hh prec := ⟨fdx, fes, fk, tk1, tp1, th1, tw1, tn1, .head _, .tail _ (.head _), fa1, fa2, fa3, fa4, fa5, fa6, fa7, fa8, fa9⟩
    have of1 := off' _ (.head _)
    have of2 := off' _ (.tail _ (.head _))
    clear off'
    k_steps
    rename Fr g' L' _ _ => FF
    rename News g' L' _ _ => NN
    obtain ⟨m₁, hm₁, F1⟩ := fr_name FF
    clear FF
    refine iter_rangeUnr (n := sam.length) rfl (by assumption) (small_one (by decide) (by decide) (by omega) (by omega)) ((rangeSize_nat _ _).trans (by omega)) F1 NN ?_
    intro I2 hI2
    refine range_ind (fun i m news => ∃ o1 o2, m = mP m₁ o1 o2 ∧ news = [(f, instObj 143 fdx), (fdx, dictOf fes fk)] ++ (cl0, PySem.W.listOf crefs.toArray cc) :: rest ∧ ∀ (j : Nat) (p q : Int × Int), j < i → sam[j]? = some p → kept[j]? = some q → q = (cdiv (W * p.1) MA, cdiv (Hh * p.2) MD)) ?step2 ?fin2 sam.length 0 m₁ _ (Nat.zero_add _) ⟨_, _, mP_self, rfl, fun j _ _ hj => absurd hj (Nat.not_lt_zero _)⟩
    case step2 =>
      rintro i m news hi ⟨o1, o2, rfl, rfl, hok⟩ t h tk FF NN2
      rw [Int.zero_add] at FF
      subst hm₁
      have hib : i < 1000 := by omega
      obtain ⟨pc, hpc1, hpc2⟩ := hK.at' i kept[i] (List.getElem?_eq_getElem (by omega))
      obtain ⟨qdx, qes, qk, qta, qtb, hq1, hq2, qa1, qa2⟩ := hpc2.ex
      clear F1 NN
      have hb := hsm sam[i] (List.getElem_mem hi)
      k_steps
      rename News g' L' _ _ => NN3
      have hs1 : FrameAt _ f cl0 W Hh prec := (hLF.sub fun p hp => by
        rcases List.mem_cons.mp hp with rfl | hp
        · exact .tail _ (.tail _ (.head _))
        · rw [List.mem_singleton.mp hp]; exact .tail _ (.tail _ (.tail _ (.head _)))).at_ NN3
      have hs2 : CompsAt _ cl0 crefs sam := (hcs.sub fun p hp => .tail _ (.tail _ (.tail _ (.tail _ (.tail _ hp))))).at_ (.tail _ (.tail _ (.tail _ (.tail _ (.head _))))) NN3
      refine Sp.use (plane_size_c f cl0 crefs sam W Hh prec MA MD i sam[i] t hlen (List.getElem?_eq_getElem hi) hA hD (by omega) (by omega) hMA hMD) (by k_asm) (by k_asm) (by k_asm) (fun _ q => nomatch q) (by k_asm) (by first | exact rfl | assumption) (by ktr_room) (by ktr_units) (⟨hs1, hs2⟩) ?_
      rename News _ _ _ _ => nN
      rintro v' h' tk' news' ⟨tt, tta, ttb, rfl, rfl⟩ F' N0' G' fr'
      have N' := news_both nN N0' G' (fun _ _ q => nomatch q)
      have off' := news_off nN fr'
      clear nN N0' G' fr'
      (try dsimp only)
      (try k_sweep)
      clear hs1 hs2
      have ot := off' _ (.head _)
      k_steps
      · rename News g' L' _ _ => NN4
        rename (_ = true) => hq
        simp only [Bool.and_eq_true, beq_iff_eq] at hq
        refine UnrEnd.intro (by k_asm) NN4 ([(f, instObj 143 fdx), (fdx, dictOf fes fk)] ++ (cl0, PySem.W.listOf crefs.toArray cc) :: rest) (fun p hp => .tail _ (.tail _ hp)) (fun p hp => Nat.ne_of_lt (hI2 p hp)) ⟨some (.int (i : Int) t), some (.ref pc), mP_eq, rfl, fun j p q hj e1 e2 => ?_⟩
        by_cases hji : j < i
        · exact hok j p q hji e1 e2
        · have q' : j = i := by omega
          subst q'
          rw [List.getElem?_eq_getElem hi] at e1
          rw [List.getElem?_eq_getElem (by omega)] at e2
          obtain rfl := Option.some.inj e1
          obtain rfl := Option.some.inj e2
          exact Prod.ext hq.1 hq.2
      · rename (_ = false) => hq
        refine raise_own (bm := [.ref 38, .type "Exception", .type "BaseException", .type "object"]) (X' 51 _ rfl) (by decide) rfl ?_
        k_steps
        refine Sp.use (range_err_c _ _) (by k_asm) (by k_asm) (by k_asm) (fun _ q => nomatch q) (by k_asm) (by first | exact rfl | assumption) (by ktr_room) (by ktr_units) (trivial) ?_
        rename News _ _ _ _ => nN
        rintro v' h' tk' news' ⟨e, ed, et, rfl, rfl⟩ F' N0' G' fr'
        have N' := news_both nN N0' G' (fun _ _ q => nomatch q)
        have off' := news_off nN fr'
        clear nN N0' G' fr'
        (try dsimp only)
        (try k_sweep)
        rename News g' L' _ _ => NN5
        rename Fr g' L' _ _ => FF5
        refine ⟨e, some ed, et, rfl, FF5.keep, NN5.get (.head _), ?_⟩
        refine leave_own (C := 51) B' FF5 (NN5.get (.head _)) (NN5 _ (.head _)).2.2 (news := []) (fun _ q => nomatch q) (fun _ q => nomatch q) ?_
        intro h9 R9 U9
        refine hbad g' e h9 _ ⟨i, sam[i], kept[i], List.getElem?_eq_getElem hi, List.getElem?_eq_getElem (by omega), fun z => ?_⟩ FG' R9 U9
        rw [z] at hq
        simp at hq
    case fin2 =>
      rintro m news ⟨o1, o2, rfl, rfl, hok⟩ h tk FF NN2
      subst hm₁
      clear F1 NN
      k_steps
      rename News h₀ L _ _ => kN1
      rename News g' L' _ _ => kN2
      exact hret _ _ _ _ ⟨f, cl0, crefs, cc, rfl, hLF.sub (fun p hp => List.mem_append_left _ hp), List.mem_append_right _ (.head _), hcs.sub (fun p hp => List.mem_append_right _ (.tail _ hp)), fun i p q e1 e2 => hok i p q (List.getElem?_eq_some_iff.mp e1).1 e1 e2⟩ (by assumption) kN1 (sp_keep kG' (by assumption)) (fun p hp => (sp_fresh kG' kN2 p hp).resolve_left (fun q => nomatch q))
  exact mL_none (by rw [hm₀]; rfl) (by rw [hm₀]; rfl) (by rw [hm₀]; rfl)
end Mine
end
section
open PySem PySem.W PyProof.Rows PySem.Calls
namespace Mine
section
variable {prog : Program} {w : World} {A₀ A : Around} {s : Shared} {base h₀ : Heap} {L : Addr} {m mg mb : Str → Option Value} {env : Env} {K : Frag} {p : Program} {loose : List Str} {mean : ExcName → Option Value}
    {R : Result → Shared → Prop} {name qual : Str} {params : Arguments} {body : List Stmt} {scope : Scope} {dV kV doc pm cdv ct oc : Value} {an od : Option Addr} {osl : Array (Option Value)} {f : Addr} {args : Args} {binds : List (Str × Value)}
theorem enter_try (B : Below A₀ base [] h₀) (F : Fr h₀ L s.heap m) (X₀ : K.In h₀) (T : Top p loose mean mg mb h₀) (hA : A.frames = some [env]) (hf : env.frame = some L) (hke : env.scope.kind = .function)
    (ho : K.lookup f = some ⟨oc, od, .func (fnOf name qual params body scope dV kV doc pm an cdv ct), osl⟩) (hcd : codeIn K cdv qual = true) (hroom : A.depth < recursionLimit)
    (hbind : BindsTo s (fnOf name qual params body scope dV kV doc pm an cdv ct) args binds) (hloc : ∀ y ∈ binds, scope.names.lookup y.1 = some .local)
    (h : ∀ L' h₁, Fr s.heap L' h₁ (fun y => binds.reverse.lookup y) → Below A base [env] s.heap → K.In s.heap → Top p loose mean mg mb s.heap → KtsDicts ([env].filterMap (·.frame)) s.heap → Fr h₀ L s.heap m →
      wpAny (model prog w) (A.deeper (envOf qual scope L' f cdv)) (execs body (envOf qual scope L' f cdv))
        (fun fl s' => LeaveK h₀ L m s.heap R (match fl with | .ret v => v | _ => .none) s' ∨ LeaveS0 ([env].filterMap (·.frame)) h₀ L m s.heap R (match fl with | .ret v => v | _ => .none) s')
        (fun e s' => wpAny (model prog w) (A.deeper (envOf qual scope L' f cdv)) (leaving (envOf qual scope L' f cdv) e) (fun _ s'' => R (.error e) s'') (fun e' s'' => R (.error e') s'') s')
        { s with heap := h₁, toks := s.toks + binds.length })
    (hco : scope.isCoroutine = false) (hgen : scope.isGenerator = false) (hk : scope.kind = .function)
    (hcell : ∀ x ∈ scope.names, x.2 ≠ .cell) : codeAny (model prog w) A (.call (.ref f) args) R s := by
  obtain ⟨FG, BG, st, lv⟩ := groundX (R := R) (A := A) B F (news := []) News.nil hA hf hke
  refine codeAny_call_def (fd := fnOf name qual params body scope dV kV doc pm an cdv ct) (body := body) (binds := binds) hroom ((X₀.keeps F.keep) _ _ ho) rfl (T.nolimit.keeps F.keep) (codeRec_of (X₀.keeps F.keep) hcd) rfl hbind hcell hloc (fun h₁ hns hk₁ => ?_) hco hgen hk
  obtain ⟨oL, es, ep, hL, hLd, hLk, hLf⟩ := F.ns
  refine wpAny_mono (h s.heap.objs.size h₁ ⟨hns, fun b o e => hk₁ b o e, Nat.le_refl _⟩ BG (X₀.keeps F.keep) (T.keeps F.keep) (fun b hb => ?_) F) (fun fl s' hl => ?_) fun _ _ y => y
  · obtain ⟨env', he, hf'⟩ := List.mem_filterMap.mp hb
    obtain rfl := List.mem_singleton.mp he
    obtain rfl : L = b := Option.some.inj (hf.symm.trans hf')
    exact ⟨oL, es, ep, hL, hLd⟩
  · rcases hl with hl | ⟨g', L', m', news', T', F', N', k⟩
    · exact lv _ _ hl
    have nL₀ : h₀.get? L = none := kts_self F
    obtain ⟨sl, hs⟩ := T'.up hL
    have hfs : ∀ b, b ∈ [env].filterMap (·.frame) → b = L := fun b hb => by
      obtain ⟨env', he, hf'⟩ := List.mem_filterMap.mp hb
      obtain rfl := List.mem_singleton.mp he
      exact Option.some.inj (hf'.symm.trans hf)
    refine k ⟨⟨_, es, ep, F'.keep _ _ hs, hLd, hLk, hLf⟩, fun b o e => F'.keep b o (T'.other b o (F.keep b o e) (fun q => by rw [hfs b q, nL₀] at e; cases e)), F.above⟩ fun p hp => ⟨(N' p hp).1, fun q => ?_, ?_⟩
    · have := (N' p hp).2.2; rw [q, hs] at this; cases this
    · cases q : h₀.get? p.1 with
      | none => rfl
      | some o =>
        obtain ⟨sl', hs'⟩ := T'.up (F.keep _ _ q)
        have := (N' p hp).2.2
        rw [hs'] at this
        cases this
end
theorem LossSp.use {w : World} {mean : ExcName → Option Value} {mg mb : Str → Option Value} {k : Nat} {f : Value} {args : List Value} {Pre : Heap → Prop} {Post : Heap → Value → Led → Prop} {Bad : Prop}
    {dp un : Nat} {gd : Option (List Code)} {cn : Str} {cs : Scope} {a : Addr} {ccd : Value} {cl : List (Str × Addr)} {outer : List Env} {A₀ : Around} {base h₀ : Heap} {L : Addr} {m : Str → Option Value} {s : Shared} {Q E : Value → Shared → Prop}
    (C : LossSp w mean mg mb k f args Pre Post Bad) (B : Below A₀ base outer h₀) (F : Fr h₀ L s.heap m) (X : (hd.heap_1 w.params).In h₀) (N : News h₀ L s.heap []) (T : Top vw (looseW vw []) mean mg mb h₀) (hk : cs.kind = .function) (hd' : dp + k < recursionLimit) (hu : un + 8 * k < cLine) (hp : Pre s.heap)
    (hret : ∀ (v : Value) (h' : Heap) (tk' : Nat) (news' : Led), Post h' v news' → Fr h₀ L h' m → News h₀ L h' news' → GSub s.heap h' [] → (∀ p ∈ news', s.heap.get? p.1 = none) → Q v { s with heap := h', toks := tk' })
    (hbad : ∀ (G : Heap) (e : Addr) (h' : Heap) (tk' : Nat), Bad → Fr h₀ L G m → RaisedSN base G (envX cn cs L a ccd cl :: outer) e (.ref 51) [] h' → G.UpToSlots h' → E (.ref e) { s with heap := h', toks := tk' }) :
    wpAny (model PySem.Challenge.rw_nz0247_01.row.prog w) (ktrTop dp un gd cn cs L a ccd cl outer) (call f args) Q E s :=
  C dp un gd cn cs a ccd cl outer A₀ base h₀ L m s Q E B F X N T hk hd' hu hp hret hbad
local macro_rules | `(tactic| k_room) => `(tactic| ktr_room)
local macro_rules | `(tactic| k_units) => `(tactic| ktr_units)
local macro_rules | `(tactic| passes_own) => `(tactic| exact PySem.PassesOwn.leaving)
local macro_rules | `(tactic| walk_at "exec For Tuple List cons nil") => `(tactic| (k_here; (rename Fr _ _ _ _ => lF'); (with_reducible refine' For_turns lF' ?h ?hs ?hE); k_dflt ((case hE => exact PySem.PassesOwn.leaving); (case hs => intro _; rfl))))
local macro_rules | `(tactic| walk_at "subscriptTail Name Constant ref int") => `(tactic| (k_here; (with_reducible show wpAny _ _ (subscriptTail _ _ (Value.ref _) (Value.int _ _)) _ _ _); k_dflt (first | ((with_reducible refine' item_0 ?k1 ?k2 ?_ ?k6); (case k1 => k_asm); (case k2 => k_mem); (case k6 => with_unfolding_all rfl); k_whole) | ((with_reducible refine' item_1 ?k1 ?k2 ?_ ?k6); (case k1 => k_asm); (case k2 => k_mem); (case k6 => with_unfolding_all rfl); k_whole))))
local macro_rules | `(tactic| k_qdec) => `(tactic| kernel_rfl)
local macro_rules | `(tactic| walk_at "call ref") => `(tactic| (k_here; k_dflt (show wpAny _ _ (call (Value.ref 168) _) _ _ _); refine Stop.out ?_))
local macro_rules | `(tactic| walk_at "noteFrame ref") => `(tactic| (k_here; refine Stop.out ?_))
def FrameSp (w : World) (mean : ExcName → Option Value) (mg mb : Str → Option Value) (k : Nat) (f : Value) (args : List Value) (Pre : Heap → Prop) (Post : Heap → Value → Led → Prop) (Bad : Prop) : Prop :=
  ∀ (dp un : Nat) (gd : Option (List Code)) (cn : Str) (cs : Scope) (a : Addr) (ccd : Value) (cl : List (Str × Addr)) (A₀ : Around) (base h₀ : Heap) (L : Addr) (m : Str → Option Value) (s : Shared) (Q E : Value → Shared → Prop),
    Below A₀ base [] h₀ → (hd.heap_1 w.params).In base → Top vw (looseW vw []) mean mg mb base → Fr h₀ L s.heap m → (hd.heap_1 w.params).In h₀ → Top vw (looseW vw []) mean mg mb h₀ → cs.kind = .function → dp + k < recursionLimit → un + 8 * k < cLine → Pre s.heap →
    (∀ (v : Value) (h' : Heap) (tk' : Nat) (news' : Led), Post h' v news' → Fr h₀ L h' m → News h₀ L h' news' → GSub s.heap h' [] → (∀ p ∈ news', s.heap.get? p.1 = none) → Q v { s with heap := h', toks := tk' }) →
    (∀ (h' : Heap) (tk' : Nat), Bad → Fr h₀ L h' m → Q .none { s with heap := h', toks := tk' }) →
    wpAny (model PySem.Challenge.rw_nz0247_01.row.prog w) (ktrTop dp un gd cn cs L a ccd cl []) (call f args) Q E s
set_option maxRecDepth 100000 in
set_option maxHeartbeats 8000000 in
theorem framed_c {w : World} {mean : ExcName → Option Value} {mg mb : Str → Option Value} (pic pl sl : Addr) (prefs srefs : List Value) (kept sam : List (Int × Int)) (W Hh prec MA MD : Int) (hlen : sam.length < 100) (hne : 0 < sam.length) (hks : kept.length = sam.length)
    (hA : IsMax MA (sam.map (·.1))) (hD : IsMax MD (sam.map (·.2))) (hW : IsMax W (kept.map (·.1))) (hH : IsMax Hh (kept.map (·.2)))
    (hsm : ∀ p, p ∈ sam → 0 < p.1 ∧ p.1 < 100 ∧ 0 < p.2 ∧ p.2 < 100) :
    FrameSp w mean mg mb 30 (.ref 300) [.ref pic, .ref sl] (fun H => PictAt H pic pl prec ∧ PlanesAt H pl prefs kept ∧ PairsAt H sl srefs sam)
      (fun _ v news' => ∃ f l crefs c, v = .ref f ∧ LedFrame news' f l W Hh prec ∧ (l, listOf crefs.toArray c) ∈ news' ∧ LedComps news' crefs sam sam.length ∧ ∀ (i : Nat) (p q : Int × Int), sam[i]? = some p → kept[i]? = some q → q = (cdiv (W * p.1) MA, cdiv (Hh * p.2) MD))
      (∃ (i : Nat) (p q : Int × Int), sam[i]? = some p ∧ kept[i]? = some q ∧ q ≠ (cdiv (W * p.1) MA, cdiv (Hh * p.2) MD)) := by
  unfold FrameSp
  k_fill
  intro dp un gd cn cs a ccd cl A₀ base h₀ L m s Q E B XB TB F X T hk hd hu hp hret hbad
  refine wpAny_call ?_
  k_dflt (refine' enter_try ?k1 ?k2 ?k3 ?k5 ?kA ?kF ?kK ?k6 ?k7 ?k8 ?k9 ?kB ?_ ?c2 ?c3 ?c4 ?c5; (case kA => exact rfl); (case kF => exact rfl); (case kK => assumption); (case k1 => k_asm); (case k2 => k_asm); (case k3 => k_asm); (case k5 => k_asm); (case k6 => k_is); (case k7 => k_is); (case k8 => ktr_room); (case k9 => exact BindsTo.of_eq rfl); (case c5 => decide); (case kB => exact locs rfl); (case c2 => exact rfl); (case c3 => exact rfl); (case c4 => exact rfl); k_whole; intro L' h' F' B' X' T' D' FG'; (try dsimp only); (try k_lift B'); (try k_fold))
  have N' : News s.heap L' h' [] := News.nil
  k_steps
  rename Fr s.heap L' _ _ => FF
  obtain ⟨hp1, hp2, hp3⟩ := hp
  refine LossSp.use (loss_c pic pl sl prefs srefs kept sam W Hh prec MA MD hlen hne hks hA hD hW hH hsm) (by k_asm) FF (by k_asm) (fun _ q => nomatch q) (by k_asm) rfl (by ktr_room) (by ktr_units) ⟨hp1.keep FF.keep, hp2.keep FF.keep, hp3.keep FF.keep⟩ ?_ ?_
  · intro v h1 tk1 news1 hpo F1 N1 G1 fr1
    exact .inl ⟨L', _, news1, F1, N1, fun kF kN => hret v h1 tk1 news1 hpo kF kN (fun b o e _ => F1.keep b o e) fun p hp => (N1 p hp).2.2⟩
  · intro G e h1 tk1 hb FG R U
    refine kts_lookSN R FG B' U D' ?_
    intro h2 R2 U2
    refine hit_SN0 R2 FG B' U2 XB TB D' KtsTurn.refl (test_name (K := Mine.hd.heap_1 w.params) (cls := .ref 51) (c := .ref 51) (b := true) (.inl (by k_is)) (by first | k_is | exact rfl | decide +kernel) rfl rfl rfl) ?_
    intro h3 g3 T3 F3 N3 K3 X3 P3 D3
    k_steps
    exact .inr ⟨g3, L', _, [], T3, by assumption, fun _ q => (nomatch q), fun kF _ => hbad _ _ hb kF⟩
end Mine
end
section
open PySem PySem.W PyProof.Rows PySem.Calls
namespace Mine
theorem news_pick {h₀ h : Heap} {L : Addr} {news : Led} {p : Addr × Obj} (N : News h₀ L h news) (m : p ∈ news) : News h₀ L h [p] := fun q hq => by rw [List.mem_singleton.mp hq]; exact N _ m
theorem news_mid {h₀ h h' : Heap} {L l : Addr} {o o' : Obj} {pre post : Led} (N : News h₀ L h (pre ++ (l, o) :: post)) (N0 : News h₀ L h' [(l, o')]) (G : GSub h h' [l]) (o1 : ∀ p ∈ pre, p.1 ≠ l) (o2 : ∀ p ∈ post, p.1 ≠ l) : News h₀ L h' (pre ++ (l, o') :: post) := fun p hp => by
  rcases List.mem_append.mp hp with hp | hp
  · have z := N p (List.mem_append_left _ hp)
    exact ⟨G _ _ z.1 (by simpa using o1 p hp), z.2⟩
  rcases List.mem_cons.mp hp with rfl | hp
  · exact N0 _ (.head _)
  · have z := N p (List.mem_append_right _ (.tail _ hp))
    exact ⟨G _ _ z.1 (by simpa using o2 p hp), z.2⟩
theorem offs_nil {l : Addr} : ∀ p ∈ ([] : Led), p.1 ≠ l := fun _ q => nomatch q
theorem offs_cons {l a : Addr} {o : Obj} {r : Led} (h : @Ne Nat a l) (k : ∀ p ∈ r, p.1 ≠ l) : ∀ p ∈ (a, o) :: r, p.1 ≠ l := fun p hp => by
  rcases List.mem_cons.mp hp with rfl | hp
  · exact h
  · exact k p hp
theorem offs_fix {l : Addr} {r : Led} {fixed : List Addr} (h : ∀ p ∈ r, p.1 ∉ fixed) (m : l ∈ fixed) : ∀ p ∈ r, p.1 ≠ l := fun p hp q => h p hp (q ▸ m)
theorem news_name2 {h₀ h : Heap} {L : Addr} {p : Addr × Obj} {r : Led} (N : News h₀ L h (p :: r)) : ∃ r', r' = r ∧ News h₀ L h (p :: r') := ⟨r, rfl, N⟩
def LedPairs (news : Led) (refs : List Value) (sam : List (Int × Int)) : Prop := refs.length = sam.length ∧ ∀ (j : Nat) (p : Int × Int), sam[j]? = some p → ∃ c ta tb, refs[j]? = some (Value.ref c) ∧ (c, tupO p.1 p.2 ta tb) ∈ news
theorem LedPairs.nil {news : Led} : LedPairs news [] [] := ⟨rfl, fun j p e => by simp at e⟩
theorem LedPairs.sub {n n' : Led} {refs : List Value} {sam : List (Int × Int)} (h : LedPairs n refs sam) (k : ∀ p ∈ n, p ∈ n') : LedPairs n' refs sam :=
  ⟨h.1, fun j p e => let ⟨c, ta, tb, h1, h2⟩ := h.2 j p e; ⟨c, ta, tb, h1, k _ h2⟩⟩
theorem LedPairs.snoc {n : Led} {refs : List Value} {sam : List (Int × Int)} (h : LedPairs n refs sam) {c : Addr} {a b : Int} {ta tb : Tok} : LedPairs ((c, tupO a b ta tb) :: n) (refs ++ [.ref c]) (sam ++ [(a, b)]) := by
  refine ⟨by rw [List.length_append, List.length_append, h.1]; rfl, fun j p e => ?_⟩
  by_cases q : j < sam.length
  · rw [List.getElem?_append_left q] at e
    obtain ⟨c', ta', tb', h1, h2⟩ := h.2 j p e
    exact ⟨c', ta', tb', by rw [List.getElem?_append_left (by rw [h.1]; exact q)]; exact h1, .tail _ h2⟩
  · have q' : j = sam.length := by
      have := (List.getElem?_eq_some_iff.mp e).1
      rw [List.length_append, List.length_singleton] at this
      omega
    subst q'
    rw [List.getElem?_append_right (Nat.le_refl _), Nat.sub_self] at e
    cases e
    exact ⟨c, ta, tb, by rw [← h.1, List.getElem?_append_right (Nat.le_refl _), Nat.sub_self]; rfl, .head _⟩
theorem off3_of {I C D : Addr} : ∀ {l : Led}, (∀ p ∈ l, (@Ne Nat p.1 I) ∧ (@Ne Nat p.1 C) ∧ (@Ne Nat p.1 D)) → LCg.Off3 I C D l
  | [], _ => trivial
  | p :: _, h => ⟨h p (.head _), off3_of fun q hq => h q (.tail _ hq)⟩
theorem off3_ins {I C D t : Addr} {s s' : Addr × Obj} {o : Obj} {cells rest : Led} (off : LCg.Off3 I C D (s :: (cells ++ rest))) (e : s'.1 = s.1) (h1 : I < t) (h2 : C < t) (h3 : D < t) : LCg.Off3 I C D (s' :: (cells ++ (t, o) :: rest)) := off3_of fun p hp => by
  rcases List.mem_cons.mp hp with rfl | hp
  · rw [e]; exact off.1
  rcases List.mem_append.mp hp with hp | hp
  · exact off.mem p (.tail _ (List.mem_append_left _ hp))
  rcases List.mem_cons.mp hp with rfl | hp
  · exact ⟨Nat.ne_of_gt h1, Nat.ne_of_gt h2, Nat.ne_of_gt h3⟩
  · exact off.mem p (.tail _ (List.mem_append_right _ hp))
theorem sub_t {a b c s t : Addr × Obj} {cells rest : Led} : ∀ p ∈ a :: b :: c :: s :: (cells ++ t :: rest), p ∈ t :: a :: b :: c :: s :: (cells ++ rest) := by
  intro p hp
  simp only [List.mem_cons, List.mem_append] at hp ⊢
  rcases hp with h | h | h | h | h | h | h <;> simp [h]
theorem fix_cons {t : Addr} {o : Obj} {rest : Led} {fixed : List Addr} (h : t ∉ fixed) (k : ∀ p ∈ rest, p.1 ∉ fixed) : ∀ p ∈ (t, o) :: rest, p.1 ∉ fixed := fun p hp => by
  rcases List.mem_cons.mp hp with rfl | hp
  · exact h
  · exact k p hp
theorem news_cells {h₀ h : Heap} {L : Addr} {s a b c d e f : Addr × Obj} {rest : Led} (N : News h₀ L h (s :: a :: b :: c :: d :: e :: f :: rest)) : ∃ cells, cells = [a, b, c, d, e, f] ∧ News h₀ L h (s :: (cells ++ rest)) := ⟨_, rfl, N⟩
def sizeF (W Hh MA MD : Int) (p : Int × Int) : Int × Int := (cdiv (W * p.1) MA, cdiv (Hh * p.2) MD)
theorem take_snoc {f : Int × Int → Int × Int} {sam : List (Int × Int)} {i : Nat} (hi : i < sam.length) : (sam.map f).take (i + 1) = (sam.map f).take i ++ [f sam[i]] := by
  rw [List.take_add_one, List.getElem?_map, List.getElem?_eq_getElem hi]; rfl
theorem cut {M : Model} {A : Around} {E : Value → Shared → Prop} {s : Shared} {x : Sem Flow} {Q : Flow → Shared → Prop} {h₀ : Heap} {L : Addr} {m : Str → Option Value} (_ : Fr h₀ L s.heap m) (R : Heap → Addr → Heap → Prop) (h1 : wpAny M A x (fun f s' => Stop (f = .next ∧ ∃ h tk, s' = { s with heap := h, toks := tk } ∧ R h₀ L h)) E s)
    (h2 : ∀ h tk, R h₀ L h → Q .next { s with heap := h, toks := tk }) : wpAny M A x Q E s := wpAny_mono h1 (fun f s' ⟨e, h, tk, e', r⟩ => by subst e e'; exact h2 h tk r) (fun _ _ e => e)
theorem fr_name2 {h₀ h : Heap} {L : Addr} {m : Str → Option Value} (F : Fr h₀ L h m) : ∃ m₀, m₀ = m ∧ Fr h₀ L h m₀ := ⟨m, rfl, F⟩
theorem off1_mem {D : Addr} {l : Led} (h : LCg.Off1 D l) : ∀ p ∈ l, p.1 ≠ D := by
  induction l with
  | nil => intro p hp; cases hp
  | cons a r ih =>
    intro p hp
    rcases List.mem_cons.mp hp with rfl | hp
    · exact h.1
    · exact ih h.2 p hp
theorem absorb {h₀ h : Heap} {L D : Addr} {oD : Obj} {s : Addr × Obj} {cells rest : Led} (N : News h₀ L h ((D, oD) :: s :: (cells ++ rest))) (off : LCg.Off1 D (s :: (cells ++ rest))) (hfx : ∀ p ∈ rest, p.1 ∉ s.1 :: cells.map (·.1)) :
    ∃ rest1, (∀ p ∈ rest1, p.1 ∉ s.1 :: cells.map (·.1)) ∧ (D, oD) ∈ rest1 ∧ (∀ p ∈ rest, p ∈ rest1) ∧ News h₀ L h (s :: (cells ++ rest1)) := by
  refine ⟨(D, oD) :: rest, fix_cons (fun q => ?_) hfx, .head _, fun _ q => .tail _ q, fun p hp => N p ?_⟩
  · rcases List.mem_cons.mp q with q | q
    · exact off1_mem off s (.head _) q.symm
    · obtain ⟨p, hp, e⟩ := List.mem_map.mp q
      exact off1_mem off p (.tail _ (List.mem_append_left _ hp)) e
  · rcases List.mem_cons.mp hp with rfl | hp
    · exact .tail _ (.head _)
    rcases List.mem_append.mp hp with hp | hp
    · exact .tail _ (.tail _ (List.mem_append_left _ hp))
    rcases List.mem_cons.mp hp with rfl | hp
    · exact .head _
    · exact .tail _ (.tail _ (List.mem_append_right _ hp))
theorem news_t {h₀ h : Heap} {L t : Addr} {o : Obj} {r : Led} (N : News h₀ L h ((t, o) :: r)) (l : AllLt t r) : ∃ t', t' = t ∧ News h₀ L h ((t', o) :: r) ∧ AllLt t' r := ⟨t, rfl, N, l⟩
theorem compT_ind {prog : Program} {w : World} {A : Around} {s : Shared} {h₀ : Heap} {L : Addr} {m : Str → Option Value} {env : Env} {ct elt : PySem.Expr} {x : Str} {scope : Scope} {cl : List (Str × Addr)} {S : Led → Prop} {P : Nat → Value → Prop} {Fin : List Value → Led → Prop} {n : Nat} (J : Nat → List Value → Led → Prop)
    (step : ∀ i ys news, i < n → J i ys news → ∀ v I oI C oC D m₂ h tk (E' : Value → Shared → Prop), P i v → LCg.NsObj oC m₂ → m₂ x = some v → Fr h₀ L h m → News h₀ L h ((I, oI) :: (C, oC) :: (D, LCg.lst ys) :: news) → LCg.Off3 I C D news → ((@Ne Nat I C) ∧ (@Ne Nat I D) ∧ (@Ne Nat C D)) →
      wpAny (model prog w) A (isTrue ct (compEnvC scope cl C env) (eval ct (compEnvC scope cl C env))) (fun ok s' => if ok = true then
        wpAny (model prog w) A (eval elt (compEnvC scope cl C env)) (LCg.CompEnd h₀ L m { s with heap := h, toks := tk } I oI C oC D (LCg.lst ys) S (fun y news' => J (i + 1) (ys ++ [y]) news')) E' s'
        else LCg.CompEnd h₀ L m { s with heap := h, toks := tk } I oI C oC D (LCg.lst ys) S (fun _ news' => J (i + 1) ys news') Value.none s') E' { s with heap := h, toks := tk })
    (fin : ∀ ys news, J n ys news → Fin ys news) : ∀ k i ys news, i + k = n → J i ys news → LCt.CompRestT prog w A h₀ L m env ct elt x scope cl s S P Fin k i ys news := by
  intro k
  induction k with
  | zero => intro i ys news e j; exact fin ys news (by rw [← e]; exact j)
  | succ k ih =>
    intro i ys news e j
    refine LCt.CompRestT.succ fun v I oI C oC D m₂ h tk E' hP hC hx F N off ne => ?_
    refine wpAny_mono (step i ys news (by omega) j v I oI C oC D m₂ h tk E' hP hC hx F N off ne) (fun ok s' h' => ?_) fun _ _ e => e
    by_cases q : ok = true
    · rw [if_pos q] at h' ⊢
      exact wpAny_mono h' (fun y s2 h2 => compEnd_mono h2 fun news' j' => ih (i + 1) _ news' (by omega) j') fun _ _ e => e
    · rw [if_neg q] at h' ⊢
      exact compEnd_mono h' fun news' j' => ih (i + 1) _ news' (by omega) j'
section
variable {prog : Program} {w : World} {A : Around} {E : Value → Shared → Prop} {s : Shared} {h₀ : Heap} {L D : Addr} {m : Str → Option Value}
theorem set_g {pre post : Led} {refs : List Value} {n i : Nat} {t : Tok} {v : Value} {Q : Unit → Shared → Prop} (F : Fr h₀ L s.heap m) (N : News h₀ L s.heap (pre ++ (D, listOf refs.toArray n) :: post)) (a : ∀ p ∈ pre, p.1 ≠ D) (b : ∀ p ∈ post, p.1 ≠ D) (hi : i < refs.length) (hb : i < 1000)
    (h : ∀ h', Fr h₀ L h' m → News h₀ L h' (pre ++ (D, listOf (refs.set i v).toArray n) :: post) → Q () { s with heap := h' }) : wpAny (model prog w) A (setItem (.ref D) (.int (i : Int) t) v) Q E s := by
  have z := N (D, listOf refs.toArray n) (List.mem_append.mpr (.inr (.head _)))
  refine ki_setAt z.1 (by omega) (by omega) (by simp; exact hi) (h _ (F.change (Heap.SameBut.update ..) z.2.1 z.2.2) (ki_turn _ N a b ?_ ?_))
  · show refs.toArray.setIfInBounds ((i : Int)).toNat v = (refs.set i v).toArray
    simp
  · simp
theorem item_m {value slice : PySem.Expr} {refs : List Value} {n i : Nat} {u : Tok} {v : Value} {l : Addr} {news : Led} {Q : Value → Shared → Prop}
    (N : News h₀ L s.heap news) (hl : (l, listOf refs.toArray n) ∈ news) (hx : refs[i]? = some v) (hb : i < 1000) (h : Q v s)
    (hs : subscripted slice false (.ref l) (.int (i : Int) u) = operate [.ref l, .int (i : Int) u] (getItem (.ref l) (.int (i : Int) u)) := by with_unfolding_all rfl) :
    wpAny (model prog w) A (subscriptTail value slice (.ref l) (.int (i : Int) u)) Q E s :=
  have hl' : s.heap.IsList l refs.toArray := N.isList hl
  tail_any hl'.typeIs slot_list_getitem.lookup (wpAny_getItem_list hl' (by omega) (by omega) (by simpa using hx) h) hs
end
theorem news_dup {h₀ h : Heap} {L : Addr} {p : Addr × Obj} {news : Led} (N : News h₀ L h news) (m : p ∈ news) : News h₀ L h (p :: news) := fun q hq => by
  rcases List.mem_cons.mp hq with rfl | hq
  · exact N _ m
  · exact N _ hq
theorem news_cellsK {h₀ h : Heap} {L : Addr} {k s a b c d e f : Addr × Obj} {rest : Led} (N : News h₀ L h (k :: s :: a :: b :: c :: d :: e :: f :: rest)) : ∃ cells, cells = [a, b, c, d, e, f] ∧ News h₀ L h (k :: s :: (cells ++ rest)) := ⟨_, rfl, N⟩
def Lays (k : Nat) (d : PyData) : Prop := d.canLay0 = true ∧ d.depth ≤ k
theorem lays_all {k : Nat} : ∀ xs : List PyData, (∀ d ∈ xs, Lays k d) → PyData.canLayAll0 xs = true ∧ PyData.depthAll xs ≤ k
  | [], _ => ⟨by simp only [PyData.canLayAll0], by simp only [PyData.depthAll]; exact Nat.zero_le _⟩
  | x :: xs, h => by
    obtain ⟨a, b⟩ := lays_all xs fun d hd => h d (.tail _ hd)
    obtain ⟨c, d⟩ := h x (.head _)
    exact ⟨by simp only [PyData.canLayAll0, a, c, Bool.and_self], by simp only [PyData.depthAll]; exact Nat.max_le.mpr ⟨d, b⟩⟩
theorem Lays.list {k : Nat} {xs : List PyData} (h : ∀ d ∈ xs, Lays k d) : Lays (k + 1) (.list xs) := ⟨by simp only [PyData.canLay0]; exact (lays_all xs h).1, by simp only [PyData.depth]; exact Nat.succ_le_succ (lays_all xs h).2⟩
theorem Lays.tuple {k : Nat} {xs : List PyData} (h : ∀ d ∈ xs, Lays k d) : Lays (k + 1) (.tuple xs) := ⟨by simp only [PyData.canLay0]; exact (lays_all xs h).1, by simp only [PyData.depth]; exact Nat.succ_le_succ (lays_all xs h).2⟩
theorem Lays.int {k : Nat} {i : Int} : Lays k (.int i) := ⟨by simp only [PyData.canLay0], by simp only [PyData.depth]; exact Nat.zero_le _⟩
theorem Lays.ints {k : Nat} {ns : List Int} : ∀ d ∈ ns.map PyData.int, Lays k d := fun d hd => by
  obtain ⟨i, _, rfl⟩ := List.mem_map.mp hd
  exact .int
theorem Lays.shaped {k : Nat} {d : PyData} (h : Lays k d) (hk : k ≤ 64) : SeqAt.shaped d = true := by
  unfold SeqAt.shaped
  rw [h.1, decide_eq_true (Nat.le_trans h.2 hk)]; rfl
theorem shaped_ints (ns : List Int) : SeqAt.shaped (PyData.list (ns.map PyData.int)) = true := (Lays.list (k := 0) Lays.ints).shaped (by decide)
theorem ne_nil0 {prog : Program} {w : World} {A : Around} {E : Value → Shared → Prop} {s : Shared} {h₀ : Heap} {L D b : Addr} {news : Led} {Q : Value → Shared → Prop}
    (N : News h₀ L s.heap news) (hD : (D, LCg.lst []) ∈ news) (hb : (b, listOf #[] 0) ∈ news) (hu : A.units + 64 < cLine) (h : Q (.bool false) s) : wpAny (model prog w) A (compareOp .NotEq (.ref D) (.ref b)) Q E s :=
  ne_dataH (reads_ints (c := 0) (N.get hD) .nil) (reads_list_at (N.get hb) rfl rfl (xs := []) .nil) (shaped_ints []) (by rfl) hu h
theorem ne_nil1 {prog : Program} {w : World} {A : Around} {E : Value → Shared → Prop} {s : Shared} {h₀ : Heap} {L D b : Addr} {news : Led} {ys : List Value} {ns : List Int} {n : Int} {t : Tok} {Q : Value → Shared → Prop}
    (N : News h₀ L s.heap news) (hD : (D, LCg.lst (.int n t :: ys)) ∈ news) (hb : (b, listOf #[] 0) ∈ news) (hi : IntsAre ys ns) (hu : A.units + 64 < cLine) (h : Q (.bool true) s) : wpAny (model prog w) A (compareOp .NotEq (.ref D) (.ref b)) Q E s :=
  ne_dataH (reads_ints (c := (Value.int n t :: ys).length) (N.get hD) (.cons n t hi)) (reads_list_at (N.get hb) rfl rfl (xs := []) .nil) (shaped_ints (n :: ns)) (by rfl) hu h
theorem pick1 {v : Value} {rest : List Value} : (slicePick (v :: rest).toArray none (some 1) none).toList = [v] := by
  have e : sliceBounds none (some 1) none (v :: rest).toArray.size = (((0 : Nat) : Int), ((1 : Nat) : Int), 1) := by
    simp only [sliceBounds, Option.getD_none, show (1 : Int) > 0 by decide, if_true, if_neg (show ¬ ((1 : Int) < 0) by omega)]
    congr 1
    congr 1
    simp
    omega
  rw [kmk_pick_nat _ e]
  simp
structure LedKept (sam sizes : List (Int × Int)) (W Hh : Int) (b : Bool) (kept : List (Int × Int)) : Prop where
  len : kept.length = sam.length
  wide : IsMax W (kept.map (·.1))
  high : IsMax Hh (kept.map (·.2))
  pos : ∀ p ∈ kept, 0 ≤ p.1 ∧ 0 ≤ p.2
  bad : b = true → ∃ (i : Nat) (p q : Int × Int), sizes[i]? = some p ∧ kept[i]? = some q ∧ q ≠ p
  good : b = false → kept = sizes
end Mine
end
section
open PySem PySem.W PyProof.Rows PySem.Calls
namespace Mine
theorem cdiv_top {W M : Int} (hM : 0 < M) : cdiv (W * M) M = W := by
  unfold cdiv
  rw [Int.fdiv_eq_ediv_of_nonneg _ (Int.le_of_lt hM), ← Int.neg_mul, Int.mul_ediv_cancel _ (Int.ne_of_gt hM), Int.neg_neg]
theorem cdiv_le {W a M : Int} (hM : 0 < M) (hW : 0 ≤ W) (h : a ≤ M) : cdiv (W * a) M ≤ W := by
  unfold cdiv
  rw [Int.fdiv_eq_ediv_of_nonneg _ (Int.le_of_lt hM)]
  have : -W ≤ -(W * a) / M := by
    rw [Int.le_ediv_iff_mul_le hM, Int.neg_mul]
    exact Int.neg_le_neg (Int.mul_le_mul_of_nonneg_left h hW)
  omega
theorem cdiv_pos {W a M : Int} (hM : 0 < M) (hW : 0 ≤ W) (h : 0 ≤ a) : 0 ≤ cdiv (W * a) M := by
  unfold cdiv
  rw [Int.fdiv_eq_ediv_of_nonneg _ (Int.le_of_lt hM)]
  have : -(W * a) / M < 1 := by
    rw [Int.ediv_lt_iff_lt_mul hM]
    have := Int.mul_nonneg hW h
    omega
  omega
theorem max_cdiv {f : Int × Int → Int} {g : Int × Int → Int} {sam : List (Int × Int)} {M W : Int} (hM : 0 < M) (hW : 0 ≤ W) (h : IsMax M (sam.map f)) (hg : ∀ p, g p = cdiv (W * f p) M) : IsMax W (sam.map g) := by
  obtain ⟨h1, h2⟩ := h
  obtain ⟨p, hp, e⟩ := List.mem_map.mp h1
  refine ⟨List.mem_map.mpr ⟨p, hp, by rw [hg, e, cdiv_top hM]⟩, fun a ha => ?_⟩
  obtain ⟨q, hq, rfl⟩ := List.mem_map.mp ha
  rw [hg]
  exact cdiv_le hM hW (h2 _ (List.mem_map.mpr ⟨q, hq, rfl⟩))
section
variable {sam : List (Int × Int)} {W Hh MA MD : Int} (hA : IsMax MA (sam.map (·.1))) (hD : IsMax MD (sam.map (·.2))) (bA : 0 < MA) (bD : 0 < MD) (hW : 0 ≤ W) (hH : 0 ≤ Hh) (hb : ∀ p ∈ sam, 0 < p.1 ∧ p.1 < 5 ∧ 0 < p.2 ∧ p.2 < 3)
include hA hD bA bD hW hH hb
theorem kept_good : LedKept sam (sam.map (sizeF W Hh MA MD)) W Hh false (sam.map (sizeF W Hh MA MD)) where
  len := List.length_map ..
  wide := by rw [List.map_map]; exact max_cdiv bA hW hA fun _ => rfl
  high := by rw [List.map_map]; exact max_cdiv bD hH hD fun _ => rfl
  pos p hp := by
    obtain ⟨q, hq, rfl⟩ := List.mem_map.mp hp
    have := hb q hq
    exact ⟨cdiv_pos bA hW (by omega), cdiv_pos bD hH (by omega)⟩
  bad h := nomatch h
  good _ := rfl
theorem max_set {l : List Int} {M v : Int} {j : Nat} (h : IsMax M l) (hv : v ≤ M) (hj : ∀ a, l[j]? = some a → a = M → v = M ∨ ∃ i, i ≠ j ∧ l[i]? = some M) : IsMax M (l.set j v) := by
  obtain ⟨h1, h2⟩ := h
  refine ⟨?_, fun a ha => ?_⟩
  · obtain ⟨i, hi⟩ := List.mem_iff_getElem?.mp h1
    by_cases q : i = j
    · subst q
      have hlt := (List.getElem?_eq_some_iff.mp hi).1
      rcases hj _ hi rfl with e | ⟨k, hk, e⟩
      · rw [← e]; exact List.mem_iff_getElem?.mpr ⟨i, by rw [List.getElem?_set_self hlt]⟩
      · exact List.mem_iff_getElem?.mpr ⟨k, by rw [List.getElem?_set_ne (Ne.symm hk)]; exact e⟩
    · exact List.mem_iff_getElem?.mpr ⟨i, by rw [List.getElem?_set_ne (Ne.symm q)]; exact hi⟩
  · rcases List.mem_or_eq_of_mem_set ha with ha | rfl
    · exact h2 _ ha
    · exact hv
theorem kept_bad {j : Nat} {p q : Int × Int} (hj : sam[j]? = some p) (h1 : p.1 < MA) (h2 : p.2 < MD) (hq : q ≠ sizeF W Hh MA MD p) (q1 : q.1 ≤ W) (q2 : q.2 ≤ Hh) (q3 : 0 ≤ q.1) (q4 : 0 ≤ q.2) : LedKept sam (sam.map (sizeF W Hh MA MD)) W Hh true ((sam.map (sizeF W Hh MA MD)).set j q) where
  len := by rw [List.length_set, List.length_map]
  wide := by
    have g := (kept_good hA hD bA bD hW hH hb).wide
    have hlt := (List.getElem?_eq_some_iff.mp hj).1
    rw [List.map_set]
    refine max_set hA hD bA bD hW hH hb g q1 fun a ha e => .inr ?_
    obtain ⟨r, hr, e'⟩ := List.mem_map.mp hA.1
    obtain ⟨i, hi⟩ := List.mem_iff_getElem?.mp hr
    refine ⟨i, fun c => ?_, ?_⟩
    · subst c; rw [hj] at hi; cases hi; omega
    · rw [List.getElem?_map, List.getElem?_map, hi]
      show some (cdiv (W * r.1) MA) = some W
      rw [e', cdiv_top bA]
  high := by
    have g := (kept_good hA hD bA bD hW hH hb).high
    rw [List.map_set]
    refine max_set hA hD bA bD hW hH hb g q2 fun a ha e => .inr ?_
    obtain ⟨r, hr, e'⟩ := List.mem_map.mp hD.1
    obtain ⟨i, hi⟩ := List.mem_iff_getElem?.mp hr
    refine ⟨i, fun c => ?_, ?_⟩
    · subst c; rw [hj] at hi; cases hi; omega
    · rw [List.getElem?_map, List.getElem?_map, hi]
      show some (cdiv (Hh * r.2) MD) = some Hh
      rw [e', cdiv_top bD]
  pos r hr := by
    rcases List.mem_or_eq_of_mem_set hr with hr | rfl
    · exact (kept_good hA hD bA bD hW hH hb).pos r hr
    · exact ⟨q3, q4⟩
  bad _ := ⟨j, sizeF W Hh MA MD p, q, by rw [List.getElem?_map, hj]; rfl, by rw [List.getElem?_set_self (by rw [List.length_map]; exact (List.getElem?_eq_some_iff.mp hj).1)], hq⟩
  good h := nomatch h
end
theorem set_same {l : List (Int × Int)} {j : Nat} {a b : Int × Int} (h : l[j]? = some a) : (l.set j b).set j a = l := by
  apply List.ext_getElem?
  intro i
  by_cases q : i = j
  · subst q
    have hlt := (List.getElem?_eq_some_iff.mp h).1
    rw [List.getElem?_set_self (by rw [List.length_set]; exact hlt), h]
  · rw [List.getElem?_set_ne (Ne.symm q), List.getElem?_set_ne (Ne.symm q)]
theorem LedPairs.set {n : Led} {refs : List Value} {sam : List (Int × Int)} (h : LedPairs n refs sam) {c : Addr} {p : Int × Int} {ta tb : Tok} {j : Nat} (hc : (c, tupO p.1 p.2 ta tb) ∈ n) : LedPairs n (refs.set j (.ref c)) (sam.set j p) := by
  refine ⟨by rw [List.length_set, List.length_set, h.1], fun i q e => ?_⟩
  by_cases k : i = j
  · subst k
    have hlt : i < sam.length := by have := (List.getElem?_eq_some_iff.mp e).1; rwa [List.length_set] at this
    rw [List.getElem?_set_self hlt] at e
    cases e
    exact ⟨c, ta, tb, by rw [List.getElem?_set_self (by rw [h.1]; exact hlt)], hc⟩
  · rw [List.getElem?_set_ne (Ne.symm k)] at e
    obtain ⟨c', ta', tb', h1, h2⟩ := h.2 i q e
    exact ⟨c', ta', tb', by rw [List.getElem?_set_ne (Ne.symm k)]; exact h1, h2⟩
theorem news_drop2 {h₀ h : Heap} {L : Addr} {a b c d : Addr × Obj} {r : Led} (N : News h₀ L h (a :: b :: c :: d :: r)) : News h₀ L h (a :: b :: r) := fun p hp => N p (by
  rcases List.mem_cons.mp hp with rfl | hp
  · exact .head _
  rcases List.mem_cons.mp hp with rfl | hp
  · exact .tail _ (.head _)
  · exact .tail _ (.tail _ (.tail _ (.tail _ hp))))
theorem news_names3 {h₀ h : Heap} {L a b c : Addr} {o1 o2 o3 : Obj} {r : Led} (N : News h₀ L h ((a, o1) :: (b, o2) :: (c, o3) :: r)) : ∃ a' b' c', a' = a ∧ b' = b ∧ c' = c ∧ News h₀ L h ((a', o1) :: (b', o2) :: (c', o3) :: r) := ⟨a, b, c, rfl, rfl, rfl, N⟩
theorem set_id {l : List (Int × Int)} {j : Nat} {a : Int × Int} (h : l[j]? = some a) : l.set j a = l := by
  have := set_same (b := a) h
  rwa [List.set_set] at this
theorem news_name1 {h₀ h : Heap} {L a : Addr} {o : Obj} {r : Led} (N : News h₀ L h ((a, o) :: r)) : ∃ a', a' = a ∧ News h₀ L h ((a', o) :: r) := ⟨a, rfl, N⟩
theorem unr_endA {h₀ h' : Heap} {L I : Addr} {oI : Obj} {s₁ : Shared} {tk : Nat} {m' : Str → Option Value} {rest : (Str → Option Value) → Led → Prop} {pre r : Led} {d : Addr × Obj} (t : Addr × Obj) (F : Fr h₀ L h' m') (N : News h₀ L h' (pre ++ (I, oI) :: d :: r)) (ht : t ∈ pre) (ot : t.1 ≠ I) (od : ∀ p ∈ d :: r, p.1 ≠ I)
    (hr : rest m' (t :: d :: r)) : UnrEndW h₀ L s₁ [(I, oI)] rest { s₁ with heap := h', toks := tk } := by
  refine ⟨h', tk, m', t :: d :: r, rfl, F, fun p hp => N p ?_, fun p hp q hq => ?_, hr⟩
  · rcases List.mem_cons.mp hp with rfl | hp
    · exact List.mem_append_right _ (.head _)
    rcases List.mem_cons.mp hp with rfl | hp
    · exact List.mem_append_left _ ht
    · exact List.mem_append_right _ (.tail _ hp)
  · rw [List.mem_singleton.mp hq]
    rcases List.mem_cons.mp hp with rfl | hp
    · exact ot
    · exact od p hp
section
variable {sam : List (Int × Int)} {W Hh MA MD : Int} (hA : IsMax MA (sam.map (·.1))) (hD : IsMax MD (sam.map (·.2))) (bA : 0 < MA) (bD : 0 < MD) (hW : 0 ≤ W) (hH : 0 ≤ Hh) (hb : ∀ p ∈ sam, 0 < p.1 ∧ p.1 < 5 ∧ 0 < p.2 ∧ p.2 < 3)
include hA hD bA bD hW hH hb
theorem size_pos {j : Nat} {p : Int × Int} (hj : sam[j]? = some p) : 0 ≤ (sizeF W Hh MA MD p).1 ∧ 0 ≤ (sizeF W Hh MA MD p).2 :=
  (kept_good hA hD bA bD hW hH hb).pos _ (List.mem_map.mpr ⟨p, List.mem_of_getElem? hj, rfl⟩)
theorem bad0 {j : Nat} {p : Int × Int} (hj : sam[j]? = some p) (h1 : p.1 < MA) (h2 : p.2 < MD) (a1 : (sizeF W Hh MA MD p).1 + 1 ≤ W) (a2 : (sizeF W Hh MA MD p).2 ≤ Hh) : LedKept sam (sam.map (sizeF W Hh MA MD)) W Hh true ((sam.map (sizeF W Hh MA MD)).set j ((sizeF W Hh MA MD p).1 + 1, (sizeF W Hh MA MD p).2)) := by
  obtain ⟨x, y⟩ := size_pos hA hD bA bD hW hH hb hj
  exact kept_bad hA hD bA bD hW hH hb hj h1 h2 (fun q => by have := congrArg Prod.fst q; dsimp only at this; omega) a1 a2 (by dsimp only; omega) y
theorem bad1 {j : Nat} {p : Int × Int} (hj : sam[j]? = some p) (h1 : p.1 < MA) (h2 : p.2 < MD) (a1 : (sizeF W Hh MA MD p).1 ≤ W) (a2 : (sizeF W Hh MA MD p).2 + 1 ≤ Hh) : LedKept sam (sam.map (sizeF W Hh MA MD)) W Hh true ((sam.map (sizeF W Hh MA MD)).set j ((sizeF W Hh MA MD p).1, (sizeF W Hh MA MD p).2 + 1)) := by
  obtain ⟨x, y⟩ := size_pos hA hD bA bD hW hH hb hj
  exact kept_bad hA hD bA bD hW hH hb hj h1 h2 (fun q => by have := congrArg Prod.snd q; dsimp only at this; omega) a1 a2 x (by dsimp only; omega)
theorem good1 {j : Nat} {p : Int × Int} (hj : sam[j]? = some p) : LedKept sam (sam.map (sizeF W Hh MA MD)) W Hh false ((sam.map (sizeF W Hh MA MD)).set j ((sizeF W Hh MA MD p).1, (sizeF W Hh MA MD p).2)) := by
  rw [set_id (a := ((sizeF W Hh MA MD p).1, (sizeF W Hh MA MD p).2)) (by rw [List.getElem?_map, hj]; rfl)]; exact kept_good hA hD bA bD hW hH hb
end
theorem pairs_end {x : Addr × Obj} {rest : Led} {refs : List Value} {l : List (Int × Int)} {j : Nat} {T : Addr} {a b : Int} {ta tb : Tok} (h : LedPairs rest refs l) : LedPairs ((T, tupO a b ta tb) :: x :: rest) (refs.set j (.ref T)) (l.set j (a, b)) :=
  LedPairs.set (p := (a, b)) (h.sub fun _ q => .tail _ (.tail _ q)) (.head _)
theorem news_end {h₀ h : Heap} {L T : Addr} {a b : Int} {ta tb : Tok} {d k s a1 a2 a3 a4 a5 a6 : Addr × Obj} {rest : Led} (N : News h₀ L h ((T, tupO a b ta tb) :: d :: k :: s :: a1 :: a2 :: a3 :: a4 :: a5 :: a6 :: rest)) :
    ∃ ta' tb', News h₀ L h (a1 :: a2 :: a3 :: a4 :: a5 :: a6 :: (T, tupO a b ta' tb') :: k :: rest) := ⟨ta, tb, fun p hp => N p (by
  simp only [List.mem_cons] at hp ⊢
  rcases hp with q | q | q | q | q | q | q | q | q <;> simp [q])⟩
theorem fr5 {h₀ h : Heap} {L : Addr} {m m₃ : Str → Option Value} {b : Bool} (F : Fr h₀ L h m) (hw : m "wrong" = some (.bool b)) (hm : ∀ y : Str, ¬ y = "wrong" → ¬ y = "small" → ¬ y = "place" → ¬ y = "wide" → ¬ y = "high" → m y = m₃ y) :
    ∃ v1 v2 v3 v4 : Option Value, Fr h₀ L h (fun (y : Str) => if y = "wrong" then some (.bool b) else if y = "small" then v1 else if y = "place" then v2 else if y = "wide" then v3 else if y = "high" then v4 else m₃ y) := by
  refine ⟨m "small", m "place", m "wide", m "high", ?_⟩
  have e : (fun (y : Str) => if y = "wrong" then some (.bool b) else if y = "small" then m "small" else if y = "place" then m "place" else if y = "wide" then m "wide" else if y = "high" then m "high" else m₃ y) = m := by
    funext y
    split
    · next q => rw [q, hw]
    split
    · next q => rw [q]
    split
    · next q => rw [q]
    split
    · next q => rw [q]
    split
    · next q => rw [q]
    · next a b c d e => rw [hm y a b c d e]
  rw [e]; exact F
end Mine
end
section
open PySem PySem.W PyProof.Rows PySem.Calls
namespace Mine
theorem FrameSp.use {w : World} {mean : ExcName → Option Value} {mg mb : Str → Option Value} {k : Nat} {f : Value} {args : List Value} {Pre : Heap → Prop} {Post : Heap → Value → Led → Prop} {Bad : Prop}
    {dp un : Nat} {gd : Option (List Code)} {cn : Str} {cs : Scope} {a : Addr} {ccd : Value} {cl : List (Str × Addr)} {A₀ : Around} {base h₀ : Heap} {L : Addr} {m : Str → Option Value} {s : Shared} {Q E : Value → Shared → Prop}
    (C : FrameSp w mean mg mb k f args Pre Post Bad) (B : Below A₀ base [] h₀) (XB : (hd.heap_1 w.params).In base) (TB : Top vw (looseW vw []) mean mg mb base) (F : Fr h₀ L s.heap m) (X : (hd.heap_1 w.params).In h₀) (T : Top vw (looseW vw []) mean mg mb h₀) (hk : cs.kind = .function) (hd' : dp + k < recursionLimit) (hu : un + 8 * k < cLine) (hp : Pre s.heap)
    (hret : ∀ (v : Value) (h' : Heap) (tk' : Nat) (news' : Led), Post h' v news' → Fr h₀ L h' m → News h₀ L h' news' → GSub s.heap h' [] → (∀ p ∈ news', s.heap.get? p.1 = none) → Q v { s with heap := h', toks := tk' })
    (hbad : ∀ (h' : Heap) (tk' : Nat), Bad → Fr h₀ L h' m → Q .none { s with heap := h', toks := tk' }) :
    wpAny (model PySem.Challenge.rw_nz0247_01.row.prog w) (ktrTop dp un gd cn cs L a ccd cl []) (call f args) Q E s :=
  C dp un gd cn cs a ccd cl A₀ base h₀ L m s Q E B XB TB F X T hk hd' hu hp hret hbad
theorem good_end {c : ClaimW} {cl : Str → Option Addr} {mean : ExcName → Option Value} {args : List WData} {s₁ : Shared} {h h₀ : Heap} {L : Addr} {m : Str → Option Value} {d : Drawn} {t : Nat} (hg : s₁.gens = #[]) (F : Fr h₀ L h m) (e : h₀ = s₁.heap) (hr : ∀ cls, c.raises args cls = false) (hp : c.post args (.bool true) args = true) :
    GoodW c cl mean args s₁ (.ok (.ret (.bool true))) { heap := h, gens := s₁.gens, drawn := d, toks := t, os := s₁.os } :=
  ⟨.inl ⟨_, _, [], rfl, hr, ReadsW.bool true, hp, fun _ => ⟨List.nodup_nil, fun _ hm => (nomatch hm)⟩⟩, fun b o q => F.keep b o (e ▸ q), rfl, hg⟩
theorem news_front {h₀ h : Heap} {L : Addr} {new rest : Led} {a b c1 c2 c3 c4 c5 c6 d x y : Addr × Obj} (N : News h₀ L h (new ++ (a :: b :: c1 :: c2 :: c3 :: c4 :: c5 :: c6 :: d :: rest))) (hx : x ∈ new) (hy : y ∈ new) :
    ∃ R : Led, (∀ p ∈ new, p ∈ R) ∧ (∀ p ∈ rest, p ∈ R) ∧ News h₀ L h (x :: y :: c1 :: c2 :: c3 :: c4 :: c5 :: c6 :: R) := by
  refine ⟨new ++ rest, fun _ q => List.mem_append_left _ q, fun _ q => List.mem_append_right _ q, fun p hp => N p ?_⟩
  simp only [List.mem_cons, List.mem_append] at hp ⊢
  rcases hp with q | q | q | q | q | q | q | q | q | q
  · rw [q]; exact .inl hx
  · rw [q]; exact .inl hy
  all_goals simp [q]
theorem fr_nil {h₀ h : Heap} {L : Addr} {m : Str → Option Value} (_ : Fr h₀ L h m) : News h₀ L h [] := News.nil
def LedPlane (news : Led) (c : Addr) (a b : Int) : Prop := ∃ dx es k ta tb, (c, instObj 204 dx) ∈ news ∧ (dx, dictOf es k) ∈ news ∧ getL "width" es = some (some (.int a ta)) ∧ getL "height" es = some (some (.int b tb))
theorem LedPlane.sub {n n' : Led} {c : Addr} {a b : Int} (h : LedPlane n c a b) (k : ∀ p ∈ n, p ∈ n') : LedPlane n' c a b := by
  obtain ⟨dx, es, e, ta, tb, h1, h2, r⟩ := h
  exact ⟨dx, es, e, ta, tb, k _ h1, k _ h2, r⟩
def LedPlanes (news : Led) (refs : List Value) (kept : List (Int × Int)) : Prop := refs.length = kept.length ∧ ∀ (j : Nat) (p : Int × Int), kept[j]? = some p → ∃ c, refs[j]? = some (Value.ref c) ∧ LedPlane news c p.1 p.2
theorem LedPlanes.nil {news : Led} : LedPlanes news [] [] := ⟨rfl, fun j p e => by simp at e⟩
theorem LedPlanes.sub {n n' : Led} {refs : List Value} {kept : List (Int × Int)} (h : LedPlanes n refs kept) (k : ∀ p ∈ n, p ∈ n') : LedPlanes n' refs kept :=
  ⟨h.1, fun j p e => let ⟨c, h1, h2⟩ := h.2 j p e; ⟨c, h1, h2.sub k⟩⟩
theorem LedPlanes.snoc {n : Led} {refs : List Value} {kept : List (Int × Int)} (h : LedPlanes n refs kept) {c : Addr} {q : Int × Int} (hc : LedPlane n c q.1 q.2) : LedPlanes n (refs ++ [.ref c]) (kept ++ [q]) := by
  refine ⟨by rw [List.length_append, List.length_append, h.1]; rfl, fun j p e => ?_⟩
  by_cases k : j < kept.length
  · rw [List.getElem?_append_left k] at e
    obtain ⟨c', h1, h2⟩ := h.2 j p e
    exact ⟨c', by rw [List.getElem?_append_left (by rw [h.1]; exact k)]; exact h1, h2⟩
  · have q' : j = kept.length := by
      have := (List.getElem?_eq_some_iff.mp e).1
      rw [List.length_append, List.length_singleton] at this
      omega
    subst q'
    rw [List.getElem?_append_right (Nat.le_refl _), Nat.sub_self] at e
    cases e
    exact ⟨c, by rw [← h.1, List.getElem?_append_right (Nat.le_refl _), Nat.sub_self]; rfl, hc⟩
theorem LedPlanes.snoc2 {n : Led} {refs : List Value} {kept : List (Int × Int)} (h : LedPlanes n refs kept) {c dx : Addr} {es : List DictEntry} {k : Nat} {q : Int × Int} {ta tb : Tok} (hw : getL "width" es = some (some (.int q.1 ta))) (hh : getL "height" es = some (some (.int q.2 tb))) :
    LedPlanes ((c, instObj 204 dx) :: (dx, dictOf es k) :: n) (refs ++ [.ref c]) (kept ++ [q]) :=
  LedPlanes.snoc (h.sub fun _ q => .tail _ (.tail _ q)) ⟨dx, es, k, ta, tb, .head _, .tail _ (.head _), hw, hh⟩
theorem LedPlanes.at_ {h₀ h : Heap} {L l : Addr} {c : Nat} {n : Led} {refs : List Value} {kept : List (Int × Int)} (h' : LedPlanes n refs kept) (N : News h₀ L h n) (hl : (l, listOf refs.toArray c) ∈ n) : PlanesAt h l refs kept :=
  ⟨N.isList hl, h'.1, fun i p e => by
    obtain ⟨c, h1, dx, es, k, ta, tb, h2, h3, r⟩ := h'.2 i p e
    exact ⟨c, h1, ⟨dx, es, k, ta, tb, N.get h2, N.get h3, r⟩⟩⟩
theorem LedPairs.at_ {h₀ h : Heap} {L l : Addr} {c : Nat} {n : Led} {refs : List Value} {sam : List (Int × Int)} (h' : LedPairs n refs sam) (N : News h₀ L h n) (hl : (l, listOf refs.toArray c) ∈ n) : PairsAt h l refs sam :=
  ⟨N.isList hl, h'.1, fun i p e => by
    obtain ⟨c, ta, tb, h1, h2⟩ := h'.2 i p e
    exact ⟨c, ta, tb, h1, N.get h2⟩⟩
theorem take_snoc1 {l : List (Int × Int)} {i : Nat} (hi : i < l.length) : l.take (i + 1) = l.take i ++ [l[i]] := by
  rw [List.take_add_one, List.getElem?_eq_getElem hi]; rfl
theorem news_cells6 {h₀ h : Heap} {L : Addr} {a b c d e f : Addr × Obj} {rest : Led} (N : News h₀ L h (a :: b :: c :: d :: e :: f :: rest)) : ∃ cells, cells = [a, b, c, d, e, f] ∧ News h₀ L h (cells ++ rest) := ⟨_, rfl, N⟩
theorem sub_pd {a b c s t : Addr × Obj} {cells rest : Led} : ∀ p ∈ a :: b :: c :: (cells ++ s :: t :: rest), p ∈ s :: t :: a :: b :: c :: (cells ++ rest) := by
  intro p hp
  simp only [List.mem_cons, List.mem_append] at hp ⊢
  rcases hp with h | h | h | h | h | h | h <;> simp [h]
theorem off3_ins2 {I C D s t : Addr} {oI oC oD os ot : Obj} {cells rest : Led} (off : LCg.Off3 I C D (cells ++ rest)) (o2 : ∀ p ∈ [(s, os), (t, ot)], ∀ q ∈ (I, oI) :: (C, oC) :: (D, oD) :: (cells ++ rest), q.1 ≠ p.1) : LCg.Off3 I C D (cells ++ (s, os) :: (t, ot) :: rest) := off3_of fun p hp => by
  have g : ∀ p ∈ [(s, os), (t, ot)], (@Ne Nat p.1 I) ∧ (@Ne Nat p.1 C) ∧ (@Ne Nat p.1 D) := fun p hp => ⟨Ne.symm (o2 p hp (I, oI) (.head _)), Ne.symm (o2 p hp (C, oC) (.tail _ (.head _))), Ne.symm (o2 p hp (D, oD) (.tail _ (.tail _ (.head _))))⟩
  rcases List.mem_append.mp hp with hp | hp
  · exact off.mem p (List.mem_append_left _ hp)
  rcases List.mem_cons.mp hp with rfl | hp
  · exact g _ (.head _)
  rcases List.mem_cons.mp hp with rfl | hp
  · exact g _ (.tail _ (.head _))
  · exact off.mem p (List.mem_append_right _ hp)
theorem news_in {h₀ h : Heap} {L : Addr} {d : Addr × Obj} {cells rest : Led} (N : News h₀ L h (d :: (cells ++ rest))) : News h₀ L h (cells ++ d :: rest) := fun p hp => N p (by
  simp only [List.mem_cons, List.mem_append] at hp ⊢
  rcases hp with h | h | h <;> simp [h])
def tup3 (a b c : Int) (ta tb tc : Tok) : Obj := { cls := .type "tuple", data := .seq #[.int a ta, .int b tb, .int c tc] }
def LedTrips (news : Led) (refs : List Value) (sam : List (Int × Int)) (n : Nat) : Prop := refs.length = n ∧ ∀ (j : Nat) (p : Int × Int), j < n → sam[j]? = some p → ∃ c ta tb tc, refs[j]? = some (Value.ref c) ∧ (c, tup3 ((j : Int) + 1) p.1 p.2 ta tb tc) ∈ news
theorem LedTrips.nil {news : Led} {sam : List (Int × Int)} : LedTrips news [] sam 0 := ⟨rfl, fun j p q => absurd q (Nat.not_lt_zero j)⟩
theorem LedTrips.sub {n n' : Led} {refs : List Value} {sam : List (Int × Int)} {i : Nat} (h : LedTrips n refs sam i) (k : ∀ p ∈ n, p ∈ n') : LedTrips n' refs sam i :=
  ⟨h.1, fun j p q e => let ⟨c, ta, tb, tc, h1, h2⟩ := h.2 j p q e; ⟨c, ta, tb, tc, h1, k _ h2⟩⟩
theorem LedTrips.snoc {n : Led} {refs : List Value} {sam : List (Int × Int)} {i : Nat} (h : LedTrips n refs sam i) (hi : i < sam.length) {c : Addr} {ta tb tc : Tok} : LedTrips ((c, tup3 ((i : Int) + 1) sam[i].1 sam[i].2 ta tb tc) :: n) (refs ++ [.ref c]) sam (i + 1) := by
  refine ⟨by rw [List.length_append, h.1]; rfl, fun j p hj e => ?_⟩
  by_cases q : j < i
  · obtain ⟨c', ta', tb', tc', h1, h2⟩ := h.2 j p q e
    exact ⟨c', ta', tb', tc', by rw [List.getElem?_append_left (by rw [h.1]; exact q)]; exact h1, .tail _ h2⟩
  · have q' : j = i := by omega
    subst q'
    rw [List.getElem?_eq_getElem hi] at e
    obtain rfl := Option.some.inj e
    exact ⟨c, ta, tb, tc, by rw [List.getElem?_append_right (by rw [h.1]; exact Nat.le_refl _), h.1, Nat.sub_self]; rfl, .head _⟩
def tripsD : Nat → List (Int × Int) → List PyData
  | _, [] => []
  | k, p :: r => .tuple [.int ((k : Int) + 1), .int p.1, .int p.2] :: tripsD (k + 1) r
theorem reads_trips {h : Heap} : ∀ (sam : List (Int × Int)) (ys : List Value) (k : Nat), ys.length = sam.length → (∀ (j : Nat) (p : Int × Int), sam[j]? = some p → ∃ c ta tb tc, ys[j]? = some (Value.ref c) ∧ h.get? c = some (tup3 (((k + j : Nat) : Int) + 1) p.1 p.2 ta tb tc)) → ∃ as, ReadsAll h ys (tripsD k sam) as
  | [], [], _, _, _ => ⟨[], .nil⟩
  | [], _ :: _, _, e, _ => by simp at e
  | _ :: _, [], _, e, _ => by simp at e
  | p :: r, y :: ys, k, e, H => by
    obtain ⟨c, ta, tb, tc, e1, ho⟩ := H 0 p rfl
    obtain rfl : y = .ref c := by simpa using e1
    obtain ⟨as, q⟩ := reads_trips r ys (k + 1) (by simpa using e) fun j v hv => by
      obtain ⟨c, ta, tb, tc, e1, ho⟩ := H (j + 1) v (by simpa using hv)
      exact ⟨c, ta, tb, tc, by simpa using e1, by rw [show k + 1 + j = k + (j + 1) by omega]; exact ho⟩
    exact ⟨_, .cons (.tuple ho rfl rfl (.cons (.int _ _) (.cons (.int _ _) (.cons (.int _ _) .nil)))) q⟩
theorem LedTrips.reads {h₀ h : Heap} {L D : Addr} {n n' : Led} {ys : List Value} {sam : List (Int × Int)} (S : LedTrips n' ys sam sam.length) (N : News h₀ L h n) (k : ∀ p ∈ n', p ∈ n) (hD : (D, LCg.lst ys) ∈ n) : ∃ as, Reads h (.ref D) (.list (tripsD 0 sam)) as := by
  obtain ⟨as, r⟩ := reads_trips sam ys 0 S.1 fun j p e => by
    obtain ⟨c, ta, tb, tc, e', hm⟩ := S.2 j p (List.getElem?_eq_some_iff.mp e).1 e
    exact ⟨c, ta, tb, tc, e', by rw [Nat.zero_add]; exact (N _ (k _ hm)).1⟩
  exact ⟨_, reads_list_at (N.get hD) rfl rfl r⟩
theorem trips_lays : ∀ (k : Nat) (sam : List (Int × Int)), ∀ d ∈ tripsD k sam, Lays 1 d
  | _, [], _, q => nomatch q
  | k, p :: r, d, q => by
    rcases List.mem_cons.mp q with rfl | q
    · refine Lays.tuple fun e he => ?_
      simp only [List.mem_cons, List.not_mem_nil, or_false] at he
      rcases he with rfl | rfl | rfl <;> exact .int
    · exact trips_lays _ r d q
theorem trips_eqv : ∀ (k : Nat) (sam : List (Int × Int)), PyData.eqvAll (tripsD k sam) (tripsD k sam) = true
  | _, [] => by simp only [tripsD, PyData.eqvAll]
  | k, p :: r => by simp only [tripsD, PyData.eqvAll, PyData.eqv, trips_eqv (k + 1) r, beq_self_eq_true, Bool.and_self]
theorem ne_trips {prog : Program} {w : World} {A : Around} {E : Value → Shared → Prop} {s : Shared} {h₀ : Heap} {L D D' : Addr} {n n1 n2 : Led} {ys ys' : List Value} {sam : List (Int × Int)} {Q : Value → Shared → Prop}
    (N : News h₀ L s.heap n) (S : LedTrips n1 ys sam sam.length) (S' : LedTrips n2 ys' sam sam.length) (k1 : ∀ p ∈ n1, p ∈ n) (k2 : ∀ p ∈ n2, p ∈ n) (hD : (D, LCg.lst ys) ∈ n) (hD' : (D', LCg.lst ys') ∈ n) (hu : A.units + 64 < cLine) (h : Q (.bool false) s) :
    wpAny (model prog w) A (compareOp .NotEq (.ref D) (.ref D')) Q E s := by
  obtain ⟨as, r⟩ := S.reads N k1 hD
  obtain ⟨as', r'⟩ := S'.reads N k2 hD'
  have hs := (Lays.list (trips_lays 0 sam)).shaped (by decide)
  refine ne_dataH r r' hs hs hu ?_
  have e : PyData.eqv (.list (tripsD 0 sam)) (.list (tripsD 0 sam)) = true := by simp only [PyData.eqv]; exact trips_eqv 0 sam
  rw [e]; exact h
theorem news_cells8 {h₀ h : Heap} {L : Addr} {a b c d e f g i : Addr × Obj} {rest : Led} (N : News h₀ L h (a :: b :: c :: d :: e :: f :: g :: i :: rest)) : ∃ cells, cells = [a, b, c, d, e, f, g, i] ∧ News h₀ L h (cells ++ rest) := ⟨_, rfl, N⟩
theorem sub_t2 {a b c t x y : Addr × Obj} {cells rest : Led} : ∀ p ∈ a :: b :: c :: (cells ++ t :: rest), p ∈ t :: x :: y :: a :: b :: c :: (cells ++ rest) := by
  intro p hp
  simp only [List.mem_cons, List.mem_append] at hp ⊢
  rcases hp with h | h | h | h | h | h <;> simp [h]
theorem sub_t3 {a b c t x y z : Addr × Obj} {cells rest : Led} : ∀ p ∈ a :: b :: c :: (cells ++ t :: rest), p ∈ t :: x :: y :: z :: a :: b :: c :: (cells ++ rest) := by
  intro p hp
  simp only [List.mem_cons, List.mem_append] at hp ⊢
  rcases hp with h | h | h | h | h | h <;> simp [h]
theorem off3_ins0 {I C D t : Addr} {o : Obj} {cells rest : Led} (off : LCg.Off3 I C D (cells ++ rest)) (h1 : I < t) (h2 : C < t) (h3 : D < t) : LCg.Off3 I C D (cells ++ (t, o) :: rest) := off3_of fun p hp => by
  rcases List.mem_append.mp hp with hp | hp
  · exact off.mem p (List.mem_append_left _ hp)
  rcases List.mem_cons.mp hp with rfl | hp
  · exact ⟨Nat.ne_of_gt h1, Nat.ne_of_gt h2, Nat.ne_of_gt h3⟩
  · exact off.mem p (List.mem_append_right _ hp)
theorem wholeD_lays (n : Nat) : Lays 2 (wholeD n) := Lays.list fun d hd => by rw [List.mem_singleton.mp hd]; exact Lays.list Lays.ints
theorem singlesD_lays (n : Nat) : Lays 2 (singlesD n) := Lays.list fun d hd => by
  obtain ⟨j, _, rfl⟩ := List.mem_map.mp hd
  exact Lays.list fun d h => by rw [List.mem_singleton.mp h]; exact Lays.int
theorem scanD_lays (n : Nat) (S : Int) : Lays 2 (scanD n S) := by
  unfold scanD
  split
  · exact wholeD_lays n
  · exact singlesD_lays n
theorem ints_eqv : ∀ ns : List Int, PyData.eqvAll (ns.map PyData.int) (ns.map PyData.int) = true
  | [] => by simp only [List.map_nil, PyData.eqvAll]
  | n :: r => by simp only [List.map_cons, PyData.eqvAll, PyData.eqv, ints_eqv r, beq_self_eq_true, Bool.and_self]
theorem singles_eqv : ∀ ns : List Nat, PyData.eqvAll (ns.map fun (j : Nat) => PyData.list [.int (j : Int)]) (ns.map fun (j : Nat) => PyData.list [.int (j : Int)]) = true
  | [] => by simp only [List.map_nil, PyData.eqvAll]
  | n :: r => by simp only [List.map_cons, PyData.eqvAll, PyData.eqv, singles_eqv r, beq_self_eq_true, Bool.and_self]
theorem scanD_eqv (n : Nat) (S : Int) : PyData.eqv (scanD n S) (scanD n S) = true := by
  unfold scanD
  split
  · simp only [wholeD, PyData.eqv, PyData.eqvAll, ints_eqv, Bool.and_self]
  · simp only [singlesD, PyData.eqv, singles_eqv]
theorem eq_scan {prog : Program} {w : World} {A : Around} {E : Value → Shared → Prop} {s : Shared} {v v' : Value} {n : Nat} {S : Int} {as : List Addr} {Q : Value → Shared → Prop}
    (r : Reads s.heap v (scanD n S) as) (r' : ∃ as', Reads s.heap v' (scanD n S) as') (hu : A.units + 64 < cLine) (h : Q (.bool true) s) : wpAny (model prog w) A (compareOp .Eq v v') Q E s := by
  obtain ⟨as', r'⟩ := r'
  have hs := (scanD_lays n S).shaped (by decide)
  refine eq_dataH r r' hs hs hu ?_
  rw [scanD_eqv]; exact h
theorem whole_reads {h₀ h : Heap} {L l D : Addr} {n k c : Nat} {S : Int} {vs : List Value} {news : Led} (hn : n = k) (h4 : (n : Int) ≤ 4) (hS : S ≤ 10) (hi : IntsAre vs (rangeKs 0 k)) (N : News h₀ L h news) (h1 : (l, listOf #[Value.ref D] 0) ∈ news) (h2 : (D, listOf vs.toArray c) ∈ news) : ∃ as, Reads h (.ref l) (scanD n S) as := by
  subst hn
  rw [show scanD n S = wholeD n from if_pos ⟨h4, hS⟩]
  exact ⟨_, reads_list_at (N.get h1) rfl rfl (.cons (reads_ints (N.get h2) hi) .nil)⟩
theorem singles_scan {h₀ h : Heap} {L D : Addr} {n k : Nat} {S : Int} {ys : List Value} {rest news : Led} (hn : n = k) (hno : ¬ ((n : Int) ≤ 4 ∧ S ≤ 10)) (hy : ys.length = k) (hi : SinglesIn rest ys) (N : News h₀ L h news) (k1 : ∀ p ∈ rest, p ∈ news) (hD : (D, LCg.lst ys) ∈ news) : ∃ as, Reads h (.ref D) (scanD n S) as := by
  subst hn
  rw [show scanD n S = singlesD n from if_neg hno, ← hy]
  exact hi.reads (fun p q => N p (k1 p q)) (N.get hD)
theorem sub_t1 {a b c t : Addr × Obj} {cells rest : Led} : ∀ p ∈ a :: b :: c :: (cells ++ t :: rest), p ∈ t :: a :: b :: c :: (cells ++ rest) := by
  intro p hp
  simp only [List.mem_cons, List.mem_append] at hp ⊢
  rcases hp with h | h | h | h | h | h <;> simp [h]
end Mine
end
section
open PySem PySem.W PyProof.Rows PySem.Calls
namespace Mine
local macro_rules | `(tactic| k_room) => `(tactic| ktr_room)
local macro_rules | `(tactic| k_units) => `(tactic| ktr_units)
local macro_rules | `(tactic| passes_own) => `(tactic| exact PySem.PassesOwn.leaving)
local macro_rules | `(tactic| walk_at "exec For Tuple List cons nil") => `(tactic| (k_here; (rename Fr _ _ _ _ => lF'); (with_reducible refine' For_turns lF' ?h ?hs ?hE); k_dflt ((case hE => exact PySem.PassesOwn.leaving); (case hs => intro _; rfl))))
local macro_rules | `(tactic| walk_at "subscriptTail Name Constant ref int") => `(tactic| (k_here; (with_reducible show wpAny _ _ (subscriptTail _ _ (Value.ref _) (Value.int _ _)) _ _ _); k_dflt (first | ((with_reducible refine' item_0 ?k1 ?k2 ?_ ?k6); (case k1 => k_asm); (case k2 => k_mem); (case k6 => with_unfolding_all rfl); k_whole) | ((with_reducible refine' item_1 ?k1 ?k2 ?_ ?k6); (case k1 => k_asm); (case k2 => k_mem); (case k6 => with_unfolding_all rfl); k_whole))))
local macro_rules | `(tactic| k_qdec) => `(tactic| kernel_rfl)
local macro_rules | `(tactic| walk_at "eval ListComp") => `(tactic| (k_here; (with_reducible show wpAny _ _ (eval (Expr.ListComp _ [Comprehension.mk (Expr.Name _ _) _ [] _] _ _) _) _ _ _); k_dflt (refine LCg.ListComp_U (F₀ := by k_asm) (by rfl) (by decide) (by rfl) (by decide) (by rfl) ?_)))
local macro_rules | `(tactic| walk_at "eval ListComp") => `(tactic| (k_here; (with_reducible show wpAny _ _ (eval (Expr.ListComp _ [Comprehension.mk (Expr.Tuple _ _ _) _ [] _] _ _) _) _ _ _); k_dflt (refine LCp.ListComp_P (F₀ := by k_asm) (by rfl) (by decide) (by rfl) (by decide) (by rfl) (by rfl) (by decide) ?_)))
local macro_rules | `(tactic| walk_at "SrcLP") => `(tactic| (k_here; refine Stop.out ?_))
local macro_rules | `(tactic| walk_at "exec For Name Subscript cons nil") => `(tactic| (k_here; (rename Fr _ _ _ _ => lF'); (with_reducible refine' For_turns lF' ?h ?hs ?hE); k_dflt ((case hE => exact PySem.PassesOwn.leaving); (case hs => intro _; rfl))))
local macro_rules | `(tactic| walk_at "subscriptTail Name Slice ref ref") => `(tactic| (k_here; (with_reducible show wpAny _ _ (subscriptTail _ (PySem.Expr.Slice _ _ none _) (Value.ref _) (Value.ref _)) _ _ _); k_dflt (refine' kmk_slice_lit ?F ?N ?l ?p ?q ?e ?_ ?s ?t ?z; (case F => k_asm); (case N => k_asm); (case l => kmk_list); (case p => kmk_part); (case q => kmk_part); (case e => exact pick1); (case s => with_unfolding_all rfl); (case t => kmk_pure); (case z => assumption)); intro D' h' F' N' l1; (try k_lt l1); (try k_sweep)))
local macro_rules | `(tactic| walk_at "setItem ref int") => `(tactic| (k_here; refine Stop.out ?_))
local macro_rules | `(tactic| walk_at "UnrEndW cons") => `(tactic| (k_here; refine Stop.out ?_))
local macro_rules | `(tactic| walk_at "getAttr ref") => `(tactic| (k_here; k_dflt (refine' attr_l ?k1 ?k2 ?k3 ?k3a ?k4 ?k5 ?k6 ?k7 ?k8 ?k9 ?k10 ?_; (case k1 => k_asm); (case k2 => k_asm); (case k3 => k_asm); (case k3a => k_mem); (case k4 => k_mem); (case k5 => k_is); (case k6 => k_is); (case k7 => k_is); (case k8 => k_is); (case k9 => assumption); (case k10 => k_handed); k_whole)))
local macro_rules | `(tactic| walk_at "callWith ref") => `(tactic| (k_here; (with_reducible show wpAny _ _ (callWith _ (Value.ref _) [] (backTo _ (starEach [] _)) []) _ _ _); k_dflt (refine' callWith_K0 ?k1 ?k2 ?_; (case k1 => exact Frag.In.keeps (by k_asm) (Fr.keep (by k_asm))); (case k2 => k_is); k_whole)))
local macro_rules | `(tactic| walk_at "CompSrcT") => `(tactic| (k_here; refine Stop.out ?_))
local macro_rules | `(tactic| walk_at "subscriptTail Name Name ref int") => `(tactic| (k_here; (with_reducible show wpAny _ _ (subscriptTail _ _ (Value.ref _) (Value.int _ _)) _ _ _); k_dflt ((with_reducible refine' item_m ?k1 ?k2 ?k3 ?k4 ?_ ?k6); (case k1 => k_asm); (case k2 => k_mem); (case k3 => assumption); (case k4 => assumption); (case k6 => with_unfolding_all rfl); k_whole)))
local macro_rules | `(tactic| walk_at "CompSrc") => `(tactic| (k_here; refine Stop.out ?_))
local macro_rules | `(tactic| k_all) => `(tactic| (repeat (first | with_reducible exact offs_nil | (with_reducible refine offs_cons ?_ ?_; (first | with_reducible assumption | exact Ne.symm (by with_reducible assumption) | k_ne)) | exact offs_fix (by with_reducible assumption) (by (repeat (first | with_reducible exact List.mem_cons_self | with_reducible refine List.mem_cons_of_mem _ ?_))) | with_reducible assumption)))
local macro_rules | `(tactic| walk_at "binaryOp Mult int int") => `(tactic| (with_reducible refine mul_int ?_ (mul_fit2 (by k_dflt omega) (by k_dflt omega))))
local macro_rules | `(tactic| walk_at "call ref") => `(tactic| (k_here; k_dflt (show wpAny _ _ (call (Value.ref 260) _) _ _ _); refine Stop.out ?_))
local macro_rules | `(tactic| walk_at "call ref") => `(tactic| (k_here; k_dflt (show wpAny _ _ (call (Value.ref 267) _) _ _ _); refine Stop.out ?_))
local macro_rules | `(tactic| walk_at "call ref") => `(tactic| (k_here; k_dflt (show wpAny _ _ (call (Value.ref 281) _) _ _ _); refine Stop.out ?_))
local macro_rules | `(tactic| walk_at "call ref") => `(tactic| (k_here; k_dflt (show wpAny _ _ (call (Value.ref 293) _) _ _ _); refine Stop.out ?_))
local macro_rules | `(tactic| walk_at "call ref") => `(tactic| (k_here; k_dflt (show wpAny _ _ (call (Value.ref 300) _) _ _ _); refine Stop.out ?_))
local macro_rules | `(tactic| walk_at "call ref") => `(tactic| (k_here; k_dflt (show wpAny _ _ (call (Value.ref 288) _) _ _ _); refine Stop.out ?_))
local macro_rules | `(tactic| walk_at "call ref") => `(tactic| (k_here; k_dflt (show wpAny _ _ (call (Value.ref 173) _) _ _ _); refine Stop.out ?_))
local macro_rules | `(tactic| walk_at "call ref") => `(tactic| (k_here; k_dflt (show wpAny _ _ (call (Value.ref 242) _) _ _ _); refine Stop.out ?_))
set_option maxRecDepth 100000 in
set_option maxHeartbeats 8000000 in
theorem law_holds : PySem.Challenge.rw_nz0247_01.Holds := by
  exact Mine.hd (by
    k_go0
    k_steps
    rename IntsAre _ _ => hI
    rename Heap.IsList _ _ _ => hL
    rename ¬ _ => hcond
    refine Sp.use (pool_c _ _ _ _ hI (by omega)) (by k_asm) (by k_asm) (by k_asm) (fun _ q => nomatch q) (by k_asm) (by first | exact rfl | assumption) (by ktr_room) (by ktr_units) (let ⟨o, ho, r⟩ := hL; ⟨o, Fr.keep (by k_asm) _ _ ho, r⟩) ?_
    rename News _ _ _ _ => nN
    rintro v' h' tk' news' ⟨src, x, y, tx, ty, rfl, hx, hy, hy2, rfl⟩ F' N0' G' fr'
    have N' := news_both nN N0' G' (fun _ _ q => nomatch q)
    have off' := news_off nN fr'
    clear nN N0' G' fr'
    (try dsimp only)
    (try k_sweep)
    have osrc := off' _ (.head _)
    have n1 : @Ne Nat _ src := osrc _ (.head _)
    have n2 : @Ne Nat _ src := osrc _ (.tail _ (.head _))
    have n3 : @Ne Nat _ src := osrc _ (.tail _ (.tail _ (.head _)))
    have n4 : @Ne Nat _ src := osrc _ (.tail _ (.tail _ (.tail _ (.head _))))
    have n5 : @Ne Nat _ src := osrc _ (.tail _ (.tail _ (.tail _ (.tail _ (.head _)))))
    have n6 : @Ne Nat _ src := osrc _ (.tail _ (.tail _ (.tail _ (.tail _ (.tail _ (.head _))))))
    dsimp only at n1 n2 n3 n4 n5 n6
    have n1' := Ne.symm n1
    have n2' := Ne.symm n2
    have n3' := Ne.symm n3
    have n4' := Ne.symm n4
    have n5' := Ne.symm n5
    have n6' := Ne.symm n6
    clear osrc off'
    rename News _ _ _ _ => NN
    simp only [List.cons_append, List.nil_append] at NN
    k_steps
    rename News _ _ _ _ => nN
    refine Sp.use (take_c src 0 x y 5 _ _ _ hx hy hy2 (by decide) (by decide)) (by k_asm) (by k_asm) (by k_asm) (news_pick nN (by (repeat (first | exact List.Mem.head _ | refine List.Mem.tail _ ?_)))) (by k_asm) (by first | exact rfl | assumption) (by ktr_room) (by ktr_units) trivial ?_
    rintro v' h' tk' news' ⟨d1, x1, y1, t1, tx1, ty1, rfl, hd0, hd1, hx1, hy1, hz1, rfl⟩ F' N0' G' fr'
    have N' := news_mid (pre := []) nN N0' G' (by (repeat (first | with_reducible exact offs_nil | (with_reducible refine offs_cons ?_ ?_; (first | with_reducible assumption | exact Ne.symm (by with_reducible assumption) | k_ne)) | exact offs_fix (by with_reducible assumption) (by (repeat (first | with_reducible exact List.mem_cons_self | with_reducible refine List.mem_cons_of_mem _ ?_))) | with_reducible assumption))) (by (repeat (first | with_reducible exact offs_nil | (with_reducible refine offs_cons ?_ ?_; (first | with_reducible assumption | exact Ne.symm (by with_reducible assumption) | k_ne)) | exact offs_fix (by with_reducible assumption) (by (repeat (first | with_reducible exact List.mem_cons_self | with_reducible refine List.mem_cons_of_mem _ ?_))) | with_reducible assumption)))
    clear nN N0' G' fr'
    simp only [List.cons_append, List.nil_append] at N'
    (try dsimp only)
    (try k_sweep)
    k_steps
    rename News _ _ _ _ => NN1
    obtain ⟨cells, hcells, NN2⟩ := news_name2 NN1
    clear NN1
    have hfc : ∀ p ∈ cells, p.1 ≠ src := by subst hcells; (repeat (first | with_reducible exact offs_nil | (with_reducible refine offs_cons ?_ ?_; (first | with_reducible assumption | exact Ne.symm (by with_reducible assumption) | k_ne)) | exact offs_fix (by with_reducible assumption) (by (repeat (first | with_reducible exact List.mem_cons_self | with_reducible refine List.mem_cons_of_mem _ ?_))) | with_reducible assumption))
    refine LCg.CompSrc.range (n := (1 + d1 - 0).toNat) rfl (by k_asm) NN2 (by assumption) (small_one (by decide) (by decide) (by omega) (by omega)) (rangeSize_nat _ _) (by show _ ≤ 2 ^ 24; omega) ?_
    intro gg
    refine comp_ind (fun i ys news => ∃ (sam : List (Int × Int)) (x y : Int) (tx ty : Tok) (rest : Led), (0 ≤ x ∧ 0 ≤ y ∧ y < 2147483647) ∧ sam.length = i ∧ (∀ p ∈ sam, 0 < p.1 ∧ p.1 < 5 ∧ 0 < p.2 ∧ p.2 < 3) ∧ LedPairs rest ys sam ∧ (∀ p ∈ rest, p.1 ∉ src :: cells.map (·.1)) ∧ news = (src, W.listOf #[.int x tx, .int y ty] 0) :: (cells ++ rest)) ?step ?fin _ 0 [] _ (Nat.zero_add _) ⟨[], x1, y1, tx1, ty1, [], ⟨hx1, hy1, hz1⟩, rfl, fun _ q => (nomatch q), LedPairs.nil, fun _ q => (nomatch q), by rw [List.append_nil]⟩
    case step =>
      rintro i ys news hi ⟨sam, x, y, tx, ty, rest, ⟨hx, hy, hy2⟩, hl, hb, hp, hfx, rfl⟩ v I oI C oC D m₂ h tk E' ⟨tv, rfl⟩ hoC hm₂ FF NN off ne
      clear NN2
      subst hcells
      simp only [List.cons_append, List.nil_append] at NN
      simp only [List.map] at hfx
      have oI1 : @Ne Nat src I := off.1.1
      have oC1 : @Ne Nat src C := off.1.2.1
      have oD1 : @Ne Nat src D := off.1.2.2
      k_steps
      rename News _ _ _ _ => nN
      refine Sp.use (take_c src 0 x y 4 _ _ _ hx hy hy2 (by decide) (by decide)) (by k_asm) (by k_asm) (by k_asm) (news_pick nN (by (repeat (first | exact List.Mem.head _ | refine List.Mem.tail _ ?_)))) (by k_asm) (by first | exact rfl | assumption) (by ktr_room) (by ktr_units) trivial ?_
      rintro v' h' tk' news' ⟨d2, x2, y2, t2, tx2, ty2, rfl, ha0, ha1, hx2, hy2, hz2, rfl⟩ F' N0' G' fr'
      have N' := news_mid (pre := [_, _, _]) nN N0' G' (by (repeat (first | with_reducible exact offs_nil | (with_reducible refine offs_cons ?_ ?_; (first | with_reducible assumption | exact Ne.symm (by with_reducible assumption) | k_ne)) | exact offs_fix (by with_reducible assumption) (by (repeat (first | with_reducible exact List.mem_cons_self | with_reducible refine List.mem_cons_of_mem _ ?_))) | with_reducible assumption))) (by (repeat (first | with_reducible exact offs_nil | (with_reducible refine offs_cons ?_ ?_; (first | with_reducible assumption | exact Ne.symm (by with_reducible assumption) | k_ne)) | exact offs_fix (by with_reducible assumption) (by (repeat (first | with_reducible exact List.mem_cons_self | with_reducible refine List.mem_cons_of_mem _ ?_))) | with_reducible assumption)))
      clear nN N0' G' fr'
      simp only [List.cons_append, List.nil_append] at N'
      (try dsimp only)
      (try k_sweep)
      k_steps
      rename News _ _ _ _ => nN
      refine Sp.use (take_c src 0 x2 y2 2 _ _ _ hx2 hy2 hz2 (by decide) (by decide)) (by k_asm) (by k_asm) (by k_asm) (news_pick nN (by (repeat (first | exact List.Mem.head _ | refine List.Mem.tail _ ?_)))) (by k_asm) (by first | exact rfl | assumption) (by ktr_room) (by ktr_units) trivial ?_
      rintro v' h' tk' news' ⟨d3, x3, y3, t3, tx3, ty3, rfl, hb0, hb1, hx3, hy3, hz3, rfl⟩ F' N0' G' fr'
      have N' := news_mid (pre := [_, _, _]) nN N0' G' (by (repeat (first | with_reducible exact offs_nil | (with_reducible refine offs_cons ?_ ?_; (first | with_reducible assumption | exact Ne.symm (by with_reducible assumption) | k_ne)) | exact offs_fix (by with_reducible assumption) (by (repeat (first | with_reducible exact List.mem_cons_self | with_reducible refine List.mem_cons_of_mem _ ?_))) | with_reducible assumption))) (by (repeat (first | with_reducible exact offs_nil | (with_reducible refine offs_cons ?_ ?_; (first | with_reducible assumption | exact Ne.symm (by with_reducible assumption) | k_ne)) | exact offs_fix (by with_reducible assumption) (by (repeat (first | with_reducible exact List.mem_cons_self | with_reducible refine List.mem_cons_of_mem _ ?_))) | with_reducible assumption)))
      clear nN N0' G' fr'
      simp only [List.cons_append, List.nil_append] at N'
      (try dsimp only)
      (try k_sweep)
      k_steps
      rename News _ _ _ _ => N9
      rename (_ < _) ∧ _ => ord
      obtain ⟨t9, ht9, N9', ord'⟩ := news_t N9 ord
      subst ht9
      obtain ⟨oo1, oo2, oo3, oo4, oo5, oo6, oo7, oo8, oo9, oo10, oo11⟩ := ord'
      dsimp only at oo1 oo2 oo3 oo4 oo5 oo6 oo7 oo8 oo9 oo10
      refine LCg.CompEnd.intro (by k_asm) N9' ((src, W.listOf #[.int x3 tx3, .int y3 ty3] 0) :: ([_, _, _, _, _, _] ++ (t9, tupO (1 + d2) (1 + d3) _ _) :: rest)) sub_t (off3_ins off rfl oo1 oo2 oo3) trivial ⟨sam ++ [(1 + d2, 1 + d3)], x3, y3, tx3, ty3, (t9, tupO (1 + d2) (1 + d3) _ _) :: rest, ⟨hx3, hy3, hz3⟩, by rw [List.length_append, hl]; rfl, fun p hp' => ?_, hp.snoc, fix_cons ?_ hfx, rfl⟩
      · rcases List.mem_append.mp hp' with hp' | hp'
        · exact hb p hp'
        · rw [List.mem_singleton.mp hp']; dsimp only; omega
      · intro q
        simp only [List.map, List.mem_cons, List.not_mem_nil, or_false] at q
        rcases q with q | q | q | q | q | q | q
        · exact Nat.ne_of_gt oo4 q
        · exact Nat.ne_of_gt oo5 q
        · exact Nat.ne_of_gt oo6 q
        · exact Nat.ne_of_gt oo7 q
        · exact Nat.ne_of_gt oo8 q
        · exact Nat.ne_of_gt oo9 q
        · exact Nat.ne_of_gt oo10 q
    case fin =>
      rintro ys news ⟨sam, x, y, tx, ty, rest, ⟨hx, hy, hy2⟩, hl, hb, hp, hfx, rfl⟩ D h tk FF NN off
      clear NN2
      obtain ⟨rest1, hfx1, hDm, hsub, NN1⟩ := absorb NN off hfx
      replace hp := hp.sub hsub
      clear NN off hfx hsub rest
      subst hcells
      simp only [List.cons_append, List.nil_append] at NN1
      simp only [List.map] at hfx1
      k_steps
      rename News _ _ _ _ => N2
      refine LCp.SrcLP.ledger rfl (by k_asm) N2 (.tail _ (.tail _ (.tail _ (.tail _ (.tail _ (.tail _ (.tail _ hDm))))))) (by rw [List.size_toArray, hp.1, hl, sizeLine_eq]; omega) ?_
      intro gg2
      refine compP_ind (fun i ys' news => news = _ ∧ IntsAre ys' ((sam.map (·.1)).take i)) ?s2 ?f2 _ 0 [] _ (Nat.zero_add _) ⟨rfl, IntsAre.nil⟩
      case s2 =>
        rintro i ys' news hi ⟨rfl, hys⟩ v hv
        have hi' : i < sam.length := by rw [List.size_toArray, hp.1] at hi; exact hi
        obtain ⟨c, ta, tb, hc1, hc2⟩ := hp.2 i sam[i] (List.getElem?_eq_getElem hi')
        refine ⟨c, tupO sam[i].1 sam[i].2 ta tb, .int sam[i].1 ta, .int sam[i].2 tb, 0, ref_of hv hc1, .tail _ (.tail _ (.tail _ (.tail _ (.tail _ (.tail _ (.tail _ hc2)))))), rfl, rfl, ?_⟩
        intro I oI C oC D2 m₂ h tk E' hoC hx1' hx2' FF NN off ne
        k_steps
        exact LCg.CompEnd.intro FF NN _ (fun _ q => q) off (.inr ⟨_, (.tail _ (.tail _ (.tail _ (.tail _ (.tail _ (.tail _ (.tail _ hDm))))))), rfl, _, rfl⟩) ⟨rfl, ints_step hi' hys _⟩
      case f2 =>
        rintro ys' news ⟨rfl, hys⟩ D2 h tk FF NN off
        replace hys := ints_all (by rw [List.size_toArray, hp.1]; exact Nat.le_refl _) hys
        (try simp only [List.cons_append, List.nil_append] at NN)
        k_steps
        rename News _ _ _ _ => N3
        rename _ ∈ List.map _ sam => hMa1
        rename ∀ a, a ∈ List.map _ sam → _ => hMa2
        obtain ⟨MA, hMA, hA⟩ : ∃ M, M = _ ∧ IsMax M (sam.map (·.1)) := ⟨_, rfl, ⟨hMa1, hMa2⟩⟩
        clear hMa1 hMa2
        subst hMA
        have bA : 0 < MA ∧ MA < 5 := by
          obtain ⟨p, hp', e⟩ := List.mem_map.mp hA.1
          have := hb p hp'
          (try dsimp only at e)
          omega
        obtain ⟨rest2, hfx2, hDm2, hsub2, NN2⟩ := absorb (cells := [_, _, _, _, _, _]) N3 off hfx1
        clear N3 off
        simp only [List.cons_append, List.nil_append] at NN2
        simp only [List.map] at hfx2
        replace hp := hp.sub hsub2
        replace hDm := hsub2 _ hDm
        clear hfx1 hsub2 rest1 hDm2
        refine LCp.SrcLP.ledger rfl (by k_asm) NN2 (.tail _ (.tail _ (.tail _ (.tail _ (.tail _ (.tail _ (.tail _ hDm))))))) (by rw [List.size_toArray, hp.1, hl, sizeLine_eq]; omega) ?_
        intro gg3
        refine compP_ind (fun i ys' news => news = _ ∧ IntsAre ys' ((sam.map (·.2)).take i)) ?s3 ?f3 _ 0 [] _ (Nat.zero_add _) ⟨rfl, IntsAre.nil⟩
        case s3 =>
          rintro i ys' news hi ⟨rfl, hys⟩ v hv
          have hi' : i < sam.length := by rw [List.size_toArray, hp.1] at hi; exact hi
          obtain ⟨c, ta, tb, hc1, hc2⟩ := hp.2 i sam[i] (List.getElem?_eq_getElem hi')
          refine ⟨c, tupO sam[i].1 sam[i].2 ta tb, .int sam[i].1 ta, .int sam[i].2 tb, 0, ref_of hv hc1, .tail _ (.tail _ (.tail _ (.tail _ (.tail _ (.tail _ (.tail _ hc2)))))), rfl, rfl, ?_⟩
          intro I oI C oC D2 m₂ h tk E' hoC hx1' hx2' FF NN off ne
          k_steps
          exact LCg.CompEnd.intro FF NN _ (fun _ q => q) off (.inr ⟨_, (.tail _ (.tail _ (.tail _ (.tail _ (.tail _ (.tail _ (.tail _ hDm))))))), rfl, _, rfl⟩) ⟨rfl, ints_step hi' hys _⟩
        case f3 =>
          rintro ys3 news ⟨rfl, hys3⟩ D3 h tk FF NN off
          replace hys3 := ints_all (by rw [List.size_toArray, hp.1]; exact Nat.le_refl _) hys3
          have e0 : @Ne Nat src D3 := off.1
          have e1 : @Ne Nat _ D3 := off.2.1
          have e2 : @Ne Nat _ D3 := off.2.2.1
          have e3 : @Ne Nat _ D3 := off.2.2.2.1
          have e4 : @Ne Nat _ D3 := off.2.2.2.2.1
          have e5 : @Ne Nat _ D3 := off.2.2.2.2.2.1
          have e6 : @Ne Nat _ D3 := off.2.2.2.2.2.2.1
          dsimp only at e1 e2 e3 e4 e5 e6
          have e1' := Ne.symm e1
          have e2' := Ne.symm e2
          have e3' := Ne.symm e3
          have e4' := Ne.symm e4
          have e5' := Ne.symm e5
          have e6' := Ne.symm e6
          k_steps
          rename News _ _ _ _ => N5
          rename _ ∈ List.map _ sam => hMa1
          rename ∀ a, a ∈ List.map _ sam → _ => hMa2
          obtain ⟨MD, hMD, hDn⟩ : ∃ M, M = _ ∧ IsMax M (sam.map (·.2)) := ⟨_, rfl, ⟨hMa1, hMa2⟩⟩
          clear hMa1 hMa2
          subst hMD
          have bD : 0 < MD ∧ MD < 3 := by
            obtain ⟨p, hp', e⟩ := List.mem_map.mp hDn.1
            have := hb p hp'
            (try dsimp only at e)
            omega
          have N6 := news_sub N5 (fun p hp => .tail _ (.tail _ hp))
          clear N5 off e0 e1 e2 e3 e4 e5 e6 e1' e2' e3' e4' e5' e6'
          rename News _ _ _ _ => nN
          refine Sp.use (take_c src 0 x y 9 _ _ _ hx hy hy2 (by decide) (by decide)) (by k_asm) (by k_asm) (by k_asm) (news_pick nN (by (repeat (first | exact List.Mem.head _ | refine List.Mem.tail _ ?_)))) (by k_asm) (by first | exact rfl | assumption) (by ktr_room) (by ktr_units) trivial ?_
          rintro v' h' tk' news' ⟨dw, x4, y4, t4, tx4, ty4, rfl, hw0, hw1, hx4, hy4, hz4, rfl⟩ F' N0' G' fr'
          have N' := news_mid (pre := []) nN N0' G' (by (repeat (first | with_reducible exact offs_nil | (with_reducible refine offs_cons ?_ ?_; (first | with_reducible assumption | exact Ne.symm (by with_reducible assumption) | k_ne)) | exact offs_fix (by with_reducible assumption) (by (repeat (first | with_reducible exact List.mem_cons_self | with_reducible refine List.mem_cons_of_mem _ ?_))) | with_reducible assumption))) (by (repeat (first | with_reducible exact offs_nil | (with_reducible refine offs_cons ?_ ?_; (first | with_reducible assumption | exact Ne.symm (by with_reducible assumption) | k_ne)) | exact offs_fix (by with_reducible assumption) (by (repeat (first | with_reducible exact List.mem_cons_self | with_reducible refine List.mem_cons_of_mem _ ?_))) | with_reducible assumption)))
          clear nN N0' G' fr'
          simp only [List.cons_append, List.nil_append] at N'
          (try dsimp only)
          (try k_sweep)
          k_steps
          rename News _ _ _ _ => nN
          refine Sp.use (take_c src 0 x4 y4 9 _ _ _ hx4 hy4 hz4 (by decide) (by decide)) (by k_asm) (by k_asm) (by k_asm) (news_pick nN (by (repeat (first | exact List.Mem.head _ | refine List.Mem.tail _ ?_)))) (by k_asm) (by first | exact rfl | assumption) (by ktr_room) (by ktr_units) trivial ?_
          rintro v' h' tk' news' ⟨dh, x5, y5, t5, tx5, ty5, rfl, hh0, hh1, hx5, hy5, hz5, rfl⟩ F' N0' G' fr'
          have N' := news_mid (pre := []) nN N0' G' (by (repeat (first | with_reducible exact offs_nil | (with_reducible refine offs_cons ?_ ?_; (first | with_reducible assumption | exact Ne.symm (by with_reducible assumption) | k_ne)) | exact offs_fix (by with_reducible assumption) (by (repeat (first | with_reducible exact List.mem_cons_self | with_reducible refine List.mem_cons_of_mem _ ?_))) | with_reducible assumption))) (by (repeat (first | with_reducible exact offs_nil | (with_reducible refine offs_cons ?_ ?_; (first | with_reducible assumption | exact Ne.symm (by with_reducible assumption) | k_ne)) | exact offs_fix (by with_reducible assumption) (by (repeat (first | with_reducible exact List.mem_cons_self | with_reducible refine List.mem_cons_of_mem _ ?_))) | with_reducible assumption)))
          clear nN N0' G' fr'
          simp only [List.cons_append, List.nil_append] at N'
          (try dsimp only)
          (try k_sweep)
          k_steps
          rename News _ _ _ _ => N7
          have N8 := news_sub N7 (fun p hp => .tail _ hp)
          clear N7
          obtain ⟨cells2, hcells2, N9⟩ := news_cells N8
          clear N8
          refine LCp.SrcLP.ledger rfl (by k_asm) N9 (.tail _ (List.mem_append_right _ hDm)) (by rw [List.size_toArray, hp.1, hl, sizeLine_eq]; omega) ?_
          intro gg4
          refine compP_ind (fun i ys' news => ∃ rest', (∀ p ∈ rest', p.1 ∉ src :: cells2.map (·.1)) ∧ (∀ p ∈ rest2, p ∈ rest') ∧ LedPairs rest' ys' ((sam.map (sizeF (1 + dw) (1 + dh) MA MD)).take i) ∧ news = (src, W.listOf #[.int x5 tx5, .int y5 ty5] 0) :: (cells2 ++ rest')) ?s4 ?f4 _ 0 [] _ (Nat.zero_add _) ⟨rest2, (by subst hcells2; exact hfx2), fun _ q => q, LedPairs.nil, rfl⟩
          case s4 =>
            rintro i ys' news hi ⟨rest', hf', hs', hp', rfl⟩ v hv
            have hi' : i < sam.length := by rw [List.size_toArray, hp.1] at hi; exact hi
            obtain ⟨c, ta, tb, hc1, hc2⟩ := hp.2 i sam[i] (List.getElem?_eq_getElem hi')
            refine ⟨c, tupO sam[i].1 sam[i].2 ta tb, .int sam[i].1 ta, .int sam[i].2 tb, 0, ref_of hv hc1, .tail _ (List.mem_append_right _ (hs' _ hc2)), rfl, rfl, ?_⟩
            intro I oI C oC D2 m₂ h tk E' hoC hx1' hx2' FF NN off ne
            clear N9
            have hbi := hb sam[i] (List.getElem_mem hi')
            subst hcells2
            simp only [List.cons_append, List.nil_append] at NN
            simp only [List.map] at hf'
            k_steps
            refine Sp.use (ceil_c _ _ _ _ bA.1 (by omega)) (by k_asm) (by k_asm) (by k_asm) (fun _ q => nomatch q) (by k_asm) (by first | exact rfl | assumption) (by ktr_room) (by ktr_units) (trivial) ?_
            rename News _ _ _ _ => nN
            rintro v' h' tk' news' ⟨t6, rfl, rfl⟩ F' N0' G' fr'
            have N' := news_keep nN G' (fun _ _ q => nomatch q)
            clear nN N0' G' fr'
            (try dsimp only)
            (try k_sweep)
            k_steps
            refine Sp.use (ceil_c _ _ _ _ bD.1 (by omega)) (by k_asm) (by k_asm) (by k_asm) (fun _ q => nomatch q) (by k_asm) (by first | exact rfl | assumption) (by ktr_room) (by ktr_units) (trivial) ?_
            rename News _ _ _ _ => nN
            rintro v' h' tk' news' ⟨t7, rfl, rfl⟩ F' N0' G' fr'
            have N' := news_keep nN G' (fun _ _ q => nomatch q)
            clear nN N0' G' fr'
            (try dsimp only)
            (try k_sweep)
            k_steps
            rename News _ _ _ _ => N10
            rename (_ < _) ∧ _ => ord
            obtain ⟨t9, ht9, N10', ord'⟩ := news_t N10 ord
            subst ht9
            obtain ⟨oo1, oo2, oo3, oo4, oo5, oo6, oo7, oo8, oo9, oo10, oo11⟩ := ord'
            dsimp only at oo1 oo2 oo3 oo4 oo5 oo6 oo7 oo8 oo9 oo10
            refine LCg.CompEnd.intro (by k_asm) N10' ((src, W.listOf #[.int x5 tx5, .int y5 ty5] 0) :: ([_, _, _, _, _, _] ++ (t9, tupO _ _ _ _) :: rest')) sub_t (off3_ins off rfl oo1 oo2 oo3) (.inr ⟨_, .tail _ (List.mem_append_right _ (.tail _ (hs' _ hDm))), rfl, _, rfl⟩) ⟨(t9, tupO _ _ _ _) :: rest', fix_cons ?_ hf', fun p q => .tail _ (hs' p q), ?_, rfl⟩
            · intro q
              simp only [List.map, List.mem_cons, List.not_mem_nil, or_false] at q
              rcases q with q | q | q | q | q | q | q
              · exact Nat.ne_of_gt oo4 q
              · exact Nat.ne_of_gt oo5 q
              · exact Nat.ne_of_gt oo6 q
              · exact Nat.ne_of_gt oo7 q
              · exact Nat.ne_of_gt oo8 q
              · exact Nat.ne_of_gt oo9 q
              · exact Nat.ne_of_gt oo10 q
            · rw [take_snoc hi']
              exact hp'.snoc
          case f4 =>
            rintro ys4 news ⟨rest', hf', hs', hp', rfl⟩ D4 h tk FF NN off
            clear N9
            rw [List.take_of_length_le (by rw [List.length_map, List.size_toArray, hp.1]; exact Nat.le_refl _)] at hp'
            obtain ⟨rest3, hfx3, hDm3, hsub3, NN3⟩ := absorb NN off hf'
            replace hp := hp.sub (fun p q => hsub3 _ (hs' p q))
            replace hDm := hsub3 _ (hs' _ hDm)
            replace hp' := hp'.sub hsub3
            clear NN off hf' hsub3 hs' rest' hfx2
            subst hcells2
            simp only [List.cons_append, List.nil_append] at NN3
            simp only [List.map] at hfx3
            walk1
            rename Fr _ _ _ _ => FF3
            rename News _ _ _ _ => NN4
            obtain ⟨cells3, hcells3, NN5⟩ := news_cells NN4
            obtain ⟨m₂, hm₂, FF4⟩ := fr_name2 FF3
            clear NN4 FF3
            refine cut FF4 (fun h₀ L h => ∃ (x y dp : Int) (tx ty tp : Tok) (b : Bool), (0 ≤ x ∧ 0 ≤ y ∧ y < 2147483647) ∧ (0 ≤ dp ∧ dp < 15) ∧ (b = true → 0 < d1) ∧ Fr h₀ L h (fun (y : Str) => if y = "precision" then some (.int (2 + dp) tp) else if y = "wrong" then some (.bool b) else m₂ y) ∧
              News h₀ L h ((src, W.listOf #[.int x tx, .int y ty] 0) :: (cells3 ++ rest3))) ?cA ?cB
            case cA =>
              subst hcells3 hm₂
              simp only [List.cons_append, List.nil_append] at NN5
              k_steps
              rename News _ _ _ _ => nN
              refine Sp.use (take_c src 0 x5 y5 15 _ _ _ hx5 hy5 hz5 (by decide) (by decide)) (by k_asm) (by k_asm) (by k_asm) (news_pick nN (by (repeat (first | exact List.Mem.head _ | refine List.Mem.tail _ ?_)))) (by k_asm) (by first | exact rfl | assumption) (by ktr_room) (by ktr_units) trivial ?_
              rintro v' h' tk' news' ⟨dp, x6, y6, t8, tx6, ty6, rfl, hp0, hp1, hx6, hy6, hz6, rfl⟩ F' N0' G' fr'
              have N' := news_mid (pre := []) nN N0' G' (by (repeat (first | with_reducible exact offs_nil | (with_reducible refine offs_cons ?_ ?_; (first | with_reducible assumption | exact Ne.symm (by with_reducible assumption) | k_ne)) | exact offs_fix (by with_reducible assumption) (by (repeat (first | with_reducible exact List.mem_cons_self | with_reducible refine List.mem_cons_of_mem _ ?_))) | with_reducible assumption))) (by (repeat (first | with_reducible exact offs_nil | (with_reducible refine offs_cons ?_ ?_; (first | with_reducible assumption | exact Ne.symm (by with_reducible assumption) | k_ne)) | exact offs_fix (by with_reducible assumption) (by (repeat (first | with_reducible exact List.mem_cons_self | with_reducible refine List.mem_cons_of_mem _ ?_))) | with_reducible assumption)))
              clear nN N0' G' fr'
              simp only [List.cons_append, List.nil_append] at N'
              (try dsimp only)
              (try k_sweep)
              k_steps
              rename News _ _ _ _ => nN
              refine Sp.use (take_c src 0 x6 y6 3 _ _ _ hx6 hy6 hz6 (by decide) (by decide)) (by k_asm) (by k_asm) (by k_asm) (news_pick nN (by (repeat (first | exact List.Mem.head _ | refine List.Mem.tail _ ?_)))) (by k_asm) (by first | exact rfl | assumption) (by ktr_room) (by ktr_units) trivial ?_
              rintro v' h' tk' news' ⟨dq, x7, y7, t10, tx7, ty7, rfl, hq0, hq1, hx7, hy7, hz7, rfl⟩ F' N0' G' fr'
              have N' := news_mid (pre := []) nN N0' G' (by (repeat (first | with_reducible exact offs_nil | (with_reducible refine offs_cons ?_ ?_; (first | with_reducible assumption | exact Ne.symm (by with_reducible assumption) | k_ne)) | exact offs_fix (by with_reducible assumption) (by (repeat (first | with_reducible exact List.mem_cons_self | with_reducible refine List.mem_cons_of_mem _ ?_))) | with_reducible assumption))) (by (repeat (first | with_reducible exact offs_nil | (with_reducible refine offs_cons ?_ ?_; (first | with_reducible assumption | exact Ne.symm (by with_reducible assumption) | k_ne)) | exact offs_fix (by with_reducible assumption) (by (repeat (first | with_reducible exact List.mem_cons_self | with_reducible refine List.mem_cons_of_mem _ ?_))) | with_reducible assumption)))
              clear nN N0' G' fr'
              simp only [List.cons_append, List.nil_append] at N'
              (try dsimp only)
              (try k_sweep)
              k_steps
              · rename News _ _ _ _ => N8
                refine ⟨by first | exact rfl | trivial, _, _, rfl, x7, y7, dp, _, _, _, _, ⟨hx7, hy7, hz7⟩, ⟨hp0, hp1⟩, ?_, by k_asm, news_sub N8 (fun p hp => .tail _ hp)⟩
                intro hb'; k_dflt (simp at hb'; omega)
              · rename News _ _ _ _ => N8
                refine ⟨by first | exact rfl | trivial, _, _, rfl, x7, y7, dp, _, _, _, _, ⟨hx7, hy7, hz7⟩, ⟨hp0, hp1⟩, ?_, by k_asm, news_sub N8 (fun p hp => .tail _ hp)⟩
                intro hb'; k_dflt (simp at hb'; omega)
            case cB =>
              rintro h tk ⟨x8, y8, dp, tx8, ty8, tp8, b, ⟨hx8, hy8, hz8⟩, hdp, hbb, FF5, NN6⟩
              subst hcells3 hm₂
              simp only [List.cons_append, List.nil_append] at NN6
              clear FF4 NN5
              k_steps
              refine kup_listOf FF5 NN6 (b := D4) (its2 := ys4.toArray) (.tail _ (.tail _ (.tail _ (.tail _ (.tail _ (.tail _ (.tail _ hDm3))))))) (zs := ys4) (by simp) ?_ (by rw [List.toList_toArray, hp'.1, List.length_map, hl, sizeLine_eq]; omega)
              intro K ck h2 FF6 NN7 ltK
              clear FF5 NN6
              have hfxK : ∀ p ∈ rest3, p.1 ∉ [K, src, _, _, _, _, _, _] := fun p hp q => by
                rcases List.mem_cons.mp q with q | q
                · exact Nat.ne_of_lt (ltK p (.tail _ (.tail _ (.tail _ (.tail _ (.tail _ (.tail _ (.tail _ hp)))))))) q
                · exact hfx3 p hp q
              have nK0 : @Ne Nat src K := Nat.ne_of_lt (ltK _ (.head _))
              have nK1 : @Ne Nat _ K := Nat.ne_of_lt (ltK _ (.tail _ (.head _)))
              have nK2 : @Ne Nat _ K := Nat.ne_of_lt (ltK _ (.tail _ (.tail _ (.head _))))
              have nK3 : @Ne Nat _ K := Nat.ne_of_lt (ltK _ (.tail _ (.tail _ (.tail _ (.head _)))))
              have nK4 : @Ne Nat _ K := Nat.ne_of_lt (ltK _ (.tail _ (.tail _ (.tail _ (.tail _ (.head _))))))
              have nK5 : @Ne Nat _ K := Nat.ne_of_lt (ltK _ (.tail _ (.tail _ (.tail _ (.tail _ (.tail _ (.head _)))))))
              have nK6 : @Ne Nat _ K := Nat.ne_of_lt (ltK _ (.tail _ (.tail _ (.tail _ (.tail _ (.tail _ (.tail _ (.head _))))))))
              dsimp only at nK1 nK2 nK3 nK4 nK5 nK6
              clear hfx3 ltK
              iterate 3 walk1
              rename Fr _ _ _ _ => FF7
              rename News _ _ _ _ => NN8
              obtain ⟨cells4, hcells4, NN9⟩ := news_cellsK NN8
              obtain ⟨m₃, hm₃, FF8⟩ := fr_name2 FF7
              clear NN8 FF7
              refine cut FF8 (fun h₀ L h => ∃ (b : Bool) (krefs : List Value) (kept : List (Int × Int)) (ck : Nat) (rest' : Led), LedKept sam (sam.map (sizeF (1 + dw) (1 + dh) MA MD)) (1 + dw) (1 + dh) b kept ∧
                LedPairs rest' krefs kept ∧ LedPairs rest' ys sam ∧ (D, LCg.lst ys) ∈ rest' ∧ (K, W.listOf krefs.toArray ck) ∈ rest' ∧ News h₀ L h (cells4 ++ rest') ∧
                ∃ v1 v2 v3 v4 : Option Value, Fr h₀ L h (fun (y : Str) => if y = "wrong" then some (.bool b) else if y = "small" then v1 else if y = "place" then v2 else if y = "wide" then v3 else if y = "high" then v4 else m₃ y)) ?cC ?cD
              case cC =>
                subst hcells4 hm₃
                simp only [List.cons_append, List.nil_append] at NN9
                cases b with
                | false =>
                  k_steps
                  rename News _ _ _ _ => N8
                  rename Fr _ _ _ _ => F8
                  refine ⟨by first | exact rfl | trivial, _, _, rfl, false, ys4, sam.map (sizeF (1 + dw) (1 + dh) MA MD), ck, (K, W.listOf ys4.toArray ck) :: rest3, kept_good hA hDn bA.1 bD.1 (by omega) (by omega) hb, hp'.sub (fun p q => .tail _ q), hp.sub (fun p q => .tail _ q), .tail _ hDm, .head _, fun p q => N8 p ?_, fr5 F8 rfl ?_⟩
                  · simp only [List.mem_cons, List.mem_append, List.cons_append, List.nil_append] at q ⊢
                    rcases q with q | q | q | q | q | q | q | q <;> simp [q]
                  · intro y _ _ _ _ _; rfl
                | true =>
                  k_steps
                  rename News _ _ _ _ => NN10
                  refine LCt.CompSrcT.range (n := (1 + d1 - 0).toNat) rfl (by k_asm) NN10 (by assumption) (small_one (by decide) (by decide) (by omega) (by omega)) (rangeSize_nat _ _) (by show _ ≤ 2 ^ 24; omega) ?_
                  intro gg5
                  refine compT_ind (fun i ys' news => news = _ ∧ ∃ ns : List Int, ns.length ≤ i ∧ IntsAre ys' ns ∧ ∀ n ∈ ns, ∃ (j : Nat) (p : Int × Int), n = (j : Int) ∧ sam[j]? = some p ∧ p.1 < MA ∧ p.2 < MD) ?s5 ?f5 _ 0 [] _ (Nat.zero_add _) ⟨rfl, [], Nat.le_refl _, IntsAre.nil, fun _ q => nomatch q⟩
                  case s5 =>
                    rintro i ys' news hi ⟨rfl, ns, hnl, hns, hnj⟩ v I oI C oC D2 m₂ h tk E' ⟨tv, rfl⟩ hoC hm₂ FF NN off ne
                    have hi' : i < sam.length := by rw [hl]; exact hi
                    have hi9 : i < 1000 := by omega
                    obtain ⟨c, ta, tb, hc1, hc2⟩ := hp.2 i sam[i] (List.getElem?_eq_getElem hi')
                    simp only [Int.zero_add] at hm₂
                    have NN' := news_dup (news_dup NN (.tail _ (.tail _ (.tail _ (.tail _ (.tail _ (.tail _ (.tail _ (.tail _ (.tail _ (.tail _ (.tail _ hc2)))))))))))) (.tail _ (.tail _ (.tail _ (.tail _ (.tail _ (.tail _ (.tail _ (.tail _ (.tail _ (.tail _ (.tail _ (.tail _ hDm))))))))))))
                    k_steps
                    · exact LCg.CompEnd.intro FF NN _ (fun _ q => q) off trivial ⟨rfl, ns ++ [(i : Int)], by rw [List.length_append]; exact Nat.succ_le_succ hnl, hns.append (.cons _ _ .nil), fun n hn => (List.mem_append.mp hn).elim (hnj n) fun hn => ⟨i, sam[i], List.mem_singleton.mp hn, List.getElem?_eq_getElem hi', by assumption, by assumption⟩⟩
                    · exact LCg.CompEnd.intro FF NN _ (fun _ q => q) off trivial ⟨rfl, ns, Nat.le_succ_of_le hnl, hns, hnj⟩
                    · exact LCg.CompEnd.intro FF NN _ (fun _ q => q) off trivial ⟨rfl, ns, Nat.le_succ_of_le hnl, hns, hnj⟩
                  case f5 =>
                    rintro ys' news ⟨rfl, ns, hnl, hns, hnj⟩ D2 h tk FF NN off
                    iterate 7 walk1
                    rename News _ _ _ _ => NN11
                    cases hns with
                    | nil =>
                      refine ne_nil0 NN11 (by k_mem) (.head _) (by ktr_units) ?_
                      iterate 3 walk1
                      rename Fr _ _ _ _ => FFo
                      refine For_turns FFo ?_ (by intro _; rfl) PySem.PassesOwn.leaving
                      iterate 8 walk1
                      rename Fr _ _ _ _ => FFi
                      rename News _ _ _ _ => NNi
                      refine iter_listTurns (vs := []) rfl FFi NNi (.head _) rfl rfl ?_
                      intro I ltI
                      refine ItemsRest.zero (fun h5 tk5 FF12 NN12 => ?_)
                      clear FFi NNi
                      k_steps
                      refine ⟨by first | exact rfl | trivial, _, _, rfl, false, ys4, sam.map (sizeF (1 + dw) (1 + dh) MA MD), ck, (K, W.listOf ys4.toArray ck) :: rest3, kept_good hA hDn bA.1 bD.1 (by omega) (by omega) hb, hp'.sub (fun p q => .tail _ q), hp.sub (fun p q => .tail _ q), .tail _ hDm, .head _, fun p q => NN12 p ?_, fr5 FF12 rfl ?_⟩
                      · simp only [List.mem_cons, List.mem_append, List.cons_append, List.nil_append] at q ⊢
                        rcases q with q | q | q | q | q | q | q | q <;> simp [q]
                      · intro y y1 y2 y3 y4 y5; simp only [y1, y2, y3, y4, y5, if_false]
                    | @cons n tn vs ns' hrest =>
                      refine ne_nil1 NN11 (by k_mem) (.head _) hrest (by ktr_units) ?_
                      obtain ⟨j, p, hnj1, hpj, hj1, hj2⟩ := hnj _ (.head _)
                      subst hnj1
                      have hsz : (Value.int (j : Int) tn :: vs).toArray.size ≤ sizeLine := by rw [sizeLine_eq, List.size_toArray, List.length_cons, hrest.length]; exact Nat.le_trans hnl (by omega)
                      iterate 3 walk1
                      rename Fr _ _ _ _ => FFo
                      refine For_turns FFo ?_ (by intro _; rfl) PySem.PassesOwn.leaving
                      iterate 8 walk1
                      rename Fr _ _ _ _ => FFi
                      rename News _ _ _ _ => NNi
                      rename (_ < _) ∧ _ => lI
                      refine iter_listTurns (lo := W.listOf [Value.int (j : Int) tn].toArray 0) (n := 0) (vs := [.int (j : Int) tn]) (by rfl) FFi NNi (by k_mem) (by rfl) (by rfl) ?_
                      intro I ltI
                      refine ItemsRest.val (fun h5 tk5 FF12 => ?_)
                      refine AllObj.cons (fun oI hcI => ?_)
                      refine AllObj.nil (fun NN12 => ?_)
                      obtain ⟨c, ta, tb, hc1, hc2⟩ := hp'.2 j (sizeF (1 + dw) (1 + dh) MA MD p) (by rw [List.getElem?_map, hpj]; rfl)
                      simp only [List.cons_append, List.nil_append] at NN12
                      have hcK : @Ne Nat c K := fun q => hfxK _ hc2 (by rw [show (c, tupO _ _ ta tb).1 = K from q]; exact .head _)
                      have hcs : @Ne Nat c src := fun q => hfxK _ hc2 (by rw [show (c, tupO _ _ ta tb).1 = src from q]; exact .tail _ (.head _))
                      have hIc : @Ne Nat I c := Nat.ne_of_gt (ltI _ (.tail _ (.tail _ (.tail _ (.tail _ (.tail _ (.tail _ (.tail _ (.tail _ (.tail _ (.tail _ (.tail _ (hc2)))))))))))))
                      have hIK : @Ne Nat I K := Nat.ne_of_gt (ltI _ (.tail _ (.tail _ (.tail _ (.head _)))))
                      have hIs : @Ne Nat I src := Nat.ne_of_gt (ltI _ (.tail _ (.tail _ (.tail _ (.tail _ (.head _))))))
                      have hj9 : j < 1000 := by have := (List.getElem?_eq_some_iff.mp hpj).1; omega
                      have hID : @Ne Nat _ I := Nat.ne_of_lt (ltI _ (.head _))
                      have hI1 : @Ne Nat _ I := Nat.ne_of_lt (ltI _ (.tail _ (.tail _ (.tail _ (.tail _ (.tail _ (.head _)))))))
                      have hI2 : @Ne Nat _ I := Nat.ne_of_lt (ltI _ (.tail _ (.tail _ (.tail _ (.tail _ (.tail _ (.tail _ (.head _))))))))
                      have hI3 : @Ne Nat _ I := Nat.ne_of_lt (ltI _ (.tail _ (.tail _ (.tail _ (.tail _ (.tail _ (.tail _ (.tail _ (.head _)))))))))
                      have hI4 : @Ne Nat _ I := Nat.ne_of_lt (ltI _ (.tail _ (.tail _ (.tail _ (.tail _ (.tail _ (.tail _ (.tail _ (.tail _ (.head _))))))))))
                      have hI5 : @Ne Nat _ I := Nat.ne_of_lt (ltI _ (.tail _ (.tail _ (.tail _ (.tail _ (.tail _ (.tail _ (.tail _ (.tail _ (.tail _ (.head _)))))))))))
                      have hI6 : @Ne Nat _ I := Nat.ne_of_lt (ltI _ (.tail _ (.tail _ (.tail _ (.tail _ (.tail _ (.tail _ (.tail _ (.tail _ (.tail _ (.tail _ (.head _))))))))))))
                      have hIr : ∀ p ∈ rest3, p.1 ≠ I := fun p q => Nat.ne_of_lt (ltI _ (.tail _ (.tail _ (.tail _ (.tail _ (.tail _ (.tail _ (.tail _ (.tail _ (.tail _ (.tail _ (.tail _ (q)))))))))))))
                      dsimp only at hID hI1 hI2 hI3 hI4 hI5 hI6
                      have NN13 := news_dup (news_drop2 NN12) (.tail _ (.tail _ (.tail _ (.tail _ (.tail _ (.tail _ (.tail _ (.tail _ (.tail _ (.tail _ (hc2)))))))))))
                      clear NN12 NNi FFi
                      k_steps
                      rename News _ _ _ _ => nN
                      refine Sp.use (take_c src 0 x8 y8 2 _ _ _ hx8 hy8 hz8 (by decide) (by decide)) (by k_asm) (by k_asm) (by k_asm) (news_pick nN (by (repeat (first | exact List.Mem.head _ | refine List.Mem.tail _ ?_)))) (by k_asm) (by first | exact rfl | assumption) (by ktr_room) (by ktr_units) trivial ?_
                      rintro v' h' tk' news' ⟨d9, x9, y9, t11, tx9, ty9, rfl, hd90, hd91, hx9, hy9, hz9, rfl⟩ F' N0' G' fr'
                      have N' := news_mid (pre := [_, _, _, _, _, _, _]) nN N0' G' (by (repeat (first | with_reducible exact offs_nil | (with_reducible refine offs_cons ?_ ?_; (first | with_reducible assumption | exact Ne.symm (by with_reducible assumption) | k_ne)) | exact offs_fix (by with_reducible assumption) (by (repeat (first | with_reducible exact List.mem_cons_self | with_reducible refine List.mem_cons_of_mem _ ?_))) | with_reducible assumption))) (by (repeat (first | with_reducible exact offs_nil | (with_reducible refine offs_cons ?_ ?_; (first | with_reducible assumption | exact Ne.symm (by with_reducible assumption) | k_ne)) | exact offs_fix (by with_reducible assumption) (by (repeat (first | with_reducible exact List.mem_cons_self | with_reducible refine List.mem_cons_of_mem _ ?_))) | with_reducible assumption)))
                      clear nN N0' G' fr'
                      simp only [List.cons_append, List.nil_append] at N'
                      (try dsimp only)
                      (try k_sweep)
                      have hd9 : d9 = 0 ∨ d9 = 1 := by omega
                      obtain ⟨l9, T1, T0, e1, e2, e3, NN14⟩ := news_names3 N'
                      subst e1 e2 e3
                      clear N'
                      have hj4 : j < ys4.length := (List.getElem?_eq_some_iff.mp hc1).1
                      have hsz9 : sizeF (1 + dw) (1 + dh) MA MD p ∈ sam.map (sizeF (1 + dw) (1 + dh) MA MD) := List.mem_map.mpr ⟨p, List.mem_of_getElem? hpj, rfl⟩
                      rcases hd9 with rfl | rfl
                      · k_steps
                        have hget : (ys4.set j (Value.ref T0))[j]? = some (Value.ref T0) := List.getElem?_set_self hj4
                        rename Fr _ _ _ _ => FF14
                        rename News _ _ _ _ => NN15
                        refine set_g (pre := [_, _, _, _, _, _]) FF14 NN15 (by (repeat (first | with_reducible exact offs_nil | (with_reducible refine offs_cons ?_ ?_; (first | with_reducible assumption | exact Ne.symm (by with_reducible assumption) | k_ne)) | exact offs_fix (by with_reducible assumption) (by (repeat (first | with_reducible exact List.mem_cons_self | with_reducible refine List.mem_cons_of_mem _ ?_))) | with_reducible assumption))) (by (repeat (first | with_reducible exact offs_nil | (with_reducible refine offs_cons ?_ ?_; (first | with_reducible assumption | exact Ne.symm (by with_reducible assumption) | k_ne)) | exact offs_fix (by with_reducible assumption) (by (repeat (first | with_reducible exact List.mem_cons_self | with_reducible refine List.mem_cons_of_mem _ ?_))) | with_reducible assumption))) hj4 hj9 ?_
                        intro h6 FF15 NN16
                        clear NN15 FF14
                        simp only [List.cons_append, List.nil_append] at NN16
                        k_steps
                        · rename Fr _ _ _ _ => FF16
                          rename News _ _ _ _ => NN17
                          refine set_g (pre := [_, _, _, _, _, _]) FF16 NN17 (by (repeat (first | with_reducible exact offs_nil | (with_reducible refine offs_cons ?_ ?_; (first | with_reducible assumption | exact Ne.symm (by with_reducible assumption) | k_ne)) | exact offs_fix (by with_reducible assumption) (by (repeat (first | with_reducible exact List.mem_cons_self | with_reducible refine List.mem_cons_of_mem _ ?_))) | with_reducible assumption))) (by (repeat (first | with_reducible exact offs_nil | (with_reducible refine offs_cons ?_ ?_; (first | with_reducible assumption | exact Ne.symm (by with_reducible assumption) | k_ne)) | exact offs_fix (by with_reducible assumption) (by (repeat (first | with_reducible exact List.mem_cons_self | with_reducible refine List.mem_cons_of_mem _ ?_))) | with_reducible assumption))) (by rw [List.length_set]; exact hj4) hj9 ?_
                          intro h7 FF17 NN18
                          clear NN17 FF16
                          simp only [List.cons_append, List.nil_append, List.set_set] at NN18
                          k_steps
                          refine unr_endA (pre := [_, _, _, _]) (T0, tupO _ _ _ _) (by k_asm) NN18 (.tail _ (.tail _ (.head _))) (by k_ne) (offs_cons hID (offs_cons (Ne.symm hIK) (offs_cons (Ne.symm hIs) (offs_cons hI1 (offs_cons hI2 (offs_cons hI3 (offs_cons hI4 (offs_cons hI5 (offs_cons hI6 hIr))))))))) ⟨⟨.tail _ (.head _), trivial⟩, ItemsRest.zero (fun h8 tk8 FF18 NN19 => ?_)⟩
                          clear NN18 FF17
                          k_steps
                          obtain ⟨ua, ub, NN20⟩ := news_end NN19
                          refine ⟨by first | exact rfl | trivial, _, _, rfl, true, ys4.set j (.ref T0), (sam.map (sizeF (1 + dw) (1 + dh) MA MD)).set j ((sizeF (1 + dw) (1 + dh) MA MD p).1 + 1, (sizeF (1 + dw) (1 + dh) MA MD p).2), ck, (T0, tupO _ _ ua ub) :: (K, W.listOf (ys4.set j (.ref T0)).toArray ck) :: rest3, bad0 hA hDn bA.1 bD.1 (by omega) (by omega) hb hpj hj1 hj2 (by assumption) (by assumption), pairs_end hp', hp.sub (fun p q => .tail _ (.tail _ q)), .tail _ (.tail _ hDm), .tail _ (.head _), NN20, fr5 FF18 (by show some (Value.bool (decide _)) = _; rw [decide_eq_true (by assumption)]) ?_⟩
                          intro y y1 y2 y3 y4 y5; simp only [y1, y2, y3, y4, y5, if_false]
                        · rename Fr _ _ _ _ => FF16
                          rename News _ _ _ _ => NN17
                          obtain ⟨T9, hT9, NN17⟩ := news_name1 NN17
                          subst hT9
                          refine set_g (pre := [_, _, _, _, _, _, _]) FF16 NN17 (by (repeat (first | with_reducible exact offs_nil | (with_reducible refine offs_cons ?_ ?_; (first | with_reducible assumption | exact Ne.symm (by with_reducible assumption) | k_ne)) | exact offs_fix (by with_reducible assumption) (by (repeat (first | with_reducible exact List.mem_cons_self | with_reducible refine List.mem_cons_of_mem _ ?_))) | with_reducible assumption))) (by (repeat (first | with_reducible exact offs_nil | (with_reducible refine offs_cons ?_ ?_; (first | with_reducible assumption | exact Ne.symm (by with_reducible assumption) | k_ne)) | exact offs_fix (by with_reducible assumption) (by (repeat (first | with_reducible exact List.mem_cons_self | with_reducible refine List.mem_cons_of_mem _ ?_))) | with_reducible assumption))) (by rw [List.length_set]; exact hj4) hj9 ?_
                          intro h7 FF17 NN18
                          clear NN17 FF16
                          simp only [List.cons_append, List.nil_append, List.set_set] at NN18
                          k_steps
                          refine unr_endA (pre := [_, _, _, _, _]) (T9, tupO _ _ _ _) (by k_asm) NN18 (.head _) (by k_ne) (offs_cons hID (offs_cons (Ne.symm hIK) (offs_cons (Ne.symm hIs) (offs_cons hI1 (offs_cons hI2 (offs_cons hI3 (offs_cons hI4 (offs_cons hI5 (offs_cons hI6 hIr))))))))) ⟨⟨.tail _ (.head _), trivial⟩, ItemsRest.zero (fun h8 tk8 FF18 NN19 => ?_)⟩
                          clear NN18 FF17
                          k_steps
                          obtain ⟨ua, ub, NN20⟩ := news_end NN19
                          refine ⟨by first | exact rfl | trivial, _, _, rfl, false, ys4.set j (.ref T9), (sam.map (sizeF (1 + dw) (1 + dh) MA MD)).set j ((sizeF (1 + dw) (1 + dh) MA MD p).1, (sizeF (1 + dw) (1 + dh) MA MD p).2), ck, (T9, tupO _ _ ua ub) :: (K, W.listOf (ys4.set j (.ref T9)).toArray ck) :: rest3, good1 hA hDn bA.1 bD.1 (by omega) (by omega) hb hpj, pairs_end hp', hp.sub (fun p q => .tail _ (.tail _ q)), .tail _ (.tail _ hDm), .tail _ (.head _), NN20, fr5 FF18 (by show some (Value.bool (decide _)) = _; rw [decide_eq_false (by assumption)]) ?_⟩
                          intro y y1 y2 y3 y4 y5; simp only [y1, y2, y3, y4, y5, if_false]
                        · rename Fr _ _ _ _ => FF16
                          rename News _ _ _ _ => NN17
                          obtain ⟨T9, hT9, NN17⟩ := news_name1 NN17
                          subst hT9
                          refine set_g (pre := [_, _, _, _, _, _, _]) FF16 NN17 (by (repeat (first | with_reducible exact offs_nil | (with_reducible refine offs_cons ?_ ?_; (first | with_reducible assumption | exact Ne.symm (by with_reducible assumption) | k_ne)) | exact offs_fix (by with_reducible assumption) (by (repeat (first | with_reducible exact List.mem_cons_self | with_reducible refine List.mem_cons_of_mem _ ?_))) | with_reducible assumption))) (by (repeat (first | with_reducible exact offs_nil | (with_reducible refine offs_cons ?_ ?_; (first | with_reducible assumption | exact Ne.symm (by with_reducible assumption) | k_ne)) | exact offs_fix (by with_reducible assumption) (by (repeat (first | with_reducible exact List.mem_cons_self | with_reducible refine List.mem_cons_of_mem _ ?_))) | with_reducible assumption))) (by rw [List.length_set]; exact hj4) hj9 ?_
                          intro h7 FF17 NN18
                          clear NN17 FF16
                          simp only [List.cons_append, List.nil_append, List.set_set] at NN18
                          k_steps
                          refine unr_endA (pre := [_, _, _, _, _]) (T9, tupO _ _ _ _) (by k_asm) NN18 (.head _) (by k_ne) (offs_cons hID (offs_cons (Ne.symm hIK) (offs_cons (Ne.symm hIs) (offs_cons hI1 (offs_cons hI2 (offs_cons hI3 (offs_cons hI4 (offs_cons hI5 (offs_cons hI6 hIr))))))))) ⟨⟨.tail _ (.head _), trivial⟩, ItemsRest.zero (fun h8 tk8 FF18 NN19 => ?_)⟩
                          clear NN18 FF17
                          k_steps
                          obtain ⟨ua, ub, NN20⟩ := news_end NN19
                          refine ⟨by first | exact rfl | trivial, _, _, rfl, false, ys4.set j (.ref T9), (sam.map (sizeF (1 + dw) (1 + dh) MA MD)).set j ((sizeF (1 + dw) (1 + dh) MA MD p).1, (sizeF (1 + dw) (1 + dh) MA MD p).2), ck, (T9, tupO _ _ ua ub) :: (K, W.listOf (ys4.set j (.ref T9)).toArray ck) :: rest3, good1 hA hDn bA.1 bD.1 (by omega) (by omega) hb hpj, pairs_end hp', hp.sub (fun p q => .tail _ (.tail _ q)), .tail _ (.tail _ hDm), .tail _ (.head _), NN20, fr5 FF18 (by show some (Value.bool (decide _)) = _; rw [decide_eq_false (by assumption)]) ?_⟩
                          intro y y1 y2 y3 y4 y5; simp only [y1, y2, y3, y4, y5, if_false]
                      · k_steps
                        have hget : (ys4.set j (Value.ref T1))[j]? = some (Value.ref T1) := List.getElem?_set_self hj4
                        rename Fr _ _ _ _ => FF14
                        rename News _ _ _ _ => NN15
                        refine set_g (pre := [_, _, _, _, _, _]) FF14 NN15 (by (repeat (first | with_reducible exact offs_nil | (with_reducible refine offs_cons ?_ ?_; (first | with_reducible assumption | exact Ne.symm (by with_reducible assumption) | k_ne)) | exact offs_fix (by with_reducible assumption) (by (repeat (first | with_reducible exact List.mem_cons_self | with_reducible refine List.mem_cons_of_mem _ ?_))) | with_reducible assumption))) (by (repeat (first | with_reducible exact offs_nil | (with_reducible refine offs_cons ?_ ?_; (first | with_reducible assumption | exact Ne.symm (by with_reducible assumption) | k_ne)) | exact offs_fix (by with_reducible assumption) (by (repeat (first | with_reducible exact List.mem_cons_self | with_reducible refine List.mem_cons_of_mem _ ?_))) | with_reducible assumption))) hj4 hj9 ?_
                        intro h6 FF15 NN16
                        clear NN15 FF14
                        simp only [List.cons_append, List.nil_append] at NN16
                        k_steps
                        · rename Fr _ _ _ _ => FF16
                          rename News _ _ _ _ => NN17
                          refine set_g (pre := [_, _, _, _, _, _]) FF16 NN17 (by (repeat (first | with_reducible exact offs_nil | (with_reducible refine offs_cons ?_ ?_; (first | with_reducible assumption | exact Ne.symm (by with_reducible assumption) | k_ne)) | exact offs_fix (by with_reducible assumption) (by (repeat (first | with_reducible exact List.mem_cons_self | with_reducible refine List.mem_cons_of_mem _ ?_))) | with_reducible assumption))) (by (repeat (first | with_reducible exact offs_nil | (with_reducible refine offs_cons ?_ ?_; (first | with_reducible assumption | exact Ne.symm (by with_reducible assumption) | k_ne)) | exact offs_fix (by with_reducible assumption) (by (repeat (first | with_reducible exact List.mem_cons_self | with_reducible refine List.mem_cons_of_mem _ ?_))) | with_reducible assumption))) (by rw [List.length_set]; exact hj4) hj9 ?_
                          intro h7 FF17 NN18
                          clear NN17 FF16
                          simp only [List.cons_append, List.nil_append, List.set_set] at NN18
                          k_steps
                          refine unr_endA (pre := [_, _, _, _]) (T1, tupO _ _ _ _) (by k_asm) NN18 (.tail _ (.head _)) (by k_ne) (offs_cons hID (offs_cons (Ne.symm hIK) (offs_cons (Ne.symm hIs) (offs_cons hI1 (offs_cons hI2 (offs_cons hI3 (offs_cons hI4 (offs_cons hI5 (offs_cons hI6 hIr))))))))) ⟨⟨.tail _ (.head _), trivial⟩, ItemsRest.zero (fun h8 tk8 FF18 NN19 => ?_)⟩
                          clear NN18 FF17
                          k_steps
                          obtain ⟨ua, ub, NN20⟩ := news_end NN19
                          refine ⟨by first | exact rfl | trivial, _, _, rfl, true, ys4.set j (.ref T1), (sam.map (sizeF (1 + dw) (1 + dh) MA MD)).set j ((sizeF (1 + dw) (1 + dh) MA MD p).1, (sizeF (1 + dw) (1 + dh) MA MD p).2 + 1), ck, (T1, tupO _ _ ua ub) :: (K, W.listOf (ys4.set j (.ref T1)).toArray ck) :: rest3, bad1 hA hDn bA.1 bD.1 (by omega) (by omega) hb hpj hj1 hj2 (by assumption) (by assumption), pairs_end hp', hp.sub (fun p q => .tail _ (.tail _ q)), .tail _ (.tail _ hDm), .tail _ (.head _), NN20, fr5 FF18 (by show some (Value.bool (decide _)) = _; rw [decide_eq_true (by assumption)]) ?_⟩
                          intro y y1 y2 y3 y4 y5; simp only [y1, y2, y3, y4, y5, if_false]
                        · rename Fr _ _ _ _ => FF16
                          rename News _ _ _ _ => NN17
                          obtain ⟨T9, hT9, NN17⟩ := news_name1 NN17
                          subst hT9
                          refine set_g (pre := [_, _, _, _, _, _, _]) FF16 NN17 (by (repeat (first | with_reducible exact offs_nil | (with_reducible refine offs_cons ?_ ?_; (first | with_reducible assumption | exact Ne.symm (by with_reducible assumption) | k_ne)) | exact offs_fix (by with_reducible assumption) (by (repeat (first | with_reducible exact List.mem_cons_self | with_reducible refine List.mem_cons_of_mem _ ?_))) | with_reducible assumption))) (by (repeat (first | with_reducible exact offs_nil | (with_reducible refine offs_cons ?_ ?_; (first | with_reducible assumption | exact Ne.symm (by with_reducible assumption) | k_ne)) | exact offs_fix (by with_reducible assumption) (by (repeat (first | with_reducible exact List.mem_cons_self | with_reducible refine List.mem_cons_of_mem _ ?_))) | with_reducible assumption))) (by rw [List.length_set]; exact hj4) hj9 ?_
                          intro h7 FF17 NN18
                          clear NN17 FF16
                          simp only [List.cons_append, List.nil_append, List.set_set] at NN18
                          k_steps
                          refine unr_endA (pre := [_, _, _, _, _]) (T9, tupO _ _ _ _) (by k_asm) NN18 (.head _) (by k_ne) (offs_cons hID (offs_cons (Ne.symm hIK) (offs_cons (Ne.symm hIs) (offs_cons hI1 (offs_cons hI2 (offs_cons hI3 (offs_cons hI4 (offs_cons hI5 (offs_cons hI6 hIr))))))))) ⟨⟨.tail _ (.head _), trivial⟩, ItemsRest.zero (fun h8 tk8 FF18 NN19 => ?_)⟩
                          clear NN18 FF17
                          k_steps
                          obtain ⟨ua, ub, NN20⟩ := news_end NN19
                          refine ⟨by first | exact rfl | trivial, _, _, rfl, false, ys4.set j (.ref T9), (sam.map (sizeF (1 + dw) (1 + dh) MA MD)).set j ((sizeF (1 + dw) (1 + dh) MA MD p).1, (sizeF (1 + dw) (1 + dh) MA MD p).2), ck, (T9, tupO _ _ ua ub) :: (K, W.listOf (ys4.set j (.ref T9)).toArray ck) :: rest3, good1 hA hDn bA.1 bD.1 (by omega) (by omega) hb hpj, pairs_end hp', hp.sub (fun p q => .tail _ (.tail _ q)), .tail _ (.tail _ hDm), .tail _ (.head _), NN20, fr5 FF18 (by show some (Value.bool (decide _)) = _; rw [decide_eq_false (by assumption)]) ?_⟩
                          intro y y1 y2 y3 y4 y5; simp only [y1, y2, y3, y4, y5, if_false]
                        · rename Fr _ _ _ _ => FF16
                          rename News _ _ _ _ => NN17
                          obtain ⟨T9, hT9, NN17⟩ := news_name1 NN17
                          subst hT9
                          refine set_g (pre := [_, _, _, _, _, _, _]) FF16 NN17 (by (repeat (first | with_reducible exact offs_nil | (with_reducible refine offs_cons ?_ ?_; (first | with_reducible assumption | exact Ne.symm (by with_reducible assumption) | k_ne)) | exact offs_fix (by with_reducible assumption) (by (repeat (first | with_reducible exact List.mem_cons_self | with_reducible refine List.mem_cons_of_mem _ ?_))) | with_reducible assumption))) (by (repeat (first | with_reducible exact offs_nil | (with_reducible refine offs_cons ?_ ?_; (first | with_reducible assumption | exact Ne.symm (by with_reducible assumption) | k_ne)) | exact offs_fix (by with_reducible assumption) (by (repeat (first | with_reducible exact List.mem_cons_self | with_reducible refine List.mem_cons_of_mem _ ?_))) | with_reducible assumption))) (by rw [List.length_set]; exact hj4) hj9 ?_
                          intro h7 FF17 NN18
                          clear NN17 FF16
                          simp only [List.cons_append, List.nil_append, List.set_set] at NN18
                          k_steps
                          refine unr_endA (pre := [_, _, _, _, _]) (T9, tupO _ _ _ _) (by k_asm) NN18 (.head _) (by k_ne) (offs_cons hID (offs_cons (Ne.symm hIK) (offs_cons (Ne.symm hIs) (offs_cons hI1 (offs_cons hI2 (offs_cons hI3 (offs_cons hI4 (offs_cons hI5 (offs_cons hI6 hIr))))))))) ⟨⟨.tail _ (.head _), trivial⟩, ItemsRest.zero (fun h8 tk8 FF18 NN19 => ?_)⟩
                          clear NN18 FF17
                          k_steps
                          obtain ⟨ua, ub, NN20⟩ := news_end NN19
                          refine ⟨by first | exact rfl | trivial, _, _, rfl, false, ys4.set j (.ref T9), (sam.map (sizeF (1 + dw) (1 + dh) MA MD)).set j ((sizeF (1 + dw) (1 + dh) MA MD p).1, (sizeF (1 + dw) (1 + dh) MA MD p).2), ck, (T9, tupO _ _ ua ub) :: (K, W.listOf (ys4.set j (.ref T9)).toArray ck) :: rest3, good1 hA hDn bA.1 bD.1 (by omega) (by omega) hb hpj, pairs_end hp', hp.sub (fun p q => .tail _ (.tail _ q)), .tail _ (.tail _ hDm), .tail _ (.head _), NN20, fr5 FF18 (by show some (Value.bool (decide _)) = _; rw [decide_eq_false (by assumption)]) ?_⟩
                          intro y y1 y2 y3 y4 y5; simp only [y1, y2, y3, y4, y5, if_false]
              case cD =>
                rintro h tk ⟨b, krefs, kept, ck, rest4, hK, hpk, hp3, hDm4, hKm, NN10, v1, v2, v3, v4, FF9⟩
                subst hcells4 hm₃
                simp only [List.cons_append, List.nil_append] at NN10
                clear FF8 NN9
                k_steps
                rename News _ _ _ _ => NN11
                obtain ⟨cells5, hcells5, NN12⟩ := news_cells6 NN11
                clear NN11
                refine LCp.SrcLP.ledger rfl (by k_asm) NN12 (List.mem_append_right _ hKm) (by rw [List.size_toArray, hpk.1, hK.len, hl, sizeLine_eq]; omega) ?_
                intro gg6
                refine compP_ind (fun i ys' news => ∃ rest', (∀ p ∈ rest4, p ∈ rest') ∧ LedPlanes rest' ys' (kept.take i) ∧ news = cells5 ++ rest') ?s6 ?f6 _ 0 [] _ (Nat.zero_add _) ⟨rest4, fun _ q => q, LedPlanes.nil, rfl⟩
                case s6 =>
                  rintro i ys' news hi ⟨rest', hs', hpl, rfl⟩ v hv
                  have hi' : i < kept.length := by rw [List.size_toArray, hpk.1] at hi; exact hi
                  obtain ⟨c, ta, tb, hc1, hc2⟩ := hpk.2 i kept[i] (List.getElem?_eq_getElem hi')
                  refine ⟨c, tupO kept[i].1 kept[i].2 ta tb, .int kept[i].1 ta, .int kept[i].2 tb, 0, ref_of hv hc1, List.mem_append_right _ (hs' _ hc2), rfl, rfl, ?_⟩
                  intro I oI C oC D5 m₂ h tk E' hoC hx1' hx2' FF NN off ne
                  have hb0 := hK.pos kept[i] (List.getElem_mem hi')
                  have hb1 := hK.wide.2 kept[i].1 (List.mem_map.mpr ⟨_, List.getElem_mem hi', rfl⟩)
                  have hb2 := hK.high.2 kept[i].2 (List.mem_map.mpr ⟨_, List.getElem_mem hi', rfl⟩)
                  k_steps
                  refine Sp.use (blank_c _ _ _ _ ⟨hb0.1, by omega⟩ ⟨hb0.2, by omega⟩) (by k_asm) (by k_asm) (by k_asm) (fun _ q => nomatch q) (by k_asm) (by first | exact rfl | assumption) (by ktr_room) (by ktr_units) (trivial) ?_
                  rename News _ _ _ _ => nN
                  rintro v' h' tk' news' ⟨p, dx, es, kk, ua, ub, rfl, rfl, hgw, hgh⟩ F' N0' G' fr'
                  have N' := news_both nN N0' G' (fun _ _ q => nomatch q)
                  have off' := news_off nN fr'
                  clear nN N0' G' fr'
                  (try dsimp only)
                  (try k_sweep)
                  k_steps
                  exact LCg.CompEnd.intro (by k_asm) N' (cells5 ++ (p, instObj 204 dx) :: (dx, dictOf es kk) :: rest') sub_pd (off3_ins2 off off') (.inr ⟨_, List.mem_append_right _ (.tail _ (.tail _ (hs' _ hKm))), rfl, _, rfl⟩) ⟨_, fun q hq => .tail _ (.tail _ (hs' q hq)), by rw [take_snoc1 hi']; exact hpl.snoc2 hgw hgh, rfl⟩
                case f6 =>
                  rintro ys5 news ⟨rest', hs', hpl, rfl⟩ D5 h tk FF NN off
                  rw [List.take_of_length_le (by rw [List.size_toArray, hpk.1]; exact Nat.le_refl _)] at hpl
                  have NN13 := news_in NN
                  clear NN NN12
                  subst hcells5
                  simp only [List.cons_append, List.nil_append] at NN13
                  k_steps
                  refine SpN.use (pict_c _ _ _ _) (by k_asm) (by k_asm) (by k_asm) (by k_asm) (by k_asm) (by first | exact rfl | assumption) (by ktr_room) (by ktr_units) ?_
                  rintro v' h' tk' new' ⟨pic, dxp, esp, kp, tpp, rfl, rfl, gp1, gp2, gp3, gp4⟩ F' N' off'
                  (try dsimp only)
                  (try k_sweep)
                  k_steps
                  simp only [List.cons_append, List.nil_append] at N'
                  rename News _ _ _ _ => NP
                  clear off'
                  refine FrameSp.use (framed_c pic D5 D ys5 ys kept sam (1 + dw) (1 + dh) (2 + dp) MA MD (by omega) (by omega) hK.len hA hDn hK.wide hK.high (fun p q => by have := hb p q; omega)) (by k_asm) (by k_asm) (by k_asm) (by k_asm) (by k_asm) (by k_asm) (by first | exact rfl | assumption) (by ktr_room) (by ktr_units)
                    ⟨⟨dxp, esp, kp, tpp, NP.get (.head _), NP.get (.tail _ (.head _)), gp1, gp2, gp3, gp4⟩, (hpl.sub fun p q => .tail _ (.tail _ (.tail _ (.tail _ (.tail _ (.tail _ (.tail _ (.tail _ (.tail _ (q)))))))))).at_ NP (.tail _ (.tail _ (.tail _ (.tail _ (.tail _ (.tail _ (.tail _ (.tail _ (.head _))))))))), (hp3.sub fun p q => .tail _ (.tail _ (.tail _ (.tail _ (.tail _ (.tail _ (.tail _ (.tail _ (.tail _ (hs' _ q)))))))))).at_ NP (.tail _ (.tail _ (.tail _ (.tail _ (.tail _ (.tail _ (.tail _ (.tail _ (.tail _ (hs' _ hDm4))))))))))⟩ ?_ ?_
                  · rintro v' h' tk' news' ⟨f, l, crefs, cc, rfl, hLF, hlm, hLC, hall⟩ FFr N0 G0 fr
                    have hb' : b = false := by
                      cases b with
                      | false => rfl
                      | true =>
                        obtain ⟨i, p, q, e1, e2, e3⟩ := hK.bad rfl
                        rw [List.getElem?_map] at e1
                        obtain ⟨r, e4, e5⟩ := Option.map_eq_some_iff.mp e1
                        exact absurd ((hall i r q e4 e2).trans e5) e3
                    subst hb'
                    have NB := news_both NP N0 G0 (fun _ _ q => nomatch q)
                    have offB := news_off NP (fun p q => .inr (fr p q))
                    clear NP N0 G0 fr
                    obtain ⟨fdx, fes, fk, ftk, ftp, fth, ftw, ftn, hf1, hf2, fa1, fa2, fa3, fa4, fa5, fa6, fa7, fa8, fa9⟩ := hLF
                    obtain ⟨R, hR1, hR2, NB2⟩ := news_front NB hf1 hf2
                    replace hp3 := hp3.sub (fun p q => hR2 _ (hs' _ q))
                    replace hDm4 := hR2 _ (hs' _ hDm4)
                    clear NB offB
                    repeat' ((fail_if_success (with_reducible show Stop _)); (first | (k_unfold; (try dsimp only)) | walk1 | (dsimp only; walk1)))
                    rename News _ _ _ _ => NN14
                    have NN15 := news_sub NN14 (fun p hp => .tail _ (.tail _ hp))
                    clear NN14
                    obtain ⟨cells8, hcells8, NN16⟩ := news_cells8 NN15
                    clear NN15
                    refine LCg.CompSrc.ledger rfl (by k_asm) NN16 (List.mem_append_right _ (hR1 _ hlm)) (by rw [List.size_toArray, hLC.1, hl, sizeLine_eq]; omega) ?_
                    intro gg7
                    refine comp_ind (fun i ys' news => ∃ rest', (∀ p ∈ R, p ∈ rest') ∧ LedTrips rest' ys' sam i ∧ news = cells8 ++ rest') ?s7 ?f7 _ 0 [] _ (Nat.zero_add _) ⟨R, fun _ q => q, LedTrips.nil, rfl⟩
                    case s7 =>
                      rintro i ys' news hi ⟨rest', hs7, htr, rfl⟩ v I oI C oC D6 m₂ h tk E' hv hoC hm₂ FF NN off ne
                      have hi' : i < sam.length := by rw [List.size_toArray, hLC.1] at hi; exact hi
                      obtain ⟨c, hc1, cdx, ces, ck', cti, cta, ctb, hcc1, hcc2, ca1, ca2, ca3⟩ := hLC.2 i sam[i] hi' (List.getElem?_eq_getElem hi')
                      cases ref_of hv hc1
                      have NNa := news_dup (news_dup NN (.tail _ (.tail _ (.tail _ (List.mem_append_right _ (hs7 _ (hR1 _ hcc2))))))) (.tail _ (.tail _ (.tail _ (.tail _ (List.mem_append_right _ (hs7 _ (hR1 _ hcc1)))))))
                      clear NN
                      repeat' ((fail_if_success (with_reducible show Stop _)); (first | (k_unfold; (try dsimp only)) | walk1 | (dsimp only; walk1)))
                      rename News _ _ _ _ => N10
                      rename (_ < _) ∧ _ => ord
                      obtain ⟨t9, ht9, N10', ord'⟩ := news_t N10 ord
                      subst ht9
                      obtain ⟨oo1, oo2, oo3, oo4, oo5, oo6⟩ := ord'
                      dsimp only at oo1 oo2 oo3 oo4 oo5
                      exact LCg.CompEnd.intro (by k_asm) N10' (cells8 ++ (t9, tup3 _ _ _ _ _ _) :: rest') sub_t2 (off3_ins0 off oo3 oo4 oo5) (.inr ⟨_, List.mem_append_right _ (.tail _ (hs7 _ (hR1 _ hlm))), rfl, _, rfl⟩) ⟨_, fun q hq => .tail _ (hs7 q hq), htr.snoc hi', rfl⟩
                    case f7 =>
                      rintro ys6 news ⟨rest5, hs7, htr, rfl⟩ D6 h tk FF NN off
                      rw [List.size_toArray, hLC.1] at htr
                      have NN17 := news_in NN
                      clear NN NN16 off
                      subst hcells8
                      simp only [List.cons_append, List.nil_append] at NN17
                      repeat' ((fail_if_success (with_reducible show Stop _)); (first | (k_unfold; (try dsimp only)) | walk1 | (dsimp only; walk1)))
                      rename News _ _ _ _ => NN18
                      obtain ⟨cells9, hcells9, NN19⟩ := news_cells8 NN18
                      clear NN18
                      refine LCg.CompSrc.range (n := (1 + d1 - 0).toNat) rfl (by k_asm) NN19 (by assumption) (small_one (by decide) (by decide) (by omega) (by omega)) (rangeSize_nat _ _) (by show _ ≤ 2 ^ 24; omega) ?_
                      intro gg8
                      refine comp_ind (fun i ys' news => ∃ rest', (∀ p ∈ (D6, LCg.lst ys6) :: rest5, p ∈ rest') ∧ LedTrips rest' ys' sam i ∧ news = cells9 ++ rest') ?s8 ?f8 _ 0 [] _ (Nat.zero_add _) ⟨_, fun _ q => q, LedTrips.nil, rfl⟩
                      case s8 =>
                        rintro i ys' news hi ⟨rest', hs8, htr2, rfl⟩ v I oI C oC D7 m₂ h tk E' ⟨tv, rfl⟩ hoC hm₂ FF NN off ne
                        have hi' : i < sam.length := by rw [hl]; exact hi
                        have hi9 : i < 1000 := by omega
                        obtain ⟨c, ta, tb, hc1, hc2⟩ := hp3.2 i sam[i] (List.getElem?_eq_getElem hi')
                        simp only [Int.zero_add] at hm₂
                        subst hcells9
                        simp only [List.cons_append, List.nil_append] at NN
                        have NNa := news_dup (news_dup NN (.tail _ (.tail _ (.tail _ (.tail _ (.tail _ (.tail _ (.tail _ (.tail _ (.tail _ (.tail _ (.tail _ (hs8 _ (.tail _ (hs7 _ hc2))))))))))))))) (.tail _ (.tail _ (.tail _ (.tail _ (.tail _ (.tail _ (.tail _ (.tail _ (.tail _ (.tail _ (.tail _ (.tail _ (hs8 _ (.tail _ (hs7 _ hDm4)))))))))))))))
                        clear NN
                        repeat' ((fail_if_success (with_reducible show Stop _)); (first | (k_unfold; (try dsimp only)) | walk1 | (dsimp only; walk1)))
                        rename News _ _ _ _ => N10
                        rename (_ < _) ∧ _ => ord
                        obtain ⟨t9, ht9, N10', ord'⟩ := news_t N10 ord
                        subst ht9
                        obtain ⟨oo1, oo2, oo3, oo4, oo5, oo6, oo7⟩ := ord'
                        dsimp only at oo1 oo2 oo3 oo4 oo5 oo6
                        exact LCg.CompEnd.intro (by k_asm) N10' ([_, _, _, _, _, _, _, _] ++ (t9, tup3 _ _ _ _ _ _) :: rest') (sub_t3 (cells := [_, _, _, _, _, _, _, _])) (off3_ins0 (cells := [_, _, _, _, _, _, _, _]) off oo4 oo5 oo6) trivial ⟨_, fun q hq => .tail _ (hs8 q hq), htr2.snoc hi', rfl⟩
                      case f8 =>
                        rintro ys7 news ⟨rest6, hs8, htr2, rfl⟩ D7 h tk FF NN off
                        rw [← hl] at htr2
                        have NN20 := news_in NN
                        clear NN NN19 off
                        subst hcells9
                        simp only [List.cons_append, List.nil_append] at NN20
                        refine ne_trips NN20 htr htr2 (fun p q => .tail _ (.tail _ (.tail _ (.tail _ (.tail _ (.tail _ (.tail _ (.tail _ (.tail _ (hs8 _ (.tail _ q))))))))))) (fun p q => .tail _ (.tail _ (.tail _ (.tail _ (.tail _ (.tail _ (.tail _ (.tail _ (.tail _ (q)))))))))) (.tail _ (.tail _ (.tail _ (.tail _ (.tail _ (.tail _ (.tail _ (.tail _ (.tail _ (hs8 _ (.head _))))))))))) (.tail _ (.tail _ (.tail _ (.tail _ (.tail _ (.tail _ (.tail _ (.tail _ (.head _))))))))) (by ktr_units) ?_
                        repeat' ((fail_if_success (with_reducible show Stop _)); (first | (k_unfold; (try dsimp only)) | walk1 | (dsimp only; walk1)))
                        · rename News _ _ _ _ => NN21
                          obtain ⟨cells10, hcells10, NN22⟩ := news_cells8 NN21
                          clear NN21
                          refine LCp.SrcLP.ledger rfl (by k_asm) NN22 (List.mem_append_right _ (.tail _ (hs8 _ (.tail _ (hs7 _ hDm4))))) (by rw [List.size_toArray, hp3.1, hl, sizeLine_eq]; omega) ?_
                          intro gg9
                          refine compP_ind (fun i ys' news => news = cells10 ++ (D7, LCg.lst ys7) :: rest6 ∧ IntsAre ys' ((sam.map (fun p => p.1 * p.2)).take i)) ?s9 ?f9 _ 0 [] _ (Nat.zero_add _) ⟨rfl, IntsAre.nil⟩
                          case s9 =>
                            rintro i ys' news hi ⟨rfl, hys⟩ v hv
                            have hi' : i < sam.length := by rw [List.size_toArray, hp3.1] at hi; exact hi
                            obtain ⟨c, ta, tb, hc1, hc2⟩ := hp3.2 i sam[i] (List.getElem?_eq_getElem hi')
                            refine ⟨c, tupO sam[i].1 sam[i].2 ta tb, .int sam[i].1 ta, .int sam[i].2 tb, 0, ref_of hv hc1, List.mem_append_right _ (.tail _ (hs8 _ (.tail _ (hs7 _ hc2)))), rfl, rfl, ?_⟩
                            intro I oI C oC D8 m₂ h tk E' hoC hx1' hx2' FF NN off ne
                            have hb0 := hb sam[i] (List.getElem_mem hi')
                            k_steps
                            exact LCg.CompEnd.intro FF NN _ (fun _ q => q) off (.inr ⟨_, List.mem_append_right _ (.tail _ (hs8 _ (.tail _ (hs7 _ hDm4)))), rfl, _, rfl⟩) ⟨rfl, ints_step hi' hys _⟩
                          case f9 =>
                            rintro ys8 news ⟨rfl, hys⟩ D8 h tk FF NN off
                            replace hys := ints_all (by rw [List.size_toArray, hp3.1]; exact Nat.le_refl _) hys
                            have NN23 := news_in NN
                            clear NN NN22 off
                            subst hcells10
                            simp only [List.cons_append, List.nil_append] at NN23
                            repeat' ((fail_if_success (with_reducible show Stop _)); (first | (k_unfold; (try dsimp only)) | walk1 | (dsimp only; walk1)))
                            · rename IntsAre _ (rangeKs _ _) => hRK
                              have hS : (List.map (fun (p : Int × Int) => p.1 * p.2) sam).sum ≤ 10 := by assumption
                              rename News _ _ _ _ => NN25
                              refine Sp.use (scan_c f l crefs sam _ _ _ (by rw [hl]; omega) (fun p q => by have := hb p q; omega)) (by k_asm) (by k_asm) (by k_asm) (fun _ q => nomatch q) (by k_asm) (by first | exact rfl | assumption) (by ktr_room) (by ktr_units) (⟨⟨fdx, fes, fk, ftk, ftp, fth, ftw, ftn, NN25.get (.tail _ (.tail _ (.head _))), NN25.get (.tail _ (.tail _ (.tail _ (.head _)))), fa1, fa2, fa3, fa4, fa5, fa6, fa7, fa8, fa9⟩, (hLC.sub fun p q => .tail _ (.tail _ (.tail _ (.tail _ (.tail _ (.tail _ (.tail _ (.tail _ (.tail _ (.tail _ (.tail _ (.tail _ (hs8 _ (.tail _ (hs7 _ (hR1 _ q)))))))))))))))).at_ (.tail _ (.tail _ (.tail _ (.tail _ (.tail _ (.tail _ (.tail _ (.tail _ (.tail _ (.tail _ (.tail _ (.tail _ (hs8 _ (.tail _ (hs7 _ (hR1 _ hlm)))))))))))))))) NN25⟩) ?_
                              rename News _ _ _ _ => nN
                              rintro v' h' tk' news' ⟨⟨asv, hvd⟩, rfl⟩ F' N0' G' fr'
                              have N' := news_both nN N0' G' (fun _ _ q => nomatch q)
                              have off' := news_off nN fr'
                              clear nN N0' G' fr'
                              (try dsimp only)
                              (try k_sweep)
                              repeat' ((fail_if_success (with_reducible show Stop _)); (first | (k_unfold; (try dsimp only)) | walk1 | (dsimp only; walk1)))
                              rename News _ _ _ _ => NN26
                              refine eq_scan hvd (whole_reads hl (by rw [hl]; omega) hS hRK NN26 (.head _) (.tail _ (.head _))) (by ktr_units) ?_
                              repeat' ((fail_if_success (with_reducible show Stop _)); (first | (k_unfold; (try dsimp only)) | walk1 | (dsimp only; walk1)))
                              refine Sp.use (models_c) (by k_asm) (by k_asm) (by k_asm) (fun _ q => nomatch q) (by k_asm) (by first | exact rfl | assumption) (by ktr_room) (by ktr_units) (trivial) ?_
                              rename News _ _ _ _ => nN
                              rintro v' h' tk' news' ⟨rfl, rfl⟩ F' N0' G' fr'
                              have N' := news_keep nN G' (fun _ _ q => nomatch q)
                              clear nN N0' G' fr'
                              (try dsimp only)
                              (try k_sweep)
                              kc_close
                            · have hS : ¬ (List.map (fun (p : Int × Int) => p.1 * p.2) sam).sum ≤ 10 := by first | assumption | omega
                              have hno : ¬ (((sam.length : Nat) : Int) ≤ 4 ∧ (List.map (fun (p : Int × Int) => p.1 * p.2) sam).sum ≤ 10) := fun q => hS q.2
                              rename News _ _ _ _ => NN31
                              obtain ⟨cells11, hcells11, NN32⟩ := news_cells8 NN31
                              clear NN31
                              refine LCg.CompSrc.range (n := (1 + d1 - 0).toNat) rfl (by k_asm) NN32 (by assumption) (small_one (by decide) (by decide) (by omega) (by omega)) (rangeSize_nat _ _) (by show _ ≤ 2 ^ 24; omega) ?_
                              intro gg11
                              refine comp_ind (fun i ys' news => ∃ rest', (∀ p ∈ rest6, p ∈ rest') ∧ ys'.length = i ∧ SinglesIn rest' ys' ∧ news = cells11 ++ rest') ?sA ?fA _ 0 [] _ (Nat.zero_add _) ⟨(D8, LCg.lst ys8) :: (D7, LCg.lst ys7) :: rest6, fun _ q => List.Mem.tail _ (List.Mem.tail _ q), rfl, SinglesIn.nil, rfl⟩
                              case sA =>
                                rintro i ys' news hi ⟨rest', hs9, hyl, hys, rfl⟩ v I oI C oC D9 m₂ h tk E' ⟨tv, rfl⟩ hoC hm₂ FF NN off ne
                                simp only [Int.zero_add] at hm₂
                                repeat' ((fail_if_success (with_reducible show Stop _)); (first | (k_unfold; (try dsimp only)) | walk1 | (dsimp only; walk1)))
                                rename News _ _ _ _ => N10
                                rename (_ < _) ∧ _ => ord
                                obtain ⟨t9, ht9, N10', ord'⟩ := news_t N10 ord
                                subst ht9
                                obtain ⟨oo1, oo2, oo3, oo4⟩ := ord'
                                dsimp only at oo1 oo2 oo3
                                exact LCg.CompEnd.intro (by k_asm) N10' (cells11 ++ (t9, listOf #[_] 0) :: rest') sub_t1 (off3_ins0 off oo1 oo2 oo3) trivial ⟨_, fun q hq => .tail _ (hs9 q hq), by rw [List.length_append, hyl]; rfl, hys.snoc hyl, rfl⟩
                              case fA =>
                                rintro ys9 news ⟨rest7, hs9, hyl, hys, rfl⟩ D9 h tk FF NN off
                                have NN33 := news_in NN
                                clear NN NN32 off
                                subst hcells11
                                simp only [List.cons_append, List.nil_append] at NN33
                                repeat' ((fail_if_success (with_reducible show Stop _)); (first | (k_unfold; (try dsimp only)) | walk1 | (dsimp only; walk1)))
                                rename News _ _ _ _ => NN25
                                refine Sp.use (scan_c f l crefs sam _ _ _ (by rw [hl]; omega) (fun p q => by have := hb p q; omega)) (by k_asm) (by k_asm) (by k_asm) (fun _ q => nomatch q) (by k_asm) (by first | exact rfl | assumption) (by ktr_room) (by ktr_units) (⟨⟨fdx, fes, fk, ftk, ftp, fth, ftw, ftn, NN25.get (.head _), NN25.get (.tail _ (.head _)), fa1, fa2, fa3, fa4, fa5, fa6, fa7, fa8, fa9⟩, (hLC.sub fun p q => .tail _ (.tail _ (.tail _ (.tail _ (.tail _ (.tail _ (.tail _ (.tail _ (.tail _ (hs9 _ (hs8 _ (.tail _ (hs7 _ (hR1 _ q)))))))))))))).at_ (.tail _ (.tail _ (.tail _ (.tail _ (.tail _ (.tail _ (.tail _ (.tail _ (.tail _ (hs9 _ (hs8 _ (.tail _ (hs7 _ (hR1 _ hlm)))))))))))))) NN25⟩) ?_
                                rename News _ _ _ _ => nN
                                rintro v' h' tk' news' ⟨⟨asv, hvd⟩, rfl⟩ F' N0' G' fr'
                                have N' := news_both nN N0' G' (fun _ _ q => nomatch q)
                                have off' := news_off nN fr'
                                clear nN N0' G' fr'
                                (try dsimp only)
                                (try k_sweep)
                                repeat' ((fail_if_success (with_reducible show Stop _)); (first | (k_unfold; (try dsimp only)) | walk1 | (dsimp only; walk1)))
                                rename News _ _ _ _ => NN26
                                refine eq_scan hvd (singles_scan hl hno hyl hys NN26 (fun p q => .tail _ (.tail _ (.tail _ (.tail _ (.tail _ (.tail _ (.tail _ (.tail _ (.tail _ (q)))))))))) (.tail _ (.tail _ (.tail _ (.tail _ (.tail _ (.tail _ (.tail _ (.tail _ (.head _)))))))))) (by ktr_units) ?_
                                repeat' ((fail_if_success (with_reducible show Stop _)); (first | (k_unfold; (try dsimp only)) | walk1 | (dsimp only; walk1)))
                                refine Sp.use (models_c) (by k_asm) (by k_asm) (by k_asm) (fun _ q => nomatch q) (by k_asm) (by first | exact rfl | assumption) (by ktr_room) (by ktr_units) (trivial) ?_
                                rename News _ _ _ _ => nN
                                rintro v' h' tk' news' ⟨rfl, rfl⟩ F' N0' G' fr'
                                have N' := news_keep nN G' (fun _ _ q => nomatch q)
                                clear nN N0' G' fr'
                                (try dsimp only)
                                (try k_sweep)
                                kc_close
                        · have hno : ¬ (((sam.length : Nat) : Int) ≤ 4 ∧ (List.map (fun (p : Int × Int) => p.1 * p.2) sam).sum ≤ 10) := by rw [hl]; omega
                          rename News _ _ _ _ => NN31
                          obtain ⟨cells11, hcells11, NN32⟩ := news_cells8 NN31
                          clear NN31
                          refine LCg.CompSrc.range (n := (1 + d1 - 0).toNat) rfl (by k_asm) NN32 (by assumption) (small_one (by decide) (by decide) (by omega) (by omega)) (rangeSize_nat _ _) (by show _ ≤ 2 ^ 24; omega) ?_
                          intro gg11
                          refine comp_ind (fun i ys' news => ∃ rest', (∀ p ∈ rest6, p ∈ rest') ∧ ys'.length = i ∧ SinglesIn rest' ys' ∧ news = cells11 ++ rest') ?sA ?fA _ 0 [] _ (Nat.zero_add _) ⟨(D7, LCg.lst ys7) :: rest6, fun _ q => List.Mem.tail _ q, rfl, SinglesIn.nil, rfl⟩
                          case sA =>
                            rintro i ys' news hi ⟨rest', hs9, hyl, hys, rfl⟩ v I oI C oC D9 m₂ h tk E' ⟨tv, rfl⟩ hoC hm₂ FF NN off ne
                            simp only [Int.zero_add] at hm₂
                            repeat' ((fail_if_success (with_reducible show Stop _)); (first | (k_unfold; (try dsimp only)) | walk1 | (dsimp only; walk1)))
                            rename News _ _ _ _ => N10
                            rename (_ < _) ∧ _ => ord
                            obtain ⟨t9, ht9, N10', ord'⟩ := news_t N10 ord
                            subst ht9
                            obtain ⟨oo1, oo2, oo3, oo4⟩ := ord'
                            dsimp only at oo1 oo2 oo3
                            exact LCg.CompEnd.intro (by k_asm) N10' (cells11 ++ (t9, listOf #[_] 0) :: rest') sub_t1 (off3_ins0 off oo1 oo2 oo3) trivial ⟨_, fun q hq => .tail _ (hs9 q hq), by rw [List.length_append, hyl]; rfl, hys.snoc hyl, rfl⟩
                          case fA =>
                            rintro ys9 news ⟨rest7, hs9, hyl, hys, rfl⟩ D9 h tk FF NN off
                            have NN33 := news_in NN
                            clear NN NN32 off
                            subst hcells11
                            simp only [List.cons_append, List.nil_append] at NN33
                            repeat' ((fail_if_success (with_reducible show Stop _)); (first | (k_unfold; (try dsimp only)) | walk1 | (dsimp only; walk1)))
                            rename News _ _ _ _ => NN25
                            refine Sp.use (scan_c f l crefs sam _ _ _ (by rw [hl]; omega) (fun p q => by have := hb p q; omega)) (by k_asm) (by k_asm) (by k_asm) (fun _ q => nomatch q) (by k_asm) (by first | exact rfl | assumption) (by ktr_room) (by ktr_units) (⟨⟨fdx, fes, fk, ftk, ftp, fth, ftw, ftn, NN25.get (.head _), NN25.get (.tail _ (.head _)), fa1, fa2, fa3, fa4, fa5, fa6, fa7, fa8, fa9⟩, (hLC.sub fun p q => .tail _ (.tail _ (.tail _ (.tail _ (.tail _ (.tail _ (.tail _ (.tail _ (.tail _ (hs9 _ (hs8 _ (.tail _ (hs7 _ (hR1 _ q)))))))))))))).at_ (.tail _ (.tail _ (.tail _ (.tail _ (.tail _ (.tail _ (.tail _ (.tail _ (.tail _ (hs9 _ (hs8 _ (.tail _ (hs7 _ (hR1 _ hlm)))))))))))))) NN25⟩) ?_
                            rename News _ _ _ _ => nN
                            rintro v' h' tk' news' ⟨⟨asv, hvd⟩, rfl⟩ F' N0' G' fr'
                            have N' := news_both nN N0' G' (fun _ _ q => nomatch q)
                            have off' := news_off nN fr'
                            clear nN N0' G' fr'
                            (try dsimp only)
                            (try k_sweep)
                            repeat' ((fail_if_success (with_reducible show Stop _)); (first | (k_unfold; (try dsimp only)) | walk1 | (dsimp only; walk1)))
                            rename News _ _ _ _ => NN26
                            refine eq_scan hvd (singles_scan hl hno hyl hys NN26 (fun p q => .tail _ (.tail _ (.tail _ (.tail _ (.tail _ (.tail _ (.tail _ (.tail _ (.tail _ (q)))))))))) (.tail _ (.tail _ (.tail _ (.tail _ (.tail _ (.tail _ (.tail _ (.tail _ (.head _)))))))))) (by ktr_units) ?_
                            repeat' ((fail_if_success (with_reducible show Stop _)); (first | (k_unfold; (try dsimp only)) | walk1 | (dsimp only; walk1)))
                            refine Sp.use (models_c) (by k_asm) (by k_asm) (by k_asm) (fun _ q => nomatch q) (by k_asm) (by first | exact rfl | assumption) (by ktr_room) (by ktr_units) (trivial) ?_
                            rename News _ _ _ _ => nN
                            rintro v' h' tk' news' ⟨rfl, rfl⟩ F' N0' G' fr'
                            have N' := news_keep nN G' (fun _ _ q => nomatch q)
                            clear nN N0' G' fr'
                            (try dsimp only)
                            (try k_sweep)
                            kc_close
                  · rintro h' tk' ⟨i, p, q, e1, e2, e3⟩ FFr
                    have hb' : b = true := by
                      cases b with
                      | true => rfl
                      | false =>
                        rw [hK.good rfl, List.getElem?_map, e1] at e2
                        exact absurd (Option.some.inj e2).symm e3
                    subst hb'
                    have NB := fr_nil FFr
                    repeat' ((fail_if_success (with_reducible show Stop _)); (first | (k_unfold; (try dsimp only)) | walk1 | (dsimp only; walk1)))
                    refine Sp.use (models_c) (by k_asm) (by k_asm) (by k_asm) (fun _ q => nomatch q) (by k_asm) (by first | exact rfl | assumption) (by ktr_room) (by ktr_units) (trivial) ?_
                    rename News _ _ _ _ => nN
                    rintro v' h' tk' news' ⟨rfl, rfl⟩ F' N0' G' fr'
                    have N' := news_keep nN G' (fun _ _ q => nomatch q)
                    clear nN N0' G' fr'
                    (try dsimp only)
                    (try k_sweep)
                    kc_close)
end Mine
end
set_option maxRecDepth 100000 in
set_option maxHeartbeats 8000000 in
theorem PySem.Challenge.cw_nz0247_01_holds : PySem.Challenge.rw_nz0247_01.Holds :=
  Mine.law_holds
