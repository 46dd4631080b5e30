import PyProof.Rows.All
import Wide.All
import OpenK.AllK
import Wide.FinOn
import PySem.Challenge.RW_nu0025_01
open PySem PySem.W PyProof.Rows
set_option Elab.async false
namespace Mine
abbrev lawRow : RowW := PySem.Challenge.rw_nu0025_01.row.toRowW
/-- the text's own top, as far as the walk reads it -/
def vw : Program := PySem.W.view PySem.Challenge.rw_nu0025_01.row.prog [0, 2, 3, 5, 6, 8, 9, 10, 11, 12, 13, 14, 15, 16, 17, 18, 19, 20, 21, 22, 24, 25, 27, 28, 30, 31, 33, 34, 35, 36, 37, 38, 39, 40, 41, 42]
abbrev vx : Shared → Bool := fun s => xlAt vw [] s && recOk (RowW.records PySem.Challenge.rw_nu0025_01.row.toRowW) s
/-- a run to an empty stack is a top's run -/
theorem top_of_seg {tb : String → Option Builtin} {p : Program} {w : World} {n₀ : Nat} {ann : Option Value} : ∀ (n : Nat) (s s' : Shared) (t : Thread) (f : Flow) (c : Code) (q : Pos),
    segRun tb p w n₀ ann 0 n s t = some (f, s', c, q) → topRun tb p w n₀ ann n s t = some s'
  | 0, _, _, _, _, _, _, h => by cases h
  | n + 1, s, s', ⟨cur, code, pos, st⟩, f, c, q, h => by
    unfold segRun at h
    unfold topRun
    cases he : endAt 0 ⟨cur, code, pos, st⟩ with
    | some g =>
      rw [he] at h
      cases st with
      | cons a r => simp [endAt] at he
      | nil =>
        have ht : through ⟨cur, code, pos, []⟩ = true := by
          cases cur with
          | pure x => cases x with
            | done g' => rfl
            | again c => simp [endAt] at he
          | _ => simp [endAt] at he
        rw [ht]
        cases h; rfl
    | none =>
      rw [he] at h
      have ht : through ⟨cur, code, pos, st⟩ = false := by
        cases st with
        | cons a r => rfl
        | nil =>
          cases cur with
          | pure x => cases x with
            | done g' => simp [endAt] at he
            | again c => rfl
          | _ => rfl
      rw [ht]
      cases hk : stepOk n₀ ann ⟨cur, code, pos, st⟩ with
      | false => rw [hk] at h; cases h
      | true =>
        rw [hk] at h
        cases hs : step (denote tb) p w s ⟨cur, code, pos, st⟩ with
        | halt o s₂ => rw [hs] at h; cases h
        | go s₂ t₂ => rw [hs] at h; exact top_of_seg n _ _ _ _ _ _ h
/-- what a run over the tree leaves, as a state -/
abbrev leftT (r : Option (Flow × SharedT × Code × Pos)) : Option Shared := r.map fun x => x.2.1.abs
/-- the top's run in two looks, over a tree of objects, from a head start -/
theorem left_of_tree {p q : Program} {loose : List Str} {Xt : Shared → Bool} {α : Type} {Yf : Shared → α} {Ya : World → α} {N n m₀ : Nat} {T₀ : Params → BT} {life : Life} {H₀ : Params → Heap} {gs : Array GenState} {d : Drawn} {k : Nat} {ann : Option Value}
    (open_ : ∀ w : World, (fencedOpening treeTable p w N).map (fun s => (s.heap, s.gens, s.drawn, s.toks)) = some (H₀ w.params, gs, d, k))
    (tree : ∀ P : Params, H₀ P = absHeap (T₀ P) n life)
    (size : ∀ w : World, ((H₀ w.params).isNs mainGlobals && gs.size == 0, (H₀ w.params).objs.size, (H₀ w.params).nsMap mainGlobals "__annotations__") = (true, m₀, ann))
    (hA : ∀ (w : World) (os : OsState), (leftT (segRunT treeTable p w m₀ ann 0 N ⟨T₀ w.params, n, life, gs, d, k, os⟩ (topStub p))).map
      (fun s => (staticsOk (importedModules p.main.body) (H₀ w.params) s.heap && namesBound p s.heap && gensDone s && laidKept (H₀ w.params) s.heap, openSeen q loose (importedModules p.main.body) Xt true s)) = some (true, openGood q loose))
    (hB : ∀ (w : World) (os : OsState), (leftT (segRunT treeTable p w m₀ ann 0 N ⟨T₀ w.params, n, life, gs, d, k, os⟩ (topStub p))).map Yf = some (Ya w)) : LeftO p q loose Xt Yf Ya N := by
  intro w
  obtain ⟨⟨h, gs', d', k', os⟩, hs, hv⟩ := Option.map_eq_some_iff.mp (open_ w)
  obtain ⟨rfl, rfl, rfl, rfl⟩ : h = H₀ w.params ∧ gs' = gs ∧ d' = d ∧ k' = k := by simpa using hv
  obtain ⟨z1, z2, z3⟩ : _ ∧ _ ∧ _ := by simpa only [Prod.mk.injEq] using size w
  obtain ⟨s1, h1, e1⟩ := Option.map_eq_some_iff.mp (hA w os)
  have b := hB w os
  rw [h1] at b
  obtain ⟨⟨f, sT, c, q'⟩, h2, h3⟩ := Option.map_eq_some_iff.mp h1
  have r := top_of_seg _ _ _ _ _ _ _ (segRun_of h2)
  rw [show (SharedT.abs ⟨T₀ w.params, n, life, gs', d', k', os⟩ : Shared) = ⟨H₀ w.params, gs', d', k', os⟩ by unfold SharedT.abs; rw [tree]] at r
  obtain rfl : sT.abs = s1 := h3
  obtain ⟨l1, l2⟩ : _ ∧ _ := by simpa only [Prod.mk.injEq] using e1
  have t : topFrom treeTable p w N ⟨H₀ w.params, gs', d', k', os⟩ = some sT.abs := by
    unfold topFrom
    dsimp only
    rw [z1, z2, z3, r]
    show (match staticsOk (importedModules p.main.body) (H₀ w.params) sT.abs.heap && namesBound p sT.abs.heap && gensDone sT.abs && laidKept (H₀ w.params) sT.abs.heap with | true => _ | false => _) = _
    rw [l1]
  unfold openEnds
  rw [hs]
  show (topFrom treeTable p w N _).map _ = _
  rw [t]
  exact congrArg some (Prod.ext l2 (Option.some.inj b))
/-- the objects at the start, as a tree -/
noncomputable def tree0 (P : Params) : BT := ((boot_heap P).objs.toList.foldl (fun (x : BT × Nat) o => (x.1.ins x.2 o, x.2 + 1)) (BT.nil, 0)).1
set_option maxRecDepth 100000 in
theorem top_opening : opening PySem.Challenge.rw_nu0025_01.row.prog = plainProg PySem.Challenge.rw_nu0025_01.row.prog.main.scope.names := by kernel_rfl
set_option maxRecDepth 100000 in
theorem top_fence : ∀ s, fenceModules? PySem.Challenge.rw_nu0025_01.row.prog s = some s := fun s => by kernel_rfl
theorem top_tree : ∀ P : Params, boot_heap P = absHeap (tree0 P) 11 {} := fun P => by kernel_rfl
theorem top_size : ∀ w : World, ((boot_heap w.params).isNs mainGlobals && (Array.mk [] : Array GenState).size == 0, (boot_heap w.params).objs.size, (boot_heap w.params).nsMap mainGlobals "__annotations__") = (true, 11, some (Value.ref 6)) := fun w => by kernel_rfl
set_option maxRecDepth 100000 in
theorem top_seen : ∀ (w : World) (os : OsState), (leftT (segRunT treeTable PySem.Challenge.rw_nu0025_01.row.prog w 11 (some (Value.ref 6)) 0 6312 ⟨tree0 w.params, 11, {}, Array.mk [], boot_drawn, boot_toks, os⟩ (topStub PySem.Challenge.rw_nu0025_01.row.prog))).map
    (fun s => (staticsOk (importedModules PySem.Challenge.rw_nu0025_01.row.prog.main.body) (boot_heap w.params) s.heap && namesBound PySem.Challenge.rw_nu0025_01.row.prog s.heap && gensDone s && laidKept (boot_heap w.params) s.heap, openSeen vw [Str.ofString "holds_spans"] (importedModules PySem.Challenge.rw_nu0025_01.row.prog.main.body) vx true s)) = some (true, openGood vw [Str.ofString "holds_spans"]) := fun w os => by
  rw [PySem.W.Fast.te14364793385576792824, PySem.W.Fast.te10110043849684766642]
  kernel_rfl
/-- the head, its run of the text's top in two checks -/
local macro_rules | `(tactic| o_head $H) => do
  let hw := Lean.mkIdent `hw
  let hc := Lean.mkIdent `hc
  `(tactic| (
    refine PySem.W.holds_open (q := vw) (loose := [Str.ofString "holds_spans"]) (Xt := vx) (XP := XL vw []) (Yf := Hook.obs $H) (Ya := Hook.val $H) (YP := Hook.says $H) (N := 6312) ?hl (Hook.of $H) (Hook.keeps $H) (fun s e => xl_of s (Bool.and_eq_true_iff.mp e).1) XL.keeps (by rfl) (by rfl) (by rfl) (fun s e => recFacts_of (Bool.and_eq_true_iff.mp e).2) (by rfl) (by first | assumption | decide +kernel) (by decide +kernel) ⟨rfl, rfl, rfl, rfl, rfl, by decide +kernel⟩ ?$hw ?$hc
    (case hl =>
      refine left_of_tree (boot_open top_opening (by rfl) top_fence) top_tree top_size top_seen fun w os => ?_
      rw [PySem.W.Fast.te14364793385576792824, PySem.W.Fast.te10110043849684766642]
      kernel_rfl)))
set_option maxRecDepth 100000 in
theorem law_said : PySem.Challenge.rw_nu0025_01.wellSaid = true := by
  rw [PySem.W.Fast.te9446332074065402090]
  kernel_rfl
local macro_rules | `(tactic| o_law) => `(tactic| refine holds_law law_said fun said => ?_)
set_option maxRecDepth 100000 in
set_option maxHeartbeats 8000000 in
open_top hd for PySem.Challenge.rw_nu0025_01
/-- the walk's own switch, as it stands before a head -/
theorem walk_off : True := by
  w_top off
  exact True.intro
local macro_rules | `(tactic| walk_at $s:str) => let m := Lean.Syntax.mkStrLit ("M " ++ s.getString); `(tactic| k_extra $m)
section take_apart
theorem ex1e {α : Type} {τ : Type} {g : α → τ} {P : α → Prop} {C : τ → Prop} {x : τ} (h : ∃ a, x = g a ∧ P a) (k : ∀ a, P a → C (g a)) : C x :=
  let ⟨a, q, h⟩ := h; (congrArg C q).mpr (k a h)
theorem ex2e {α : Type} {β : Type} {τ : Type} {g : α → β → τ} {P : α → β → Prop} {C : τ → Prop} {x : τ} (h : ∃ a b, x = g a b ∧ P a b) (k : ∀ a b, P a b → C (g a b)) : C x :=
  let ⟨a, b, q, h⟩ := h; (congrArg C q).mpr (k a b h)
theorem ex3e {α : Type} {β : Type} {γ : Type} {τ : Type} {g : α → β → γ → τ} {P : α → β → γ → Prop} {C : τ → Prop} {x : τ} (h : ∃ a b c, x = g a b c ∧ P a b c) (k : ∀ a b c, P a b c → C (g a b c)) : C x :=
  let ⟨a, b, c, q, h⟩ := h; (congrArg C q).mpr (k a b c h)
theorem ex4e {α : Type} {β : Type} {γ : Type} {δ : Type} {τ : Type} {g : α → β → γ → δ → τ} {P : α → β → γ → δ → Prop} {C : τ → Prop} {x : τ} (h : ∃ a b c d, x = g a b c d ∧ P a b c d) (k : ∀ a b c d, P a b c d → C (g a b c d)) : C x :=
  let ⟨a, b, c, d, q, h⟩ := h; (congrArg C q).mpr (k a b c d h)
theorem ex5e {α : Type} {β : Type} {γ : Type} {δ : Type} {ε : Type} {τ : Type} {g : α → β → γ → δ → ε → τ} {P : α → β → γ → δ → ε → Prop} {C : τ → Prop} {x : τ} (h : ∃ a b c d e, x = g a b c d e ∧ P a b c d e) (k : ∀ a b c d e, P a b c d e → C (g a b c d e)) : C x :=
  let ⟨a, b, c, d, e, q, h⟩ := h; (congrArg C q).mpr (k a b c d e h)
theorem ex6e {α : Type} {β : Type} {γ : Type} {δ : Type} {ε : Type} {ζ : Type} {τ : Type} {g : α → β → γ → δ → ε → ζ → τ} {P : α → β → γ → δ → ε → ζ → Prop} {C : τ → Prop} {x : τ} (h : ∃ a b c d e f, x = g a b c d e f ∧ P a b c d e f) (k : ∀ a b c d e f, P a b c d e f → C (g a b c d e f)) : C x :=
  let ⟨a, b, c, d, e, f, q, h⟩ := h; (congrArg C q).mpr (k a b c d e f h)
theorem and2 {a b G : Prop} (q : a ∧ b) (k : a → b → G) : G := k q.1 q.2
theorem and3 {a b c G : Prop} (q : a ∧ b ∧ c) (k : a → b → c → G) : G := k q.1 q.2.1 q.2.2
theorem and4 {a b c d G : Prop} (q : a ∧ b ∧ c ∧ d) (k : a → b → c → d → G) : G := k q.1 q.2.1 q.2.2.1 q.2.2.2
theorem and5 {a b c d e G : Prop} (q : a ∧ b ∧ c ∧ d ∧ e) (k : a → b → c → d → e → G) : G := k q.1 q.2.1 q.2.2.1 q.2.2.2.1 q.2.2.2.2
theorem and6 {a b c d e f G : Prop} (q : a ∧ b ∧ c ∧ d ∧ e ∧ f) (k : a → b → c → d → e → f → G) : G := k q.1 q.2.1 q.2.2.1 q.2.2.2.1 q.2.2.2.2.1 q.2.2.2.2.2
theorem and7 {a b c d e f g G : Prop} (q : a ∧ b ∧ c ∧ d ∧ e ∧ f ∧ g) (k : a → b → c → d → e → f → g → G) : G := k q.1 q.2.1 q.2.2.1 q.2.2.2.1 q.2.2.2.2.1 q.2.2.2.2.2.1 q.2.2.2.2.2.2
theorem and8 {a b c d e f g h G : Prop} (q : a ∧ b ∧ c ∧ d ∧ e ∧ f ∧ g ∧ h) (k : a → b → c → d → e → f → g → h → G) : G := k q.1 q.2.1 q.2.2.1 q.2.2.2.1 q.2.2.2.2.1 q.2.2.2.2.2.1 q.2.2.2.2.2.2.1 q.2.2.2.2.2.2.2
theorem and9 {a b c d e f g h i G : Prop} (q : a ∧ b ∧ c ∧ d ∧ e ∧ f ∧ g ∧ h ∧ i) (k : a → b → c → d → e → f → g → h → i → G) : G := k q.1 q.2.1 q.2.2.1 q.2.2.2.1 q.2.2.2.2.1 q.2.2.2.2.2.1 q.2.2.2.2.2.2.1 q.2.2.2.2.2.2.2.1 q.2.2.2.2.2.2.2.2
theorem and10 {a b c d e f g h i j G : Prop} (q : a ∧ b ∧ c ∧ d ∧ e ∧ f ∧ g ∧ h ∧ i ∧ j) (k : a → b → c → d → e → f → g → h → i → j → G) : G := k q.1 q.2.1 q.2.2.1 q.2.2.2.1 q.2.2.2.2.1 q.2.2.2.2.2.1 q.2.2.2.2.2.2.1 q.2.2.2.2.2.2.2.1 q.2.2.2.2.2.2.2.2.1 q.2.2.2.2.2.2.2.2.2
end take_apart
abbrev Led := List (Addr × Obj)
abbrev lawProg : Program := PySem.Challenge.rw_nu0025_01.row.prog
/-- what a call of the text's def does: from any caller, upon a ledger -/
def Does (w : World) (need : Nat) (f : Addr) (vs : List Value) (news : Led) (Post : Value → Led → Prop) : Prop :=
  ∀ (p : Program) (loose : List Str) (mean : ExcName → Option Value) (mg mb : Str → Option Value) (dp un : Nat) (gd : Option (List Code)) (cn : Str) (cs : Scope) (a : Addr) (ccd : Value) (cl : List (Str × Addr)) (outer : List Env) (A₀ : Around) (base h₀ : Heap) (L : Addr) (m : Str → Option Value) (s : Shared) (Q E : Value → Shared → Prop),
    Below A₀ base outer h₀ → Fr h₀ L s.heap m → (hd.heap_1 w.params).In h₀ → News h₀ L s.heap news → Top p loose mean mg mb h₀ → cs.kind = .function → dp + need < recursionLimit → un + 8 * need < cLine →
    (∀ r h' tk' news', Fr h₀ L h' m → News h₀ L h' news' → Post r news' → Q r { s with heap := h', toks := tk' }) →
    wpAny (model PySem.Challenge.rw_nu0025_01.row.prog w) (ktrTop dp un gd cn cs L a ccd cl outer) (call (.ref f) vs) Q E s
section
variable {w : World} {need : Nat} {f : Addr} {vs : List Value} {news : Led} {Post : Value → Led → Prop} {p : Program} {loose : List Str} {mean : ExcName → Option Value} {mg mb : Str → Option Value} {dp un : Nat} {gd : Option (List Code)} {cn : Str} {cs : Scope} {a : Addr} {ccd : Value} {cl : List (Str × Addr)} {outer : List Env} {A₀ : Around} {base h₀ : Heap} {L : Addr} {m : Str → Option Value} {s : Shared} {Q E : Value → Shared → Prop}
theorem Does.use (D : Does w need f vs news Post) (B : Below A₀ base outer h₀) (F : Fr h₀ L s.heap m) (X : (hd.heap_1 w.params).In h₀) (N : News h₀ L s.heap news) (T : Top p loose mean mg mb h₀) (hk : cs.kind = .function) (hd' : dp + need < recursionLimit) (hu : un + 8 * need < cLine)
    (k : ∀ r h' tk' news', Fr h₀ L h' m → News h₀ L h' news' → Post r news' → Q r { s with heap := h', toks := tk' }) :
    wpAny (model PySem.Challenge.rw_nu0025_01.row.prog w) (ktrTop dp un gd cn cs L a ccd cl outer) (call (.ref f) vs) Q E s :=
  D _ _ _ _ _ _ _ _ _ _ _ _ _ _ _ _ _ _ _ _ _ _ B F X N T hk hd' hu k
theorem News.of_sub {h₀ h : Heap} {L : Addr} {news news' : Led} (N : News h₀ L h news) (hs : ∀ p ∈ news', p ∈ news) : News h₀ L h news' := fun p hp => N p (hs p hp)
theorem News.mem {h₀ h : Heap} {L : Addr} {news : Led} (N : News h₀ L h news) {q : Addr × Obj} (hq : q ∈ news) : News h₀ L h (q :: news) := fun p hp => (List.mem_cons.mp hp).elim (fun e => e ▸ N q hq) (N p)
/-- one entry of the ledger turns, the rest stands -/
theorem Does.upd {src : Addr} {o : Obj} {P : Value → Obj → Prop} {g : Obj → Led} (U : UpdF src o news g)
    (h : ∀ rest : Led, (∀ p ∈ rest, p.1 ≠ src) → (∀ p ∈ news, p.1 ≠ src → p ∈ rest) → Does w need f vs ((src, o) :: rest) (fun r news' => ∃ o', P r o' ∧ news' = (src, o') :: rest)) :
    Does w need f vs news (fun r news' => ∃ o', P r o' ∧ news' = g o') := by
  obtain ⟨pre, post, rfl, hg, h1, h2⟩ := U.split
  intro p loose mean mg mb dp un gd cn cs ad ccd cl outer A₀ base h₀ L m s Q E B F X N T hk hd' hu hret
  refine (h (pre ++ post) (fun p hp => (List.mem_append.mp hp).elim (h1 p) (h2 p)) (fun p hp hne => ?_)).use B F X (News.of_sub N fun p hp => ?_) T hk hd' hu fun r h' tk' news' F' N' hP => ?_
  · rcases List.mem_append.mp hp with q | q
    · exact List.mem_append_left _ q
    · rcases List.mem_cons.mp q with q | q
      · exact absurd (by rw [q]) hne
      · exact List.mem_append_right _ q
  · rcases List.mem_cons.mp hp with q | q
    · rw [q]; simp
    · rcases List.mem_append.mp q with q | q
      · exact List.mem_append_left _ q
      · exact List.mem_append_right _ (.tail _ q)
  · obtain ⟨o', hp, rfl⟩ := hP
    refine hret r h' tk' (g o') F' (News.of_sub N' fun p hp => ?_) ⟨o', hp, rfl⟩
    rw [hg] at hp
    rcases List.mem_append.mp hp with q | q
    · exact .tail _ (List.mem_append_left _ q)
    · rcases List.mem_cons.mp q with q | q
      · rw [q]; exact .head _
      · exact .tail _ (List.mem_append_right _ q)
end
section flat
variable {w : World} {need : Nat} {f : Addr} {vs : List Value} {news : Led} {p : Program} {loose : List Str} {mean : ExcName → Option Value} {mg mb : Str → Option Value} {dp un : Nat} {gd : Option (List Code)} {cn : Str} {cs : Scope} {a : Addr} {ccd : Value} {cl : List (Str × Addr)} {outer : List Env} {A₀ : Around} {base h₀ : Heap} {L : Addr} {m : Str → Option Value} {s : Shared} {Q E : Value → Shared → Prop}
/-- no entry of the sub-ledger lies at d -/
def Off (M : Led) (d : Addr) : Prop := ∀ p ∈ M, p.1 ≠ d
/-- a call's use, what it gives back taken apart: an int, and the ledger stands -/
theorem Does.useI {v : Int} (B : Below A₀ base outer h₀) (F : Fr h₀ L s.heap m) (X : (hd.heap_1 w.params).In h₀) (N : News h₀ L s.heap news) (T : Top p loose mean mg mb h₀) (hk : cs.kind = .function) (hd : dp + need < recursionLimit) (hu : un + 8 * need < cLine) (D : Does w need f vs news (fun r news' => (∃ tk, r = .int v tk) ∧ news' = news))
    (k : ∀ h' tk', Fr h₀ L h' m → ∀ t, News h₀ L h' news → Q (.int v t) { s with heap := h', toks := tk' }) :
    wpAny (model PySem.Challenge.rw_nu0025_01.row.prog w) (ktrTop dp un gd cn cs L a ccd cl outer) (call (.ref f) vs) Q E s :=
  D.use B F X N T hk hd hu (by rintro _ h' tk' _ F' N' ⟨⟨t, e⟩, e'⟩; subst e; subst e'; exact k h' tk' F' t N')
/-- a written value, and the ledger stands -/
theorem Does.useV {v : Value} (B : Below A₀ base outer h₀) (F : Fr h₀ L s.heap m) (X : (hd.heap_1 w.params).In h₀) (N : News h₀ L s.heap news) (T : Top p loose mean mg mb h₀) (hk : cs.kind = .function) (hd : dp + need < recursionLimit) (hu : un + 8 * need < cLine) (D : Does w need f vs news (fun r news' => r = v ∧ news' = news))
    (k : ∀ h' tk', Fr h₀ L h' m → News h₀ L h' news → Q v { s with heap := h', toks := tk' }) :
    wpAny (model PySem.Challenge.rw_nu0025_01.row.prog w) (ktrTop dp un gd cn cs L a ccd cl outer) (call (.ref f) vs) Q E s :=
  D.use B F X N T hk hd hu (by rintro _ h' tk' _ F' N' ⟨e, e'⟩; subst e; subst e'; exact k h' tk' F' N')
/-- a draw: an int within bounds, one entry turns -/
theorem Does.useT {S : Obj → Prop} {P1 P2 : Int → Prop} {g : Obj → Led} (B : Below A₀ base outer h₀) (F : Fr h₀ L s.heap m) (X : (hd.heap_1 w.params).In h₀) (N : News h₀ L s.heap news) (T : Top p loose mean mg mb h₀) (hk : cs.kind = .function) (hd : dp + need < recursionLimit) (hu : un + 8 * need < cLine) (D : Does w need f vs news (fun r news' => ∃ o', (S o' ∧ ∃ (v : Int) (t : Tok), r = .int v t ∧ P1 v ∧ P2 v) ∧ news' = g o'))
    (k : ∀ h' tk', Fr h₀ L h' m → ∀ o', S o' → ∀ v t, P1 v → P2 v → News h₀ L h' (g o') → Q (.int v t) { s with heap := h', toks := tk' }) :
    wpAny (model PySem.Challenge.rw_nu0025_01.row.prog w) (ktrTop dp un gd cn cs L a ccd cl outer) (call (.ref f) vs) Q E s :=
  D.use B F X N T hk hd hu (by rintro _ h' tk' _ F' N' ⟨o', ⟨ho, v, t, e, h1, h2⟩, e'⟩; subst e; subst e'; exact k h' tk' F' o' ho v t h1 h2 N')
/-- a new object, its entries ahead -/
theorem Does.useC {P : Led → Addr → Prop} (B : Below A₀ base outer h₀) (F : Fr h₀ L s.heap m) (X : (hd.heap_1 w.params).In h₀) (N : News h₀ L s.heap news) (T : Top p loose mean mg mb h₀) (hk : cs.kind = .function) (hd : dp + need < recursionLimit) (hu : un + 8 * need < cLine) (D : Does w need f vs news (fun r news' => ∃ tl c, (r = .ref c ∧ P tl c) ∧ (∀ q ∈ news, Off tl q.1) ∧ news' = tl ++ news))
    (k : ∀ h' tk', Fr h₀ L h' m → ∀ tl c, P tl c → (∀ q ∈ news, Off tl q.1) → News h₀ L h' (tl ++ news) → Q (.ref c) { s with heap := h', toks := tk' }) :
    wpAny (model PySem.Challenge.rw_nu0025_01.row.prog w) (ktrTop dp un gd cn cs L a ccd cl outer) (call (.ref f) vs) Q E s :=
  D.use B F X N T hk hd hu (by rintro _ h' tk' _ F' N' ⟨tl, c, ⟨e, h1⟩, h2, e'⟩; subst e; subst e'; exact k h' tk' F' tl c h1 h2 N')
theorem Does.useM {P : Led → Addr → Prop} (B : Below A₀ base outer h₀) (F : Fr h₀ L s.heap m) (X : (hd.heap_1 w.params).In h₀) (N : News h₀ L s.heap news) (T : Top p loose mean mg mb h₀) (hk : cs.kind = .function) (hd : dp + need < recursionLimit) (hu : un + 8 * need < cLine) (D : Does w need f vs news (fun r news' => ∃ tl c, r = .ref c ∧ P tl c ∧ (∀ q ∈ news, Off tl q.1) ∧ news' = tl ++ news))
    (k : ∀ h' tk', Fr h₀ L h' m → ∀ tl c, P tl c → (∀ q ∈ news, Off tl q.1) → News h₀ L h' (tl ++ news) → Q (.ref c) { s with heap := h', toks := tk' }) :
    wpAny (model PySem.Challenge.rw_nu0025_01.row.prog w) (ktrTop dp un gd cn cs L a ccd cl outer) (call (.ref f) vs) Q E s :=
  D.use B F X N T hk hd hu (by rintro _ h' tk' _ F' N' ⟨tl, c, e, h1, h2, e'⟩; subst e; subst e'; exact k h' tk' F' tl c h1 h2 N')
/-- as useM, with a function told -/
theorem Does.useMF {P : Led → Addr → (Int → Int → Int) → Prop} {P2 : (Int → Int → Int) → Prop} (B : Below A₀ base outer h₀) (F : Fr h₀ L s.heap m) (X : (hd.heap_1 w.params).In h₀) (N : News h₀ L s.heap news) (T : Top p loose mean mg mb h₀) (hk : cs.kind = .function) (hd : dp + need < recursionLimit) (hu : un + 8 * need < cLine) (D : Does w need f vs news (fun r news' => ∃ tl c g, r = .ref c ∧ P tl c g ∧ P2 g ∧ (∀ q ∈ news, Off tl q.1) ∧ news' = tl ++ news))
    (k : ∀ h' tk', Fr h₀ L h' m → ∀ tl c g, P tl c g → P2 g → (∀ q ∈ news, Off tl q.1) → News h₀ L h' (tl ++ news) → Q (.ref c) { s with heap := h', toks := tk' }) :
    wpAny (model PySem.Challenge.rw_nu0025_01.row.prog w) (ktrTop dp un gd cn cs L a ccd cl outer) (call (.ref f) vs) Q E s :=
  D.use B F X N T hk hd hu (by rintro _ h' tk' _ F' N' ⟨tl, c, g, e, h1, h3, h2, e'⟩; subst e; subst e'; exact k h' tk' F' tl c g h1 h3 h2 N')
/-- any value, its entries ahead -/
theorem Does.useR {P : Led → Value → Prop} (B : Below A₀ base outer h₀) (F : Fr h₀ L s.heap m) (X : (hd.heap_1 w.params).In h₀) (N : News h₀ L s.heap news) (T : Top p loose mean mg mb h₀) (hk : cs.kind = .function) (hd : dp + need < recursionLimit) (hu : un + 8 * need < cLine) (D : Does w need f vs news (fun r news' => ∃ tl, P tl r ∧ (∀ q ∈ news, Off tl q.1) ∧ news' = tl ++ news))
    (k : ∀ r h' tk', Fr h₀ L h' m → ∀ tl, P tl r → (∀ q ∈ news, Off tl q.1) → News h₀ L h' (tl ++ news) → Q r { s with heap := h', toks := tk' }) :
    wpAny (model PySem.Challenge.rw_nu0025_01.row.prog w) (ktrTop dp un gd cn cs L a ccd cl outer) (call (.ref f) vs) Q E s :=
  D.use B F X N T hk hd hu (by rintro r h' tk' _ F' N' ⟨tl, h1, h2, e'⟩; subst e'; exact k r h' tk' F' tl h1 h2 N')
/-- one sub-ledger turns -/
theorem Does.useG {P1 P2 : Led → Prop} {g : Led → Led} (B : Below A₀ base outer h₀) (F : Fr h₀ L s.heap m) (X : (hd.heap_1 w.params).In h₀) (N : News h₀ L s.heap news) (T : Top p loose mean mg mb h₀) (hk : cs.kind = .function) (hd : dp + need < recursionLimit) (hu : un + 8 * need < cLine) (D : Does w need f vs news (fun r news' => ∃ M', (r = .none ∧ P1 M' ∧ P2 M') ∧ news' = g M'))
    (k : ∀ h' tk', Fr h₀ L h' m → ∀ M', P1 M' → P2 M' → News h₀ L h' (g M') → Q .none { s with heap := h', toks := tk' }) :
    wpAny (model PySem.Challenge.rw_nu0025_01.row.prog w) (ktrTop dp un gd cn cs L a ccd cl outer) (call (.ref f) vs) Q E s :=
  D.use B F X N T hk hd hu (by rintro _ h' tk' _ F' N' ⟨M', ⟨e, h1, h2⟩, e'⟩; subst e; subst e'; exact k h' tk' F' M' h1 h2 N')
/-- one entry turns, new entries ahead, a function told -/
theorem Does.useL {S : Obj → Prop} {P : Led → Value → (Int → Int → Int) → Prop} {g : Obj → Led} (B : Below A₀ base outer h₀) (F : Fr h₀ L s.heap m) (X : (hd.heap_1 w.params).In h₀) (N : News h₀ L s.heap news) (T : Top p loose mean mg mb h₀) (hk : cs.kind = .function) (hd : dp + need < recursionLimit) (hu : un + 8 * need < cLine) (D : Does w need f vs news (fun r news' => ∃ o' tl, (S o' ∧ ∃ f, P tl r f) ∧ (∀ q ∈ news, Off tl q.1) ∧ news' = tl ++ g o'))
    (k : ∀ r h' tk', Fr h₀ L h' m → ∀ o' tl, S o' → ∀ f, P tl r f → (∀ q ∈ news, Off tl q.1) → News h₀ L h' (tl ++ g o') → Q r { s with heap := h', toks := tk' }) :
    wpAny (model PySem.Challenge.rw_nu0025_01.row.prog w) (ktrTop dp un gd cn cs L a ccd cl outer) (call (.ref f) vs) Q E s :=
  D.use B F X N T hk hd hu (by rintro r h' tk' _ F' N' ⟨o', tl, ⟨ho, f, h1⟩, h2, e'⟩; subst e'; exact k r h' tk' F' o' tl ho f h1 h2 N')
end flat
theorem lines1 : True := by
  k_with "M STD" => ((k_asm; k_asm; k_asm; k_asm; k_asm; (first | exact rfl | assumption); ktr_room; ktr_units))
  exact True.intro
theorem lines2 : True := by
  k_with "M END" => ((intros; (try dsimp only); (try k_sweep); (try k_fold)))
  exact True.intro

theorem lines3 : True := by
  k_with "M OM" => (repeat' (first | (with_reducible refine And.intro ?_ ?_) | omega))
  exact True.intro

/-- an item of a list of the ledger at a place that is known -/
theorem sub_list {prog : Program} {w : World} {A : Around} {E : Value → Shared → Prop} {s : Shared} {value slice : PySem.Expr} {h₀ : Heap} {L l : Addr} {news : Led} {vs : List Value} {n : Nat} {k : Int} {u : Tok} {v : Value} {Q : Value → Shared → Prop}
    (N : News h₀ L s.heap news) (hm : (l, listOf vs.toArray n) ∈ news) (h0 : 0 ≤ k) (hhi : k < 2 ^ 63) (hx : vs[k.toNat]? = some v) (h : Q v s)
    (hs : subscripted slice false (.ref l) (.int k u) = operate [.ref l, .int k u] (getItem (.ref l) (.int k u)) := by with_unfolding_all rfl) :
    wpAny (model prog w) A (subscriptTail value slice (.ref l) (.int k u)) Q E s := by
  have hl : s.heap.IsList l vs.toArray := News.isList N hm
  exact tail_any hl.typeIs slot_list_getitem.lookup (wpAny_getItem_list hl h0 hhi (by simpa using hx) h) hs

theorem lines4 : True := by
  k_with "M subscriptTail Name Constant ref int" => ((k_here; (with_reducible show wpAny _ _ (subscriptTail _ _ (Value.ref _) (Value.int _ _)) _ _ _); k_dflt (refine' item_tupleT (News.isTup (by k_asm) (by k_mem)) (by decide) (by decide) (by exact rfl) (by exact rfl) ?_; k_whole)))
  k_with "M subscriptTail Name Constant ref int" => ((k_here; (with_reducible show wpAny _ _ (subscriptTail _ _ (Value.ref _) (Value.int _ _)) _ _ _); (with_unfolding_all refine' sub_list (by k_dflt (k_asm)) (by k_dflt (k_mem)) (by k_dflt (decide)) (by k_dflt (decide)) (by k_dflt (rfl)) ?_ (by k_dflt (with_unfolding_all rfl)); k_whole)))
  k_with "M subscriptTail Name Name ref int" => ((k_here; (with_reducible show wpAny _ _ (subscriptTail _ _ (Value.ref _) (Value.int _ _)) _ _ _); (with_unfolding_all refine' sub_list (by k_dflt (k_asm)) (by k_dflt (k_mem)) (by k_dflt (decide)) (by k_dflt (decide)) (by k_dflt (rfl)) ?_ (by k_dflt (with_unfolding_all rfl)); k_whole)))
  exact True.intro
theorem fmod_lo (a : Int) {b : Int} (h : 0 < b) : 0 ≤ a.fmod b := Int.fmod_nonneg_of_pos a h
theorem fmod_hi (a : Int) {b : Int} (h : 0 < b) : a.fmod b < b := Int.fmod_lt_of_pos a h
theorem bits_small {x : Int} (h0 : 0 ≤ x) (h1 : x < 2 ^ 64) : Builtin.Int.intBits x ≤ 64 := by
  exact intBits_le_64 (by omega) h1
theorem lines5 : True := by
  k_with "M binaryOp Mult int int" => ((k_here; (with_reducible refine PyProof.Rows.mul_int ?_ (IntMulOk.of_right (intBits_le_64 (by k_dflt (first | omega | (k_fmods; omega))) (by k_dflt (first | omega | (k_fmods; omega))))))))
  exact True.intro
local macro_rules | `(tactic| k_all) => `(tactic| with_reducible assumption)
theorem sub_list_in {prog : Program} {w : World} {A : Around} {E : Value → Shared → Prop} {s : Shared} {value slice : PySem.Expr} {h₀ : Heap} {L l : Addr} {news : Led} {vs : List Value} {n : Nat} {k : Int} {u : Tok} {Q : Value → Shared → Prop}
    (N : News h₀ L s.heap news) (hm : (l, listOf vs.toArray n) ∈ news) (h0 : 0 ≤ k) (hhi : k < vs.length) (hsz : vs.length < 2 ^ 62) (h : ∀ v, vs[k.toNat]? = some v → v ∈ vs → Q v s)
    (hs : subscripted slice false (.ref l) (.int k u) = operate [.ref l, .int k u] (getItem (.ref l) (.int k u)) := by with_unfolding_all rfl) :
    wpAny (model prog w) A (subscriptTail value slice (.ref l) (.int k u)) Q E s := by
  have hk : k.toNat < vs.length := by omega
  exact sub_list N hm h0 (by omega) (List.getElem?_eq_getElem hk) (h _ (List.getElem?_eq_getElem hk) (List.getElem_mem hk)) hs
theorem lines6 : True := by
  k_with "M call builtin:len" => ((k_here; (with_reducible show wpAny _ _ (call (Value.builtin "len") [Value.ref _]) _ _ _); k_dflt (refine' PyProof.Rows.len_list (News.isList (by k_asm) (by k_mem)) (by first | (simp only [List.size_toArray]; omega) | decide | (simp only [List.size_toArray, List.length_cons, List.length_nil]; decide)) ?_; k_whole); (try simp only [List.size_toArray, List.length_cons, List.length_nil])))
  exact True.intro
local macro_rules | `(tactic| k_room) => `(tactic| ktr_room)
local macro_rules | `(tactic| k_units) => `(tactic| ktr_units)
theorem sub_nil {l : Led} : ∀ p ∈ ([] : Led), p ∈ l := fun _ h => nomatch h
theorem sub_refl {l : Led} : ∀ p ∈ l, p ∈ l := fun _ h => h
theorem sub_cons {a : Addr × Obj} {l l' : Led} (h1 : a ∈ l') (h2 : ∀ p ∈ l, p ∈ l') : ∀ p ∈ a :: l, p ∈ l' := fun p hp => (List.mem_cons.mp hp).elim (fun e => e ▸ h1) (h2 p)
theorem sub_tail {a : Addr × Obj} {l l' : Led} (h2 : ∀ p ∈ l, p ∈ l') : ∀ p ∈ l, p ∈ a :: l' := fun p hp => .tail _ (h2 p hp)
theorem sub_app {l₁ l₂ l' : Led} (h1 : ∀ p ∈ l₁, p ∈ l') (h2 : ∀ p ∈ l₂, p ∈ l') : ∀ p ∈ l₁ ++ l₂, p ∈ l' := fun p hp => (List.mem_append.mp hp).elim (h1 p) (h2 p)
theorem sub_right {l l₁ l' : Led} (h : ∀ p ∈ l, p ∈ l') : ∀ p ∈ l, p ∈ l₁ ++ l' := fun p hp => List.mem_append_right _ (h p hp)
theorem sub_left {l l₁ l' : Led} (h : ∀ p ∈ l, p ∈ l') : ∀ p ∈ l, p ∈ l' ++ l₁ := fun p hp => List.mem_append_left _ (h p hp)
theorem lines7 : True := by
  k_with "M SUB" => (first | (with_reducible exact sub_nil) | (with_reducible exact sub_refl) | ((with_reducible refine sub_cons ?_ ?_); k_mem; walk_at "SUB") | ((with_reducible refine sub_app ?_ ?_) <;> walk_at "SUB") | (with_reducible assumption) | ((with_reducible refine sub_tail ?_); walk_at "SUB") | ((with_reducible refine sub_left ?_); walk_at "SUB") | ((with_reducible refine sub_right ?_); walk_at "SUB"))
  k_with "M k_memC1" => (first | (with_reducible_and_instances assumption) | ((with_reducible_and_instances refine List.mem_append_left _ ?_); k_mem) | ((with_reducible_and_instances refine List.mem_append_right _ ?_); k_mem))
  exact True.intro
local macro_rules | `(tactic| k_mem) => `(tactic| k_extra "M k_memC1")
theorem ne_lt {a b : Addr} (h : @LT.lt Nat _ a b) : a ≠ b := Nat.ne_of_lt h
theorem ne_gt {a b : Addr} (h : @LT.lt Nat _ b a) : a ≠ b := Nat.ne_of_gt h
theorem r1 {a b : Prop} (q : a ∧ b) : b := q.2
theorem r2 {a b c : Prop} (q : a ∧ b ∧ c) : c := q.2.2
theorem r3 {a b c d : Prop} (q : a ∧ b ∧ c ∧ d) : d := q.2.2.2
theorem r4 {a b c d e : Prop} (q : a ∧ b ∧ c ∧ d ∧ e) : e := q.2.2.2.2
theorem r5 {a b c d e f : Prop} (q : a ∧ b ∧ c ∧ d ∧ e ∧ f) : f := q.2.2.2.2.2
theorem m1 {a b c : Prop} (q : a ∧ b ∧ c) : b := q.2.1
theorem lines8 : True := by
  k_with "M LT1" => (first | assumption | exact r1 (by assumption) | exact r2 (by assumption) | exact r3 (by assumption) | exact r4 (by assumption))
  k_with "M LT" => (first | walk_at "LT1" | (apply r5; first | walk_at "LT1" | (apply r5; first | walk_at "LT1" | (apply r5; first | walk_at "LT1" | (apply r5; walk_at "LT1")))))
  exact True.intro
theorem and_tl {a b G : Prop} (k : b → G) (q : a ∧ b) : G := k q.2
theorem by_lt {x y z : Addr} {R : Prop} (zh : @LT.lt Nat _ z y ∧ R) (zk : @LT.lt Nat _ z y ∧ R → @LT.lt Nat _ x y) : x ≠ y := Nat.ne_of_lt (zk zh)
theorem by_gt {x y z : Addr} {R : Prop} (zh : @LT.lt Nat _ z x ∧ R) (zk : @LT.lt Nat _ z x ∧ R → @LT.lt Nat _ y x) : x ≠ y := Nat.ne_of_gt (zk zh)
theorem by_ne {x y z : Addr} {R : Prop} (zh : x ≠ z ∧ R) (zk : x ≠ z ∧ R → x ≠ y) : x ≠ y := zk zh
theorem lines9 : True := by
  k_with "M PROJ" => (first | exact And.left | exact And.right | (refine and_tl ?_; walk_at "PROJ"))
  k_with "M NE" => (first | assumption | (apply by_ne; assumption; walk_at "PROJ") | exact m1 (by assumption) | exact r2 (by assumption))
  k_with "M k_neC1" => (((try dsimp only); with_reducible first | assumption | (apply by_lt; assumption; walk_at "PROJ") | (apply by_gt; assumption; walk_at "PROJ") | walk_at "NE" | (refine Ne.symm ?_; walk_at "NE")))
  exact True.intro
local macro_rules | `(tactic| k_ne) => `(tactic| k_extra "M k_neC1")
/-- a local's name; a name of the text's top: its kind first, by the kernel -/
theorem name_loc {M : Model} {A : Around} {E : Value → Shared → Prop} {s : Shared} {h₀ : Heap} {L a : Addr} {m : Str → Option Value} {cn : Str} {cs : Scope} {ccd : Value} {cl : List (Str × Addr)} {env : Env} {x : Str} {pos : Pos} {v : Value} {Q : Value → Shared → Prop}
    (hx : env.kindOf x = some .local) (he : env = envX cn cs L a ccd cl) (hk : cs.kind = .function) (hd : (x == ("__debug__" : Str)) = false) (F : Fr h₀ L s.heap m) (hv : m x = some v) (h : Q v s) :
    wpAny M A (eval (.Name x pos) env) Q E s := by subst he; exact nameX_L F hv h hk hx hd
theorem name_top {M : Model} {A : Around} {E : Value → Shared → Prop} {s : Shared} {K : Frag} {h₀ : Heap} {L a : Addr} {m mg mb : Str → Option Value} {cn : Str} {cs : Scope} {ccd : Value} {cl : List (Str × Addr)} {p : Program} {loose : List Str} {env : Env} {x : Str} {pos : Pos} {v : Value} {Q : Value → Shared → Prop}
    (hx : env.kindOf x = some .globalImplicit) (he : env = envX cn cs L a ccd cl) (hk : cs.kind = .function) (hd : (x == ("__debug__" : Str)) = false) (F : Fr h₀ L s.heap m) (X : K.In h₀) (T : TopRead p loose mg mb h₀) (e : nsIn K mainGlobals x = some (some v)) (h : Q v s) :
    wpAny M A (eval (.Name x pos) env) Q E s := by subst he; exact nameX_K F X T e h hk hx hd
theorem name_blt {M : Model} {A : Around} {E : Value → Shared → Prop} {s : Shared} {K : Frag} {h₀ : Heap} {L a : Addr} {m mg mb : Str → Option Value} {cn : Str} {cs : Scope} {ccd : Value} {cl : List (Str × Addr)} {p : Program} {loose : List Str} {env : Env} {x : Str} {pos : Pos} {v : Value} {Q : Value → Shared → Prop}
    (hx : env.kindOf x = some .globalImplicit) (he : env = envX cn cs L a ccd cl) (hk : cs.kind = .function) (hd : (x == ("__debug__" : Str)) = false) (F : Fr h₀ L s.heap m) (X : K.In h₀) (T : TopRead p loose mg mb h₀) (e : nsIn K mainGlobals x = some none) (hv : bootBuiltins x = some v) (hn : x ≠ "__name__") (h : Q v s) :
    wpAny M A (eval (.Name x pos) env) Q E s := by subst he; exact nameX_B F X T e hv hn h hk hx hd

theorem lines10 : True := by
  k_with "M eval Name" => ((k_here; first | (refine' name_loc (by kernel_rfl!) (by k_dflt (exact rfl)) (by kernel_rfl!) (by kernel_rfl!) (by k_asm) (by k_dflt (exact rfl)) ?_; k_whole) | (refine' name_top (by kernel_rfl!) (by k_dflt (exact rfl)) (by kernel_rfl!) (by kernel_rfl!) (by k_asm) (by k_asm) (by k_asm) (by k_is) ?_; k_whole) | (refine' name_blt (by kernel_rfl!) (by k_dflt (exact rfl)) (by kernel_rfl!) (by kernel_rfl!) (by k_asm) (by k_asm) (by k_asm) (by k_is) (by k_dflt boot_fast) (by decide) ?_; k_whole)))
  k_with "M callWith ref" => ((k_here; k_dflt (first | (refine' callWith_K (by k_asm) (by k_is) ?_; k_whole) | (refine' callWith_K0 (by k_in) (by k_is) ?_; k_whole) | (refine' callWith_M0 (by k_meth) (by k_is) ?_; k_whole; try dsimp only [List.nil_append, List.cons_append]) | (refine' callWith_M (by k_asm) (by k_asm) (by k_mem) (by k_is) ?_; k_whole))))
  k_with "M subscriptTail Subscript" => ((k_here; (with_reducible show wpAny _ _ (subscriptTail _ _ (Value.ref _) (Value.int _ _)) _ _ _); k_dflt (refine' item_tupleT (News.isTup (by k_asm) (by k_mem)) (by decide) (by decide) (by exact rfl) (by exact rfl) ?_; k_whole)))
  k_with "M getAttr ref" => ((k_here; k_dflt (refine' get_own (by k_asm) (by k_asm) (by k_inst) (by k_is) (by k_is) (by k_is) (by k_is) (by k_get) (by k_handed) ?_; k_whole)))
  exact True.intro
/-- the pool of draws -/
def SrcO (o : Obj) : Prop := ∃ (a b : Int) (ta tb : Tok) (n : Nat), 0 ≤ a ∧ 0 ≤ b ∧ b < 2147483647 ∧ o = listOf #[.int a ta, .int b tb] n
set_option maxRecDepth 100000 in
set_option maxHeartbeats 8000000 in
theorem take_does {w : World} {src : Addr} {top : Int} {tt : Tok} {news : Led} {o : Obj} {g : Obj → Led} (U : UpdF src o news g) (ho : SrcO o) (ht : 0 < top) (ht2 : top < 1000) :
    Does w 1 393 [.ref src, .int top tt] news
      (fun r news' => ∃ o', (SrcO o' ∧ ∃ (v : Int) (tv : Tok), r = .int v tv ∧ 0 ≤ v ∧ v < top) ∧ news' = g o') := by
  obtain ⟨a, b, ta, tb, n, ha, hb, hb2, rfl⟩ := ho
  refine Does.upd U fun rest hr _ => ?_
  clear U
  unfold Does
  k_fill
  intro p loose mean mg mb dp un gd cn cs ad ccd cl outer A₀ base h₀ L m s Q E B F X N T hk hd' hu hret
  refine wpAny_call ?_
  k_dflt ktr_enter
  k_steps
  · exact hret _ _ _ _ (by k_asm) (by k_asm) ⟨_, ⟨⟨_, _, _, _, _, Int.fdiv_nonneg (by omega) (by omega), hb, hb2, rfl⟩, _, _, rfl, fmod_lo _ ht, fmod_hi _ ht⟩, rfl⟩
  · exact hret _ _ _ _ (by k_asm) (by k_asm) ⟨_, ⟨⟨_, _, _, _, _, ha, fmod_lo _ (by decide), fmod_hi _ (by decide), rfl⟩, _, _, rfl, fmod_lo _ ht, fmod_hi _ ht⟩, rfl⟩

theorem lines11 : True := by
  k_with "M call ref" => ((k_here; (with_reducible show wpAny _ _ (call (Value.ref 393) [_, _]) _ _ _); k_dflt (refine' Does.useT (by k_asm) (by k_asm) (by k_asm) (by k_asm) (by k_asm) (by first | exact rfl | assumption) (by ktr_room) (by ktr_units) (take_does (by k_updF) (by assumption) (by first | omega | decide) (by first | omega | decide)) ?_; k_whole); walk_at "END"))
  exact True.intro
theorem byte_nil : ∀ v ∈ ([] : List Value), ∃ (a : Int) (t : Tok), v = .int a t ∧ 0 ≤ a ∧ a ≤ 255 := fun _ h => nomatch h
theorem byte_cons {a : Int} {t : Tok} {l : List Value} (h0 : 0 ≤ a) (h1 : a ≤ 255) (h : ∀ v ∈ l, ∃ (a : Int) (t : Tok), v = .int a t ∧ 0 ≤ a ∧ a ≤ 255) : ∀ v ∈ Value.int a t :: l, ∃ (a : Int) (t : Tok), v = .int a t ∧ 0 ≤ a ∧ a ≤ 255 :=
  fun v hv => (List.mem_cons.mp hv).elim (fun e => ⟨a, t, e, h0, h1⟩) (h v)
set_option maxRecDepth 100000 in
set_option maxHeartbeats 8000000 in
theorem one_does {w : World} {src thg : Addr} {o : Obj} {m' : Nat} {news : Led} {g : Obj → Led} {vs : List Value} (U : UpdF src o news g) (ho : SrcO o) (hm : (thg, listOf vs.toArray m') ∈ news) (hne : thg ≠ src) (hvs : ∀ v ∈ vs, ∃ (a : Int) (t : Tok), v = .int a t ∧ 0 ≤ a ∧ a ≤ 255) (ht : 0 < vs.length) (ht2 : vs.length < 1000) :
    Does w 2 400 [.ref src, .ref thg] news (fun r news' => ∃ o', (SrcO o' ∧ ∃ (a : Int) (t : Tok), r = .int a t ∧ 0 ≤ a ∧ a ≤ 255) ∧ news' = g o') := by
  refine Does.upd U fun rest hr hr2 => ?_
  have hm2 := hr2 _ hm hne
  clear U hm hr2
  unfold Does
  k_fill
  intro p loose mean mg mb dp un gd cn cs ad ccd cl outer A₀ base h₀ L m s Q E B F X N T hk hd' hu hret
  replace N := News.of_sub (news' := (src, o) :: (thg, listOf vs.toArray m') :: rest) N (by walk_at "SUB")
  refine wpAny_call ?_
  k_dflt ktr_enter
  k_steps
  with_unfolding_all refine' sub_list_in ?k1Z ?k2Z ?k3Z ?k4Z ?k5Z ?k6Z ?k7Z
  case k1Z => k_asm
  case k2Z => k_mem
  case k3Z => omega
  case k4Z => omega
  case k5Z => omega
  case k7Z => with_unfolding_all rfl
  intro v hv hmem
  k_steps
  refine hret _ _ _ _ (by k_asm) (News.of_sub (by k_asm) ?nZ) ⟨_, ⟨by assumption, hvs _ hmem⟩, rfl⟩
  walk_at "SUB"

theorem lines12 : True := by
  k_with "M call ref" => ((k_here; (with_reducible show wpAny _ _ (call (Value.ref 400) [_, _]) _ _ _); k_dflt (refine' Does.useT (by k_asm) (by k_asm) (by k_asm) (by k_asm) (by k_asm) (by first | exact rfl | assumption) (by ktr_room) (by ktr_units) (one_does (by k_updF) (by assumption) (by k_mem) (by k_ne) (by repeat' (first | exact byte_nil | refine byte_cons (by decide) (by decide) ?_)) (by (simp only [List.length_cons, List.length_nil]; omega)) (by (simp only [List.length_cons, List.length_nil]; omega))) ?_; k_whole); walk_at "END"))
  exact True.intro
/-- the second lies at the first's places -/
def Same (M M' : Led) : Prop := ∀ p ∈ M', ∃ p' ∈ M, p'.1 = p.1
/-- a sub-ledger within a ledger, and the ledger with another in its place -/
def UpdL (M news : Led) (g : Led → Led) : Prop := ∃ A : Led, (∀ p ∈ A, Off M p.1) ∧ (∀ p ∈ M ++ A, p ∈ news) ∧ (∀ p ∈ news, p ∈ M ++ A) ∧ ∀ M', (∀ p ∈ M' ++ A, p ∈ g M') ∧ ∀ p ∈ g M', p ∈ M' ++ A
theorem UpdL.here {M : Led} : UpdL M M fun M' => M' := ⟨[], (fun _ h => nomatch h), by simp, by simp, fun M' => ⟨by simp, by simp⟩⟩
theorem UpdL.fst {M r : Led} (h : ∀ p ∈ r, Off M p.1) : UpdL M (M ++ r) fun M' => M' ++ r := ⟨r, h, sub_refl, sub_refl, fun _ => ⟨sub_refl, sub_refl⟩⟩
theorem UpdL.cons {M r : Led} {g : Led → Led} {q : Addr × Obj} (h : Off M q.1) (U : UpdL M r g) : UpdL M (q :: r) fun M' => q :: g M' := by
  obtain ⟨A, h0, h1, h2, h3⟩ := U
  refine ⟨q :: A, fun p hp => (List.mem_cons.mp hp).elim (fun e => e ▸ h) (h0 p), fun p hp => ?_, fun p hp => ?_, fun M' => ⟨fun p hp => ?_, fun p hp => ?_⟩⟩
  · rcases List.mem_append.mp hp with a | a
    · exact .tail _ (h1 _ (List.mem_append_left _ a))
    · rcases List.mem_cons.mp a with a | a
      · exact a ▸ .head _
      · exact .tail _ (h1 _ (List.mem_append_right _ a))
  · rcases List.mem_cons.mp hp with a | a
    · rw [a]; simp
    · rcases List.mem_append.mp (h2 _ a) with a | a
      · exact List.mem_append_left _ a
      · exact List.mem_append_right _ (.tail _ a)
  · rcases List.mem_append.mp hp with a | a
    · exact .tail _ ((h3 M').1 _ (List.mem_append_left _ a))
    · rcases List.mem_cons.mp a with a | a
      · exact a ▸ .head _
      · exact .tail _ ((h3 M').1 _ (List.mem_append_right _ a))
  · rcases List.mem_cons.mp hp with a | a
    · rw [a]; simp
    · rcases List.mem_append.mp ((h3 M').2 _ a) with a | a
      · exact List.mem_append_left _ a
      · exact List.mem_append_right _ (.tail _ a)
theorem UpdL.app {M r l : Led} {g : Led → Led} (h : ∀ p ∈ l, Off M p.1) (U : UpdL M r g) : UpdL M (l ++ r) fun M' => l ++ g M' := by
  induction l with
  | nil => exact U
  | cons q l ih => exact UpdL.cons (h q (.head _)) (ih fun p hp => h p (.tail _ hp))
theorem Does.updL {w : World} {need : Nat} {f : Addr} {vs : List Value} {news M : Led} {P : Value → Led → Prop} {g : Led → Led} (U : UpdL M news g)
    (h : ∀ A : Led, (∀ p ∈ A, Off M p.1) → (∀ p ∈ news, p ∈ M ++ A) → Does w need f vs (M ++ A) (fun r news' => ∃ M', P r M' ∧ news' = M' ++ A)) :
    Does w need f vs news (fun r news' => ∃ M', P r M' ∧ news' = g M') := by
  obtain ⟨A, h0, h1, h2, h3⟩ := U
  intro p loose mean mg mb dp un gd cn cs ad ccd cl outer A₀ base h₀ L m s Q E B F X N T hk hd' hu hret
  refine (h A h0 h2).use B F X (News.of_sub N h1) T hk hd' hu fun r h' tk' news' F' N' hP => ?_
  obtain ⟨M', hp, rfl⟩ := hP
  exact hret r h' tk' (g M') F' (News.of_sub N' (h3 M').2) ⟨M', hp, rfl⟩

/-- the fields of a map -/
def IsMapDict (od : Obj) (l t wd ht : Int) (al : Addr) : Prop := ∃ (q1 q2 q3 q4 q5 : Int) (k1 k2 k3 k4 k5 k6 k7 k8 k9 : Tok) (n : Nat), od =
  dictOf [⟨q1, .str (Str.ofString "left") k1, .int l k2⟩, ⟨q2, .str (Str.ofString "top") k3, .int t k4⟩, ⟨q3, .str (Str.ofString "width") k5, .int wd k6⟩, ⟨q4, .str (Str.ofString "height") k7, .int ht k8⟩, ⟨q5, .str (Str.ofString "alphas") k9, .ref al⟩] n
theorem IsMapDict.open {od : Obj} {l t wd ht : Int} {al : Addr} {C : Obj → Prop} (h : IsMapDict od l t wd ht al) (k : ∀ (q1 q2 q3 q4 q5 : Int) (k1 k2 k3 k4 k5 k6 k7 k8 k9 : Tok) (n : Nat), C (dictOf [⟨q1, .str (Str.ofString "left") k1, .int l k2⟩, ⟨q2, .str (Str.ofString "top") k3, .int t k4⟩, ⟨q3, .str (Str.ofString "width") k5, .int wd k6⟩, ⟨q4, .str (Str.ofString "height") k7, .int ht k8⟩, ⟨q5, .str (Str.ofString "alphas") k9, .ref al⟩] n)) : C od := by
  obtain ⟨q1, q2, q3, q4, q5, k1, k2, k3, k4, k5, k6, k7, k8, k9, n, rfl⟩ := h
  exact k ..
/-- a row of a map: its address, its alphas, its count -/
abbrev MRow := Addr × List Value × Nat
abbrev rowE (r : MRow) : Addr × Obj := (r.1, listOf r.2.1.toArray r.2.2)
abbrev inRect (l t wd ht x y : Int) : Prop := l ≤ x ∧ x < l + wd ∧ t ≤ y ∧ y < t + ht
structure MapS (M : Led) (x : Addr) (l t wd ht : Int) (f : Int → Int → Int) : Prop where
  ex : ∃ (dx al : Addr) (od : Obj) (n2 : Nat) (rows : List MRow), IsMapDict od l t wd ht al ∧
    M = (x, instObj 96 dx) :: (dx, od) :: (al, listOf (rows.map fun r => Value.ref r.1).toArray n2) :: rows.map rowE ∧
    (M.map (·.1)).Nodup ∧ (∀ i j : Nat, (i : Int) < ht → (j : Int) < wd → ∃ r tk, rows[i]? = some r ∧ r.2.1[j]? = some (.int (f (l + j) (t + i)) tk))
  out : ∀ px py, ¬ inRect l t wd ht px py → f px py = 0
  small : ht < 1000 ∧ wd < 1000
theorem sub_hyp {prog : Program} {w : World} {A : Around} {E : Value → Shared → Prop} {s : Shared} {value slice : PySem.Expr} {h₀ : Heap} {L l : Addr} {news : Led} {vs : List Value} {n : Nat} {k : Int} {u : Tok} {v : Value} {Q : Value → Shared → Prop}
    (N : News h₀ L s.heap news) (hm : (l, listOf vs.toArray n) ∈ news) (hx : vs[k.toNat]? = some v) (h0 : 0 ≤ k) (hhi : k < 2 ^ 63) (h : Q v s)
    (hs : subscripted slice false (.ref l) (.int k u) = operate [.ref l, .int k u] (getItem (.ref l) (.int k u)) := by with_unfolding_all rfl) :
    wpAny (model prog w) A (subscriptTail value slice (.ref l) (.int k u)) Q E s := sub_list N hm h0 hhi hx h hs

theorem lines13 : True := by
  k_with "M subscriptTail" => ((k_here; (with_reducible show wpAny _ _ (subscriptTail _ _ (Value.ref _) (Value.int _ _)) _ _ _); (with_unfolding_all refine' sub_hyp (by k_dflt (k_asm)) (by k_dflt (k_mem)) (by k_dflt (assumption)) (by k_dflt (omega)) (by k_dflt (omega)) ?_ (by k_dflt (with_unfolding_all rfl)); k_whole)))
  exact True.intro
set_option maxRecDepth 100000 in
set_option maxHeartbeats 8000000 in
theorem alpha_does {w : World} {x : Addr} {l t wd ht px py : Int} {t1 t2 : Tok} {news M : Led} {f : Int → Int → Int} (H : MapS M x l t wd ht f) (hs : ∀ p ∈ M, p ∈ news) (hb : -1000 < px ∧ px < 1000 ∧ -1000 < py ∧ py < 1000) :
    Does w 2 86 [.ref x, .int px t1, .int py t2] news (fun r news' => (∃ tk, r = .int (f px py) tk) ∧ news' = news) := by
  obtain ⟨⟨dx, al, od, n2, rows, hod, rfl, hnd, hrow⟩, hout, hsm⟩ := H
  obtain ⟨b1, b2, b3, b4⟩ := hb
  obtain ⟨s1, s2⟩ := hsm
  by_cases hin : inRect l t wd ht px py
  · obtain ⟨i1, i2, i3, i4⟩ := hin
    obtain ⟨r, tk, hr1, hr2⟩ := hrow (py - t).toNat (px - l).toNat (by omega) (by omega)
    have e1 : l + ((px - l).toNat : Int) = px := by omega
    have e2 : t + ((py - t).toNat : Int) = py := by omega
    rw [e1, e2] at hr2
    have hr1' : (rows.map fun r => Value.ref r.1)[(py - t).toNat]? = some (.ref r.1) := by rw [List.getElem?_map, hr1]; rfl
    have hm : rowE r ∈ news := hs _ (.tail _ (.tail _ (.tail _ (List.mem_map_of_mem (List.mem_of_getElem? hr1)))))
    generalize f px py = a at hr2 ⊢
    unfold Does
    k_fill
    intro p loose mean mg mb dp un gd cn cs ad ccd cl outer A₀ base h₀ L m s Q E B F X N T hk hd' hu hret
    replace N := News.of_sub (news' := (x, instObj 96 dx) :: (dx, od) :: (al, listOf (rows.map fun r => Value.ref r.1).toArray n2) :: rowE r :: news) N (by
      refine sub_cons (hs _ (.head _)) (sub_cons (hs _ (.tail _ (.head _))) (sub_cons (hs _ (.tail _ (.tail _ (.head _)))) (sub_cons hm sub_refl))))
    obtain ⟨r0, vs, nr⟩ := r
    dsimp only at hr1' hr2 N
    clear hrow hout hr1 e1 e2 hs hnd
    revert N
    apply IsMapDict.open hod
    clear hod
    intro q1 q2 q3 q4 q5 k1 k2 k3 k4 k5 k6 k7 k8 k9 n9 N
    refine wpAny_call ?_
    k_dflt ktr_enter
    k_steps
    refine hret _ _ _ _ (by k_asm) (News.of_sub (by k_asm) ?_) ⟨⟨_, rfl⟩, rfl⟩
    walk_at "SUB"
  · have hz := hout _ _ hin
    have hin' : ¬ (l ≤ px ∧ px < l + wd ∧ t ≤ py ∧ py < t + ht) := hin
    rw [hz]
    unfold Does
    k_fill
    intro p loose mean mg mb dp un gd cn cs ad ccd cl outer A₀ base h₀ L m s Q E B F X N T hk hd' hu hret
    replace N := News.of_sub (news' := (x, instObj 96 dx) :: (dx, od) :: news) N (by
      refine sub_cons (hs _ (.head _)) (sub_cons (hs _ (.tail _ (.head _))) sub_refl))
    clear hrow hout hs hnd hin
    revert N
    apply IsMapDict.open hod
    clear hod
    intro q1 q2 q3 q4 q5 k1 k2 k3 k4 k5 k6 k7 k8 k9 n9 N
    refine wpAny_call ?_
    k_dflt ktr_enter
    k_steps
    all_goals (refine hret _ _ _ _ (by k_asm) (News.of_sub (by k_asm) ?_) ⟨⟨_, rfl⟩, rfl⟩; walk_at "SUB")
theorem set_list {prog : Program} {w : World} {A : Around} {E : Value → Shared → Prop} {s : Shared} {h₀ : Heap} {L D : Addr} {m : Str → Option Value} {news news' : Led} {vs : List Value} {n : Nat} {k : Int} {t : Tok} {v : Value} {Q : Unit → Shared → Prop}
    (F : Fr h₀ L s.heap m) (N : News h₀ L s.heap news) (U : Upd D (listOf vs.toArray n) (listOf (vs.set k.toNat v).toArray n) news news') (h0 : 0 ≤ k) (h1 : k < vs.length) (hfit : k < 2 ^ 63)
    (h : ∀ h', Fr h₀ L h' m → News h₀ L h' news' → Q () { s with heap := h' }) :
    wpAny (model prog w) A (setItem (.ref D) (.int k t) v) Q E s := by
  obtain ⟨pre, post, rfl, rfl, a, b⟩ := U.split
  have z := N (D, listOf vs.toArray n) (List.mem_append.mpr (.inr (.head _)))
  have hs : vs.toArray.size = vs.length := by rw [List.size_toArray]
  refine ki_setAt z.1 h0 hfit (by omega) (h _ (F.change (Heap.SameBut.update ..) z.2.1 z.2.2) (ki_turn _ N a b ?_ ?_))
  · show vs.toArray.setIfInBounds k.toNat v = (vs.set k.toNat v).toArray
    apply Array.toList_inj.mp
    simp
  · simp
theorem lines14 : True := by
  k_with "M setItem ref int" => ((k_here; (with_reducible show wpAny _ _ (setItem (Value.ref _) (Value.int _ _) _) _ _ _); k_dflt (refine' set_list (by k_asm) (by k_asm) (by k_upd) (by omega) (by omega) (by omega) ?_; k_whole); intro h' F' N'; (try k_sweep)))
  exact True.intro
local macro_rules | `(tactic| k_enter) => `(tactic| first
  | (refine' code_def ?k1 ?k2 ?k3 ?k4 ?k5 ?kA ?kF ?kK ?k6 ?k7 ?k8 ?k9 ?kB ?_ ?c2 ?c3 ?c4 ?c5; (case kA => exact rfl); (case kF => exact rfl); (case kK => assumption); (case k1 => k_asm); (case k2 => k_asm); (case k3 => k_asm); (case k4 => k_asm); (case k5 => k_asm); (case k6 => k_is); (case k7 => k_is); (case k8 => k_room); (case k9 => first | exact BindsTo.of_eq rfl | exact binds_K (by k_in) rfl (by k_is) rfl rfl rfl); (case c5 => decide); (case kB => exact locs rfl); (case c2 => exact rfl); (case c3 => exact rfl); (case c4 => exact rfl); k_whole; intro g' L' h' FG' F' N' B' X' T'; (try dsimp only); (try k_lift B'); (try k_fold))
  | (refine' code_defC ?k1 ?k2 ?k3 ?k4 ?k5 ?kA ?kF ?kK ?k6 ?k7 ?k8 ?k9 ?kB ?kD ?_ ?c2 ?c3 ?c4; (case kA => exact rfl); (case kF => exact rfl); (case kK => assumption); (case k1 => k_asm); (case k2 => k_asm); (case k3 => k_asm); (case k4 => k_asm); (case k5 => k_asm); (case k6 => k_is); (case k7 => k_is); (case k8 => k_room); (case k9 => first | exact BindsTo.of_eq rfl | exact binds_K (by k_in) rfl (by k_is) rfl rfl rfl); (case kB => exact rfl); (case kD => decide +kernel); (case c2 => exact rfl); (case c3 => exact rfl); (case c4 => exact rfl); k_whole; intro g' L' h' tk' cells' FG' F' N' Y' B' X' T' l1; (try k_lt l1); k_cells Y'; (try simp only [List.cons_append, List.nil_append] at N'); (try dsimp only); (try k_lift B'); (try k_fold)))
def putF (f : Int → Int → Int) (px py a : Int) : Int → Int → Int := fun u v => if u = px ∧ v = py then a else f u v
theorem rows_set {rows : List MRow} {i : Nat} {r : MRow} {vs : List Value} (h : rows[i]? = some r) : (rows.set i (r.1, vs, r.2.2)).map (·.1) = rows.map (·.1) := by
  rw [List.map_set]
  apply List.ext_getElem? 
  intro j
  rw [List.getElem?_set]
  split
  · rename_i e
    subst e
    simp [h]
    exact (List.getElem?_eq_some_iff.mp h).1
  · rfl
theorem MapS.put {M : Led} {x : Addr} {l t wd ht px py a : Int} {ta : Tok} {f : Int → Int → Int} (H : MapS M x l t wd ht f) (hin : inRect l t wd ht px py) :
    ∃ (dx al : Addr) (od : Obj) (n2 : Nat) (rows : List MRow) (r0 : Addr) (vs : List Value) (nr : Nat) (rest M' : Led), IsMapDict od l t wd ht al ∧
      (rows.map fun r => Value.ref r.1)[(py - t).toNat]? = some (.ref r0) ∧ px - l < vs.length ∧ (x ≠ r0 ∧ dx ≠ r0 ∧ al ≠ r0) ∧ (∀ p ∈ rest, p.1 ≠ r0) ∧ (∃ e, (r0, e) ∈ M) ∧
      (∀ p ∈ (x, instObj 96 dx) :: (dx, od) :: (al, listOf (rows.map fun r => Value.ref r.1).toArray n2) :: (r0, listOf vs.toArray nr) :: rest, p ∈ M) ∧
      (∀ p ∈ M', p ∈ (x, instObj 96 dx) :: (dx, od) :: (al, listOf (rows.map fun r => Value.ref r.1).toArray n2) :: (r0, listOf (vs.set (px - l).toNat (.int a ta)).toArray nr) :: rest) ∧
      (∀ p ∈ M', ∃ p' ∈ M, p'.1 = p.1) ∧ MapS M' x l t wd ht (putF f px py a) := by
  obtain ⟨⟨dx, al, od, n2, rows, hod, rfl, hnd, hrow⟩, hout, hsm⟩ := H
  obtain ⟨i1, i2, i3, i4⟩ := hin
  have i1' : l ≤ px := i1
  obtain ⟨r, tk, hr1, hr2⟩ := hrow (py - t).toNat (px - l).toNat (by omega) (by omega)
  have hilt : (py - t).toNat < rows.length := (List.getElem?_eq_some_iff.mp hr1).1
  have hjlt : (px - l).toNat < r.2.1.length := (List.getElem?_eq_some_iff.mp hr2).1
  have hmem : r ∈ rows := List.mem_of_getElem? hr1
  have hnd' := hnd
  simp only [List.map_cons, List.nodup_cons, List.map_map, List.mem_cons, not_or] at hnd'
  obtain ⟨⟨n1, n3, n4⟩, ⟨n5, n6⟩, n7, n8⟩ := hnd'
  have hmm : r.1 ∈ rows.map ((fun x => x.1) ∘ rowE) := List.mem_map.mpr ⟨r, hmem, rfl⟩
  have hrows : ((rows.set (py - t).toNat (r.1, r.2.1.set (px - l).toNat (.int a ta), r.2.2)).map fun r => Value.ref r.1) = rows.map fun r => Value.ref r.1 := by
    have e := congrArg (List.map Value.ref) (rows_set (vs := r.2.1.set (px - l).toNat (.int a ta)) hr1)
    simpa [List.map_map, Function.comp_def] using e
  refine ⟨dx, al, od, n2, rows, r.1, r.2.1, r.2.2, (rows.filter fun s => decide (s.1 ≠ r.1)).map rowE, (x, instObj 96 dx) :: (dx, od) :: (al, listOf (rows.map fun r => Value.ref r.1).toArray n2) :: (rows.set (py - t).toNat (r.1, r.2.1.set (px - l).toNat (.int a ta), r.2.2)).map rowE, hod, ?_, by omega, ⟨?_, ?_, ?_⟩, ?_, ⟨listOf r.2.1.toArray r.2.2, .tail _ (.tail _ (.tail _ (List.mem_map_of_mem (f := rowE) hmem)))⟩, ?_, ?_, ?_, ?_⟩
  · rw [List.getElem?_map, hr1]; rfl
  · rintro rfl; exact n4 hmm
  · rintro rfl; exact n6 hmm
  · rintro rfl; exact n7 hmm
  · intro p hp
    obtain ⟨s, hs, rfl⟩ := List.mem_map.mp hp
    exact of_decide_eq_true (List.mem_filter.mp hs).2
  · refine sub_cons (.head _) (sub_cons (.tail _ (.head _)) (sub_cons (.tail _ (.tail _ (.head _))) (sub_cons (.tail _ (.tail _ (.tail _ (List.mem_map_of_mem (f := rowE) hmem)))) ?_)))
    intro p hp
    obtain ⟨s, hs, rfl⟩ := List.mem_map.mp hp
    exact .tail _ (.tail _ (.tail _ (List.mem_map_of_mem (List.mem_filter.mp hs).1)))
  · refine sub_cons (.head _) (sub_cons (.tail _ (.head _)) (sub_cons (.tail _ (.tail _ (.head _))) ?_))
    intro p hp
    obtain ⟨s, hs, rfl⟩ := List.mem_map.mp hp
    obtain ⟨j, hj⟩ := List.mem_iff_getElem?.mp hs
    rw [List.getElem?_set] at hj
    split at hj
    · cases hj; exact .tail _ (.tail _ (.tail _ (.head _)))
    · rename_i hne
      refine .tail _ (.tail _ (.tail _ (.tail _ (List.mem_map_of_mem (List.mem_filter.mpr ⟨List.mem_of_getElem? hj, decide_eq_true fun e => ?_⟩)))))
      have h1 : (rows.map ((fun x => x.1) ∘ rowE))[(py - t).toNat]? = some r.1 := by rw [List.getElem?_map, hr1]; rfl
      have h2 : (rows.map ((fun x => x.1) ∘ rowE))[j]? = some r.1 := by rw [List.getElem?_map, hj]; exact congrArg some e
      exact hne ((List.getElem?_inj (by simpa using hilt) n8).mp (h1.trans h2.symm))
  · intro p hp
    have hp1 : p.1 ∈ ((x, instObj 96 dx) :: (dx, od) :: (al, listOf (rows.map fun r => Value.ref r.1).toArray n2) :: rows.map rowE).map (·.1) := by
      have e : ((rows.set (py - t).toNat (r.1, r.2.1.set (px - l).toNat (.int a ta), r.2.2)).map rowE).map (·.1) = (rows.map rowE).map (·.1) := by
        have := rows_set (vs := r.2.1.set (px - l).toNat (.int a ta)) hr1
        simpa [List.map_map, Function.comp_def] using this
      have := List.mem_map_of_mem (f := (·.1)) hp
      simp only [List.map_cons] at this ⊢
      rw [e] at this
      exact this
    obtain ⟨p', hp', e⟩ := List.mem_map.mp hp1
    exact ⟨p', hp', e⟩
  · refine ⟨⟨dx, al, od, n2, _, hod, by rw [hrows], ?_, ?_⟩, ?_, hsm⟩
    · have e : ((rows.set (py - t).toNat (r.1, r.2.1.set (px - l).toNat (.int a ta), r.2.2)).map rowE).map (·.1) = (rows.map rowE).map (·.1) := by
        have := rows_set (vs := r.2.1.set (px - l).toNat (.int a ta)) hr1
        simpa [List.map_map, Function.comp_def] using this
      simp only [List.map_cons] at hnd ⊢
      rw [e]; exact hnd
    · intro i j hi hj
      obtain ⟨s, u, hs1, hs2⟩ := hrow i j hi hj
      by_cases hii : i = (py - t).toNat
      · subst hii
        rw [hr1] at hs1; cases hs1
        by_cases hjj : j = (px - l).toNat
        · subst hjj
          refine ⟨_, ta, by rw [List.getElem?_set_self hilt], ?_⟩
          dsimp only
          rw [List.getElem?_set_self hjlt]
          have : l + ((px - l).toNat : Int) = px ∧ t + ((py - t).toNat : Int) = py := by omega
          rw [putF, if_pos this]
        · refine ⟨_, u, by rw [List.getElem?_set_self hilt], ?_⟩
          dsimp only
          rw [List.getElem?_set_ne (Ne.symm hjj), hs2, putF, if_neg (by omega)]
      · refine ⟨s, u, by rw [List.getElem?_set_ne (Ne.symm hii)]; exact hs1, ?_⟩
        rw [hs2, putF, if_neg (by omega)]
    · intro u v huv
      rw [putF, if_neg (by rintro ⟨rfl, rfl⟩; exact huv ⟨i1', i2, i3, i4⟩)]
      exact hout u v huv
set_option maxRecDepth 100000 in
set_option maxHeartbeats 8000000 in
theorem put_does {w : World} {x : Addr} {l t wd ht px py a : Int} {t1 t2 ta : Tok} {news M : Led} {g : Led → Led} {f : Int → Int → Int} (H : MapS M x l t wd ht f) (hb : -1000 < l ∧ l < 1000 ∧ -1000 < t ∧ t < 1000) (h0 : 0 ≤ a) (h1 : a ≤ 255)
    (hin : inRect l t wd ht px py) (U : UpdL M news g) :
    Does w 2 93 [.ref x, .int px t1, .int py t2, .int a ta] news (fun r news' => ∃ M', (r = .none ∧ MapS M' x l t wd ht (putF f px py a) ∧ Same M M') ∧ news' = g M') := by
  refine Does.updL U fun A hA _ => ?_
  obtain ⟨s1, s2⟩ := H.small
  obtain ⟨b1, b2, b3, b4⟩ := hb
  obtain ⟨dx, al, od, n2, rows, r0, vs, nr, rest, M', hod, e1, e2, ⟨n1, n3, n4⟩, hr, ⟨e0, he0⟩, hs1, hs2, hs3, hM⟩ := H.put (a := a) (ta := ta) hin
  have hA0 : ∀ p ∈ A, p.1 ≠ r0 := fun p hp e => hA p hp _ he0 e.symm
  obtain ⟨i1, i2, i3, i4⟩ := hin
  have hrA : ∀ p ∈ rest ++ A, p.1 ≠ r0 := fun p hp => (List.mem_append.mp hp).elim (hr p) (hA0 p)
  have hsub : ∀ p ∈ (x, instObj 96 dx) :: (dx, od) :: (al, listOf (rows.map fun r => Value.ref r.1).toArray n2) :: (r0, listOf vs.toArray nr) :: (rest ++ A), p ∈ M ++ A := by
    intro p hp
    rw [← List.cons_append, ← List.cons_append, ← List.cons_append, ← List.cons_append] at hp
    exact (List.mem_append.mp hp).elim (fun q => List.mem_append_left _ (hs1 p q)) (List.mem_append_right _)
  have hback : ∀ p ∈ M' ++ A, p ∈ (x, instObj 96 dx) :: (dx, od) :: (al, listOf (rows.map fun r => Value.ref r.1).toArray n2) :: (r0, listOf (vs.set (px - l).toNat (.int a ta)).toArray nr) :: (rest ++ A) := by
    intro p hp
    rw [← List.cons_append, ← List.cons_append, ← List.cons_append, ← List.cons_append]
    exact (List.mem_append.mp hp).elim (fun q => List.mem_append_left _ (hs2 p q)) (List.mem_append_right _)
  generalize rest ++ A = rest' at hrA hsub hback
  clear hA hA0 hs1 hs2 hr U H he0
  unfold Does
  k_fill
  intro p loose mean mg mb dp un gd cn cs ad ccd cl outer A₀ base h₀ L m s Q E B F X N T hk hd' hu hret
  replace N := News.of_sub N hsub
  clear hsub
  revert hback N
  apply IsMapDict.open hod
  clear hod
  intro q1 q2 q3 q4 q5 k1 k2 k3 k4 k5 k6 k7 k8 k9 n9 hback N
  refine wpAny_call ?_
  k_dflt ktr_enter
  k_steps
  exact hret _ _ _ _ (by k_asm) (News.of_sub (by k_asm) hback) ⟨M', ⟨rfl, hM, hs3⟩, rfl⟩
section
variable {h₀ : Heap} {L I C D : Addr} {m : Str → Option Value} {s₁ : Shared} {oI oC oD : Obj} {S : Led → Prop} {rest : Value → Led → Prop} {y : Value} {h' : Heap} {tk : Nat} {l r : Led} {a b c d e : Addr × Obj}
theorem compEnd_app (F : Fr h₀ L h' m) (N : News h₀ L h' (l ++ (I, oI) :: (C, oC) :: (D, oD) :: r)) (off : LCg.Off3 I C D (l ++ r)) (hS : S (l ++ r)) (hr : rest y (l ++ r)) : LCg.CompEnd h₀ L m s₁ I oI C oC D oD S rest y { s₁ with heap := h', toks := tk } :=
  LCg.CompEnd.intro F N (l ++ r) (fun p hp => by
    rcases List.mem_cons.mp hp with q | hp
    · exact List.mem_append_right _ (q ▸ .head _)
    · rcases List.mem_cons.mp hp with q | hp
      · exact List.mem_append_right _ (q ▸ .tail _ (.head _))
      · rcases List.mem_cons.mp hp with q | hp
        · exact List.mem_append_right _ (q ▸ .tail _ (.tail _ (.head _)))
        · rcases List.mem_append.mp hp with q | q
          · exact List.mem_append_left _ q
          · exact List.mem_append_right _ (.tail _ (.tail _ (.tail _ q)))) off hS hr
theorem compEnd0 (F : Fr h₀ L h' m) (N : News h₀ L h' ((I, oI) :: (C, oC) :: (D, oD) :: r)) (off : LCg.Off3 I C D r) (hS : S r) (hr : rest y r) : LCg.CompEnd h₀ L m s₁ I oI C oC D oD S rest y { s₁ with heap := h', toks := tk } := compEnd_app (l := []) F N off hS hr
theorem compEnd1 (F : Fr h₀ L h' m) (N : News h₀ L h' (a :: (I, oI) :: (C, oC) :: (D, oD) :: r)) (off : LCg.Off3 I C D (a :: r)) (hS : S (a :: r)) (hr : rest y (a :: r)) : LCg.CompEnd h₀ L m s₁ I oI C oC D oD S rest y { s₁ with heap := h', toks := tk } := compEnd_app (l := [a]) F N off hS hr
theorem compEnd2 (F : Fr h₀ L h' m) (N : News h₀ L h' (a :: b :: (I, oI) :: (C, oC) :: (D, oD) :: r)) (off : LCg.Off3 I C D (a :: b :: r)) (hS : S (a :: b :: r)) (hr : rest y (a :: b :: r)) : LCg.CompEnd h₀ L m s₁ I oI C oC D oD S rest y { s₁ with heap := h', toks := tk } := compEnd_app (l := [a, b]) F N off hS hr
theorem compEnd3 (F : Fr h₀ L h' m) (N : News h₀ L h' (a :: b :: c :: (I, oI) :: (C, oC) :: (D, oD) :: r)) (off : LCg.Off3 I C D (a :: b :: c :: r)) (hS : S (a :: b :: c :: r)) (hr : rest y (a :: b :: c :: r)) : LCg.CompEnd h₀ L m s₁ I oI C oC D oD S rest y { s₁ with heap := h', toks := tk } := compEnd_app (l := [a, b, c]) F N off hS hr
theorem compEnd4 (F : Fr h₀ L h' m) (N : News h₀ L h' (a :: b :: c :: d :: (I, oI) :: (C, oC) :: (D, oD) :: r)) (off : LCg.Off3 I C D (a :: b :: c :: d :: r)) (hS : S (a :: b :: c :: d :: r)) (hr : rest y (a :: b :: c :: d :: r)) : LCg.CompEnd h₀ L m s₁ I oI C oC D oD S rest y { s₁ with heap := h', toks := tk } := compEnd_app (l := [a, b, c, d]) F N off hS hr
theorem off3_of {R : Led} (h1 : ∀ p ∈ R, p.1 < I) (h2 : ∀ p ∈ R, p.1 < C) (h3 : ∀ p ∈ R, p.1 < D) : LCg.Off3 I C D R := LCg.Off3.of fun p hp => ⟨Nat.ne_of_lt (h1 p hp), Nat.ne_of_lt (h2 p hp), Nat.ne_of_lt (h3 p hp)⟩
end
theorem lines15 : True := by
  k_with "M lcg_offC5" => (first | (with_reducible exact True.intro) | (with_reducible assumption) | (refine And.intro (by with_reducible assumption) ?_; lcg_off) | (refine And.intro ⟨by k_ne, by k_ne, by k_ne⟩ ?_; lcg_off))
  exact True.intro
local macro_rules | `(tactic| lcg_off) => `(tactic| k_extra "M lcg_offC5")
theorem lines16 : True := by
  k_with "M CompEnd" => (first | refine compEnd0 (by k_asm) (by k_asm) (by lcg_off) (by lcg_src) ?_ | refine compEnd1 (by k_asm) (by k_asm) (by lcg_off) (by lcg_src) ?_ | refine compEnd2 (by k_asm) (by k_asm) (by lcg_off) (by lcg_src) ?_ | refine compEnd3 (by k_asm) (by k_asm) (by lcg_off) (by lcg_src) ?_ | refine compEnd4 (by k_asm) (by k_asm) (by lcg_off) (by lcg_src) ?_)
  exact True.intro
local macro_rules | `(tactic| walk_at "CompRest") => `(tactic| (with_unfolding_all first
  | (refine LCg.CompRest.succ ?_; intro v' I' oI' C' oC' D' m' h' tk' E' hv' hC' hx' F' N' off' ne'; (first | lcg_open hv' | (obtain ⟨t9', hv9'⟩ := hv'; subst hv9')); (try simp only [LCg.Off3, and_true] at off'); (repeat (first | (refine and8 off' ?_; clear off'; intro _ _ _ _ _ _ _ off') | (refine and4 off' ?_; clear off'; intro _ _ _ off') | (refine and2 off' ?_; clear off'; intro _ off'))))
  | refine LCg.CompRest.zero ?_))
theorem lines17 : True := by
  k_with "M CompSrc" => ((k_here; k_dflt (first | (refine LCg.CompSrc.ledger (by rfl) (by k_asm) (by k_asm) (by k_mem) (by first | size_fits | exact Nat.le_of_ble_eq_true rfl) ?_; intro _; lcg_lit) | (refine LCg.CompSrc.range (by rfl) (by k_asm) (by k_asm) (by assumption) (by first | decide | rfl) (by first | rfl | decide) (by first | size_fits | exact Nat.le_of_ble_eq_true rfl) ?_; intro _; lcg_lit))))
  exact True.intro
local macro_rules | `(tactic| walk_at "FIN") => `(tactic| (intro D' h' tk' F' N' o1'; (try simp only [LCg.Off1, and_true] at o1'); (repeat (first | (refine and8 o1' ?_; clear o1'; intro _ _ _ _ _ _ _ o1') | (refine and4 o1' ?_; clear o1'; intro _ _ _ o1') | (refine and2 o1' ?_; clear o1'; intro _ o1'))); (try simp only [List.nil_append, List.cons_append] at N'); (try dsimp only)))

theorem lines18 : True := by
  k_with "M FinE" => ((unfold LCg.FinE; walk_at "FIN"))
  k_with "M FinA" => ((unfold LCg.FinA; walk_at "FIN"))
  k_with "M eval ListComp" => ((k_here; (with_reducible show wpAny _ _ (eval (Expr.ListComp _ [⟨_, Expr.Call _ _ _ _, _, _⟩] _ _) _) _ _ _); k_dflt (refine LCg.ListComp_U (F₀ := by k_asm) (by with_unfolding_all rfl) (by decide) (by rfl) (by decide) (by rfl) ?_)))
  k_with "M binaryOp Mult ref int" => ((k_here; (with_reducible show wpAny _ _ (binaryOp Operator.Mult (Value.ref _) (Value.int _ _)) _ _ _); k_dflt (refine' KMa.mul (by k_asm) (by k_asm) (by is_list) (by omega) (by omega) (by (simp only [List.length_cons, List.length_nil]; omega)) (by exact rfl) ?_; k_whole); intro D' h' F' N' l1; (try k_lt l1); (try k_sweep)))
  k_with "M exec Assign cons ListComp" => ((k_here; (with_reducible show wpAny _ _ (exec (Stmt.Assign [Expr.Attribute _ _ _] _ _) _) _ _ _); (with_reducible refine plainObj_wpAny_Assign_Attribute ?_ ?_); rotate_left; with_unfolding_all rfl))
  exact True.intro
theorem allLt_mem {d : Addr} {l : Led} (h : AllLt d l) : ∀ p ∈ l, p.1 < d := by
  induction l with
  | nil => exact fun _ h => nomatch h
  | cons a r ih =>
    intro p hp
    rcases List.mem_cons.mp hp with rfl | hp
    · exact h.1
    · exact ih h.2 p hp
theorem off1_mem {d : Addr} {l : Led} (h : LCg.Off1 d l) : ∀ p ∈ l, p.1 ≠ d := by
  induction l with
  | nil => exact fun _ h => nomatch h
  | cons a r ih =>
    intro p hp
    rcases List.mem_cons.mp hp with rfl | hp
    · exact h.1
    · exact ih h.2 p hp
theorem zeros {wd : Int} {a : Tok} {j : Nat} (h : (j : Int) < wd) : ((List.replicate wd.toNat [Value.int 0 a]).flatten)[j]? = some (.int 0 a) := by
  have e : ∀ n : Nat, (List.replicate n [Value.int 0 a]).flatten = List.replicate n (Value.int 0 a) := by
    intro n
    induction n with
    | zero => rfl
    | succ n ih => rw [List.replicate_succ, List.flatten_cons, ih, List.replicate_succ]; rfl
  rw [e, List.getElem?_replicate, if_pos (by omega)]
theorem init_close2 {h₀ h' : Heap} {L : Addr} {x dx al r0 r1 : Addr} {l t wd : Int} {od : Obj} {a0 a1 : Tok} {e1 e2 e3 : Addr × Obj} {news : Led}
    (N : News h₀ L h' ((al, LCg.lst [.ref r0, .ref r1]) :: (r1, listOf (List.replicate wd.toNat [.int 0 a1]).flatten.toArray 0) :: e1 :: (r0, listOf (List.replicate wd.toNat [.int 0 a0]).flatten.toArray 0) :: e2 :: e3 :: (x, instObj 96 dx) :: (dx, od) :: news))
    (hod : IsMapDict od l t wd 2 al) (hw : wd < 200) (hd : x ≠ dx ∧ x ≠ al ∧ x ≠ r0 ∧ x ≠ r1 ∧ dx ≠ al ∧ dx ≠ r0 ∧ dx ≠ r1 ∧ al ≠ r0 ∧ al ≠ r1 ∧ r0 ≠ r1)
    (o1 : ∀ p ∈ news, p.1 < dx) (o2 : dx < x) (o3 : LCg.Off1 al news) (o4 : AllLt r0 news) (o5 : AllLt r1 news) :
    ∃ M, News h₀ L h' (M ++ news) ∧ MapS M x l t wd 2 (fun _ _ => 0) ∧ ∀ q ∈ news, Off M q.1 := by
  refine ⟨(x, instObj 96 dx) :: (dx, od) :: (al, LCg.lst [.ref r0, .ref r1]) :: (r0, listOf (List.replicate wd.toNat [.int 0 a0]).flatten.toArray 0) :: (r1, listOf (List.replicate wd.toNat [.int 0 a1]).flatten.toArray 0) :: [], News.of_sub N (by
    simp only [List.cons_append, List.nil_append]
    walk_at "SUB"), ⟨⟨dx, al, od, 2, [(r0, (List.replicate wd.toNat [.int 0 a0]).flatten, 0), (r1, (List.replicate wd.toNat [.int 0 a1]).flatten, 0)], hod, rfl, ?_, ?_⟩, fun _ _ _ => rfl, by decide, by omega⟩, ?_⟩
  · obtain ⟨d1, d2, d3, d4, d5, d6, d7, d8, d9, d10⟩ := hd
    simp only [List.map_cons, List.map_nil, List.nodup_cons, List.mem_cons, List.not_mem_nil, or_false, not_or, not_false_eq_true, List.nodup_nil, and_true]
    exact ⟨⟨d1, d2, d3, d4⟩, ⟨d5, d6, d7⟩, ⟨d8, d9⟩, d10⟩
  · intro i j hi hj
    have : i = 0 ∨ i = 1 := by omega
    rcases this with rfl | rfl
    · exact ⟨_, a0, rfl, zeros hj⟩
    · exact ⟨_, a1, rfl, zeros hj⟩
  · intro q hq p hp
    have h1 := o1 q hq
    have h3 := off1_mem o3 q hq
    have h4 := allLt_mem o4 q hq
    have h5 := allLt_mem o5 q hq
    simp only [List.mem_cons, List.not_mem_nil, or_false] at hp
    rcases hp with rfl | rfl | rfl | rfl | rfl
    · exact Nat.ne_of_gt (Nat.lt_trans h1 o2)
    · exact Nat.ne_of_gt h1
    · exact Ne.symm h3
    · exact Nat.ne_of_gt h4
    · exact Nat.ne_of_gt h5
theorem init_close1 {h₀ h' : Heap} {L : Addr} {x dx al r0 : Addr} {l t wd : Int} {od : Obj} {a0 : Tok} {e2 e3 : Addr × Obj} {news : Led}
    (N : News h₀ L h' ((al, LCg.lst [.ref r0]) :: (r0, listOf (List.replicate wd.toNat [.int 0 a0]).flatten.toArray 0) :: e2 :: e3 :: (x, instObj 96 dx) :: (dx, od) :: news))
    (hod : IsMapDict od l t wd 1 al) (hw : wd < 200) (hd : x ≠ dx ∧ x ≠ al ∧ x ≠ r0 ∧ dx ≠ al ∧ dx ≠ r0 ∧ al ≠ r0)
    (o1 : ∀ p ∈ news, p.1 < dx) (o2 : dx < x) (o3 : LCg.Off1 al news) (o4 : AllLt r0 news) :
    ∃ M, News h₀ L h' (M ++ news) ∧ MapS M x l t wd 1 (fun _ _ => 0) ∧ ∀ q ∈ news, Off M q.1 := by
  refine ⟨(x, instObj 96 dx) :: (dx, od) :: (al, LCg.lst [.ref r0]) :: (r0, listOf (List.replicate wd.toNat [.int 0 a0]).flatten.toArray 0) :: [], News.of_sub N (by
    simp only [List.cons_append, List.nil_append]
    walk_at "SUB"), ⟨⟨dx, al, od, 1, [(r0, (List.replicate wd.toNat [.int 0 a0]).flatten, 0)], hod, rfl, ?_, ?_⟩, fun _ _ _ => rfl, by decide, by omega⟩, ?_⟩
  · obtain ⟨d1, d2, d3, d5, d6, d8⟩ := hd
    simp only [List.map_cons, List.map_nil, List.nodup_cons, List.mem_cons, List.not_mem_nil, or_false, not_or, not_false_eq_true, List.nodup_nil, and_true]
    exact ⟨⟨d1, d2, d3⟩, ⟨d5, d6⟩, d8⟩
  · intro i j hi hj
    have : i = 0 := by omega
    subst this
    exact ⟨_, a0, rfl, zeros hj⟩
  · intro q hq p hp
    have h1 := o1 q hq
    have h3 := off1_mem o3 q hq
    have h4 := allLt_mem o4 q hq
    simp only [List.mem_cons, List.not_mem_nil, or_false] at hp
    rcases hp with rfl | rfl | rfl | rfl
    · exact Nat.ne_of_gt (Nat.lt_trans h1 o2)
    · exact Nat.ne_of_gt h1
    · exact Ne.symm h3
    · exact Nat.ne_of_gt h4
set_option maxRecDepth 100000 in
set_option maxHeartbeats 8000000 in
theorem init_does {w : World} {l t wd ht : Int} {t1 t2 t3 t4 : Tok} {news : Led} (hw : 0 < wd ∧ wd < 200) (hh : ht = 1 ∨ ht = 2) :
    Does w 3 96 [.int l t1, .int t t2, .int wd t3, .int ht t4] news (fun r news' => ∃ (M : Led) (x : Addr), r = .ref x ∧ MapS M x l t wd ht (fun _ _ => 0) ∧ (∀ q ∈ news, Off M q.1) ∧ news' = M ++ news) := by
  obtain ⟨w0, w1⟩ := hw
  unfold Does
  k_fill
  intro p loose mean mg mb dp un gd cn cs ad ccd cl outer A₀ base h₀ L m s Q E B F X N T hk hd' hu hret
  rcases hh with rfl | rfl
  · k_steps
    obtain ⟨M, N2, hM, hoff⟩ := init_close1 (l := l) (t := t) (by k_asm) ⟨_, _, _, _, _, _, _, _, _, _, _, _, _, _, _, rfl⟩ w1 (by refine ⟨?_, ?_, ?_, ?_, ?_, ?_⟩ <;> k_ne) (by assumption) (by assumption) (by assumption) (by walk_at "LT")
    exact hret _ _ _ _ (by k_asm) N2 ⟨M, _, rfl, hM, hoff, rfl⟩
  · k_steps
    obtain ⟨M, N2, hM, hoff⟩ := init_close2 (l := l) (t := t) (by k_asm) ⟨_, _, _, _, _, _, _, _, _, _, _, _, _, _, _, rfl⟩ w1 (by refine ⟨?_, ?_, ?_, ?_, ?_, ?_, ?_, ?_, ?_, ?_⟩ <;> k_ne) (by assumption) (by assumption) (by assumption) (by walk_at "LT") (by walk_at "LT")
    exact hret _ _ _ _ (by k_asm) N2 ⟨M, _, rfl, hM, hoff, rfl⟩
/-- the region's clip: its own object, its fields, its region, the region's fields, its rows, two lists of one span -/
def IsRegDict (o : Obj) (rg : Addr) : Prop := ∃ (q1 : Int) (k1 : Tok) (n : Nat), o = dictOf [⟨q1, .str (Str.ofString "region") k1, .ref rg⟩] n
def IsRowsDict (o : Obj) (d : Addr) : Prop := ∃ (q1 : Int) (k1 : Tok) (n : Nat), o = dictOf [⟨q1, .str (Str.ofString "rows") k1, .ref d⟩] n
structure RegS (prog : Program) (w : World) (M : Led) (x : Addr) (l wd : Int) : Prop where
  ex : ∃ (dx rg dr d s0 s1 p0 p1 : Addr) (ox orr od : Obj) (n0 n1 m0 m1 : Nat) (k1 k2 k3 k4 : Tok), IsRegDict ox rg ∧ IsRowsDict orr d ∧ od.IsDictOf (intKind prog w) [((0 : Int), Value.ref s0), (1, Value.ref s1)] ∧ (d == sysModules) = false ∧
    M = [(x, instObj 124 dx), (dx, ox), (rg, instObj 370 dr), (dr, orr), (d, od), (s0, listOf #[.ref p0] n0), (s1, listOf #[.ref p1] n1),
      (p0, { cls := .type "tuple", data := .seq #[.int l k1, .int (l + wd) k2] m0 }), (p1, { cls := .type "tuple", data := .seq #[.int l k3, .int (l + wd) k4] m1 })]
def regF (l wd : Int) : Int → Int → Int := fun u v => if l ≤ u ∧ u < l + wd ∧ 0 ≤ v ∧ v < 2 then 255 else 0
theorem lines19 : True := by
  k_with "M call builtin:dict.get" => ((k_here; (with_reducible show wpAny _ _ (call (Value.builtin "dict.get") [Value.ref _, Value.int _ _, _]) _ _ _); k_dflt (refine kdg_get2 (knd := PySem.intKind _ _) (by k_asm) (by k_mem) (by k_asm) (by k_asm) (intKind_is _ _ _ _) (some _) (by assumption) ?_; try dsimp only [Option.getD])))
  exact True.intro
set_option maxRecDepth 100000 in
set_option maxHeartbeats 8000000 in
theorem regAlpha_does {w : World} {x : Addr} {l wd px py : Int} {t1 t2 : Tok} {news M : Led} (H : RegS PySem.Challenge.rw_nu0025_01.row.prog w M x l wd) (hs : ∀ p ∈ M, p ∈ news) (hy : py = 0 ∨ py = 1) :
    Does w 4 121 [.ref x, .int px t1, .int py t2] news (fun r news' => (∃ tk, r = .int (regF l wd px py) tk) ∧ news' = news) := by
  obtain ⟨dx, rg, dr, d, s0, s1, p0, p1, ox, orr, od, n0, n1, m0, m1, k1, k2, k3, k4, ⟨q1, j1, i1, rfl⟩, ⟨q2, j2, i2, rfl⟩, hod, hdm, rfl⟩ := H.ex
  unfold Does
  k_fill
  intro p loose mean mg mb dp un gd cn cs ad ccd cl outer A₀ base h₀ L m s Q E B F X N T hk hd' hu hret
  have hpy : 0 ≤ py ∧ py < 2 := by omega
  have key : ∃ (sl pt : Addr) (nl ml : Nat) (k5 k6 : Tok), valueAt [((0 : Int), Value.ref s0), (1, Value.ref s1)] py = some (.ref sl) ∧ (sl, listOf #[.ref pt] nl) ∈ news ∧ (pt, ({ cls := .type "tuple", data := .seq #[.int l k5, .int (l + wd) k6] ml } : Obj)) ∈ news := by
    rcases hy with rfl | rfl
    · exact ⟨s0, p0, n0, m0, k1, k2, rfl, hs _ (by k_mem), hs _ (by k_mem)⟩
    · exact ⟨s1, p1, n1, m1, k3, k4, rfl, hs _ (by k_mem), hs _ (by k_mem)⟩
  obtain ⟨sl, pt, nl, ml, k5, k6, hv, hsl, hpt⟩ := key
  replace N := News.of_sub (news' := (x, instObj 124 dx) :: (dx, _) :: (rg, instObj 370 dr) :: (dr, _) :: (d, od) :: (sl, listOf #[.ref pt] nl) :: (pt, _) :: news) N (by
    refine sub_cons (hs _ (by k_mem)) (sub_cons (hs _ (by k_mem)) (sub_cons (hs _ (by k_mem)) (sub_cons (hs _ (by k_mem)) (sub_cons (hs _ (by k_mem)) (sub_cons hsl (sub_cons hpt sub_refl)))))))
  clear hs H hy
  refine wpAny_call ?_
  k_dflt ktr_enter
  k_steps
  all_goals (refine hret _ _ _ _ (by k_asm) (News.of_sub (by k_asm) ?_) ⟨⟨_, congrArg (fun v => Value.int v _) (by simp only [regF]; split <;> omega)⟩, rfl⟩; walk_at "SUB")
open PySem PySem.W PyProof.Rows PySem.Spec
section
variable {prog : Program} {w : World} {A : Around} {E : Value → Shared → Prop} {s : Shared} {env : Env} {h₀ : Heap} {x : Str} {body : List Stmt} {Q : Flow → Shared → Prop}
/-- a turn's end: the iterator stands, the rest is as the word says -/
def TurnG (h₀ : Heap) (L : Addr) (J : (Str → Option Value) → Led → Prop) (I : Addr) (o : Obj) (s₁ s₂ : Shared) : Prop :=
  ∃ h' tk m' nx, s₂ = { s₁ with heap := h', toks := tk } ∧ Fr h₀ L h' m' ∧ News h₀ L h' ((I, o) :: nx) ∧ Off nx I ∧ J m' nx
def TurnP (h₀ : Heap) (L : Addr) (J : (Str → Option Value) → Led → Prop) (I : Addr) (o : Obj) (s₁ : Shared) (Q : Flow → Shared → Prop) (f : Flow) (s₂ : Shared) : Prop :=
  match f with
  | .ret v => Q (.ret v) s₂
  | .brk => Q .next s₂
  | _ => TurnG h₀ L J I o s₁ s₂
theorem turnG {L : Addr} {J : (Str → Option Value) → Led → Prop} {I : Addr} {o : Obj} {s₁ : Shared} {h' : Heap} {tk : Nat} {m' : Str → Option Value} {nx : Led} (F : Fr h₀ L h' m') (N : News h₀ L h' ((I, o) :: nx)) (ho : Off nx I) (hj : J m' nx) :
    TurnG h₀ L J I o s₁ { s₁ with heap := h', toks := tk } := ⟨h', tk, m', nx, rfl, F, N, ho, hj⟩

theorem loop_gen {I : Addr} {fp wr : List Addr} {n : Nat} {P : Nat → Value → Prop} {St : Nat → Heap → Prop} {m₀ : Str → Option Value} {news : Led} (J : Nat → (Str → Option Value) → Led → Prop)
    (W : Walks prog w A I fp wr n P St) (hwr' : ∀ b ∈ wr, b = I) (hIw : I ∈ wr) (hob : ∀ i h, St i h → ∃ o, h.get? I = some o) (hfp : ∀ b ∈ fp, b = I ∨ ∃ o, ∀ i m nx, J i m nx → (b, o) ∈ nx)
    (hLf : env.locals ∉ fp) (hI : h₀.get? I = none) (hnw : Off news I) (hst : St 0 s.heap) (F : Fr h₀ env.locals s.heap m₀) (N : News h₀ env.locals s.heap news) (hj : J 0 m₀ news)
    (turn : ∀ i v m₁ nx h tk o, i < n → P i v → J i m₁ nx → Off nx I → Fr h₀ env.locals h (fun y => if y = x then some v else m₁ y) → News h₀ env.locals h ((I, o) :: nx) →
      wpAny (model prog w) A (execs body env) (TurnP h₀ env.locals (J (i + 1)) I o { s with heap := h, toks := tk } Q) E { s with heap := h, toks := tk })
    (done : ∀ m₁ nx h tk, J n m₁ nx → Fr h₀ env.locals h m₁ → News h₀ env.locals h nx → Q .next { s with heap := h, toks := tk }) :
    LoopAtV prog w A h₀ env x body Q E (.ref I) s := by
  refine ⟨I, fp, wr, n, P, St, m₀, news, J, rfl, W, hLf, fun b hb => hwr' b hb ▸ hI, fun p hp hb => hnw p hp (hwr' _ hb), hst, F, N, hj, ?_, ?_⟩
  · rintro i v m₁ nx s₁ own ⟨hh', tk', rfl⟩ hin hP hJ hoff hown hownh hall hst' F₁ N₁
    obtain ⟨o, ho⟩ := hob _ _ hst'
    have hIo : (I, o) ∈ own := hall I (W.sub I hIw) hI o ho
    have hoff' : Off nx I := fun p hp e => hoff p hp (e ▸ hIw)
    have N₂ : News h₀ env.locals hh' ((I, o) :: nx) := fun p hp => (List.mem_cons.mp hp).elim (fun e => e ▸ N₁ _ (List.mem_append_left _ hIo)) fun q => N₁ p (List.mem_append_right _ q)
    refine wpAny_mono (turn i v m₁ nx hh' tk' o hin hP hJ hoff' F₁ N₂) (fun f s₂ p => ?_) fun _ _ e => e
    have fin : TurnG h₀ env.locals (J (i + 1)) I o { s with heap := hh', toks := tk' } s₂ → LoopStepU h₀ env.locals wr own (J (i + 1)) { s with heap := hh', toks := tk' } .next s₂ := by
      rintro ⟨h', tk, m', nx', rfl, F', N', hoff2, hJ'⟩
      refine ⟨rfl, h', tk, m', nx', rfl, F', fun p hp => ?_, fun p hp hb => hoff2 p hp (hwr' _ hb), hJ'⟩
      rcases List.mem_append.mp hp with q | q
      · have hg : hh'.get? p.1 = some p.2 := hownh p q
        rcases hfp p.1 (hown p q) with e | e
        · rw [e, ho] at hg
          have : p = (I, o) := Prod.ext e (Option.some.inj hg).symm
          rw [this]; exact N' _ (.head _)
        · obtain ⟨o1, h1⟩ := e
          have z := (N₁ (p.1, o1) (List.mem_append_right _ (h1 _ _ _ hJ))).1
          have hg' : some o1 = some p.2 := z.symm.trans hg
          have : p = (p.1, o1) := Prod.ext rfl (Option.some.inj hg').symm
          rw [this]
          exact N' _ (.tail _ (h1 _ _ _ hJ'))
      · exact N' p (.tail _ q)
    cases f with
    | ret v => exact .ret p
    | brk => exact .brk p
    | next => exact .next (fin p)
    | cont => exact .cont (fin p)
  · rintro h' tk m' news' F' N' _ hJ
    exact done m' news' h' tk hJ F' N'

/-- a for over a range by ones, a word J over the counter, the frame and the ledger -/
theorem loop_range {r : Addr} {a₀ b₀ : Int} {t₀ u₀ v₀ : Tok} {m₀ : Str → Option Value} {news : Led} (J : Int → (Str → Option Value) → Led → Prop)
    (hh : A.handled = none) (hr : IsRange s.heap r a₀ b₀ 1 t₀ u₀ v₀) (hsmall : Builtin.Range.small a₀ b₀ 1 = true) (hab : a₀ ≤ b₀) (F : Fr h₀ env.locals s.heap m₀) (N : News h₀ env.locals s.heap news) (hj : J a₀ m₀ news)
    (turn : ∀ k t m₁ nx h tk I o, a₀ ≤ k → k < b₀ → J k m₁ nx → Off nx I → Fr h₀ env.locals h (fun y => if y = x then some (.int k t) else m₁ y) → News h₀ env.locals h ((I, o) :: nx) →
      wpAny (model prog w) A (execs body env) (TurnP h₀ env.locals (J (k + 1)) I o { s with heap := h, toks := tk } Q) E { s with heap := h, toks := tk })
    (done : ∀ m₁ nx h tk, J b₀ m₁ nx → Fr h₀ env.locals h m₁ → News h₀ env.locals h nx → Q .next { s with heap := h, toks := tk }) :
    wpAny (model prog w) A (pyIter (.ref r)) (fun it s₂ => LoopAtV prog w A h₀ env x body Q E it s₂) E s := by
  have hn : Builtin.Range.rangeSize a₀ b₀ 1 = (((b₀ - a₀).toNat : Nat) : Int) := rangeSize_nat _ _
  refine wpAny_pyIter_range hr hsmall ?_
  have W : Walks prog w A s.heap.objs.size [s.heap.objs.size] [s.heap.objs.size] (b₀ - a₀).toNat (fun i v => i < (b₀ - a₀).toNat ∧ ∃ t, v = .int (a₀ + i * 1) t)
      (fun i h => IsRangeIter h s.heap.objs.size (a₀ + (i : Nat) * 1) (((b₀ - a₀).toNat : Int) - (i : Nat)) 1) := (Walks.range hh _ a₀ 1 _).bound
  refine loop_gen (fun i m nx => J (a₀ + (i : Int)) m nx) W (fun b hb => List.mem_singleton.mp hb) (List.mem_singleton.mpr rfl) (fun i h st => ⟨_, st⟩) (fun b hb => .inl (List.mem_singleton.mp hb)) ?_ (next_is_new F) ?_
    (by show IsRangeIter _ _ _ _ _; rw [hn]; simpa using Heap.get?_push_size _ rfl) (F.push _) (fun p hp => ⟨Heap.get?_push_of_some _ (N p hp).1, (N p hp).2⟩) (by simpa using hj) ?_ ?_
  · intro hm
    exact absurd F.ns.lt ((List.mem_singleton.mp hm) ▸ Nat.lt_irrefl _)
  · intro p hp e
    exact absurd (Heap.lt_size (N p hp).1) (by rw [e]; exact Nat.lt_irrefl _)
  · rintro i v m₁ nx h tk o hi ⟨_, t, rfl⟩ hJ hoff F₁ N₁
    have e : a₀ + ((i : Nat) : Int) * 1 = a₀ + (i : Int) := by rw [Int.mul_one]
    rw [e] at F₁
    have := turn (a₀ + (i : Int)) t m₁ nx h tk s.heap.objs.size o (by omega) (by omega) hJ hoff F₁ N₁
    have e2 : a₀ + (i : Int) + 1 = a₀ + ((i + 1 : Nat) : Int) := by omega
    rw [e2] at this
    exact this
  · intro m₁ nx h tk hJ F₁ N₁
    have e : a₀ + (((b₀ - a₀).toNat : Nat) : Int) = b₀ := by omega
    rw [e] at hJ
    exact done m₁ nx h tk hJ F₁ N₁

/-- a for over a list of the ledger that stands -/
theorem loop_list {l : Addr} {vs : List Value} {c : Nat} {m₀ : Str → Option Value} {news : Led} (J : Nat → (Str → Option Value) → Led → Prop)
    (hh : A.handled = none) (hl : ∀ i m nx, J i m nx → (l, listOf vs.toArray c) ∈ nx) (F : Fr h₀ env.locals s.heap m₀) (N : News h₀ env.locals s.heap news) (hj : J 0 m₀ news)
    (turn : ∀ i v m₁ nx h tk I o, vs[i]? = some v → J i m₁ nx → Off nx I → Fr h₀ env.locals h (fun y => if y = x then some v else m₁ y) → News h₀ env.locals h ((I, o) :: nx) →
      wpAny (model prog w) A (execs body env) (TurnP h₀ env.locals (J (i + 1)) I o { s with heap := h, toks := tk } Q) E { s with heap := h, toks := tk })
    (done : ∀ m₁ nx h tk, J vs.length m₁ nx → Fr h₀ env.locals h m₁ → News h₀ env.locals h nx → Q .next { s with heap := h, toks := tk }) :
    wpAny (model prog w) A (pyIter (.ref l)) (fun it s₂ => LoopAtV prog w A h₀ env x body Q E it s₂) E s := by
  have hmem := hl _ _ _ hj
  have hls : s.heap.IsList l vs.toArray := News.isList N hmem
  have hlt : l < s.heap.objs.size := Heap.lt_size (N _ hmem).1
  have hne : l ≠ s.heap.objs.size := Nat.ne_of_lt hlt
  refine wpAny_pyIter_list hls ?_
  have W := Walks.list (prog := prog) (w := w) hh s.heap.objs.size l hne vs.toArray
  have hlen : vs.toArray.size = vs.length := by simp
  rw [hlen] at W
  refine loop_gen J W (fun b hb => List.mem_singleton.mp hb) (List.mem_singleton.mpr rfl) (fun i h st => by obtain ⟨o, e, _⟩ := st.1; exact ⟨o, e⟩) (fun b hb => ?_) ?_ (next_is_new F) ?_
    ⟨⟨_, Heap.get?_push_size _ rfl, rfl, rfl⟩, hls.at fun o e => Heap.get?_push_of_some _ e⟩ (F.push _) (fun p hp => ⟨Heap.get?_push_of_some _ (N p hp).1, (N p hp).2⟩) hj ?_ done
  · rcases List.mem_cons.mp hb with e | e
    · exact .inl e
    · exact .inr ⟨_, fun i m nx hJ => List.mem_singleton.mp e ▸ hl i m nx hJ⟩
  · intro hm
    rcases List.mem_cons.mp hm with e | hm
    · exact absurd F.ns.lt (e ▸ Nat.lt_irrefl _)
    · exact (N _ hmem).2.1 (List.mem_singleton.mp hm).symm
  · intro p hp e
    exact absurd (Heap.lt_size (N p hp).1) (by rw [e]; exact Nat.lt_irrefl _)
  · rintro i v m₁ nx h tk o hi hP hJ hoff F₁ N₁
    exact turn i v m₁ nx h tk _ o (by simpa using hP) hJ hoff F₁ N₁

/-- one name of the frame turns, the ledger stands -/
def One (x y : Str) (P : Nat → Value → Prop) (m₀ : Str → Option Value) (news : Led) (i : Nat) (m : Str → Option Value) (nx : Led) : Prop :=
  nx = news ∧ (∃ u, m y = some u ∧ P i u) ∧ ∀ z, z ≠ x → z ≠ y → m z = m₀ z
theorem loop_list1 {l : Addr} {vs : List Value} {c : Nat} {m₀ : Str → Option Value} {news : Led} {y : Str} {u₀ : Value} (P : Nat → Value → Prop)
    (hh : A.handled = none) (hl : (l, listOf vs.toArray c) ∈ news) (F : Fr h₀ env.locals s.heap m₀) (N : News h₀ env.locals s.heap news) (hy : m₀ y = some u₀) (h0 : P 0 u₀)
    (turn : ∀ i v u h tk I o, vs[i]? = some v → P i u → Off news I → Fr h₀ env.locals h (fun z => if z = x then some v else if z = y then some u else m₀ z) → News h₀ env.locals h ((I, o) :: news) →
      wpAny (model prog w) A (execs body env) (TurnP h₀ env.locals (One x y P m₀ news (i + 1)) I o { s with heap := h, toks := tk } Q) E { s with heap := h, toks := tk })
    (done : ∀ (v : Str → Option Value) u h tk, P vs.length u → Fr h₀ env.locals h (fun z => if z = x then v z else if z = y then some u else m₀ z) → News h₀ env.locals h news → Q .next { s with heap := h, toks := tk }) :
    wpAny (model prog w) A (pyIter (.ref l)) (fun it s₂ => LoopAtV prog w A h₀ env x body Q E it s₂) E s := by
  refine loop_list (One x y P m₀ news) hh (fun i m nx h => h.1 ▸ hl) F N ⟨rfl, ⟨u₀, hy, h0⟩, fun _ _ _ => rfl⟩ ?_ ?_
  · rintro i v m₁ nx h tk I o hv ⟨rfl, ⟨u, hu, hP⟩, hm⟩ hoff F₁ N₁
    have e : (fun z => if z = x then some v else m₁ z) = fun z => if z = x then some v else if z = y then some u else m₀ z := by
      funext z
      by_cases h1 : z = x
      · simp [h1]
      · simp only [if_neg h1]
        by_cases h2 : z = y
        · subst h2; simp [hu]
        · simp only [if_neg h2]; exact hm z h1 h2
    rw [e] at F₁
    exact turn i v u h tk I o hv hP hoff F₁ N₁
  · rintro m₁ nx h tk ⟨rfl, ⟨u, hu, hP⟩, hm⟩ F₁ N₁
    refine done m₁ u h tk hP ?_ N₁
    have e : (fun z => if z = x then m₁ z else if z = y then some u else m₀ z) = m₁ := by
      funext z
      by_cases h1 : z = x
      · simp [h1]
      · simp only [if_neg h1]
        by_cases h2 : z = y
        · subst h2; simp [hu]
        · simp only [if_neg h2]; exact (hm z h1 h2).symm
    rw [e]; exact F₁

/-- a for over a range: names that are forgotten, a word over the ledger -/
def Forgets (x : Str) (stored : List Str) (m₀ : Str → Option Value) (J : Led → Prop) (m : Str → Option Value) (nx : Led) : Prop := J nx ∧ ∀ y, y ≠ x → stored.contains y = false → m y = m₀ y
theorem forgets_eq {x : Str} {stored : List Str} {m₁ m₀ : Str → Option Value} (hm : ∀ y, y ≠ x → stored.contains y = false → m₁ y = m₀ y) (a : Option Value) :
    (fun y => if y = x then a else m₁ y) = fun y => if y = x then a else if stored.contains y then m₁ y else m₀ y := by
  funext y
  by_cases h1 : y = x
  · simp [h1]
  · simp only [if_neg h1]
    cases h2 : stored.contains y with
    | true => simp
    | false => simp only [Bool.false_eq_true, if_false]; exact hm y h1 h2
theorem forgets_eq' {x : Str} {stored : List Str} {m₁ m₀ : Str → Option Value} (hm : ∀ y, y ≠ x → stored.contains y = false → m₁ y = m₀ y) :
    m₁ = fun y => if y = x then m₁ y else if stored.contains y then m₁ y else m₀ y := by
  funext y
  by_cases h1 : y = x
  · simp [h1]
  · simp only [if_neg h1]
    cases h2 : stored.contains y with
    | true => simp
    | false => simp only [Bool.false_eq_true, if_false]; exact hm y h1 h2
theorem loop_rangeF {r : Addr} {a₀ b₀ : Int} {t₀ u₀ v₀ : Tok} {m₀ : Str → Option Value} {news : Led} (stored : List Str) (J : Int → Led → Prop)
    (hh : A.handled = none) (hr : IsRange s.heap r a₀ b₀ 1 t₀ u₀ v₀) (hsmall : Builtin.Range.small a₀ b₀ 1 = true) (hab : a₀ ≤ b₀) (F : Fr h₀ env.locals s.heap m₀) (N : News h₀ env.locals s.heap news) (hj : J a₀ news)
    (turn : ∀ k t (u : Str → Option Value) nx h tk I o, a₀ ≤ k → k < b₀ → J k nx → Off nx I → Fr h₀ env.locals h (fun y => if y = x then some (.int k t) else if stored.contains y then u y else m₀ y) → News h₀ env.locals h ((I, o) :: nx) →
      wpAny (model prog w) A (execs body env) (TurnP h₀ env.locals (Forgets x stored m₀ (J (k + 1))) I o { s with heap := h, toks := tk } Q) E { s with heap := h, toks := tk })
    (done : ∀ (u : Str → Option Value) nx h tk, J b₀ nx → Fr h₀ env.locals h (fun y => if y = x then u y else if stored.contains y then u y else m₀ y) → News h₀ env.locals h nx → Q .next { s with heap := h, toks := tk }) :
    wpAny (model prog w) A (pyIter (.ref r)) (fun it s₂ => LoopAtV prog w A h₀ env x body Q E it s₂) E s := by
  refine loop_range (fun k => Forgets x stored m₀ (J k)) hh hr hsmall hab F N ⟨hj, fun _ _ _ => rfl⟩ ?_ ?_
  · rintro k t m₁ nx h tk I o h1 h2 ⟨hJ, hm⟩ hoff F₁ N₁
    rw [forgets_eq hm] at F₁
    exact turn k t m₁ nx h tk I o h1 h2 hJ hoff F₁ N₁
  · rintro m₁ nx h tk ⟨hJ, hm⟩ F₁ N₁
    rw [forgets_eq' hm] at F₁
    exact done m₁ nx h tk hJ F₁ N₁
theorem turnF {L : Addr} {x : Str} {stored : List Str} {m₀ m' : Str → Option Value} {J : Led → Prop} {I : Addr} {o : Obj} {s₁ : Shared} {h' : Heap} {tk : Nat} {nx : Led} (F : Fr h₀ L h' m') (N : News h₀ L h' ((I, o) :: nx)) (ho : Off nx I) (hj : J nx)
    (hm : ∀ y, y ≠ x → stored.contains y = false → m' y = m₀ y) : TurnG h₀ L (Forgets x stored m₀ J) I o s₁ { s₁ with heap := h', toks := tk } := ⟨h', tk, m', nx, rfl, F, N, ho, hj, hm⟩
end
local macro_rules | `(tactic| walk_at "FOR") => `(tactic| (k_here; (rename Fr _ _ _ _ => lF'); (with_unfolding_all refine' For_invVF lF' ?k1 ?k2 ?_; (case k1 => exact rfl); (case k2 => exact rfl); k_whole); (repeat' (first | ((fail_if_success (with_reducible show wpAny _ _ (pyIter _) _ _ _)); (fail_if_success (with_reducible show wpAny _ _ (exec (Stmt.For _ _ _ _ _) _) _ _ _)); first | (k_unfold; (try dsimp only)) | (k_end; wrow_close) | walk1 | (dsimp only; walk1) | (leave1; try dsimp only) | (dsimp only [TurnP])) | fail "no step"))))
local macro_rules | `(tactic| walk_at "call type:range") => `(tactic| (k_here; (rename Fr _ _ _ _ => F'); (rename News _ _ _ _ => N'); first
  | (with_unfolding_all refine range1_rows F' N' ?_; intro _ _ _ _ _ _ _ _ _)
  | (with_unfolding_all refine range2_rows F' N' ?_; intro _ _ _ _ _ _ _ _ _)))
/-- a part of 255, rounded half up -/
def wt (n a : Int) : Int := (2 * n * a + 255).fdiv 510
theorem wt_zero (a : Int) : wt 0 a = 0 := by unfold wt; simp
theorem wt_lo {n a : Int} (h0 : 0 ≤ n) (h1 : 0 ≤ a) : 0 ≤ wt n a := by
  have := Int.mul_nonneg (Int.mul_nonneg (show (0 : Int) ≤ 2 by decide) h0) h1
  exact Int.fdiv_nonneg (by omega) (by decide)
theorem wt_hi {n a : Int} (h1 : 0 ≤ a) (hn : n ≤ 255) (ha : a ≤ 255) : wt n a ≤ 255 := by
  have h : n * a ≤ 255 * 255 := Int.mul_le_mul hn ha h1 (by decide)
  have e : 2 * n * a = 2 * (n * a) := Int.mul_assoc 2 n a
  unfold wt
  rw [e]
  generalize n * a = z at h
  rw [Int.fdiv_eq_ediv_of_nonneg _ (by decide)]
  omega
set_option maxRecDepth 100000 in
set_option maxHeartbeats 8000000 in
theorem weighted_does {w : World} {n a : Int} {t1 t2 : Tok} {news : Led} (h0 : 0 ≤ n) (h1 : 0 ≤ a) (h2 : n ≤ 255) (h3 : a ≤ 255) :
    Does w 1 28 [.int n t1, .int a t2] news (fun r news' => (∃ tk, r = .int (wt n a) tk) ∧ news' = news) := by
  unfold Does
  k_fill
  intro p loose mean mg mb dp un gd cn cs ad ccd cl outer A₀ base h₀ L m s Q E B F X N T hk hd' hu hret
  refine wpAny_call ?_
  k_dflt ktr_enter
  k_steps
  exact hret _ _ _ _ (by k_asm) (by k_asm) ⟨⟨_, rfl⟩, rfl⟩
theorem lines20 : True := by
  k_with "M call ref" => ((k_here; (with_reducible show wpAny _ _ (call (Value.ref 28) [_, _]) _ _ _); k_dflt (refine' Does.useI (by k_asm) (by k_asm) (by k_asm) (by k_asm) (by k_asm) (by first | exact rfl | assumption) (by ktr_room) (by ktr_units) (weighted_does (by first | assumption | omega) (by first | assumption | omega) (by first | assumption | omega) (by first | assumption | omega)) ?_; k_whole); walk_at "END"))
  k_with "M call ref" => ((k_here; (with_reducible show wpAny _ _ (call (Value.ref 86) [_, _, _]) _ _ _); k_dflt (refine' Does.useI (by k_asm) (by k_asm) (by k_asm) (by k_asm) (by k_asm) (by first | exact rfl | assumption) (by ktr_room) (by ktr_units) (alpha_does (by assumption) (by walk_at "SUB") (by walk_at "OM")) ?_; k_whole); walk_at "END"))
  k_with "M call ref" => ((k_here; (with_reducible show wpAny _ _ (call (Value.ref 121) [_, _, _]) _ _ _); k_dflt (refine' Does.useI (by k_asm) (by k_asm) (by k_asm) (by k_asm) (by k_asm) (by first | exact rfl | assumption) (by ktr_room) (by ktr_units) (regAlpha_does (by assumption) (by walk_at "SUB") (by omega)) ?_; k_whole); walk_at "END"))
  exact True.intro
theorem MapS.entries {M : Led} {x : Addr} {l t wd ht : Int} {f : Int → Int → Int} (H : MapS M x l t wd ht f) : ∃ dx al od, IsMapDict od l t wd ht al ∧ (x, instObj 96 dx) ∈ M ∧ (dx, od) ∈ M := by
  obtain ⟨⟨dx, al, od, n2, rows, hod, rfl, _⟩, _⟩ := H
  exact ⟨dx, al, od, hod, .head _, .tail _ (.head _)⟩
theorem RegS.entries {prog : Program} {w : World} {M : Led} {x : Addr} {l wd : Int} (H : RegS prog w M x l wd) : ∃ dx rg od, IsRegDict od rg ∧ (x, instObj 124 dx) ∈ M ∧ (dx, od) ∈ M := by
  obtain ⟨dx, rg, dr, d, s0, s1, p0, p1, ox, orr, od, n0, n1, m0, m1, k1, k2, k3, k4, h1, h2, hod, hdm, rfl⟩ := H.ex
  exact ⟨dx, rg, ox, h1, .head _, .tail _ (.head _)⟩
theorem MapS.open {M : Led} {x : Addr} {l t wd ht : Int} {f : Int → Int → Int} {C : Prop} (H : MapS M x l t wd ht f) (k : ∀ (dx al : Addr) (q1 q2 q3 q4 q5 : Int) (k1 k2 k3 k4 k5 k6 k7 k8 k9 : Tok) (n : Nat), (x, instObj 96 dx) ∈ M → (dx, dictOf [⟨q1, .str (Str.ofString "left") k1, .int l k2⟩, ⟨q2, .str (Str.ofString "top") k3, .int t k4⟩, ⟨q3, .str (Str.ofString "width") k5, .int wd k6⟩, ⟨q4, .str (Str.ofString "height") k7, .int ht k8⟩, ⟨q5, .str (Str.ofString "alphas") k9, .ref al⟩] n) ∈ M → C) : C := by
  obtain ⟨dx, al, od, ⟨q1, q2, q3, q4, q5, k1, k2, k3, k4, k5, k6, k7, k8, k9, n, rfl⟩, h1, h2⟩ := H.entries
  exact k dx al _ _ _ _ _ _ _ _ _ _ _ _ _ _ _ h1 h2
theorem RegS.open {prog : Program} {w : World} {M : Led} {x : Addr} {l wd : Int} {C : Prop} (H : RegS prog w M x l wd) (k : ∀ (dx rg : Addr) (q1 : Int) (k1 : Tok) (n : Nat), (x, instObj 124 dx) ∈ M → (dx, dictOf [⟨q1, .str (Str.ofString "region") k1, .ref rg⟩] n) ∈ M → C) : C := by
  obtain ⟨dx, rg, od, ⟨q1, k1, n, rfl⟩, h1, h2⟩ := H.entries
  exact k dx rg _ _ _ h1 h2
/-- a layer of a clip, within a ledger: what it tells of a dot -/
def LayerAt (w : World) (R : Led) (v : Value) (f : Int → Int → Int) : Prop :=
  (∀ a b, 0 ≤ f a b ∧ f a b ≤ 255) ∧ ((∃ x l t wd ht M, v = .ref x ∧ MapS M x l t wd ht f ∧ ∀ p ∈ M, p ∈ R) ∨ (∃ x l wd M, v = .ref x ∧ RegS lawProg w M x l wd ∧ f = regF l wd ∧ ∀ p ∈ M, p ∈ R))
def LaysAt (w : World) (R : Led) (vs : List Value) (fs : List (Int → Int → Int)) : Prop := vs.length = fs.length ∧ ∀ (i : Nat) v f, vs[i]? = some v → fs[i]? = some f → LayerAt w R v f
def IsClipDict (od : Obj) (ll : Addr) : Prop := ∃ (q1 : Int) (k1 : Tok) (n : Nat), od = dictOf [⟨q1, .str (Str.ofString "layers") k1, .ref ll⟩] n
/-- a clip's own objects -/
def ClipAt (R : Led) (c : Addr) (vs : List Value) : Prop := ∃ (dc ll : Addr) (od : Obj) (n0 : Nat), IsClipDict od ll ∧ (c, instObj 173 dc) ∈ R ∧ (dc, od) ∈ R ∧ (ll, listOf vs.toArray n0) ∈ R
def prodF (fs : List (Int → Int → Int)) (u v : Int) : Int := fs.foldl (fun a f => wt a (f u v)) 255
theorem prod_zero (fs : List (Int → Int → Int)) (u v : Int) : fs.foldl (fun a f => wt a (f u v)) 0 = 0 := by
  induction fs with
  | nil => rfl
  | cons f r ih => rw [List.foldl_cons, wt_zero, ih]
theorem prod_step {fs : List (Int → Int → Int)} {i : Nat} {f : Int → Int → Int} (h : fs[i]? = some f) (u v : Int) : (fs.take (i + 1)).foldl (fun a f => wt a (f u v)) 255 = wt ((fs.take i).foldl (fun a f => wt a (f u v)) 255) (f u v) := by
  rw [List.take_add_one, h]; simp
theorem prod_early {fs : List (Int → Int → Int)} {i : Nat} {u v : Int} (h : (fs.take i).foldl (fun a f => wt a (f u v)) 255 = 0) : prodF fs u v = 0 := by
  unfold prodF
  rw [← List.take_append_drop i fs, List.foldl_append, h, prod_zero]
set_option maxRecDepth 100000 in
set_option maxHeartbeats 8000000 in
theorem clipAlpha_does {w : World} {c : Addr} {px py : Int} {t1 t2 : Tok} {news : Led} {vs : List Value} {fs : List (Int → Int → Int)} (hc : ClipAt news c vs) (hl : LaysAt w news vs fs) (hb : 0 ≤ px ∧ px < 3 ∧ 0 ≤ py ∧ py < 2) :
    Does w 6 170 [.ref c, .int px t1, .int py t2] news (fun r news' => (∃ tk, r = .int (prodF fs px py) tk) ∧ news' = news) := by
  obtain ⟨dc, ll, od, n0, ⟨q1, k1, n1, rfl⟩, hc1, hc2, hc3⟩ := hc
  obtain ⟨b1, b2, b3, b4⟩ := hb
  obtain ⟨hlen, hl⟩ := hl
  unfold Does
  k_fill
  intro p loose mean mg mb dp un gd cn cs ad ccd cl outer A₀ base h₀ L m s Q E B F X N T hk hd' hu hret
  replace N := News.of_sub (news' := (c, instObj 173 dc) :: (dc, _) :: (ll, listOf vs.toArray n0) :: news) N (sub_cons hc1 (sub_cons hc2 (sub_cons hc3 sub_refl)))
  refine wpAny_call ?_
  k_dflt ktr_enter
  (repeat' (first | ((fail_if_success (with_reducible show wpAny _ _ (pyIter _) _ _ _)); (fail_if_success (with_reducible show wpAny _ _ (exec (Stmt.For _ _ _ _ _) _) _ _ _)); first | (k_unfold; (try dsimp only)) | (k_end; wrow_close) | walk1 | (dsimp only; walk1) | (leave1; try dsimp only) | (dsimp only [TurnP])) | fail "no step"))
  walk_at "FOR"
  with_unfolding_all refine' loop_list1 (y := Str.ofString "found") (fun i u => ∃ a tk, u = .int a tk ∧ 0 ≤ a ∧ a ≤ 255 ∧ a = (fs.take i).foldl (fun a f => wt a (f px py)) 255) ?hhZ ?hlZ ?FZ ?NZ ?hyZ ?h0Z ?turnZ ?doneZ
  case hhZ => rfl
  case FZ => k_asm
  case NZ => k_asm
  case hlZ => k_mem
  case hyZ => rfl
  case h0Z => exact ⟨_, _, rfl, by decide, by decide, rfl⟩
  case doneZ =>
    intro v u h' tk' hJ0
    apply ex2e hJ0
    clear hJ0
    intro a tk hJ0
    apply and3 hJ0
    clear hJ0
    intro a0 a1 ha F' N'
    have e : a = prodF fs px py := by rw [ha, hlen, List.take_length]; rfl
    subst e
    dsimp only
    (repeat' (first | ((fail_if_success (with_reducible show wpAny _ _ (pyIter _) _ _ _)); (fail_if_success (with_reducible show wpAny _ _ (exec (Stmt.For _ _ _ _ _) _) _ _ _)); first | (k_unfold; (try dsimp only)) | (k_end; wrow_close) | walk1 | (dsimp only; walk1) | (leave1; try dsimp only) | (dsimp only [TurnP])) | fail "no step"))
    exact hret _ _ _ _ (by k_asm) (News.of_sub (by k_asm) (by walk_at "SUB")) ⟨⟨_, rfl⟩, rfl⟩
  case turnZ =>
    intro i v u h' tk' I o hv hJ0
    apply ex2e hJ0
    clear hJ0
    intro a tk hJ0
    apply and3 hJ0
    clear hJ0
    intro a0 a1 ha hoff F' N'
    have hi : i < fs.length := by have := (List.getElem?_eq_some_iff.mp hv).1; omega
    obtain ⟨hbnd, hkind⟩ := hl i v fs[i] hv (List.getElem?_eq_getElem hi)
    have hstep := prod_step (List.getElem?_eq_getElem hi) px py
    have hb0 := (hbnd px py).1
    have hb1 := (hbnd px py).2
    generalize fs[i] = f at hbnd hkind hstep hb0 hb1
    have hw0 := wt_lo (n := a) (a := f px py) a0 hb0
    have hw1 := wt_hi (n := a) hb0 a1 hb1
    rcases hkind with ⟨x, l, t, wd, ht, M, rfl, HM, hsub⟩ | ⟨x, l, wd, M, rfl, HM, rfl, hsub⟩
    · refine MapS.open HM ?_
      intro dx al q1 q2 q3 q4 q5 k1 k2 k3 k4 k5 k6 k7 k8 k9 n9 hx1 hx2
      replace N' := News.of_sub (news' := (x, instObj 96 dx) :: (dx, _) :: (I, o) :: _) N' (sub_cons (.tail _ (.tail _ (.tail _ (.tail _ (hsub _ hx1))))) (sub_cons (.tail _ (.tail _ (.tail _ (.tail _ (hsub _ hx2))))) sub_refl))
      (repeat' (first | ((fail_if_success (with_reducible show wpAny _ _ (pyIter _) _ _ _)); (fail_if_success (with_reducible show wpAny _ _ (exec (Stmt.For _ _ _ _ _) _) _ _ _)); first | (k_unfold; (try dsimp only)) | (k_end; wrow_close) | walk1 | (dsimp only; walk1) | (leave1; try dsimp only) | (dsimp only [TurnP])) | fail "no step"))
      · have hz : a = 0 := by assumption
        subst hz
        have e := prod_early ha.symm
        refine hret _ _ _ _ (by k_asm) (News.of_sub (by k_asm) ?_) ⟨⟨_, by rw [e]⟩, rfl⟩
        walk_at "SUB"
      · refine turnG (by k_asm) (News.of_sub (by k_asm) ?_) hoff ⟨rfl, ⟨_, by with_unfolding_all rfl, _, _, rfl, hw0, hw1, by rw [hstep, ← ha]⟩, ?_⟩
        · walk_at "SUB"
        · intro z h1 h2
          simp only [h1, h2, if_false]
    · refine RegS.open HM ?_
      intro dx rg q1 k1 n9 hx1 hx2
      replace N' := News.of_sub (news' := (x, instObj 124 dx) :: (dx, _) :: (I, o) :: _) N' (sub_cons (.tail _ (.tail _ (.tail _ (.tail _ (hsub _ hx1))))) (sub_cons (.tail _ (.tail _ (.tail _ (.tail _ (hsub _ hx2))))) sub_refl))
      (repeat' (first | ((fail_if_success (with_reducible show wpAny _ _ (pyIter _) _ _ _)); (fail_if_success (with_reducible show wpAny _ _ (exec (Stmt.For _ _ _ _ _) _) _ _ _)); first | (k_unfold; (try dsimp only)) | (k_end; wrow_close) | walk1 | (dsimp only; walk1) | (leave1; try dsimp only) | (dsimp only [TurnP])) | fail "no step"))
      · have hz : a = 0 := by assumption
        subst hz
        have e := prod_early ha.symm
        refine hret _ _ _ _ (by k_asm) (News.of_sub (by k_asm) ?_) ⟨⟨_, by rw [e]⟩, rfl⟩
        walk_at "SUB"
      · refine turnG (by k_asm) (News.of_sub (by k_asm) ?_) hoff ⟨rfl, ⟨_, by with_unfolding_all rfl, _, _, rfl, hw0, hw1, by rw [hstep, ← ha]⟩, ?_⟩
        · walk_at "SUB"
        · intro z h1 h2
          simp only [h1, h2, if_false]
theorem Off.app {M R : Led} {d : Addr} (h : Off (M ++ R) d) : Off M d ∧ Off R d := ⟨fun p hp => h p (List.mem_append_left _ hp), fun p hp => h p (List.mem_append_right _ hp)⟩
theorem Off.join {M R : Led} {d : Addr} (h : Off M d) (h' : Off R d) : Off (M ++ R) d := fun p hp => (List.mem_append.mp hp).elim (h p) (h' p)
theorem Off.same {M M' : Led} (hs : Same M M') {d : Addr} (h : Off M d) : Off M' d := fun p hp => by
  obtain ⟨p', h1, h2⟩ := hs p hp
  exact h2 ▸ h p' h1
theorem Off.sames {M M' R : Led} (hs : Same M M') (h : ∀ q ∈ R, Off M q.1) : ∀ q ∈ R, Off M' q.1 := fun q hq => Off.same hs (h q hq)
theorem MapS.congr {M : Led} {x : Addr} {l t wd ht : Int} {f f' : Int → Int → Int} (H : MapS M x l t wd ht f) (e : ∀ u v, f u v = f' u v) : MapS M x l t wd ht f' := by
  have : f = f' := by funext u v; exact e u v
  exact this ▸ H
/-- what a clip, or None, lets of a dot -/
def ClipV (w : World) (R : Led) (cv : Value) (P : Int → Int → Int) : Prop :=
  (cv = .none ∧ P = fun _ _ => 255) ∨ ∃ c vs fs, cv = .ref c ∧ ClipAt R c vs ∧ LaysAt w R vs fs ∧ P = prodF fs
theorem LayerAt.mono {w : World} {R R' : Led} {v : Value} {f : Int → Int → Int} (h : LayerAt w R v f) (hs : ∀ p ∈ R, p ∈ R') : LayerAt w R' v f := by
  obtain ⟨hb, h | h⟩ := h
  · obtain ⟨x, l, t, wd, ht, M, e, H, hsub⟩ := h
    exact ⟨hb, .inl ⟨x, l, t, wd, ht, M, e, H, fun p hp => hs p (hsub p hp)⟩⟩
  · obtain ⟨x, l, wd, M, e, H, e2, hsub⟩ := h
    exact ⟨hb, .inr ⟨x, l, wd, M, e, H, e2, fun p hp => hs p (hsub p hp)⟩⟩
theorem LaysAt.mono {w : World} {R R' : Led} {vs : List Value} {fs : List (Int → Int → Int)} (h : LaysAt w R vs fs) (hs : ∀ p ∈ R, p ∈ R') : LaysAt w R' vs fs := ⟨h.1, fun i v f h1 h2 => (h.2 i v f h1 h2).mono hs⟩
theorem ClipAt.mono {R R' : Led} {c : Addr} {vs : List Value} (h : ClipAt R c vs) (hs : ∀ p ∈ R, p ∈ R') : ClipAt R' c vs := by
  obtain ⟨dc, ll, od, n0, h1, h2, h3, h4⟩ := h
  exact ⟨dc, ll, od, n0, h1, hs _ h2, hs _ h3, hs _ h4⟩
theorem ClipV.mono {w : World} {R R' : Led} {cv : Value} {P : Int → Int → Int} (h : ClipV w R cv P) (hs : ∀ p ∈ R, p ∈ R') : ClipV w R' cv P := by
  rcases h with h | ⟨c, vs, fs, e, h1, h2, h3⟩
  · exact .inl h
  · exact .inr ⟨c, vs, fs, e, h1.mono hs, h2.mono hs, h3⟩
theorem prod_bounds {w : World} {R : Led} {vs : List Value} {fs : List (Int → Int → Int)} (h : LaysAt w R vs fs) (u v : Int) : 0 ≤ prodF fs u v ∧ prodF fs u v ≤ 255 := by
  have hf : ∀ f ∈ fs, 0 ≤ f u v ∧ f u v ≤ 255 := by
    intro f hf
    obtain ⟨i, hi⟩ := List.mem_iff_getElem?.mp hf
    have hlt := (List.getElem?_eq_some_iff.mp hi).1
    have hlt' : i < vs.length := by rw [h.1]; exact hlt
    exact (h.2 i vs[i] f (List.getElem?_eq_getElem hlt') hi).1 u v
  have go : ∀ (fs : List (Int → Int → Int)) (a : Int), (∀ f ∈ fs, 0 ≤ f u v ∧ f u v ≤ 255) → 0 ≤ a → a ≤ 255 → 0 ≤ fs.foldl (fun a f => wt a (f u v)) a ∧ fs.foldl (fun a f => wt a (f u v)) a ≤ 255 := by
    intro fs
    induction fs with
    | nil => intro a _ h0 h1; exact ⟨h0, h1⟩
    | cons f r ih =>
      intro a hf h0 h1
      rw [List.foldl_cons]
      have hb := hf f (.head _)
      exact ih _ (fun g hg => hf g (.tail _ hg)) (wt_lo h0 hb.1) (wt_hi hb.1 h1 hb.2)
  exact go fs 255 hf (by decide) (by decide)
theorem ClipV.bounds {w : World} {R : Led} {cv : Value} {P : Int → Int → Int} (h : ClipV w R cv P) (u v : Int) : 0 ≤ P u v ∧ P u v ≤ 255 := by
  rcases h with ⟨_, rfl⟩ | ⟨c, vs, fs, e, h1, h2, rfl⟩
  · exact ⟨by show (0 : Int) ≤ 255; decide, by show (255 : Int) ≤ 255; decide⟩
  · exact prod_bounds h2 u v
theorem lines21 : True := by
  k_with "M call ref" => ((k_here; (with_reducible show wpAny _ _ (call (Value.ref 170) [_, _, _]) _ _ _); k_dflt (refine' Does.useI (by k_asm) (by k_asm) (by k_asm) (by k_asm) (by k_asm) (by first | exact rfl | assumption) (by ktr_room) (by ktr_units) (clipAlpha_does (by first | assumption | exact ClipAt.mono (by assumption) (by walk_at "SUB")) (by first | assumption | exact LaysAt.mono (by assumption) (by walk_at "SUB")) (by walk_at "OM")) ?_; k_whole); walk_at "END"))
  exact True.intro
set_option maxRecDepth 100000 in
set_option maxHeartbeats 8000000 in
theorem clipped_does {w : World} {cv : Value} {P : Int → Int → Int} {px py : Int} {t1 t2 : Tok} {news : Led} (hc : ClipV w news cv P) (hb : 0 ≤ px ∧ px < 3 ∧ 0 ≤ py ∧ py < 2 ∨ cv = .none) :
    Does w 7 184 [cv, .int px t1, .int py t2] news (fun r news' => (∃ tk, r = .int (P px py) tk) ∧ news' = news) := by
  unfold Does
  k_fill
  intro p loose mean mg mb dp un gd cn cs ad ccd cl outer A₀ base h₀ L m s Q E B F X N T hk hd' hu hret
  rcases hc with ⟨rfl, rfl⟩ | ⟨c, vs, fs, rfl, hc, hl, rfl⟩
  · refine wpAny_call ?_
    k_dflt ktr_enter
    (repeat' (first | ((fail_if_success (with_reducible show wpAny _ _ (pyIter _) _ _ _)); (fail_if_success (with_reducible show wpAny _ _ (exec (Stmt.For _ _ _ _ _) _) _ _ _)); first | (k_unfold; (try dsimp only)) | (k_end; wrow_close) | walk1 | (dsimp only; walk1) | (leave1; try dsimp only) | (dsimp only [TurnP])) | fail "no step"))
    exact hret _ _ _ _ (by k_asm) (by k_asm) ⟨⟨_, rfl⟩, rfl⟩
  · have hb' := hb.resolve_right (by intro e; cases e)
    obtain ⟨dc, ll, od, n0, ⟨q1, k1, n1, rfl⟩, hc1, hc2, hc3⟩ := id hc
    obtain ⟨b1, b2, b3, b4⟩ := hb'
    replace N := News.of_sub (news' := (c, instObj 173 dc) :: (dc, _) :: news) N (sub_cons hc1 (sub_cons hc2 sub_refl))
    refine wpAny_call ?_
    k_dflt ktr_enter
    (repeat' (first | ((fail_if_success (with_reducible show wpAny _ _ (pyIter _) _ _ _)); (fail_if_success (with_reducible show wpAny _ _ (exec (Stmt.For _ _ _ _ _) _) _ _ _)); first | (k_unfold; (try dsimp only)) | (k_end; wrow_close) | walk1 | (dsimp only; walk1) | (leave1; try dsimp only) | (dsimp only [TurnP])) | fail "no step"))
    exact hret _ _ _ _ (by k_asm) (News.of_sub (by k_asm) (by walk_at "SUB")) ⟨⟨_, rfl⟩, rfl⟩
theorem off_all {M R T : Led} (h1 : ∀ q ∈ M, Off T q.1) (h2 : ∀ q ∈ R, Off T q.1) : ∀ q ∈ M ++ R, Off T q.1 := fun q hq => (List.mem_append.mp hq).elim (h1 q) (h2 q)
theorem off_symm {M T : Led} (h : ∀ q ∈ M, Off T q.1) : ∀ q ∈ T, Off M q.1 := fun q hq p hp e => h p hp q hq e.symm
theorem off_lt1 {k : Addr} {T R : Led} (h : AllLt k (T ++ R)) : Off T k := fun p hp => Nat.ne_of_lt (allLt_mem h p (List.mem_append_left _ hp))
theorem off_lt2 {k : Addr} {T M R : Led} (h : AllLt k (T ++ (M ++ R))) : Off M k := fun p hp => Nat.ne_of_lt (allLt_mem h p (List.mem_append_right _ (List.mem_append_left _ hp)))
theorem lines22 : True := by
  k_with "M UPDL" => (first | exact UpdL.here | exact UpdL.fst (by assumption) | exact UpdL.fst (off_all (by assumption) (by assumption)) | (refine' UpdL.cons (by first | assumption | exact (Off.app (by assumption)).1 | exact off_lt1 (by walk_at "LT") | exact off_lt2 (by walk_at "LT")) (by walk_at "UPDL")) | (refine' UpdL.app (by assumption) (by walk_at "UPDL")))
  k_with "M call ref" => ((k_here; (with_reducible show wpAny _ _ (call (Value.ref 96) [_, _, _, _]) _ _ _); k_dflt (refine' Does.useM (by k_asm) (by k_asm) (by k_asm) (by k_asm) (by k_asm) (by first | exact rfl | assumption) (by ktr_room) (by ktr_units) (init_does (by walk_at "OM") (by omega)) ?_; k_whole); walk_at "END"))
  k_with "M call ref" => ((k_here; (with_reducible show wpAny _ _ (call (Value.ref 184) [_, _, _]) _ _ _); k_dflt (refine' Does.useI (by k_asm) (by k_asm) (by k_asm) (by k_asm) (by k_asm) (by first | exact rfl | assumption) (by ktr_room) (by ktr_units) (clipped_does (by first | assumption | exact ClipV.mono (by assumption) (by walk_at "SUB")) (by first | assumption | exact .inl ⟨by omega, by omega, by omega, by omega⟩ | exact .inr rfl)) ?_; k_whole); walk_at "END"))
  k_with "M call ref" => ((k_here; (with_reducible show wpAny _ _ (call (Value.ref 93) [_, _, _, _]) _ _ _); k_dflt (refine' Does.useG (by k_asm) (by k_asm) (by k_asm) (by k_asm) (by k_asm) (by first | exact rfl | assumption) (by ktr_room) (by ktr_units) (put_does (by assumption) (by walk_at "OM") (by first | assumption | omega) (by first | assumption | omega) (by walk_at "OM") (by walk_at "UPDL")) ?_; k_whole); walk_at "END"))
  exact True.intro
theorem Off.swap {q : Addr × Obj} {M M' R : Led} {d : Addr} (h : Off (q :: (M ++ R)) d) (hs : Same M M') : Off (q :: (M' ++ R)) d := fun p hp => by
  rcases List.mem_cons.mp hp with rfl | hp
  · exact h _ (.head _)
  · rcases List.mem_append.mp hp with hp | hp
    · exact Off.same hs (fun p hp => h p (.tail _ (List.mem_append_left _ hp))) p hp
    · exact h p (.tail _ (List.mem_append_right _ hp))
/-- the dots of a rectangle ahead of (y, x), row by row -/
def upTo (P : Int → Int → Int) (l t wd ht y x : Int) : Int → Int → Int := fun u v => if (v < y ∨ (v = y ∧ u < x)) ∧ l ≤ u ∧ u < l + wd ∧ t ≤ v ∧ v < t + ht then P u v else 0
theorem upTo_start (P : Int → Int → Int) (l t wd ht : Int) (u v : Int) : (fun _ _ => 0 : Int → Int → Int) u v = upTo P l t wd ht t l u v := by
  unfold upTo; rw [if_neg (by omega)]
theorem upTo_step {P : Int → Int → Int} {l t wd ht y x : Int} (hx : l ≤ x) (hx2 : x < l + wd) (hy : t ≤ y) (hy2 : y < t + ht) (u v : Int) : putF (upTo P l t wd ht y x) x y (P x y) u v = upTo P l t wd ht y (x + 1) u v := by
  unfold putF upTo
  by_cases h : u = x ∧ v = y
  · obtain ⟨rfl, rfl⟩ := h
    rw [if_pos ⟨rfl, rfl⟩, if_pos (by omega)]
  · rw [if_neg h]
    by_cases h2 : (v < y ∨ (v = y ∧ u < x)) ∧ l ≤ u ∧ u < l + wd ∧ t ≤ v ∧ v < t + ht
    · rw [if_pos h2, if_pos (by omega)]
    · rw [if_neg h2, if_neg (by omega)]
theorem upTo_row {P : Int → Int → Int} {l t wd ht y : Int} (u v : Int) : upTo P l t wd ht y (l + wd) u v = upTo P l t wd ht (y + 1) l u v := by
  unfold upTo
  by_cases h2 : (v < y ∨ (v = y ∧ u < l + wd)) ∧ l ≤ u ∧ u < l + wd ∧ t ≤ v ∧ v < t + ht
  · rw [if_pos h2, if_pos (by omega)]
  · rw [if_neg h2, if_neg (by omega)]
def within (P : Int → Int → Int) (l t wd ht : Int) : Int → Int → Int := fun u v => if l ≤ u ∧ u < l + wd ∧ t ≤ v ∧ v < t + ht then P u v else 0
theorem upTo_end {P : Int → Int → Int} {l t wd ht : Int} (u v : Int) : upTo P l t wd ht (t + ht) l u v = within P l t wd ht u v := by
  unfold upTo within
  by_cases h2 : l ≤ u ∧ u < l + wd ∧ t ≤ v ∧ v < t + ht
  · rw [if_pos h2, if_pos (by omega)]
  · rw [if_neg h2, if_neg (by omega)]
set_option maxRecDepth 100000 in
set_option maxHeartbeats 8000000 in
theorem flat_does {w : World} {cv : Value} {P : Int → Int → Int} {l t wd ht : Int} {t1 t2 t3 t4 : Tok} {news : Led} (hc : ClipV w news cv P) (hb : 0 ≤ l ∧ 0 < wd ∧ l + wd ≤ 3 ∧ 0 ≤ t ∧ 0 < ht ∧ t + ht ≤ 2) :
    Does w 8 226 [cv, .int l t1, .int t t2, .int wd t3, .int ht t4] news (fun r news' => ∃ (M : Led) (x : Addr), r = .ref x ∧ MapS M x l t wd ht (within P l t wd ht) ∧ (∀ q ∈ news, Off M q.1) ∧ news' = M ++ news) := by
  obtain ⟨b1, b2, b3, b4, b5, b6⟩ := hb
  have hP := hc.bounds
  unfold Does
  k_fill
  intro p loose mean mg mb dp un gd cn cs ad ccd cl outer A₀ base h₀ L m s Q E B F X N T hk hd' hu hret
  refine wpAny_call ?_
  k_dflt ktr_enter
  (repeat' (first | ((fail_if_success (with_reducible show wpAny _ _ (pyIter _) _ _ _)); (fail_if_success (with_reducible show wpAny _ _ (exec (Stmt.For _ _ _ _ _) _) _ _ _)); first | (k_unfold; (try dsimp only)) | (k_end; wrow_close) | walk1 | (dsimp only; walk1) | (leave1; try dsimp only) | (dsimp only [TurnP])) | fail "no step"))
  rename_i M0 x0 hM0 hoff0 _ _ _
  walk_at "FOR"
  with_unfolding_all refine' loop_rangeF [Str.ofString "x"] (fun y nx => ∃ M, nx = M ++ news ∧ MapS M x0 l t wd ht (upTo P l t wd ht y l) ∧ ∀ q ∈ news, Off M q.1) ?hhZ ?hrZ ?hsmZ ?habZ ?FZ ?NZ ?hjZ ?turnZ ?doneZ
  case hhZ => rfl
  case hrZ => assumption
  case hsmZ => exact small_one (by omega) (by omega) (by omega) (by omega)
  case habZ => omega
  case FZ => k_asm
  case NZ => k_asm
  case hjZ => exact ⟨M0, rfl, hM0.congr (upTo_start P l t wd ht), hoff0⟩
  case doneZ =>
    intro u nx h' tk' hJ0
    apply ex1e hJ0
    clear hJ0
    intro M hJ0
    apply and2 hJ0
    clear hJ0
    intro hM hoff F' N'
    dsimp only
    (repeat' (first | ((fail_if_success (with_reducible show wpAny _ _ (pyIter _) _ _ _)); (fail_if_success (with_reducible show wpAny _ _ (exec (Stmt.For _ _ _ _ _) _) _ _ _)); first | (k_unfold; (try dsimp only)) | (k_end; wrow_close) | walk1 | (dsimp only; walk1) | (leave1; try dsimp only) | (dsimp only [TurnP])) | fail "no step"))
    exact hret _ _ _ _ (by k_asm) (by k_asm) ⟨M, x0, rfl, hM.congr upTo_end, hoff, rfl⟩
  case turnZ =>
    intro y ty u nx h' tk' I o hy1 hy2 hJ0
    apply ex1e hJ0
    clear hJ0
    intro M hJ0
    apply and2 hJ0
    clear hJ0
    intro hM hoff hI F' N'
    (repeat' (first | ((fail_if_success (with_reducible show wpAny _ _ (pyIter _) _ _ _)); (fail_if_success (with_reducible show wpAny _ _ (exec (Stmt.For _ _ _ _ _) _) _ _ _)); first | (k_unfold; (try dsimp only)) | (k_end; wrow_close) | walk1 | (dsimp only; walk1) | (leave1; try dsimp only) | (dsimp only [TurnP])) | fail "no step"))
    walk_at "FOR"
    have hIM := (Off.app hI).1
    with_unfolding_all refine' loop_rangeF [] (fun x nx => ∃ M, nx = (I, o) :: (M ++ news) ∧ MapS M x0 l t wd ht (upTo P l t wd ht y x) ∧ (∀ q ∈ news, Off M q.1) ∧ Off M I) ?hh2Z ?hr2Z ?hsm2Z ?hab2Z ?F2Z ?N2Z ?hj2Z ?turn2Z ?done2Z
    case hh2Z => rfl
    case hr2Z => assumption
    case hsm2Z => exact small_one (by omega) (by omega) (by omega) (by omega)
    case hab2Z => omega
    case F2Z => k_asm
    case N2Z => k_asm
    case hj2Z => exact ⟨M, rfl, hM, hoff, hIM⟩
    case done2Z =>
      intro u2 nx h2 tk2 hJ0
      apply ex1e hJ0
      clear hJ0
      intro M2 hJ0
      apply and3 hJ0
      clear hJ0
      intro hM2 hoff2 hI2 F2 N2
      (repeat' (first | ((fail_if_success (with_reducible show wpAny _ _ (pyIter _) _ _ _)); (fail_if_success (with_reducible show wpAny _ _ (exec (Stmt.For _ _ _ _ _) _) _ _ _)); first | (k_unfold; (try dsimp only)) | (k_end; wrow_close) | walk1 | (dsimp only; walk1) | (leave1; try dsimp only) | (dsimp only [TurnP])) | fail "no step"))
      refine turnF (by k_asm) (by k_asm) (Off.join hI2 (Off.app hI).2) ⟨M2, rfl, hM2.congr upTo_row, hoff2⟩ ?_
      intro z h1 h2
      simp only [List.contains_cons, List.contains_nil, Bool.or_false, beq_eq_false_iff_ne, ne_eq] at h2
      simp [h1, h2]
    case turn2Z =>
      intro x tx u2 nx h2 tk2 I2 o2 hx1 hx2 hJ0
      apply ex1e hJ0
      clear hJ0
      intro M2 hJ0
      apply and3 hJ0
      clear hJ0
      intro hM2 hoff2 hI2 hI3 F2 N2
      have hp0 := (hP x y).1
      have hp1 := (hP x y).2
      have hI4 : Off M2 I2 := fun p hp => hI3 p (.tail _ (List.mem_append_left _ hp))
      refine MapS.open hM2 ?_
      intro dx al q1 q2 q3 q4 q5 k1 k2 k3 k4 k5 k6 k7 k8 k9 n9 hx3 hx4
      (repeat' (first | ((fail_if_success (with_reducible show wpAny _ _ (pyIter _) _ _ _)); (fail_if_success (with_reducible show wpAny _ _ (exec (Stmt.For _ _ _ _ _) _) _ _ _)); first | (k_unfold; (try dsimp only)) | (k_end; wrow_close) | walk1 | (dsimp only; walk1) | (leave1; try dsimp only) | (dsimp only [TurnP])) | fail "no step"))
      rename MapS _ _ _ _ _ _ (putF _ _ _ _) => hM3
      rename Same _ _ => hs3
      refine turnF (by k_asm) (by k_asm) (Off.swap hI3 hs3) ⟨_, rfl, hM3.congr (upTo_step hx1 hx2 hy1 hy2), Off.sames hs3 hoff2, Off.same hs3 hI2⟩ ?_
      intro z h1 h2
      simp [h1]
open PySem PySem.W PyProof.Rows PySem.Spec PyProof.V
abbrev pairO (u v : Int) (tu tv : Tok) : Obj := { cls := .type "tuple", data := .seq (List.toArray [Value.int u tu, Value.int v tv]) }
theorem pair_key (prog : Program) (w : World) (u v : Int) (tu tv : Tok) : TupKeyObj (intKind prog w) [u, v] (pairO u v tu tv) :=
  TupKeyObj.made (ItemsAre.cons (intKind_is _ _ _ _) (ItemsAre.cons (intKind_is _ _ _ _) ItemsAre.nil))
/-- a dict by pairs of ints: its object and its keys' -/
structure ToldS (prog : Program) (w : World) (T : Led) (d : Addr) (xs : List (List Int × Addr × Value)) : Prop where
  low : (d == sysModules) = false
  ex : ∃ o es ep, (d, o) ∈ T ∧ o.ExactDict ∧ o.data = .dict es ep ∧ es.toList = xs.map (entryOfKey (tupleKind (intKind prog w)))
  nodup : (xs.map (·.1)).Nodup
  keys : ∀ x ∈ xs, ∃ u v tu tv, x.1 = [u, v] ∧ (x.2.1, pairO u v tu tv) ∈ T
section
variable {prog : Program} {w : World} {A : Around} {E : Value → Shared → Prop} {s : Shared} {h₀ h : Heap} {L d a : Addr} {m : Str → Option Value} {T news : Led} {xs : List (List Int × Addr × Value)} {u v : Int} {tu tv : Tok}
theorem ToldS.at (H : ToldS prog w T d xs) (N : News h₀ L h news) (hs : ∀ p ∈ T, p ∈ news) : h.DictOfH (tupleKind (intKind prog w)) d xs := by
  obtain ⟨o, es, ep, h1, h2, h3, h4⟩ := H.ex
  refine ⟨o, es, ep, (N _ (hs _ h1)).1, h2, h3, h4, fun x hx => ?_, H.nodup⟩
  obtain ⟨u, v, tu, tv, e, hm⟩ := H.keys x hx
  rw [e]
  exact (pair_key prog w u v tu tv).key (N _ (hs _ hm)).1
theorem told_method {pl : Sem Bool} {Q : Value × List Value → Shared → Prop} (H : ToldS prog w T d xs) (N : News h₀ L s.heap news) (hs : ∀ p ∈ T, p ∈ news) (h : Q (.builtin "dict.get", [.ref d]) s) :
    wpAny (model prog w) A (getMethod (.ref d) (Str.ofString "get") pl) Q E s :=
  getMethod_builtin (H.at N hs).typeIs PySem.F.plainAttrs_dict PySem.F.slot_dict_get PySem.F.type_dict_get (dictOfH_noDict (H.at N hs)) h
theorem told_get {dflt : Value} {Q : Value → Shared → Prop} (hu : A.units + 1 < cLine) (N : News h₀ L s.heap news) (H : ToldS prog w T d xs) (hs : ∀ p ∈ T, p ∈ news) (hka : (a, pairO u v tu tv) ∈ news)
    (h : ∀ tk, Q (((atKey xs [u, v]).map (·.2)).getD dflt) { s with toks := tk }) :
    wpAny (model prog w) A (call (.builtin "dict.get") [.ref d, .ref a, dflt]) Q E s :=
  call_meetsIn PySem.F.slot_dict_get (H.at N hs).typeIs PySem.F.entry_dict_get (PySem.F.args_dict_get_3 _ _ _) (meetsH_dict_get_default (tupleKind (intKind prog w)) d a H.low dflt)
    ⟨tupleKind_room_in1 hu, [u, v], xs, (pair_key prog w u v tu tv).key (N _ hka).1, H.at N hs, h _⟩
theorem told_item {value slice : PySem.Expr} {p : Addr × Value} {Q : Value → Shared → Prop} (hu : A.units + 1 < cLine) (N : News h₀ L s.heap news) (H : ToldS prog w T d xs) (hs : ∀ p ∈ T, p ∈ news) (hka : (a, pairO u v tu tv) ∈ news)
    (hp : atKey xs [u, v] = some p) (h : ∀ tk, Q p.2 { s with toks := tk })
    (hsub : subscripted slice false (.ref d) (.ref a) = operate [.ref d, .ref a] (getItem (.ref d) (.ref a)) := by with_unfolding_all rfl) :
    wpAny (model prog w) A (subscriptTail value slice (.ref d) (.ref a)) Q E s :=
  tail_any (H.at N hs).typeIs slot_dict_getitem.lookup (wpAny_getItem_heap (knd := tupleKind (intKind prog w)) (tupleKind_room_in1 hu) ((pair_key prog w u v tu tv).key (N _ hka).1) (H.at N hs) hp (h _)) hsub
/-- the places of a told dict behind a store -/
def Grown (a : Addr) (T T' : Led) : Prop := ∀ p ∈ T', p.1 = a ∨ ∃ p' ∈ T, p'.1 = p.1
theorem Off.grown {a e : Addr} {T T' : Led} (hg : Grown a T T') (h : Off T e) (hne : a ≠ e) : Off T' e := fun p hp => by
  rcases hg p hp with q | ⟨p', h1, h2⟩
  · rw [q]; exact hne
  · exact h2 ▸ h p' h1
theorem told_put {val : Value} {g : Led → Led} {Q : Unit → Shared → Prop} (hu : A.units + 1 < cLine) (F : Fr h₀ L s.heap m) (N : News h₀ L s.heap news) (H : ToldS prog w T d xs) (U : UpdL T news g) (hka : (a, pairO u v tu tv) ∈ news)
    (hsz : xs.length ≤ sizeLine)
    (h : ∀ h' T' tk, Fr h₀ L h' m → News h₀ L h' (g T') → ToldS prog w T' d (storedH xs [u, v] a val) → Grown a T T' → Q () { s with heap := h', toks := tk }) :
    wpAny (model prog w) A (setItem (.ref d) (.ref a) val) Q E s := by
  obtain ⟨B, hB, hin, hout, hg⟩ := U
  have hTs : ∀ p ∈ T, p ∈ news := fun p hp => hin p (List.mem_append_left _ hp)
  obtain ⟨o, es, ep, h1, h2, h3, h4⟩ := H.ex
  have hN := N _ (hTs _ h1)
  refine wpAny_setItem_heap (hsz := hsz) (knd := tupleKind (intKind prog w)) (tupleKind_room_in1 hu) ((pair_key prog w u v tu tv).key (N _ hka).1) (H.at N hTs) fun h' hm' hsb => ?_
  obtain ⟨o', es', ep', ho', hc', hd', he', _, hn'⟩ := hm'
  have tup_ne : ∀ {b : Addr} {u v : Int} {tu tv : Tok}, (b, pairO u v tu tv) ∈ news → b ≠ d := by
    intro b u v tu tv hb e
    subst e
    have q : some (pairO u v tu tv) = some o := (N _ hb).1.symm.trans hN.1
    have q2 := Option.some.inj q
    rw [← q2] at h2
    have h5 := h2.1
    injection h5 with h6
    exact absurd h6 (by decide)
  have keep : ∀ p ∈ news, p.1 ≠ d → h'.get? p.1 = some p.2 := fun p hp hne => (hsb.2 _ hne).trans (N p hp).1
  have inT : ∀ p ∈ T, p.1 ≠ d → p ∈ (a, pairO u v tu tv) :: T.map fun p => if p.1 = d then (d, o') else p := fun p hp hne => .tail _ (List.mem_map.mpr ⟨p, hp, by simp [hne]⟩)
  refine h h' ((a, pairO u v tu tv) :: T.map fun p => if p.1 = d then (d, o') else p) _ (F.change hsb hN.2.1 hN.2.2) (fun p hp => ?_) ⟨H.low, ⟨o', es', ep', .tail _ (List.mem_map.mpr ⟨(d, o), h1, by simp⟩), hc', hd', he'⟩, hn', fun x hx => ?_⟩ fun p hp => ?_
  · rcases List.mem_append.mp ((hg _).2 p hp) with q | q
    · rcases List.mem_cons.mp q with q | q
      · rw [q]; exact ⟨keep _ hka (tup_ne hka), (N _ hka).2⟩
      · obtain ⟨p0, hp0, e⟩ := List.mem_map.mp q
        by_cases hpd : p0.1 = d
        · rw [if_pos hpd] at e
          rw [← e]; exact ⟨ho', hN.2⟩
        · rw [if_neg hpd] at e
          rw [← e]; exact ⟨keep _ (hTs _ hp0) hpd, (N _ (hTs _ hp0)).2⟩
    · have hpn := hin p (List.mem_append_right _ q)
      exact ⟨keep p hpn (fun e => hB p q _ h1 e.symm), (N p hpn).2⟩
  · rcases mem_storedH hx with ⟨y, hy, e1, e2⟩ | ⟨e1, e2⟩
    · obtain ⟨u', v', tu', tv', e3, hm⟩ := H.keys y hy
      refine ⟨u', v', tu', tv', e1.trans e3, ?_⟩
      rw [e2]
      exact inT _ hm (tup_ne (hTs _ hm))
    · exact ⟨u, v, tu, tv, e1, by rw [e2]; exact .head _⟩
  · rcases List.mem_cons.mp hp with q | q
    · exact .inl (by rw [q])
    · obtain ⟨p0, hp0, e⟩ := List.mem_map.mp q
      refine .inr ⟨p0, hp0, ?_⟩
      by_cases hpd : p0.1 = d
      · rw [if_pos hpd] at e; rw [← e]; exact hpd
      · rw [if_neg hpd] at e; rw [← e]
theorem told_new {K : Type} [DecidableEq K] {knd : KeyKind prog w K} {o : Obj} (lo : (d == sysModules) = false) (hd : o.IsDictOf knd []) : ToldS prog w [(d, o)] d [] := by
  obtain ⟨es, ep, hc, hdat, _, hp, _⟩ := hd
  have he : es.toList = [] := List.length_eq_zero_iff.mp hp.length
  exact ⟨lo, ⟨o, es, ep, .head _, hc, hdat, he⟩, List.nodup_nil, fun _ hx => nomatch hx⟩
end
/-- what the dict tells of a dot -/
def TellsF (xs : List (List Int × Addr × Value)) (f : Int → Int → Int) (a b : Int) : Prop := (∃ p tk, atKey xs [a, b] = some (p, .int (f a b) tk)) ∨ (atKey xs [a, b] = none ∧ f a b = 0)
theorem told_getF {prog : Program} {w : World} {A : Around} {E : Value → Shared → Prop} {s : Shared} {h₀ : Heap} {L d a : Addr} {T news : Led} {xs : List (List Int × Addr × Value)} {u v : Int} {tu tv t0 : Tok} {f : Int → Int → Int} {Q : Value → Shared → Prop}
    (hu : A.units + 1 < cLine) (N : News h₀ L s.heap news) (H : ToldS prog w T d xs) (hs : ∀ p ∈ T, p ∈ news) (hka : (a, pairO u v tu tv) ∈ news) (hf : TellsF xs f u v)
    (h : ∀ tk tk', Q (.int (f u v) tk) { s with toks := tk' }) : wpAny (model prog w) A (call (.builtin "dict.get") [.ref d, .ref a, .int 0 t0]) Q E s := by
  refine told_get hu N H hs hka fun tk => ?_
  rcases hf with ⟨p, tk2, e⟩ | ⟨e, e2⟩
  · rw [e]; exact h tk2 tk
  · rw [e]
    have := h t0 tk
    rw [e2] at this
    exact this
theorem lines23 : True := by
  k_with "M getMethod ref" => ((k_here; (with_reducible show wpAny _ _ (getMethod (Value.ref _) (Str.ofString "get") _) _ _ _); k_dflt (refine' told_method (by assumption) (by k_asm) (by walk_at "SUB") ?_; k_whole)))
  k_with "M call builtin:dict.get" => ((k_here; (with_reducible show wpAny _ _ (call (Value.builtin "dict.get") [Value.ref _, Value.ref _, Value.int 0 _]) _ _ _); k_dflt (refine' told_getF (by k_units) (by k_asm) (by assumption) (by walk_at "SUB") (by k_mem) (by assumption) ?_; k_whole); intros))
  exact True.intro
local macro_rules | `(tactic| walk_at "newTuple") => `(tactic| (k_here; k_dflt (refine' kup_newTuple ?F ?N ?_ ?z; (case F => k_asm); (case N => k_asm); (case z => kmk_size)); intro D' h' F' N' l1; (try k_lt l1); (try k_sweep)))
section
variable {prog : Program} {w : World} {A : Around} {E : Value → Shared → Prop} {s : Shared} {env : Env} {h₀ : Heap} {x : Str} {body : List Stmt} {Q : Flow → Shared → Prop}
/-- one name of the frame turns, others are forgotten, the ledger stands -/
def OneS (x y : Str) (stored : List Str) (P : Nat → Value → Prop) (m₀ : Str → Option Value) (news : Led) (i : Nat) (m : Str → Option Value) (nx : Led) : Prop :=
  nx = news ∧ (∃ u, m y = some u ∧ P i u) ∧ ∀ z, z ≠ x → z ≠ y → stored.contains z = false → m z = m₀ z
theorem oneS_eq {x y : Str} {stored : List Str} {m₁ m₀ : Str → Option Value} {u : Value} (hu : m₁ y = some u) (hm : ∀ z, z ≠ x → z ≠ y → stored.contains z = false → m₁ z = m₀ z) (a : Option Value) :
    (fun z => if z = x then a else m₁ z) = fun z => if z = x then a else if z = y then some u else if stored.contains z then m₁ z else m₀ z := by
  funext z
  by_cases h1 : z = x
  · simp [h1]
  · simp only [if_neg h1]
    by_cases h2 : z = y
    · subst h2; simp [hu]
    · simp only [if_neg h2]
      cases h3 : stored.contains z with
      | true => simp
      | false => simp only [Bool.false_eq_true, if_false]; exact hm z h1 h2 h3
theorem loop_listS {l : Addr} {vs : List Value} {c : Nat} {m₀ : Str → Option Value} {news : Led} {y : Str} {u₀ : Value} (stored : List Str) (P : Nat → Value → Prop)
    (hh : A.handled = none) (hl : (l, listOf vs.toArray c) ∈ news) (F : Fr h₀ env.locals s.heap m₀) (N : News h₀ env.locals s.heap news) (hy : m₀ y = some u₀) (h0 : P 0 u₀)
    (turn : ∀ i v u (q : Str → Option Value) h tk I o, vs[i]? = some v → P i u → Off news I → Fr h₀ env.locals h (fun z => if z = x then some v else if z = y then some u else if stored.contains z then q z else m₀ z) → News h₀ env.locals h ((I, o) :: news) →
      wpAny (model prog w) A (execs body env) (TurnP h₀ env.locals (OneS x y stored P m₀ news (i + 1)) I o { s with heap := h, toks := tk } Q) E { s with heap := h, toks := tk })
    (done : ∀ (q : Str → Option Value) u h tk, P vs.length u → Fr h₀ env.locals h (fun z => if z = x then q z else if z = y then some u else if stored.contains z then q z else m₀ z) → News h₀ env.locals h news → Q .next { s with heap := h, toks := tk }) :
    wpAny (model prog w) A (pyIter (.ref l)) (fun it s₂ => LoopAtV prog w A h₀ env x body Q E it s₂) E s := by
  refine loop_list (OneS x y stored P m₀ news) hh (fun i m nx h => h.1 ▸ hl) F N ⟨rfl, ⟨u₀, hy, h0⟩, fun _ _ _ _ => rfl⟩ ?_ ?_
  · rintro i v m₁ nx h tk I o hv ⟨rfl, ⟨u, hu, hP⟩, hm⟩ hoff F₁ N₁
    rw [oneS_eq hu hm] at F₁
    exact turn i v u m₁ h tk I o hv hP hoff F₁ N₁
  · rintro m₁ nx h tk ⟨rfl, ⟨u, hu, hP⟩, hm⟩ F₁ N₁
    refine done m₁ u h tk hP ?_ N₁
    have e : (fun z => if z = x then m₁ z else if z = y then some u else if stored.contains z then m₁ z else m₀ z) = m₁ := by
      funext z
      by_cases h1 : z = x
      · simp [h1]
      · simp only [if_neg h1]
        by_cases h2 : z = y
        · subst h2; simp [hu]
        · simp only [if_neg h2]
          cases h3 : stored.contains z with
          | true => simp
          | false => simp only [Bool.false_eq_true, if_false]; exact (hm z h1 h2 h3).symm
    rw [e]; exact F₁
end
theorem wt_law (n a : Int) : ((n * a).fdiv 255 + if decide (255 ≤ 2 * (n * a).fmod 255) = true then 1 else 0) = wt n a := by
  unfold wt
  rw [Int.mul_assoc]
  generalize n * a = z
  rw [Int.fdiv_eq_ediv_of_nonneg _ (by decide), Int.fdiv_eq_ediv_of_nonneg _ (by decide), Int.fmod_eq_emod_of_nonneg _ (by decide)]
  split <;> rename_i h <;> simp only [decide_eq_true_eq] at h <;> omega
/-- the law's own map of drawn alphas, within a ledger -/
def ToldAt (w : World) (R : Led) (v : Value) (f : Int → Int → Int) : Prop :=
  ∃ d T xs, v = .ref d ∧ ToldS lawProg w T d xs ∧ (∀ p ∈ T, p ∈ R) ∧ ∀ a b : Int, 0 ≤ a → a < 3 → 0 ≤ b → b < 2 → TellsF xs f a b
def ToldsAt (w : World) (R : Led) (vs : List Value) (fs : List (Int → Int → Int)) : Prop := vs.length = fs.length ∧ ∀ (i : Nat) v f, vs[i]? = some v → fs[i]? = some f → ToldAt w R v f ∧ ∀ a b, 0 ≤ f a b ∧ f a b ≤ 255
set_option maxRecDepth 100000 in
set_option maxHeartbeats 8000000 in
theorem product_does {w : World} {rl : Addr} {n0 : Nat} {px py : Int} {t1 t2 : Tok} {news : Led} {vs : List Value} {fs : List (Int → Int → Int)} (hr : (rl, listOf vs.toArray n0) ∈ news) (hl : ToldsAt w news vs fs) (hb : 0 ≤ px ∧ px < 3 ∧ 0 ≤ py ∧ py < 2) :
    Does w 2 419 [.ref rl, .int px t1, .int py t2] news (fun r news' => (∃ tk, r = .int (prodF fs px py) tk) ∧ news' = news) := by
  obtain ⟨b1, b2, b3, b4⟩ := hb
  obtain ⟨hlen, hl⟩ := hl
  unfold Does
  k_fill
  intro p loose mean mg mb dp un gd cn cs ad ccd cl outer A₀ base h₀ L m s Q E B F X N T hk hd' hu hret
  replace N := News.mem N hr
  refine wpAny_call ?_
  k_dflt ktr_enter
  (repeat' (first | ((fail_if_success (with_reducible show wpAny _ _ (pyIter _) _ _ _)); (fail_if_success (with_reducible show wpAny _ _ (exec (Stmt.For _ _ _ _ _) _) _ _ _)); first | (k_unfold; (try dsimp only)) | (k_end; wrow_close) | walk1 | (dsimp only; walk1) | (leave1; try dsimp only) | (dsimp only [TurnP])) | fail "no step"))
  walk_at "FOR"
  with_unfolding_all refine' loop_listS (y := Str.ofString "found") [Str.ofString "top"] (fun i u => ∃ a tk, u = .int a tk ∧ 0 ≤ a ∧ a ≤ 255 ∧ a = (fs.take i).foldl (fun a f => wt a (f px py)) 255) ?hhZ ?hlZ ?FZ ?NZ ?hyZ ?h0Z ?turnZ ?doneZ
  case hhZ => rfl
  case FZ => k_asm
  case NZ => k_asm
  case hlZ => k_mem
  case hyZ => rfl
  case h0Z => exact ⟨_, _, rfl, by decide, by decide, rfl⟩
  case doneZ =>
    intro v u h' tk' hJ0
    apply ex2e hJ0
    clear hJ0
    intro a tk hJ0
    apply and3 hJ0
    clear hJ0
    intro a0 a1 ha F' N'
    have e : a = prodF fs px py := by rw [ha, hlen, List.take_length]; rfl
    subst e
    dsimp only
    (repeat' (first | ((fail_if_success (with_reducible show wpAny _ _ (pyIter _) _ _ _)); (fail_if_success (with_reducible show wpAny _ _ (exec (Stmt.For _ _ _ _ _) _) _ _ _)); first | (k_unfold; (try dsimp only)) | (k_end; wrow_close) | walk1 | (dsimp only; walk1) | (leave1; try dsimp only) | (dsimp only [TurnP])) | fail "no step"))
    exact hret _ _ _ _ (by k_asm) (News.of_sub (by k_asm) (by walk_at "SUB")) ⟨⟨_, rfl⟩, rfl⟩
  case turnZ =>
    intro i v u q h' tk' I o hv hJ0
    apply ex2e hJ0
    clear hJ0
    intro a tk hJ0
    apply and3 hJ0
    clear hJ0
    intro a0 a1 ha hoff F' N'
    have hi : i < fs.length := by have := (List.getElem?_eq_some_iff.mp hv).1; omega
    obtain ⟨⟨d, M, xs, rfl, HT, hsub, hD⟩, hbnd⟩ := hl i v fs[i] hv (List.getElem?_eq_getElem hi)
    have hstep := prod_step (List.getElem?_eq_getElem hi) px py
    have hb0 := (hbnd px py).1
    have hb1 := (hbnd px py).2
    have hD' := hD px py b1 b2 b3 b4
    generalize fs[i] = f at hbnd hstep hb0 hb1 hD hD'
    (repeat' (first | ((fail_if_success (with_reducible show wpAny _ _ (pyIter _) _ _ _)); (fail_if_success (with_reducible show wpAny _ _ (exec (Stmt.For _ _ _ _ _) _) _ _ _)); first | (k_unfold; (try dsimp only)) | (k_end; wrow_close) | walk1 | (dsimp only; walk1) | (leave1; try dsimp only) | (dsimp only [TurnP])) | fail "no step"))
    have hw0 := wt_lo (n := a) (a := f px py) a0 hb0
    have hw1 := wt_hi (n := a) hb0 a1 hb1
    refine turnG (by k_asm) (News.of_sub (by k_asm) ?_) hoff ⟨rfl, ⟨_, by with_unfolding_all rfl, _, _, rfl, ?_, ?_, ?_⟩, ?_⟩
    · walk_at "SUB"
    · rw [wt_law]; exact hw0
    · rw [wt_law]; exact hw1
    · rw [wt_law, hstep, ← ha]
    · intro z h1 h2 h3
      have h4 := h3
      simp only [List.contains_cons, List.contains_nil, Bool.or_false, beq_eq_false_iff_ne, ne_eq] at h4
      simp [h1, h2, h4]
/-- one entry of the ledger turns, new ones come -/
theorem Does.updT {w : World} {need : Nat} {f : Addr} {vs : List Value} {news : Led} {src : Addr} {o : Obj} {P : Value → Obj → Led → Prop} {g : Obj → Led} (U : UpdF src o news g)
    (h : ∀ rest : Led, (∀ p ∈ rest, p.1 ≠ src) → (∀ p ∈ news, p.1 ≠ src → p ∈ rest) → Does w need f vs ((src, o) :: rest) (fun r news' => ∃ o' tl, P r o' tl ∧ (∀ q ∈ rest, Off tl q.1) ∧ Off tl src ∧ news' = tl ++ (src, o') :: rest)) :
    Does w need f vs news (fun r news' => ∃ o' tl, P r o' tl ∧ (∀ q ∈ news, Off tl q.1) ∧ news' = tl ++ g o') := by
  obtain ⟨pre, post, rfl, hg, h1, h2⟩ := U.split
  intro p loose mean mg mb dp un gd cn cs ad ccd cl outer A₀ base h₀ L m s Q E B F X N T hk hd' hu hret
  refine (h (pre ++ post) (fun p hp => (List.mem_append.mp hp).elim (h1 p) (h2 p)) (fun p hp hne => ?_)).use B F X (News.of_sub N fun p hp => ?_) T hk hd' hu fun r h' tk' news' F' N' hP => ?_
  · rcases List.mem_append.mp hp with q | q
    · exact List.mem_append_left _ q
    · rcases List.mem_cons.mp q with q | q
      · exact absurd (by rw [q]) hne
      · exact List.mem_append_right _ q
  · rcases List.mem_cons.mp hp with q | q
    · rw [q]; simp
    · rcases List.mem_append.mp q with q | q
      · exact List.mem_append_left _ q
      · exact List.mem_append_right _ (.tail _ q)
  · obtain ⟨o', tl, hp, ho1, ho2, rfl⟩ := hP
    refine hret r h' tk' (tl ++ g o') F' (News.of_sub N' fun p hp => ?_) ⟨o', tl, hp, fun q hq => ?_, rfl⟩
    · rcases List.mem_append.mp hp with q | q
      · exact List.mem_append_left _ q
      · refine List.mem_append_right _ ?_
        rw [hg] at q
        rcases List.mem_append.mp q with q | q
        · exact .tail _ (List.mem_append_left _ q)
        · rcases List.mem_cons.mp q with q | q
          · rw [q]; exact .head _
          · exact .tail _ (List.mem_append_right _ q)
    · rcases List.mem_append.mp hq with z | z
      · exact ho1 q (List.mem_append_left _ z)
      · rcases List.mem_cons.mp z with z | z
        · rw [z]; exact ho2
        · exact ho1 q (List.mem_append_right _ z)
/-- a pair of a layer and what it is told to be -/
def PairAt (w : World) (tl : Led) (r : Value) (f : Int → Int → Int) : Prop :=
  ∃ pr lv tv np, r = .ref pr ∧ (pr, listOf (List.toArray [lv, tv]) np) ∈ tl ∧ LayerAt w tl lv f ∧ ToldAt w tl tv f
/-- the state of the map's drawing -/
structure Drawing (w : World) (src x0 d : Addr) (l t wd ht : Int) (rest : Led) (n : Int) (o : Obj) (T M : Led) : Prop where
  so : SrcO o
  ex : ∃ f xs, MapS M x0 l t wd ht f ∧ ToldS lawProg w T d xs ∧ (∀ a b, TellsF xs f a b) ∧ (∀ a b, 0 ≤ f a b ∧ f a b ≤ 255) ∧ (xs.length : Int) ≤ n
  o1 : ∀ q ∈ rest, Off M q.1
  o2 : Off M src
  o3 : ∀ q ∈ rest, Off T q.1
  o4 : Off T src
  o5 : ∀ q ∈ T, Off M q.1
  o6 : ∀ q ∈ M, Off T q.1
theorem atKey_other {xs : List (List Int × Addr × Value)} {k k' : List Int} {a : Addr} {v : Value} (h : k' ≠ k) : atKey (storedH xs k a v) k' = atKey xs k' := by
  unfold storedH
  split
  · unfold atKey
    rw [List.find?_map]
    have e : ((fun x : List Int × Addr × Value => decide (x.1 = k')) ∘ putAt k v) = fun x => decide (x.1 = k') := by
      funext x
      unfold putAt
      by_cases hx : x.1 = k <;> simp [hx]
    rw [e, Option.map_map]
    cases hq : xs.find? (fun x => decide (x.1 = k')) with
    | none => rfl
    | some x =>
      have hx : x.1 = k' := by simpa using List.find?_some hq
      have hne : ¬ x.1 = k := fun e => h (hx.symm.trans e)
      simp [putAt, hne]
  · unfold atKey
    rw [List.find?_append]
    have : ([(k, a, v)] : List (List Int × Addr × Value)).find? (fun x => decide (x.1 = k')) = none := by
      simp [Ne.symm h]
    rw [this, Option.or_none]
theorem atKey_same {xs : List (List Int × Addr × Value)} {k : List Int} {a : Addr} {v : Value} : ∃ p, atKey (storedH xs k a v) k = some (p, v) := by
  unfold storedH
  split
  · rename_i hs
    unfold atKey at hs ⊢
    rw [List.find?_map]
    have e : ((fun x : List Int × Addr × Value => decide (x.1 = k)) ∘ putAt k v) = fun x => decide (x.1 = k) := by
      funext x
      unfold putAt
      by_cases hx : x.1 = k <;> simp [hx]
    rw [e]
    cases hq : xs.find? (fun x => decide (x.1 = k)) with
    | none => rw [hq] at hs; simp at hs
    | some x =>
      have hx : x.1 = k := by simpa using List.find?_some hq
      exact ⟨x.2.1, by simp [putAt, hx]⟩
  · rename_i hs
    unfold atKey at hs ⊢
    rw [List.find?_append]
    cases hq : xs.find? (fun x => decide (x.1 = k)) with
    | none => exact ⟨a, by simp⟩
    | some x => rw [hq] at hs; simp at hs
theorem storedH_length (xs : List (List Int × Addr × Value)) (k : List Int) (a : Addr) (v : Value) : (storedH xs k a v).length ≤ xs.length + 1 := by
  unfold storedH
  split <;> simp
theorem tells_put {xs : List (List Int × Addr × Value)} {f : Int → Int → Int} {x y a : Int} {ad : Addr} {tk : Tok} (h : ∀ u v, TellsF xs f u v) (u v : Int) : TellsF (storedH xs [x, y] ad (.int a tk)) (putF f x y a) u v := by
  by_cases e : u = x ∧ v = y
  · obtain ⟨rfl, rfl⟩ := e
    obtain ⟨p, hp⟩ := atKey_same (xs := xs) (k := [u, v]) (a := ad) (v := .int a tk)
    exact .inl ⟨p, tk, by rw [hp, putF, if_pos ⟨rfl, rfl⟩]⟩
  · have hne : ([u, v] : List Int) ≠ [x, y] := by
      intro q
      simp only [List.cons.injEq, and_true] at q
      exact e q
    have e2 : putF f x y a u v = f u v := by rw [putF, if_neg e]
    rcases h u v with ⟨p, tk2, h1⟩ | ⟨h1, h2⟩
    · exact .inl ⟨p, tk2, by rw [atKey_other hne, h1, e2]⟩
    · exact .inr ⟨by rw [atKey_other hne, h1], by rw [e2, h2]⟩
theorem Drawing.put {w : World} {src x0 d k : Addr} {l t wd ht x y a n : Int} {tk : Tok} {rest T M T' M' : Led} {o o' : Obj} {f : Int → Int → Int} {xs : List (List Int × Addr × Value)}
    (H : Drawing w src x0 d l t wd ht rest n o T M) (ho : SrcO o') (h1 : ∀ a b, TellsF xs f a b) (h2 : ∀ a b, 0 ≤ f a b ∧ f a b ≤ 255) (h3 : (xs.length : Int) ≤ n) (a0 : 0 ≤ a) (a1 : a ≤ 255)
    (hT : ToldS lawProg w T' d (storedH xs [x, y] k (.int a tk))) (hM : MapS M' x0 l t wd ht (putF f x y a)) (hg : Grown k T T') (hs : Same M M')
    (hk : AllLt k (T ++ (M ++ rest))) (hks : src < k) : Drawing w src x0 d l t wd ht rest (n + 1) o' T' M' := by
  have hkM : ∀ q ∈ M, q.1 < k := fun q hq => allLt_mem hk q (List.mem_append_right _ (List.mem_append_left _ hq))
  have hkR : ∀ q ∈ rest, q.1 < k := fun q hq => allLt_mem hk q (List.mem_append_right _ (List.mem_append_right _ hq))
  have o6' : ∀ q ∈ M', Off T' q.1 := fun q hq => by
    obtain ⟨q', hq', e⟩ := hs q hq
    rw [← e]
    exact Off.grown hg (H.o6 q' hq') (Nat.ne_of_gt (hkM q' hq'))
  refine ⟨ho, ⟨_, _, hM, hT, tells_put h1, fun u v => ?_, ?_⟩, Off.sames hs H.o1, Off.same hs H.o2, fun q hq => Off.grown hg (H.o3 q hq) (Nat.ne_of_gt (hkR q hq)), Off.grown hg H.o4 (Nat.ne_of_gt hks), off_symm o6', o6'⟩
  · unfold putF
    split
    · exact ⟨a0, a1⟩
    · exact h2 u v
  · have := storedH_length xs [x, y] k (.int a tk)
    omega
theorem Drawing.skip {w : World} {src x0 d : Addr} {l t wd ht n n' : Int} {rest T M : Led} {o o' : Obj} (H : Drawing w src x0 d l t wd ht rest n o T M) (ho : SrcO o') (hn : n ≤ n') : Drawing w src x0 d l t wd ht rest n' o' T M := by
  obtain ⟨f, xs, h1, h2, h3, h4, h5⟩ := H.ex
  exact ⟨ho, ⟨f, xs, h1, h2, h3, h4, by omega⟩, H.o1, H.o2, H.o3, H.o4, H.o5, H.o6⟩
theorem Drawing.close {w : World} {src x0 d pr : Addr} {l t wd ht n : Int} {rest T M : Led} {o : Obj} {np : Nat} (H : Drawing w src x0 d l t wd ht rest n o T M) (hl : AllLt pr (T ++ (M ++ rest))) (hs : src < pr) :
    (SrcO o ∧ ∃ f, PairAt w ((pr, listOf (List.toArray [Value.ref x0, Value.ref d]) np) :: (T ++ M)) (.ref pr) f) ∧ (∀ q ∈ rest, Off ((pr, listOf (List.toArray [Value.ref x0, Value.ref d]) np) :: (T ++ M)) q.1) ∧ Off ((pr, listOf (List.toArray [Value.ref x0, Value.ref d]) np) :: (T ++ M)) src := by
  obtain ⟨f, xs, h1, h2, h3, h4, h5⟩ := H.ex
  refine ⟨⟨H.so, f, pr, _, _, np, rfl, .head _, ⟨h4, .inl ⟨x0, l, t, wd, ht, M, rfl, h1, fun p hp => .tail _ (List.mem_append_right _ hp)⟩⟩, d, T, xs, rfl, h2, fun p hp => .tail _ (List.mem_append_left _ hp), fun a b _ _ _ _ => h3 a b⟩, fun q hq p hp => ?_, fun p hp => ?_⟩
  · rcases List.mem_cons.mp hp with rfl | hp
    · exact Nat.ne_of_gt (allLt_mem hl q (List.mem_append_right _ (List.mem_append_right _ hq)))
    · exact (Off.join (H.o3 q hq) (H.o1 q hq)) p hp
  · rcases List.mem_cons.mp hp with rfl | hp
    · exact Nat.ne_of_gt hs
    · exact (Off.join H.o4 H.o2) p hp
theorem Drawing.offT {w : World} {src x0 d k : Addr} {l t wd ht n : Int} {rest T T' M : Led} {o : Obj} (H : Drawing w src x0 d l t wd ht rest n o T M) (hg : Grown k T T') (hk : AllLt k (T ++ (M ++ rest))) : ∀ q ∈ T', Off M q.1 :=
  off_symm fun q hq => Off.grown hg (H.o6 q hq) (Nat.ne_of_gt (allLt_mem hk q (List.mem_append_right _ (List.mem_append_left _ hq))))
theorem off_turn {I I2 src : Addr} {o1 o' : Obj} {T M R : Led} (h1 : @Ne Nat I I2) (h2 : @Ne Nat src I2) (h3 : Off T I2) (h4 : Off M I2) (h5 : Off R I2) : Off ((I, o1) :: (src, o') :: (T ++ (M ++ R))) I2 := fun p hp => by
  rcases List.mem_cons.mp hp with rfl | hp
  · exact h1
  · rcases List.mem_cons.mp hp with rfl | hp
    · exact h2
    · exact (Off.join h3 (Off.join h4 h5)) p hp
set_option maxRecDepth 100000 in
set_option maxHeartbeats 8000000 in
theorem map_does {w : World} {src : Addr} {news : Led} {o : Obj} {g : Obj → Led} (U : UpdF src o news g) (ho : SrcO o) :
    Does w 4 407 [.ref src] news (fun r news' => ∃ o' tl, (SrcO o' ∧ ∃ f, PairAt w tl r f) ∧ (∀ q ∈ news, Off tl q.1) ∧ news' = tl ++ g o') := by
  refine Does.updT (P := fun r o' tl => SrcO o' ∧ ∃ f, PairAt w tl r f) U fun rest hr _ => ?_
  clear U
  unfold Does
  k_fill
  intro p loose mean mg mb dp un gd cn cs ad ccd cl outer A₀ base h₀ L m s Q E B F X N T hk hd' hu hret
  refine wpAny_call ?_
  k_dflt ktr_enter
  (repeat' (first | ((fail_if_success (with_reducible show wpAny _ _ (pyIter _) _ _ _)); (fail_if_success (with_reducible show wpAny _ _ (exec (Stmt.For _ _ _ _ _) _) _ _ _)); first | (k_unfold; (try dsimp only)) | (k_end; wrow_close) | walk1 | (dsimp only; walk1) | (leave1; try dsimp only) | (dsimp only [TurnP])) | fail "no step"))
  rename_i a1 a2 oa hoa l tl hl0 hl1 _ _ b1 b2 ob hob t tt ht0 ht1 _ _ D1 c1 lc1 c2 c3 c4 c5 d1 d2 oc hoc vw tvw hw0 hw1 _ _ e1 e2 oz hoz vh tvh hh0 hh1 _ _ D2 f1 lf1 f2 f3 f4 f5 i1 i2 M0 x0 hM0 hoff0 d j1 od lj lo0 hs0 fs0 hi0 fi0 D3 k1 lk k2 k3 k4 F0 N0
  have hxd : ∀ p ∈ M0, p.1 < d := fun p hp => lj p (List.mem_append_left _ hp)
  have hrd : ∀ p ∈ rest, p.1 < d := fun p hp => lj p (List.mem_append_right _ (.tail _ (.tail _ (.tail _ hp))))
  have hsd : src < d := lj (src, oz) (List.mem_append_right _ (.tail _ (.tail _ (.head _))))
  have hdr0 : Drawing w src x0 d l t (1 + vw) (1 + vh) rest 0 oz [(d, od)] M0 := {
    so := hoz
    ex := ⟨_, [], hM0, told_new lo0 hi0, fun a b => .inr ⟨rfl, rfl⟩, fun a b => ⟨Int.le_refl 0, by decide⟩, by decide⟩
    o1 := fun q hq => hoff0 q (.tail _ (.tail _ (.tail _ hq)))
    o2 := hoff0 (src, oz) (.tail _ (.tail _ (.head _)))
    o3 := fun q hq p hp e => by
      rw [List.mem_singleton.mp hp] at e
      exact absurd (hrd q hq) (by rw [← e]; exact Nat.lt_irrefl _)
    o4 := fun p hp e => by
      rw [List.mem_singleton.mp hp] at e
      exact absurd hsd (by rw [← e]; exact Nat.lt_irrefl _)
    o5 := fun q hq p hp e => by
      rw [List.mem_singleton.mp hq] at e
      exact absurd (hxd p hp) (by rw [e]; exact Nat.lt_irrefl _)
    o6 := fun q hq p hp e => by
      rw [List.mem_singleton.mp hp] at e
      exact absurd (hxd q hq) (by rw [← e]; exact Nat.lt_irrefl _) }
  walk_at "FOR"
  with_unfolding_all refine' loop_rangeF (news := (src, oz) :: ([(d, od)] ++ (M0 ++ rest))) [Str.ofString "x", Str.ofString "alpha"] (fun y nx => ∃ M T o, nx = (src, o) :: (T ++ (M ++ rest)) ∧ Drawing w src x0 d l t (1 + vw) (1 + vh) rest (2 * (y - t)) o T M) ?hhZ ?hrZ ?hsmZ ?habZ ?FZ ?NZ ?hjZ ?turnZ ?doneZ
  case hhZ => rfl
  case hrZ => assumption
  case hsmZ => exact small_one (by omega) (by omega) (by omega) (by omega)
  case habZ => omega
  case FZ => k_asm
  case NZ => exact News.of_sub (by k_asm) (by
    refine sub_cons (by k_mem) (sub_app (sub_cons (by k_mem) sub_nil) (sub_app ?_ ?_)) <;> walk_at "SUB")
  case hjZ => exact ⟨M0, _, oz, rfl, by rw [Int.sub_self]; exact hdr0⟩
  case doneZ =>
    intro u nx h' tk' hJ0
    apply ex3e hJ0
    clear hJ0
    intro M T o hdr F' N'
    dsimp only
    (repeat' (first | ((fail_if_success (with_reducible show wpAny _ _ (pyIter _) _ _ _)); (fail_if_success (with_reducible show wpAny _ _ (exec (Stmt.For _ _ _ _ _) _) _ _ _)); first | (k_unfold; (try dsimp only)) | (k_end; wrow_close) | walk1 | (dsimp only; walk1) | (leave1; try dsimp only) | (dsimp only [TurnP])) | fail "no step"))
    obtain ⟨h1, h2, h3⟩ := hdr.close (np := 0) (pr := _) (by walk_at "LT") (by refine ltN ?_; omega)
    refine hret _ _ _ _ (by k_asm) (News.of_sub (by k_asm) ?_) ⟨o, _, h1, h2, h3, rfl⟩
    walk_at "SUB"
  case turnZ =>
    intro y ty u nx h' tk' I o1 hy1 hy2 hJ0
    apply ex3e hJ0
    clear hJ0
    intro M T o hdr hI F' N'
    have hIT : Off T I := fun p hp => hI p (.tail _ (List.mem_append_left _ hp))
    have hIM : Off M I := fun p hp => hI p (.tail _ (List.mem_append_right _ (List.mem_append_left _ hp)))
    have hIs : @Ne Nat src I := hI _ (.head _)
    have hIr : Off rest I := fun p hp => hI p (.tail _ (List.mem_append_right _ (List.mem_append_right _ hp)))
    (repeat' (first | ((fail_if_success (with_reducible show wpAny _ _ (pyIter _) _ _ _)); (fail_if_success (with_reducible show wpAny _ _ (exec (Stmt.For _ _ _ _ _) _) _ _ _)); first | (k_unfold; (try dsimp only)) | (k_end; wrow_close) | walk1 | (dsimp only; walk1) | (leave1; try dsimp only) | (dsimp only [TurnP])) | fail "no step"))
    walk_at "FOR"
    with_unfolding_all refine' loop_rangeF [Str.ofString "alpha"] (fun x nx => ∃ M T o, nx = (I, o1) :: (src, o) :: (T ++ (M ++ rest)) ∧ Drawing w src x0 d l t (1 + vw) (1 + vh) rest (2 * (y - t) + (x - l)) o T M ∧ Off T I ∧ Off M I) ?hh2Z ?hr2Z ?hsm2Z ?hab2Z ?F2Z ?N2Z ?hj2Z ?turn2Z ?done2Z
    case hh2Z => rfl
    case hr2Z => assumption
    case hsm2Z => exact small_one (by omega) (by omega) (by omega) (by omega)
    case hab2Z => omega
    case F2Z => k_asm
    case N2Z => k_asm
    case hj2Z => exact ⟨M, T, o, rfl, by rw [Int.sub_self, Int.add_zero]; exact hdr, hIT, hIM⟩
    case done2Z =>
      intro u2 nx h2 tk2 hJ0
      apply ex3e hJ0
      clear hJ0
      intro M2 T2 o2 hJ0
      apply and3 hJ0
      clear hJ0
      intro hdr2 hI2 hI3 F2 N2
      (repeat' (first | ((fail_if_success (with_reducible show wpAny _ _ (pyIter _) _ _ _)); (fail_if_success (with_reducible show wpAny _ _ (exec (Stmt.For _ _ _ _ _) _) _ _ _)); first | (k_unfold; (try dsimp only)) | (k_end; wrow_close) | walk1 | (dsimp only; walk1) | (leave1; try dsimp only) | (dsimp only [TurnP])) | fail "no step"))
      refine turnF (by k_asm) (by k_asm) (fun p hp => ?_) ⟨M2, T2, o2, rfl, hdr2.skip hdr2.so (by omega)⟩ ?_
      · rcases List.mem_cons.mp hp with rfl | hp
        · exact hIs
        · exact (Off.join hI2 (Off.join hI3 hIr)) p hp
      · intro z h1 h2
        simp only [List.contains_cons, List.contains_nil, Bool.or_false, Bool.or_eq_false_iff, beq_eq_false_iff_ne, ne_eq] at h2
        simp [h1, h2.1, h2.2]
    case turn2Z =>
      intro x tx u2 nx h2 tk2 I2 o2 hx1 hx2 hJ0
      apply ex3e hJ0
      clear hJ0
      intro M2 T2 o3 hJ0
      apply and3 hJ0
      clear hJ0
      intro hdr2 hI2 hI3 hI4 F2 N2
      obtain ⟨f, xs, hM2, hT2, htell, hbnd, hlen⟩ := hdr2.ex
      have hso := hdr2.so
      have q1 := hdr2.o1
      have q2 := hdr2.o2
      have q3 := hdr2.o3
      have q4 := hdr2.o4
      have q5 := hdr2.o5
      have q6 := hdr2.o6
      have hsrc : ∀ p ∈ T2 ++ (M2 ++ rest), p.1 ≠ src := Off.join q4 (Off.join q2 hr)
      have hI2T : Off T2 I2 := fun p hp => hI4 p (.tail _ (.tail _ (List.mem_append_left _ hp)))
      have hI2M : Off M2 I2 := fun p hp => hI4 p (.tail _ (.tail _ (List.mem_append_right _ (List.mem_append_left _ hp))))
      have hI2r : Off rest I2 := fun p hp => hI4 p (.tail _ (.tail _ (List.mem_append_right _ (List.mem_append_right _ hp))))
      have hI2s : @Ne Nat src I2 := hI4 _ (.tail _ (.head _))
      have hI2I : @Ne Nat I I2 := hI4 _ (.head _)
      refine MapS.open hM2 ?_
      intro dx al z1 z2 z3 z4 z5 y1 y2 y3 y4 y5 y6 y7 y8 y9 n9 hx3 hx4
      (repeat' (first | ((fail_if_success (with_reducible show wpAny _ _ (pyIter _) _ _ _)); (fail_if_success (with_reducible show wpAny _ _ (exec (Stmt.For _ _ _ _ _) _) _ _ _)); first | (k_unfold; (try dsimp only)) | (k_end; wrow_close) | walk1 | (dsimp only; walk1) | (leave1; try dsimp only) | (dsimp only [TurnP])) | fail "no step"))
      · k_dflt (refine' told_put ?uZ ?FZ ?NZ ?HZ ?UZ ?kZ ?zqZ ?_)
        case uZ => k_units
        case FZ => k_asm
        case NZ => k_asm
        case HZ => exact hT2
        case UZ => walk_at "UPDL"
        case kZ => k_mem
        case zqZ => rw [sizeLine_eq]; omega
        intro h3 T3 tk3 F3 N3 hT3 hg3
        dsimp only at N3 ⊢
        have q5' := hdr2.offT hg3 (by walk_at "LT")
        (repeat' (first | ((fail_if_success (with_reducible show wpAny _ _ (pyIter _) _ _ _)); (fail_if_success (with_reducible show wpAny _ _ (exec (Stmt.For _ _ _ _ _) _) _ _ _)); first | (k_unfold; (try dsimp only)) | (k_end; wrow_close) | walk1 | (dsimp only; walk1) | (leave1; try dsimp only) | (dsimp only [TurnP])) | fail "no step"))
        rename MapS _ _ _ _ _ _ (putF _ _ _ _) => hM3
        rename Same _ _ => hs3
        have hdr3 := hdr2.put (by assumption) htell hbnd hlen (by assumption) (by assumption) hT3 hM3 hg3 hs3 (by walk_at "LT") (by refine ltN ?_; omega)
        have e : 2 * (y - t) + (x - l) + 1 = 2 * (y - t) + (x + 1 - l) := by omega
        rw [e] at hdr3
        refine turnF (by k_asm) (News.of_sub (by k_asm) ?_) ?_ ⟨_, _, _, rfl, hdr3, ?_, ?_⟩ ?_
        rotate_left
        · exact off_turn hI2I hI2s (Off.grown hg3 hI2T (by k_ne)) (Off.same hs3 hI2M) hI2r
        · exact Off.grown hg3 hI2 (by k_ne)
        · exact Off.same hs3 hI3
        · intro z h1 h2
          simp only [List.contains_cons, List.contains_nil, Bool.or_false, beq_eq_false_iff_ne, ne_eq] at h2
          simp [h1, h2]
        · walk_at "SUB"
      · have hdr4 := hdr2.skip (n' := 2 * (y - t) + (x + 1 - l)) (by assumption) (by omega)
        refine turnF (by k_asm) (News.of_sub (by k_asm) ?_) ?_ ⟨_, _, _, rfl, hdr4, hI2, hI3⟩ ?_
        rotate_left
        · exact off_turn hI2I hI2s hI2T hI2M hI2r
        · intro z h1 h2
          simp only [List.contains_cons, List.contains_nil, Bool.or_false, beq_eq_false_iff_ne, ne_eq] at h2
          simp [h1, h2]
        · walk_at "SUB"
theorem miss_keys : typeLookup (.type "list") "keys" = pure none := by rw [typeLookup_type, builtinLookup_eq_fast]; kernel_rfl
set_option maxRecDepth 100000 in
set_option maxHeartbeats 3200000 in
theorem keys_none {prog : Program} {w : World} {A : Around} {E : Value → Shared → Prop} {s : Shared} {a : Addr} {xs : Array Value} {k : Nat} {Q : Option Value → Shared → Prop}
    (hx : s.heap.get? a = some { cls := .type "list", data := .seq xs k }) (hA : A.handled = none)
    (h : ∀ h' tk, (∀ b ob, s.heap.get? b = some ob → h'.get? b = some ob) → Q none { s with heap := h', toks := tk }) :
    wpAny (model prog w) A (getAttr? (.ref a) "keys") Q E s := by
  obtain ⟨hp, g, d, tk, os⟩ := s
  have hT : ∀ tk', (⟨hp, g, d, tk', os⟩ : Shared).TypeIs (.ref a) "list" := fun _ => ⟨_, hx, rfl⟩
  have f1 := sub_AttributeError
  have f3 := F.slot_list_getattribute.lookup
  have f4 := F.slot_list_getattribute.bind (.ref a)
  have f5 := am_list_getattr_none
  unfold getAttr? getAttrBy? getAttrBy
  repeat (any_goals (first | assumption | exact hT _ | ((with_reducible show wpAny _ _ (call (Value.builtin "list.__getattribute__") _ _) _ _ _); refine call_meets F.slot_list_getattribute (hT _) am_entry_list_getattribute (F.args_list_getattribute_2 _ _) (meets_getattribute_miss_list a xs k #[] "keys" _ miss_keys (by decide) (by size_fits)) ⟨hx, hA, fun h' tk' e hx' => ?_⟩) | wp_step))
  obtain ⟨t', u', he⟩ := hx'.there
  show wpAny _ _ (getattributeRaised _ _ _ _ _ _ _) _ _ _
  unfold getattributeRaised
  repeat (any_goals (first | assumption | wp_step))
  exact h h' tk' hx'.keeps
theorem entry_upd_loop : entryFor table "dict.update.loop" = some Builtin.«dict.update.loop» := entryFor_of_tree (by kernel_rfl)
theorem plain_upd_loop : plainId "dict.update.loop" = true := by decide +kernel
theorem upd_loop {prog : Program} {w : World} {A : Around} {R : Result → Shared → Prop} {I d : Addr} {fp : List Addr} {n : Nat} {P : Nat → Value → Prop} {St : Nat → Heap → Prop} (J : Nat → Heap → Prop)
    (W : Walks prog w A.in1 I fp [I] n P St) (hdf : d ∉ fp) (hIf : I ≠ d)
    (hJ : ∀ i h h', J i h → (∀ b o, b ≠ I → h.get? b = some o → h'.get? b = some o) → J i h')
    (step : ∀ i v (s : Shared) (Q : Unit → Shared → Prop) (E : Value → Shared → Prop), i < n → P i v → J i s.heap → ∃ p k val, v = .ref p ∧ (∃ o m, s.heap.get? p = some o ∧ o.cls = .type "tuple" ∧ o.data = .seq #[k, val] m) ∧
      ((∀ h' tk, J (i + 1) h' → Heap.SameBut d s.heap h' → Q () { s with heap := h', toks := tk }) → wpAny (model prog w) A.in1 (dictSet d k val) Q E s)) :
    ∀ (k i : Nat) (s : Shared), n - i = k → i ≤ n → St i s.heap → J i s.heap →
      (∀ h' tk, J n h' → (∀ b o, b ≠ I → b ≠ d → s.heap.get? b = some o → h'.get? b = some o) → R (.ok (.ret .none)) { s with heap := h', toks := tk }) →
      codeAny (model prog w) A (.builtin "dict.update.loop" ⟨[.ref d, .ref I, rawInt i, .none], []⟩) R s := by
  intro k
  induction k with
  | zero =>
    intro i s hk hi hst hj hR
    have hin : i = n := by omega
    subst hin
    refine codeAny_builtin entry_upd_loop ?_
    rw [Around.under_plainId plain_upd_loop _]
    show wpAny _ A.in1 (pyNext (.ref I) >>= _) _ _ s
    refine wpAny_bind (W.done s _ _ hst fun h' tk hm => ?_)
    show wpAny _ A.in1 (Builtin.Dict.addKeywords d [] >>= _) _ _ _
    refine wpAny_bind (wpAny_pure ?_)
    show wpAny _ A.in1 (ret Value.none) _ _ _
    exact wpAny_pure (hR h' tk (hJ _ _ _ hj fun b o hb e => hm b o (by simpa using hb) e) fun b o hb _ e => hm b o (by simpa using hb) e)
  | succ k ih =>
    intro i s hk hi hst hj hR
    have hlt : i < n := by omega
    refine codeAny_builtin entry_upd_loop ?_
    rw [Around.under_plainId plain_upd_loop _]
    show wpAny _ A.in1 (pyNext (.ref I) >>= _) _ _ s
    refine wpAny_bind (W.item i s _ _ hlt hst fun v h' tk hP hst' hm => ?_)
    have hj' : J i h' := hJ _ _ _ hj fun b o hb e => hm b o (by simpa using hb) e
    show wpAny _ A.in1 (holding [v] _ >>= _) _ _ _
    refine wpAny_bind (wpAny_holding ?_)
    obtain ⟨p, ky, val, rfl, ⟨o, m, ho, hc, hd⟩, hset⟩ := step i v { s with heap := h', toks := tk } (fun _ s' => wpAny (model prog w) A.in1 (again (.builtin "dict.update.loop" ⟨[.ref d, .ref I, rawInt ((i : Int) + 1), .none], []⟩)) (fun fin s' => match fin with | .done f => R (.ok f) s' | .again c' => c'.quiet = true ∧ codeAny (model prog w) A c' R s') (fun e s' => R (.error e) s') s') (fun e s' => R (.error e) s') hlt hP hj'
    have hT : Shared.TypeIs { s with heap := h', toks := tk } (.ref p) "tuple" := ⟨o, ho, hc⟩
    refine wpAny_bind (wpAny_tryCatch ?_)
    unfold Builtin.Dict.pairItems
    refine wpAny_bind (wpAny_typeOf hT ?_)
    rw [if_pos (by decide)]
    refine wpAny_bind ?_
    refine wpAny_seqItems ho hd (wpAny_pure ?_)
    show wpAny _ _ (holding [ky, val] (dictSet d ky val)) _ _ _
    refine wpAny_holding (hset fun h2 tk2 hj2 hsb => ?_)
    refine wpAny_pure ⟨plainId_quiet plain_upd_loop _, ?_⟩
    have e : rawInt ((i : Int) + 1) = rawInt ((i + 1 : Nat) : Int) := rfl
    rw [e]
    refine ih (i + 1) _ (by omega) hlt (W.frame _ h' _ hst' fun b hb o e => ?_) hj2 fun h3 tk3 hj3 hk3 => ?_
    · exact (hsb.2 b fun q => hdf (q ▸ hb)).trans e
    · exact hR h3 tk3 hj3 fun b o h1 h2' e => hk3 b o h1 h2' ((hsb.2 b h2').trans (hm b o (by simpa using h1) e))
/-- dict(l) of a list of pairs: the word J says the dict's state pair by pair -/
theorem call_dict_pairs {prog : Program} {w : World} {A : Around} {E : Value → Shared → Prop} {s : Shared} {l : Addr} {its : Array Value} {c : Nat} (J : Nat → Heap → Prop) {Q : Value → Shared → Prop}
    (hh : A.handled = none) (hl : s.heap.get? l = some { cls := .type "list", data := .seq its c })
    (hJ : ∀ I i h h', s.heap.objs.size < I → J i h → (∀ b o, b ≠ I → h.get? b = some o → h'.get? b = some o) → J i h')
    (start : ∀ h', (∀ b o, s.heap.get? b = some o → h'.get? b = some o) → h'.get? s.heap.objs.size = some { cls := .type "dict", data := .dict #[] } → J 0 h')
    (step : ∀ i v (s' : Shared) (Q : Unit → Shared → Prop) (E : Value → Shared → Prop), its[i]? = some v → J i s'.heap → ∃ p k val, v = .ref p ∧ (∃ o m, s'.heap.get? p = some o ∧ o.cls = .type "tuple" ∧ o.data = .seq #[k, val] m) ∧
      ((∀ h' tk, J (i + 1) h' → Heap.SameBut s.heap.objs.size s'.heap h' → Q () { s' with heap := h', toks := tk }) → wpAny (model prog w) A.in1.in1 (dictSet s.heap.objs.size k val) Q E s'))
    (h : ∀ h' tk, J its.size h' → (∀ b o, s.heap.get? b = some o → h'.get? b = some o) → Q (.ref s.heap.objs.size) { s with heap := h', toks := tk }) :
    wpAny (model prog w) A (call (.type "dict") [.ref l]) Q E s := by
  refine callType_codes (Q₁ := fun obj s₁ => obj = .ref s.heap.objs.size ∧ s₁ = { s with heap := s.heap.push { cls := .type "dict", data := .dict #[] } }) F.kt_called_dict (F.kt_typeCall_dict_1 _) F.entry_dict_init (kt_code_dict_new _ ⟨rfl, rfl⟩) ?_
  rintro obj s₁ ⟨rfl, rfl⟩
  have hD0 : (s.heap.push { cls := .type "dict", data := .dict #[] }).get? s.heap.objs.size = some { cls := .type "dict", data := .dict #[] } := Heap.get?_push_size _ rfl
  have hT : Shared.TypeIs { s with heap := s.heap.push { cls := .type "dict", data := .dict #[] } } (.ref s.heap.objs.size) "dict" := ⟨_, hD0, rfl⟩
  have hl0 : (s.heap.push { cls := .type "dict", data := .dict #[] }).get? l = some { cls := .type "list", data := .seq its c } := Heap.get?_push_of_some _ hl
  have hTl : Shared.TypeIs { s with heap := s.heap.push { cls := .type "dict", data := .dict #[] } } (.ref l) "list" := ⟨_, hl0, rfl⟩
  refine ⟨hT, F.args_dict_init_2 _ _, ?_⟩
  unfold Builtin.«dict.__init__»
  refine wpAny_bind ?_
  unfold Builtin.Dict.selfAndRest
  refine wpAny_bind (wpAny_notOrdered_dict hT ?_)
  show wpAny _ _ (pure (s.heap.objs.size, [Value.ref l])) _ _ _
  refine wpAny_pure ?_
  show wpAny _ _ (Builtin.Dict.updateFrom "dict.__init__" s.heap.objs.size (.ref l) [] .none) _ _ _
  unfold Builtin.Dict.updateFrom
  refine wpAny_bind (wpAny_typeOf hTl ?_)
  rw [if_pos (by decide)]
  refine wpAny_bind (keys_none hl0 (by simp [hh]) fun h1 tk1 hk1 => ?_)
  rw [if_pos (show (none : Option Value).isNone = true from rfl)]
  refine wpAny_bind (wpAny_rule ?_)
  have hl1 : h1.get? l = some { cls := .type "list", data := .seq its c } := hk1 _ _ hl0
  have hL1 : h1.IsList l its := ⟨_, hl1, rfl, c, rfl⟩
  refine wpAny_bind (wpAny_pyIter_list hL1 ?_)
  have hlt1 : s.heap.objs.size < h1.objs.size := Heap.lt_size (hk1 _ _ hD0)
  have hll : l < h1.objs.size := Heap.lt_size hl1
  have hls : l < s.heap.objs.size := Heap.lt_size hl
  refine wpAny_pure ⟨plainId_quiet plain_upd_loop _, ?_⟩
  refine upd_loop J (Walks.list (by simp [hh]) h1.objs.size l (Nat.ne_of_lt hll) its) ?_ (Nat.ne_of_gt hlt1) ?_ ?_ (its.size - 0) 0 _ (by omega) (Nat.zero_le _) ⟨⟨_, Heap.get?_push_size _ rfl, rfl, rfl⟩, hL1.push _⟩ (start _ (fun b o e => Heap.get?_push_of_some _ (hk1 _ _ (Heap.get?_push_of_some _ e))) (Heap.get?_push_of_some _ (hk1 _ _ hD0))) fun h' tk' hj' hk' => ?_
  · simp only [List.mem_cons, List.not_mem_nil, or_false, not_or]
    exact ⟨Nat.ne_of_lt hlt1, Nat.ne_of_gt hls⟩
  · intro i h h' hj hk
    exact hJ h1.objs.size i h h' hlt1 hj hk
  · intro i v s' Q' E' hi hP hj
    exact step i v s' Q' E' hP hj
  · refine ⟨rfl, h h' tk' hj' fun b o e => ?_⟩
    have hb := Heap.lt_size e
    exact hk' b o (Nat.ne_of_lt (Nat.lt_trans hb hlt1)) (Nat.ne_of_lt hb) (Heap.get?_push_of_some _ (hk1 _ _ (Heap.get?_push_of_some _ e)))
abbrev tupO (k v : Value) : Obj := { cls := .type "tuple", data := .seq (List.toArray [k, v]) }
theorem dict_pairs_int {prog : Program} {w : World} {A : Around} {E : Value → Shared → Prop} {s : Shared} {h₀ : Heap} {L l : Addr} {m : Str → Option Value} {news : Led} {c : Nat} {items : List (Addr × Int × Tok × Value)} {Q : Value → Shared → Prop}
    (hh : A.handled = none) (F : Fr h₀ L s.heap m) (N : News h₀ L s.heap news) (hbig : h₀.NoLimit) (hl : (l, listOf (items.map fun x => Value.ref x.1).toArray c) ∈ news)
    (hts : ∀ x ∈ items, (x.1, tupO (.int x.2.1 x.2.2.1) x.2.2.2) ∈ news) (hsz : items.length < 1000)
    (h : ∀ D h' o tk, Fr h₀ L h' m → News h₀ L h' ((D, o) :: news) → (∀ p ∈ news, p.1 < D) → (D == sysModules) = false → o.IsDictOf (intKind prog w) (items.foldl (fun kvs x => stored kvs x.2.1 x.2.2.2) []) → Q (.ref D) { s with heap := h', toks := tk }) :
    wpAny (model prog w) A (call (.type "dict") [.ref l]) Q E s := by
  have hD : ∀ p ∈ news, p.1 < s.heap.objs.size := fun p hp => Heap.lt_size (N p hp).1
  have hlen : ∀ i, ((items.take i).foldl (fun kvs x => stored kvs x.2.1 x.2.2.2) ([] : List (Int × Value))).length ≤ i := by
    have go : ∀ (l : List (Addr × Int × Tok × Value)) (kvs : List (Int × Value)), (l.foldl (fun kvs x => stored kvs x.2.1 x.2.2.2) kvs).length ≤ kvs.length + l.length := by
      intro l
      induction l with
      | nil => intro kvs; exact Nat.le_refl _
      | cons x r ih =>
        intro kvs
        rw [List.foldl_cons]
        have h1 := ih (stored kvs x.2.1 x.2.2.2)
        have h2 : (stored kvs x.2.1 x.2.2.2).length ≤ kvs.length + 1 := by unfold stored; split <;> simp
        rw [List.length_cons]
        omega
    intro i
    have h1 := go (items.take i) []
    have h2 : (items.take i).length ≤ i := List.length_take_le i items
    simp only [List.length_nil, Nat.zero_add] at h1
    omega
  refine call_dict_pairs (its := (items.map fun x => Value.ref x.1).toArray) (c := c) (fun i h => h.DictOf (intKind prog w) s.heap.objs.size ((items.take i).foldl (fun kvs x => stored kvs x.2.1 x.2.2.2) []) ∧ ∀ p ∈ news, h.get? p.1 = some p.2) hh (N _ hl).1 ?_ ?_ ?_ ?_
  · rintro I i h h' hI ⟨h1, h2⟩ hk
    refine ⟨?_, fun p hp => hk _ _ (Nat.ne_of_lt (Nat.lt_trans (hD p hp) hI)) (h2 p hp)⟩
    obtain ⟨o, es, ep, ho, r⟩ := h1
    exact ⟨o, es, ep, hk _ _ (Nat.ne_of_lt hI) ho, r⟩
  · intro h' hk hd
    refine ⟨?_, fun p hp => hk _ _ (N p hp).1⟩
    obtain ⟨o', es, ep, ho', r⟩ := Heap.DictOf.new (knd := intKind prog w) s.heap
    have : h'.get? s.heap.objs.size = some o' := by
      rw [hd, ← ho', Heap.get?_push_size _ rfl]
    exact ⟨o', es, ep, this, r⟩
  · rintro i v s' Q' E' hv ⟨h1, h2⟩
    rw [List.getElem?_toArray, List.getElem?_map] at hv
    obtain ⟨x, hx, rfl⟩ := Option.map_eq_some_iff.mp hv
    have hxm := hts x (List.mem_of_getElem? hx)
    have hi : i < items.length := (List.getElem?_eq_some_iff.mp hx).1
    refine ⟨x.1, .int x.2.1 x.2.2.1, x.2.2.2, rfl, ⟨_, _, h2 _ hxm, rfl, rfl⟩, fun hq => ?_⟩
    refine wpAny_dictSet_pairs (knd := intKind prog w) (k := x.2.1) (intKind_is _ _ _ _) h1 (fun h' hm hs => hq h' _ ⟨?_, fun p hp => (hs.2 _ (Nat.ne_of_lt (hD p hp))).trans (h2 p hp)⟩ hs) (by rw [sizeLine_eq]; have := hlen i; omega)
    rw [List.take_add_one, hx]
    simpa using hm
  · rintro h' tk ⟨h1, h2⟩ hk
    have e : (items.map fun x => Value.ref x.1).toArray.size = items.length := by simp
    rw [e, List.take_length] at h1
    obtain ⟨o, ho, hd⟩ := Heap.dictOf_iff.mp h1
    have hDn : h₀.get? s.heap.objs.size = none := by
      cases q : h₀.get? s.heap.objs.size with
      | none => rfl
      | some o' => exact absurd (Heap.lt_size (F.keep _ _ q)) (Nat.lt_irrefl _)
    refine h s.heap.objs.size h' o tk (F.keeps hk) (fun p hp => ?_) hD (F.notModules (modules_low hbig)) hd
    rcases List.mem_cons.mp hp with rfl | hp
    · exact ⟨ho, Nat.ne_of_gt F.ns.lt, hDn⟩
    · exact ⟨h2 p hp, (N p hp).2⟩
/-- an item of a list of pairs with a pair of ints as key -/
structure TItem where
  p : Addr
  kp : Addr
  u : Int
  tu : Tok
  v : Int
  tv : Tok
  val : Value
abbrev tstore (xs : List (List Int × Addr × Value)) (x : TItem) : List (List Int × Addr × Value) := storedH xs [x.u, x.v] x.kp x.val
theorem tstore_mem (items : List TItem) : ∀ (xs : List (List Int × Addr × Value)) (S : Led), (∀ x ∈ xs, ∃ u v tu tv, x.1 = [u, v] ∧ (x.2.1, pairO u v tu tv) ∈ S) → (∀ x ∈ items, (x.kp, pairO x.u x.v x.tu x.tv) ∈ S) → ∀ x ∈ items.foldl tstore xs, ∃ u v tu tv, x.1 = [u, v] ∧ (x.2.1, pairO u v tu tv) ∈ S := by
  induction items with
  | nil => intro xs S h _; exact h
  | cons y r ih =>
    intro xs S h h2
    rw [List.foldl_cons]
    refine ih _ S (fun x hx => ?_) fun x hx => h2 x (.tail _ hx)
    rcases mem_storedH hx with ⟨z, hz, e1, e2⟩ | ⟨e1, e2⟩
    · rw [e1, e2]; exact h z hz
    · exact ⟨y.u, y.v, y.tu, y.tv, e1, by rw [e2]; exact h2 y (.head _)⟩
theorem tstore_len (items : List TItem) : ∀ xs : List (List Int × Addr × Value), (items.foldl tstore xs).length ≤ xs.length + items.length := by
  induction items with
  | nil => intro xs; exact Nat.le_refl _
  | cons y r ih =>
    intro xs
    rw [List.foldl_cons]
    have h1 := ih (tstore xs y)
    have h2 : (tstore xs y).length ≤ xs.length + 1 := storedH_length xs [y.u, y.v] y.kp y.val
    rw [List.length_cons]
    omega
theorem dict_pairs_tup {prog : Program} {w : World} {A : Around} {E : Value → Shared → Prop} {s : Shared} {h₀ : Heap} {L l : Addr} {m : Str → Option Value} {news : Led} {c : Nat} {items : List TItem} {Q : Value → Shared → Prop}
    (hh : A.handled = none) (hu : A.units + 2 < cLine) (F : Fr h₀ L s.heap m) (N : News h₀ L s.heap news) (hbig : h₀.NoLimit) (hl : (l, listOf (items.map fun x => Value.ref x.p).toArray c) ∈ news)
    (hts : ∀ x ∈ items, (x.p, tupO (.ref x.kp) x.val) ∈ news) (hks : ∀ x ∈ items, (x.kp, pairO x.u x.v x.tu x.tv) ∈ news) (hsz : items.length < 1000)
    (h : ∀ D h' o tk, Fr h₀ L h' m → News h₀ L h' ((D, o) :: news) → (∀ p ∈ news, p.1 < D) → ToldS prog w ((D, o) :: items.map fun x => (x.kp, pairO x.u x.v x.tu x.tv)) D (items.foldl tstore []) → Q (.ref D) { s with heap := h', toks := tk }) :
    wpAny (model prog w) A (call (.type "dict") [.ref l]) Q E s := by
  have hD : ∀ p ∈ news, p.1 < s.heap.objs.size := fun p hp => Heap.lt_size (N p hp).1
  have hroom : (tupleKind (intKind prog w)).room A.in1.in1 := by
    show A.in1.in1.units < cLine
    simp only [units_in1]
    omega
  refine call_dict_pairs (its := (items.map fun x => Value.ref x.p).toArray) (c := c) (fun i h => h.DictOfH (tupleKind (intKind prog w)) s.heap.objs.size ((items.take i).foldl tstore []) ∧ ∀ p ∈ news, h.get? p.1 = some p.2) hh (N _ hl).1 ?_ ?_ ?_ ?_
  · rintro I i h h' hI ⟨h1, h2⟩ hk
    have h2' : ∀ p ∈ news, h'.get? p.1 = some p.2 := fun p hp => hk _ _ (Nat.ne_of_lt (Nat.lt_trans (hD p hp) hI)) (h2 p hp)
    refine ⟨?_, h2'⟩
    obtain ⟨o, es, ep, ho, h3, h4, h5, h6, h7⟩ := h1
    refine ⟨o, es, ep, hk _ _ (Nat.ne_of_lt hI) ho, h3, h4, h5, fun x hx => ?_, h7⟩
    obtain ⟨u, v, tu, tv, e, hm⟩ := tstore_mem (items.take i) [] news (fun _ hx => nomatch hx) (fun x hx => hks x (List.mem_of_mem_take hx)) x hx
    rw [e]
    exact (pair_key prog w u v tu tv).key (h2' _ hm)
  · intro h' hk hd
    refine ⟨?_, fun p hp => hk _ _ (N p hp).1⟩
    exact ⟨_, #[], 0, hd, ⟨rfl, rfl, rfl⟩, rfl, rfl, fun _ hx => (nomatch hx), List.nodup_nil⟩
  · rintro i v s' Q' E' hv ⟨h1, h2⟩
    rw [List.getElem?_toArray, List.getElem?_map] at hv
    obtain ⟨x, hx, rfl⟩ := Option.map_eq_some_iff.mp hv
    have hxm := hts x (List.mem_of_getElem? hx)
    have hxk := hks x (List.mem_of_getElem? hx)
    have hi : i < items.length := (List.getElem?_eq_some_iff.mp hx).1
    refine ⟨x.p, .ref x.kp, x.val, rfl, ⟨_, _, h2 _ hxm, rfl, rfl⟩, fun hq => ?_⟩
    have hlen := tstore_len (items.take i) []
    have h3 : (items.take i).length ≤ i := List.length_take_le i items
    refine wpAny_dictSet_heap (knd := tupleKind (intKind prog w)) (hsz := by rw [sizeLine_eq]; simp only [List.length_nil, Nat.zero_add] at hlen; omega) hroom ((pair_key prog w x.u x.v x.tu x.tv).key (h2 _ hxk)) h1 fun h' hm hs => hq h' _ ⟨?_, fun p hp => (hs.2 _ (Nat.ne_of_lt (hD p hp))).trans (h2 p hp)⟩ hs
    rw [List.take_add_one, hx]
    simpa using hm
  · rintro h' tk ⟨h1, h2⟩ hk
    have e : (items.map fun x => Value.ref x.p).toArray.size = items.length := by simp
    rw [e, List.take_length] at h1
    obtain ⟨o, es, ep, ho, h3, h4, h5, h6, h7⟩ := h1
    have hDn : h₀.get? s.heap.objs.size = none := by
      cases q : h₀.get? s.heap.objs.size with
      | none => rfl
      | some o' => exact absurd (Heap.lt_size (F.keep _ _ q)) (Nat.lt_irrefl _)
    refine h s.heap.objs.size h' o tk (F.keeps hk) (fun p hp => ?_) hD ⟨F.notModules (modules_low hbig), ⟨o, es, ep, .head _, h3, h4, h5⟩, h7, ?_⟩
    · rcases List.mem_cons.mp hp with rfl | hp
      · exact ⟨ho, Nat.ne_of_gt F.ns.lt, hDn⟩
      · exact ⟨h2 p hp, (N p hp).2⟩
    · exact tstore_mem items [] _ (fun _ hx => nomatch hx) fun x hx => .tail _ (List.mem_map.mpr ⟨x, hx, rfl⟩)
theorem dict_pairs2 {prog : Program} {w : World} {A : Around} {E : Value → Shared → Prop} {s : Shared} {h₀ : Heap} {L l p0 p1 : Addr} {k0 k1 : Int} {t0 t1 : Tok} {v0 v1 : Value} {m : Str → Option Value} {news : Led} {c : Nat} {Q : Value → Shared → Prop}
    (hh : A.handled = none) (F : Fr h₀ L s.heap m) (N : News h₀ L s.heap news) (hbig : h₀.NoLimit) (hl : (l, listOf (List.toArray [Value.ref p0, Value.ref p1]) c) ∈ news)
    (h0 : (p0, tupO (.int k0 t0) v0) ∈ news) (h1 : (p1, tupO (.int k1 t1) v1) ∈ news)
    (h : ∀ D h' o tk, Fr h₀ L h' m → News h₀ L h' ((D, o) :: news) → (∀ p ∈ news, p.1 < D) → (D == sysModules) = false → o.IsDictOf (intKind prog w) (stored (stored [] k0 v0) k1 v1) → Q (.ref D) { s with heap := h', toks := tk }) :
    wpAny (model prog w) A (call (.type "dict") [.ref l]) Q E s :=
  dict_pairs_int (items := [(p0, k0, t0, v0), (p1, k1, t1, v1)]) hh F N hbig hl (fun x hx => by
    rcases List.mem_cons.mp hx with rfl | hx
    · exact h0
    · rw [List.mem_singleton.mp hx]; exact h1) (by show 2 < 1000; omega) h
theorem walks_P {prog : Program} {w : World} {A : Around} {I : Addr} {fp wr : List Addr} {n : Nat} {P P' : Nat → Value → Prop} {St : Nat → Heap → Prop} (W : Walks prog w A I fp wr n P St) (h : ∀ i v, P i v → P' i v) : Walks prog w A I fp wr n P' St :=
  { sub := W.sub, frame := W.frame, done := W.done, self := W.self, item := fun i s Q E hi st hQ => W.item i s Q E hi st fun v h' tk hP => hQ v h' tk (h i v hP) }
theorem int_is {prog : Program} {w : World} {k : Int} {v : Value} (h : (intKind prog w).is k v = true) : ∃ t, v = .int k t := Value.isInt_shape h
/-- what the source of such a comprehension is -/
def KeysSrc (prog : Program) (w : World) (A : Around) (h₀ : Heap) (L : Addr) (m : Str → Option Value) (env : Env) (elt : PySem.Expr) (x : Str) (scope : Scope) (cl : List (Str × Addr)) (Q : Value → Shared → Prop) (xv : Value) (s₁ : Shared) : Prop :=
  ∃ d o kvs news, xv = .ref d ∧ A.handled = none ∧ Fr h₀ L s₁.heap m ∧ News h₀ L s₁.heap news ∧ (d, o) ∈ news ∧ o.IsDictOf (intKind prog w) kvs ∧ (d == sysModules) = false ∧ kvs.length ≤ sizeLine ∧
      ∀ s₂ : Shared, (∃ h, s₂ = { s₁ with heap := h }) → LCg.CompRest prog w A h₀ L m env elt x scope cl s₂ (fun nw => (d, o) ∈ nw) (fun i v => ∃ t, v = .int ((kvs.map (·.1)).getD i 0) t) (LCg.FinE h₀ L m s₂ Q) kvs.length 0 [] news
theorem KeysSrc.intro {prog : Program} {w : World} {A : Around} {h₀ : Heap} {L : Addr} {m : Str → Option Value} {env : Env} {elt : PySem.Expr} {x : Str} {scope : Scope} {cl : List (Str × Addr)} {Q : Value → Shared → Prop} {s₁ : Shared} {d : Addr} {o : Obj} {kvs : List (Int × Value)} {news : Led}
    (hh : A.handled = none) (F : Fr h₀ L s₁.heap m) (N : News h₀ L s₁.heap news) (hm : (d, o) ∈ news) (hd : o.IsDictOf (intKind prog w) kvs) (hlow : (d == sysModules) = false) (hsz : kvs.length ≤ sizeLine)
    (R : ∀ h, LCg.CompRest prog w A h₀ L m env elt x scope cl { s₁ with heap := h } (fun nw => (d, o) ∈ nw) (fun i v => ∃ t, v = .int ((kvs.map (·.1)).getD i 0) t) (LCg.FinE h₀ L m { s₁ with heap := h } Q) kvs.length 0 [] news) :
    KeysSrc prog w A h₀ L m env elt x scope cl Q (.ref d) s₁ := ⟨d, o, kvs, news, rfl, hh, F, N, hm, hd, hlow, hsz, fun s₂ h => by obtain ⟨h, rfl⟩ := h; exact R h⟩
/-- a comprehension over the keys of a dict by ints -/
theorem listcomp_keys {prog : Program} {w : World} {A : Around} {E : Value → Shared → Prop} {s : Shared} {h₀ : Heap} {L : Addr} {m : Str → Option Value} {env : Env} {elt iter : PySem.Expr} {x : Str} {px : Pos} {scope : Scope} {cl : List (Str × Addr)} {pos : Pos} {Q : Value → Shared → Prop}
    (_F₀ : Fr h₀ L s.heap m) (hclos : closureFor scope env = pure cl) (hcell : ∀ y ∈ scope.names, y.2 ≠ .cell) (hkind : scope.kind = .function)
    (hnames : ∀ y ∈ scope.names, y.2 = .local → scope.names.lookup y.1 = some .local) (hx : scope.names.lookup x = some .local)
    (h : wpAny (model prog w) A (eval iter env) (KeysSrc prog w A h₀ L m env elt x scope cl Q) E s)
    (hs : ∀ x, foldedSetIterable iter env x = pure x := by intro _; rfl) :
    wpAny (model prog w) A (eval (.ListComp elt [⟨.Name x px, iter, [], 0⟩] scope pos) env) Q E s := by
  rw [eval_ListComp]
  refine wpAny_comprehension_free (use := none) rfl hs hclos hkind hnames (wpAny_mono h (fun xv s₁ h₁ => ?_) fun _ _ e => e)
  obtain ⟨d, o, kvs, news, rfl, hh, F, N, hdm, hd, hlow, hsz, R⟩ := h₁
  have hdict : ∀ h' : Heap, h'.get? d = some o → ∃ ep, h'.DictAt (intKind prog w) d kvs ep ∧ ∀ h'' : Heap, h''.get? d = some o → h''.DictAt (intKind prog w) d kvs ep := by
    intro h' e
    obtain ⟨es, ep, h1, h2, h3, h4, h5⟩ := hd
    exact ⟨ep, ⟨o, es, e, h1, h2, h3, h4, h5⟩, fun h'' e' => ⟨o, es, e', h1, h2, h3, h4, h5⟩⟩
  obtain ⟨ep, hat, hatAll⟩ := hdict s₁.heap (N _ hdm).1
  have hlt : d < s₁.heap.objs.size := Heap.lt_size (N _ hdm).1
  refine wpAny_pyIter_dict hlow hat ?_
  have up : ∀ b o', s₁.heap.get? b = some o' → (s₁.heap.push { cls := .type "dict_keyiterator", data := .fields #[.ref d, .int 0 0, .int kvs.length 0, .int ep 0] }).get? b = some o' := fun b o e => Heap.get?_push_of_some _ e
  have W := walks_P (P' := fun i v => ∃ t, v = .int ((kvs.map (·.1)).getD i 0) t) (Walks.dictKeys (prog := prog) (w := w) (knd := intKind prog w) hh s₁.heap.objs.size d (Nat.ne_of_lt hlt) kvs ep) (fun i v hP => by
    obtain ⟨k, z, hk, hi⟩ := hP
    obtain ⟨t, e⟩ := int_is hi
    exact ⟨t, by rw [e, List.getD_eq_getElem?_getD, List.getElem?_map, hk]; rfl⟩)
  refine LCg.block_U W hsz (fun i h st => by obtain ⟨o, e, _⟩ := st.1; exact ⟨o, e⟩) (fun i h h' o' nw st e e' hk Nw hS => ⟨st.1.at fun o2 e2 => by rw [e] at e2; rw [e']; exact e2, hatAll h' (Nw _ hS).1⟩) hcell hkind hx ⟨⟨_, Heap.get?_push_size _ rfl, rfl, rfl⟩, hatAll _ (up _ _ (N _ hdm).1)⟩ (fun b hb => ?_)
    (F.keeps up) (N.grown up) (Nat.ne_of_lt F.ns.lt) (next_is_new F) (fun p hp => Nat.ne_of_lt (Heap.lt_size (N p hp).1)) hdm (R _ ⟨_, rfl⟩) ?_
  · show b < (s₁.heap.push _).objs.size
    rw [Heap.size_push]
    rcases List.mem_cons.mp hb with rfl | hb
    · exact Nat.lt_succ_self _
    · rw [List.mem_singleton.mp hb]; exact Nat.lt_succ_of_lt hlt
  · intro D C h' tk m' ys news' F' N' o1 hn hC₀ hD₀ hCL hDL hCD offC fin
    refine ⟨m', hn, fun h'' hs'' => fin D h'' tk (F'.change hs'' hCL hC₀) (fun p hp => ?_) o1⟩
    refine ⟨hs''.extBut _ _ ?_ (N' p hp).1, (N' p hp).2⟩
    rcases List.mem_cons.mp hp with rfl | hp
    · exact Ne.symm hCD
    · exact offC p hp
section
variable {prog : Program} {w : World} {A : Around} {E : Value → Shared → Prop} {s : Shared} {env : Env} {h₀ : Heap} {x : Str} {body : List Stmt} {Q : Flow → Shared → Prop}
/-- after the last turn of two -/
def TwoEnd (h₀ : Heap) (L l : Addr) (ol : Obj) (s : Shared) (Q : Flow → Shared → Prop) (m : Str → Option Value) (nx : Led) : Prop :=
  (l, ol) ∈ nx ∧ ∀ h tk, Fr h₀ L h m → News h₀ L h nx → Q .next { s with heap := h, toks := tk }
/-- after the first turn of two -/
def TwoMid (prog : Program) (w : World) (A : Around) (E : Value → Shared → Prop) (h₀ : Heap) (env : Env) (x : Str) (body : List Stmt) (v : Value) (l : Addr) (ol : Obj) (s : Shared) (Q : Flow → Shared → Prop) (m : Str → Option Value) (nx : Led) : Prop :=
  (l, ol) ∈ nx ∧ ∀ h tk I o, Off nx I → Fr h₀ env.locals h (fun y => if y = x then some v else m y) → News h₀ env.locals h ((I, o) :: nx) →
    wpAny (model prog w) A (execs body env) (TurnP h₀ env.locals (TwoEnd h₀ env.locals l ol s Q) I o { s with heap := h, toks := tk } Q) E { s with heap := h, toks := tk }
theorem loop_two {l : Addr} {v0 v1 : Value} {c : Nat} {m₀ : Str → Option Value} {news : Led}
    (hh : A.handled = none) (F : Fr h₀ env.locals s.heap m₀) (N : News h₀ env.locals s.heap news) (hm : (l, listOf (List.toArray [v0, v1]) c) ∈ news)
    (k : ∀ h tk I o, Off news I → Fr h₀ env.locals h (fun y => if y = x then some v0 else m₀ y) → News h₀ env.locals h ((I, o) :: news) →
      wpAny (model prog w) A (execs body env) (TurnP h₀ env.locals (TwoMid prog w A E h₀ env x body v1 l (listOf (List.toArray [v0, v1]) c) s Q) I o { s with heap := h, toks := tk } Q) E { s with heap := h, toks := tk }) :
    wpAny (model prog w) A (pyIter (.ref l)) (fun it s₂ => LoopAtV prog w A h₀ env x body Q E it s₂) E s := by
  refine loop_list (vs := [v0, v1]) (c := c) (fun i m nx => match i with
    | 0 => m = m₀ ∧ nx = news
    | 1 => TwoMid prog w A E h₀ env x body v1 l (listOf (List.toArray [v0, v1]) c) s Q m nx
    | _ => TwoEnd h₀ env.locals l (listOf (List.toArray [v0, v1]) c) s Q m nx) hh ?_ F N ⟨rfl, rfl⟩ ?_ ?_
  · intro i m nx hJ
    match i, hJ with
    | 0, ⟨_, e⟩ => rw [e]; exact hm
    | 1, hJ => exact hJ.1
    | _ + 2, hJ => exact hJ.1
  · intro i v m₁ nx h tk I o hv hJ hoff F' N'
    match i, hv, hJ with
    | 0, hv, ⟨e1, e2⟩ =>
      subst e1 e2
      obtain rfl : v0 = v := Option.some.inj hv
      exact k h tk I o hoff F' N'
    | 1, hv, hJ =>
      obtain rfl : v1 = v := Option.some.inj hv
      exact hJ.2 h tk I o hoff F' N'
    | _ + 2, hv, _ => exact absurd hv (by simp)
  · intro m₁ nx h tk hJ F' N'
    exact hJ.2 h tk F' N'
variable {L : Addr} {J : (Str → Option Value) → Led → Prop} {I : Addr} {o : Obj} {s₁ : Shared} {h' : Heap} {tk : Nat} {m' : Str → Option Value} {r : Led} {a b c d : Addr × Obj}
theorem turnU (l : Led) (F : Fr h₀ L h' m') (N : News h₀ L h' (l ++ (I, o) :: r)) (ho : Off (l ++ r) I) (hj : J m' (l ++ r)) : TurnG h₀ L J I o s₁ { s₁ with heap := h', toks := tk } :=
  turnG F (News.of_sub N fun p hp => by
    rcases List.mem_cons.mp hp with q | hp
    · exact List.mem_append_right _ (q ▸ .head _)
    · rcases List.mem_append.mp hp with q | q
      · exact List.mem_append_left _ q
      · exact List.mem_append_right _ (.tail _ q)) ho hj
theorem off_cons {p : Addr × Obj} {R : Led} (h : @Ne Nat p.1 I) (h' : Off R I) : Off (p :: R) I := fun q hq => (List.mem_cons.mp hq).elim (fun e => e ▸ h) (h' q)
theorem off_cons_iff {p : Addr × Obj} {R : Led} : Off (p :: R) I ↔ @Ne Nat p.1 I ∧ Off R I := ⟨fun h => ⟨h _ (.head _), fun q hq => h q (.tail _ hq)⟩, fun h => off_cons h.1 h.2⟩
end
section
variable {prog : Program} {w : World} {A : Around} {E : Value → Shared → Prop} {s : Shared} {h₀ : Heap} {L a b : Addr} {news : Led} {xs : List Value} {c c2 : Nat} {Q : Value → Shared → Prop}
theorem eq_nil (N : News h₀ L s.heap news) (ha : (a, listOf xs.toArray c) ∈ news) (hb : (b, listOf (List.toArray []) c2) ∈ news) (hu : A.units < cLine) (h : Q (.bool (decide (xs = []))) s) : wpAny (model prog w) A (compareOp .Eq (.ref a) (.ref b)) Q E s := by
  cases xs with
  | nil => exact PySem.SeqAt.eq_listAt (e := fun _ => true) (News.isList N ha) (News.isList N hb) rfl hu (fun j h1 _ => absurd h1 (Nat.not_lt_zero j)) h
  | cons x r => exact PySem.SeqAt.eq_list_lengthsAt (News.isList N ha) (News.isList N hb) (by simp) hu (by simpa using h)
theorem ne_nil_cons {its : Array Value} (N : News h₀ L s.heap news) (ha : (a, listOf its c) ∈ news) (hb : (b, listOf #[] c2) ∈ news) (hz : (its.size != 0) = true) (hu : A.units < cLine) (h : Q (.bool true) s) : wpAny (model prog w) A (compareOp .NotEq (.ref a) (.ref b)) Q E s :=
  PySem.SeqAt.RcNeAt.lists_lengths (News.isList N ha) (News.isList N hb) hz hu prog w E Q h
end
theorem lines24 : True := by
  k_with "M k_unitsC9" => ((have hcL9 := cLine_is; (try simp only [units_under_make, units_in1, units_deeper]); (try dsimp only [ktrTop]); omega))
  exact True.intro
local macro_rules | `(tactic| k_units) => `(tactic| k_extra "M k_unitsC9")
theorem lines25 : True := by
  k_with "M compareOp NotEq ref ref" => ((k_here; (with_reducible show wpAny _ _ (compareOp CmpOp.NotEq (Value.ref _) (Value.ref _)) _ _ _); k_dflt (refine' ne_nil_cons (by k_asm) (by k_mem) (by k_mem) (by rfl) (by k_units) ?_; k_whole)))
  k_with "M compareOp Eq ref ref" => ((k_here; (with_reducible show wpAny _ _ (compareOp CmpOp.Eq (Value.ref _) (Value.ref _)) _ _ _); k_dflt (refine' eq_nil (by k_asm) (by k_mem) (by k_mem) (by k_units) ?_; k_whole)))
  exact True.intro
theorem offs_nil {news : Led} : ∀ q ∈ news, Off ([] : Led) q.1 := fun _ _ _ h => nomatch h
theorem offs_cons {p : Addr × Obj} {R news : Led} (h : AllLt p.1 news) (h' : ∀ q ∈ news, Off R q.1) : ∀ q ∈ news, Off (p :: R) q.1 := fun q hq z hz => (List.mem_cons.mp hz).elim (fun e => e ▸ Nat.ne_of_gt (allLt_mem h q hq)) (h' q hq z)
theorem offs_gt {p : Addr × Obj} {R news : Led} (h : ∀ q ∈ news, q.1 < p.1) (h' : ∀ q ∈ news, Off R q.1) : ∀ q ∈ news, Off (p :: R) q.1 := fun q hq z hz => (List.mem_cons.mp hz).elim (fun e => e ▸ Nat.ne_of_gt (h q hq)) (h' q hq z)
/-- a region's own objects, within a ledger -/
def RegR (w : World) (R : Led) (r : Value) (l wd : Int) : Prop := ∃ (rg dr d s0 s1 p0 p1 : Addr) (orr od : Obj) (n0 n1 m0 m1 : Nat) (k1 k2 k3 k4 : Tok), r = .ref rg ∧ IsRowsDict orr d ∧ od.IsDictOf (intKind lawProg w) [((0 : Int), Value.ref s0), (1, Value.ref s1)] ∧ (d == sysModules) = false ∧
    ∀ p ∈ [(rg, instObj 370 dr), (dr, orr), (d, od), (s0, listOf #[.ref p0] n0), (s1, listOf #[.ref p1] n1),
      (p0, { cls := .type "tuple", data := .seq #[.int l k1, .int (l + wd) k2] m0 }), (p1, { cls := .type "tuple", data := .seq #[.int l k3, .int (l + wd) k4] m1 })], p ∈ R
theorem RegR.fin {w : World} {big news : Led} {rg dr d s0 s1 p0 p1 : Addr} {od : Obj} {l wd q1 : Int} {n n0 n1 m0 m1 : Nat} {kk k1 k2 k3 k4 : Tok} {h₀ h : Heap} {L : Addr} (_N : News h₀ L h big) (hod : od.IsDictOf (intKind lawProg w) [((0 : Int), Value.ref s0), (1, Value.ref s1)])
    (h1 : (rg, instObj 370 dr) ∈ big) (h2 : (dr, dictOf [⟨q1, .str (Str.ofString "rows") kk, .ref d⟩] n) ∈ big) (h3 : (d, od) ∈ big) (lo : (d == sysModules) = false) (h4 : (s0, listOf #[.ref p0] n0) ∈ big) (h5 : (s1, listOf #[.ref p1] n1) ∈ big)
    (h6 : (p0, { cls := .type "tuple", data := .seq #[.int l k1, .int (l + wd) k2] m0 }) ∈ big) (h7 : (p1, { cls := .type "tuple", data := .seq #[.int l k3, .int (l + wd) k4] m1 }) ∈ big)
    (a1 : dr < rg) (a2 : AllLt dr news) (a3 : AllLt d news) (a4 : AllLt s0 news) (a5 : AllLt s1 news) (a6 : AllLt p0 news) (a7 : AllLt p1 news) :
    ∃ tl, RegR w tl (.ref rg) l wd ∧ (∀ q ∈ news, Off tl q.1) ∧ ∀ p ∈ tl, p ∈ big :=
  ⟨_, ⟨rg, dr, d, s0, s1, p0, p1, _, od, n0, n1, m0, m1, k1, k2, k3, k4, rfl, ⟨q1, kk, n, rfl⟩, hod, lo, sub_refl⟩,
    offs_gt (fun q hq => Nat.lt_trans (allLt_mem a2 q hq) a1) (offs_cons a2 (offs_cons a3 (offs_cons a4 (offs_cons a5 (offs_cons a6 (offs_cons a7 offs_nil)))))),
    sub_cons h1 (sub_cons h2 (sub_cons h3 (sub_cons h4 (sub_cons h5 (sub_cons h6 (sub_cons h7 sub_nil))))))⟩
local macro_rules | `(tactic| lcg_src) => `(tactic| ((with_reducible show ((_, _) : Addr × Obj) ∈ (_ : List (Addr × Obj))); k_mem))
theorem sorted_two {prog : Program} {w : World} {A : Around} {E : Value → Shared → Prop} {s : Shared} {h₀ : Heap} {L l : Addr} {m : Str → Option Value} {news : Led} {a b : Int} {t1 t2 : Tok} {c0 : Nat} {Q : Value → Shared → Prop} (hab : a < b) (F : Fr h₀ L s.heap m) (N : News h₀ L s.heap news) (hl : (l, listOf (List.toArray [Value.int a t1, Value.int b t2]) c0) ∈ news)
    (h : ∀ D t1' t2' c h', Fr h₀ L h' m → News h₀ L h' ((D, listOf (List.toArray [Value.int a t1', Value.int b t2']) c) :: news) → (∀ q ∈ news, q.1 < D) → Q (.ref D) { s with heap := h' }) :
    wpAny (model prog w) A (call (.builtin "sorted") [.ref l]) Q E s := by
  refine kso_sorted (vs := [Value.int a t1, Value.int b t2]) (ns := [a, b]) F N (kso_isList N hl rfl) (.cons _ _ (.cons _ _ .nil)) (by show 2 < 64; decide) fun D vs' ns' c h' F' N' l1 hi he hp ho _ => ?_
  have e : ns' = [a, b] := by
    match ns', he with
    | [x, y], _ =>
      have h1 := hp.mem_iff (a := a)
      have h2 := hp.mem_iff (a := b)
      have h3 : x ≤ y := by
        have := (List.pairwise_cons.mp ho).1 y (.head _)
        exact this
      simp only [List.mem_cons, List.not_mem_nil, or_false, true_or, iff_true, or_true] at h1 h2
      have h4 : x = a := by omega
      have h5 : y = b := by omega
      rw [h4, h5]
  subst e
  obtain ⟨t1', vs1, e1, hi1⟩ := hi.cons_inv
  obtain ⟨t2', vs2, e2, hi2⟩ := hi1.cons_inv
  obtain e3 := hi2.nil_inv
  rw [e3] at e2
  rw [e2] at e1
  subst e1
  exact h D t1' t2' c h' F' N' l1
theorem lines26 : True := by
  k_with "M BLK16" => (first | (k_here; (with_reducible show wpAny _ _ (subscriptTail _ _ (Value.ref _) (Value.int _ _)) _ _ _); k_dflt (refine kda_item (knd := PySem.intKind _ _) (by k_asm) (by k_mem) (by k_asm) (intKind_is _ _ _ _) (by rfl) ?_)) | (k_here; (with_reducible show wpAny _ _ (call (Value.type "dict") [Value.ref _]) _ _ _); k_dflt (refine' dict_pairs2 (by rfl) (by k_asm) (by k_asm) (by exact TopRead.nolimit (by k_asm)) (by k_mem) (by k_mem) (by k_mem) ?_; k_whole); intro D' h' o' tk' F' N' l1 lo' hd'; (try k_lt l1); (try k_sweep); (try kob_lit)) | (k_here; (with_reducible show wpAny _ _ (eval (Expr.ListComp _ [⟨_, Expr.Name _ _, _, _⟩] _ _) _) _ _ _); k_dflt (refine' listcomp_keys (by k_asm) (by with_unfolding_all rfl) (by decide) (by rfl) (by decide) (by rfl) ?_ (by intro _; rfl))) | ((with_reducible show KeysSrc _ _ _ _ _ _ _ _ _ _ _ _ _ _); (refine' KeysSrc.intro (by rfl) (by k_asm) (by k_asm) (by k_mem) (by assumption) (by assumption) (by exact Nat.le_of_ble_eq_true rfl) ?_; intro g'; lcg_lit)) | (k_here; (with_reducible show wpAny _ _ (call (Value.builtin _) [Value.ref _]) _ _ _); k_dflt (refine' sorted_two (a := 0) (b := 1) (by decide) (by k_asm) (by k_asm) (by k_mem) ?_; k_whole); intro D' t1' t2' c' h' F' N' l1; (try k_lt l1); (try k_sweep)) | (k_here; (with_reducible show wpAny _ _ (setItem (Value.ref _) (Value.int _ _) _) _ _ _); k_dflt (refine' kda_set (knd := intKind _ _) (by k_asm) (by k_asm) (by k_updF) (by assumption) (intKind_is _ _ _ _) (by rw [sizeLine_eq]; exact Nat.le_of_ble_eq_true (by with_unfolding_all rfl)) ?_; k_whole); intro h' o' F' N' hd'; (try dsimp only at N'); (try k_sweep)))
  exact True.intro
set_option maxRecDepth 100000 in
set_option maxHeartbeats 8000000 in
theorem rect_does {w : World} {l wd : Int} {t1 t2 t3 t4 : Tok} {news : Led} (hb : 0 ≤ l ∧ l < 2 ∧ 0 < wd ∧ wd < 4) :
    Does w 5 379 [.int l t1, .int 0 t2, .int wd t3, .int 2 t4] news (fun r news' => ∃ tl, RegR w tl r l wd ∧ (∀ q ∈ news, Off tl q.1) ∧ news' = tl ++ news) := by
  obtain ⟨b1, b2, b3, b4⟩ := hb
  unfold Does
  k_fill
  intro p loose mean mg mb dp un gd cn cs ad ccd cl outer A₀ base h₀ L m s Q E B F X N T hk hd' hu hret
  refine wpAny_call ?_
  k_enter
  (repeat' (first | walk_at "BLK16" | ((fail_if_success (with_reducible show wpAny _ _ (pyIter _) _ _ _)); (fail_if_success (with_reducible show wpAny _ _ (exec (Stmt.For _ _ _ _ _) _) _ _ _)); first | (k_unfold; (try dsimp only)) | (k_end; wrow_close) | walk1 | (dsimp only; walk1) | (leave1; try dsimp only) | (dsimp only [TurnP])) | fail "no step"))
  · exfalso; omega
  (repeat' (first | walk_at "BLK16" | (k_unfold; (try dsimp only)) | (k_end; wrow_close) | walk1 | (dsimp only; walk1) | (leave1; try dsimp only) | fail "no step"))
  with_unfolding_all refine' loop_two ?hhZ ?FZ ?NZ ?hmZ ?_
  case hhZ => rfl
  case FZ => k_asm
  case NZ => k_asm
  case hmZ => k_mem
  intro h1 tk1 I1 o1 hI1 F1 N1
  try simp only [off_cons_iff] at hI1
  repeat (first | (apply and8 hI1; clear hI1; intro oa oa oa oa oa oa oa hI1) | (apply and4 hI1; clear hI1; intro oa oa oa hI1) | (apply and2 hI1; clear hI1; intro oa hI1))
  (repeat' (first | walk_at "BLK16" | (k_unfold; (try dsimp only)) | (k_end; wrow_close) | walk1 | (dsimp only; walk1) | (leave1; try dsimp only) | fail "no step"))
  refine turnU [_, _] (by k_asm) (by k_asm) ?_ ⟨?_, ?_⟩
  · refine off_cons (by k_ne) (off_cons (by k_ne) ?_)
    repeat' (first | (with_reducible assumption) | refine off_cons (by k_ne) ?_)
  · k_mem
  intro h2 tk2 I2 o2 hI2 F2 N2
  try dsimp only [List.cons_append, List.nil_append] at hI2 N2
  try simp only [off_cons_iff] at hI2
  repeat (first | (apply and8 hI2; clear hI2; intro oa oa oa oa oa oa oa hI2) | (apply and4 hI2; clear hI2; intro oa oa oa hI2) | (apply and2 hI2; clear hI2; intro oa hI2))
  (repeat' (first | walk_at "BLK16" | (k_unfold; (try dsimp only)) | (k_end; wrow_close) | walk1 | (dsimp only; walk1) | (leave1; try dsimp only) | fail "no step"))
  refine turnU [_, _] (by k_asm) (by k_asm) ?_ ⟨?_, ?_⟩
  · refine off_cons (by k_ne) (off_cons (by k_ne) ?_)
    repeat' (first | (with_reducible assumption) | refine off_cons (by k_ne) ?_)
  · k_mem
  intro h3 tk3 F3 N3
  try dsimp only [List.cons_append, List.nil_append] at N3
  (repeat' (first | walk_at "BLK16" | (k_unfold; (try dsimp only)) | (k_end; wrow_close) | walk1 | (dsimp only; walk1) | (leave1; try dsimp only) | fail "no step"))
  rename Obj.IsDictOf _ _ (stored (stored _ _ _) _ _) => hod
  rename News _ _ _ _ => NN
  obtain ⟨tl, g1, g2, g3⟩ := RegR.fin (news := news) NN hod (by k_mem) (by k_mem) (by k_mem) (by assumption) (by k_mem) (by k_mem) (by k_mem) (by k_mem) (by assumption) (by walk_at "LT") (by walk_at "LT") (by walk_at "LT") (by walk_at "LT") (by walk_at "LT") (by walk_at "LT")
  refine hret _ _ _ (tl ++ news) (by k_asm) (News.of_sub NN (sub_app g3 ?_)) ⟨tl, g1, g2, rfl⟩
  repeat' (first | exact sub_refl | refine sub_tail ?_)
section
variable {prog : Program} {w : World} {A : Around} {E : Value → Shared → Prop} {R : Result → Shared → Prop} {s : Shared} {h₀ : Heap} {L : Addr} {m : Str → Option Value} {env : Env}
theorem turn_out (elt target iter target2 iter2 : Expr) (scope : Scope) (pos : Pos) (it acc : Value) (env : Env) :
    compTurn (.ListComp elt [⟨target, iter, [], 0⟩, ⟨target2, iter2, [], 0⟩] scope pos) 0 it acc env = (standAt iter.pos >>= fun _ => pyNext it >>= fun r => match r with
      | none => pure (.done .next)
      | some v => letOwnedTupleGo target it v >>= fun _ => assign target env v >>= fun _ =>
        eval iter2 env >>= fun x => standAt iter2.pos >>= fun _ => foldedSetIterable iter2 env x >>= fun x => holding [x] (pyIter x) >>= fun it2 => runOwn (.compStart (.ListComp elt [⟨target, iter, [], 0⟩, ⟨target2, iter2, [], 0⟩] scope pos) 1 it2 acc env) env >>= fun _ =>
          again (.compLoop (.ListComp elt [⟨target, iter, [], 0⟩, ⟨target2, iter2, [], 0⟩] scope pos) 0 it acc env)) := by rfl
theorem turn_in (elt target iter target2 iter2 : Expr) (scope : Scope) (pos : Pos) (it acc : Value) (env : Env) :
    compTurn (.ListComp elt [⟨target, iter, [], 0⟩, ⟨target2, iter2, [], 0⟩] scope pos) 1 it acc env = (standAt iter2.pos >>= fun _ => pyNext it >>= fun r => match r with
      | none => pure (.done .next)
      | some v => letOwnedTupleGo target2 it v >>= fun _ => assign target2 env v >>= fun _ =>
        (eval elt env >>= fun x => call (.builtin "list.append") [acc, x] >>= fun _ => pure ()) >>= fun _ =>
          again (.compLoop (.ListComp elt [⟨target, iter, [], 0⟩, ⟨target2, iter2, [], 0⟩] scope pos) 1 it acc env)) := by rfl
theorem codeAny_out {elt target iter target2 iter2 : Expr} {scope : Scope} {pos : Pos} {it acc : Value} {env : Env} (I : Nat → Shared → Prop)
    (turn : ∀ n s, I n s → wpAny (model prog w) A (pyNext it) (fun r s₁ => match r with
      | none => R (.ok .next) s₁
      | some v => wpAny (model prog w) A (assign target env v) (fun _ s₂ => wpAny (model prog w) A (eval iter2 env) (fun x s₃ =>
          wpAny (model prog w) A (pyIter x) (fun it2 s₄ => codeAny (model prog w) A (.compStart (.ListComp elt [⟨target, iter, [], 0⟩, ⟨target2, iter2, [], 0⟩] scope pos) 1 it2 acc env) (fun r s' => match r with | .ok _ => ∃ m, m < n ∧ I m s' | .error e => cameBackBy (model prog w) A env (notedBy (model prog w) A env fun e s' => R (.error e) s') e s') s₄)
          (notedBy (model prog w) A env fun e s' => R (.error e) s') s₃)
          (notedBy (model prog w) A env fun e s' => R (.error e) s') s₂) (notedBy (model prog w) A env fun e s' => R (.error e) s') s₁) (notedBy (model prog w) A env fun e s' => R (.error e) s') s)
    (n : Nat) (h : I n s) (ht : ∀ v, letOwnedTupleGo target it v = pure () := by intro _; rfl) (hs2 : ∀ x, foldedSetIterable iter2 env x = pure x := by intro _; rfl) :
    codeAny (model prog w) A (.compLoop (.ListComp elt [⟨target, iter, [], 0⟩, ⟨target2, iter2, [], 0⟩] scope pos) 0 it acc env) R s := by
  refine codeAny_loop rfl I (fun n s hI => ?_) n h
  show wpAny _ A ((compTurn (.ListComp elt [⟨target, iter, [], 0⟩, ⟨target2, iter2, [], 0⟩] scope pos) 0 it acc env).onRaise (fun x => do noteFrame x env; theTreesLotGoes x)) _ _ s
  refine wpAny_noted ?_
  rw [turn_out]
  refine wpAny_bind (wpAny_standAt (wpAny_bind (wpAny_mono (turn n s hI) (fun r s₁ h₁ => ?_) fun _ _ h' => h')))
  cases r with
  | none => exact wpAny_pure h₁
  | some v =>
    refine wpAny_bind (wpAny_of_eq (ht v) ?_)
    refine wpAny_bind (wpAny_mono h₁ (fun _ s₂ h₂ => wpAny_bind (wpAny_mono h₂ (fun x s₃ h₃ => ?_) fun _ _ h' => h')) fun _ _ h' => h')
    refine wpAny_bind (wpAny_standAt (wpAny_bind (wpAny_of_eq (hs2 x) ?_)))
    refine wpAny_bind (wpAny_holding (wpAny_mono h₃ (fun it2 s₄ h₄ => ?_) fun _ _ h' => h'))
    refine wpAny_bind (wpAny_runOwn (codeAny_mono h₄ fun r s' hr => ?_))
    cases r with
    | ok f => exact wpAny_pure ⟨rfl, hr⟩
    | error e => exact hr
theorem codeAny_in {elt target iter target2 iter2 : Expr} {scope : Scope} {pos : Pos} {it acc : Value} {env : Env} (I : Nat → Shared → Prop)
    (turn : ∀ n s, I n s → wpAny (model prog w) A (pyNext it) (fun r s₁ => match r with
      | none => R (.ok .next) s₁
      | some v => wpAny (model prog w) A (assign target2 env v) (fun _ s₂ => wpAny (model prog w) A (eval elt env) (fun x s₃ =>
          wpAny (model prog w) A (call (.builtin "list.append") [acc, x]) (fun _ s₄ => ∃ m, m < n ∧ I m s₄) (notedBy (model prog w) A env fun e s' => R (.error e) s') s₃)
          (notedBy (model prog w) A env fun e s' => R (.error e) s') s₂) (notedBy (model prog w) A env fun e s' => R (.error e) s') s₁) (notedBy (model prog w) A env fun e s' => R (.error e) s') s)
    (n : Nat) (h : I n s) (ht : ∀ v, letOwnedTupleGo target2 it v = pure () := by intro _; rfl) :
    codeAny (model prog w) A (.compLoop (.ListComp elt [⟨target, iter, [], 0⟩, ⟨target2, iter2, [], 0⟩] scope pos) 1 it acc env) R s := by
  refine codeAny_loop rfl I (fun n s hI => ?_) n h
  show wpAny _ A ((compTurn (.ListComp elt [⟨target, iter, [], 0⟩, ⟨target2, iter2, [], 0⟩] scope pos) 1 it acc env).onRaise (fun x => do noteFrame x env; theTreesLotGoes x)) _ _ s
  refine wpAny_noted ?_
  rw [turn_in]
  refine wpAny_bind (wpAny_standAt (wpAny_bind (wpAny_mono (turn n s hI) (fun r s₁ h₁ => ?_) fun _ _ h' => h')))
  cases r with
  | none => exact wpAny_pure h₁
  | some v =>
    refine wpAny_bind (wpAny_of_eq (ht v) ?_)
    exact wpAny_bind (wpAny_mono h₁ (fun _ s₂ h₂ => wpAny_bind (wpAny_bind (wpAny_mono h₂ (fun x s₃ h₃ => wpAny_bind (wpAny_mono h₃
      (fun _ s₄ h₄ => wpAny_pure (wpAny_pure ⟨rfl, h₄⟩)) fun _ _ h' => h')) fun _ _ h' => h'))) fun _ _ h' => h')
theorem codeAny_start1 {elt target iter target2 iter2 : Expr} {scope : Scope} {pos : Pos} {it acc : Value} {env : Env}
    (h0 : codeAny (model prog w) A (.compLoop (.ListComp elt [⟨target, iter, [], 0⟩, ⟨target2, iter2, [], 0⟩] scope pos) 1 it acc env) R s)
    (h : wpAny (model prog w) A (pyIter it) (fun it' s' => codeAny (model prog w) A (.compLoop (.ListComp elt [⟨target, iter, [], 0⟩, ⟨target2, iter2, [], 0⟩] scope pos) 1 it' acc env) R s')
      (notedBy (model prog w) A env fun x s' => R (.error x) s') s) :
    codeAny (model prog w) A (.compStart (.ListComp elt [⟨target, iter, [], 0⟩, ⟨target2, iter2, [], 0⟩] scope pos) 1 it acc env) R s := by
  refine codeAny_of_tree ?_
  show wpAny _ _ ((compStart (.ListComp elt [⟨target, iter, [], 0⟩, ⟨target2, iter2, [], 0⟩] scope pos) 1 it acc env).onRaise (fun x => do noteFrame x env; standAt theWindowsPlace)) _ _ s
  refine wpAny_notedAt ?_
  unfold compStart
  show wpAny _ _ (ask >>= _) _ _ s
  refine wpAny_bind (wpAny_askSetting (wpAny_ite ?_))
  split
  · first
      | exact wpAny_bind (wpAny_pure (wpAny_pure (And.intro rfl h0)))
      | exact wpAny_pure (And.intro rfl h0)
  · first
      | exact wpAny_bind (wpAny_rule (wpAny_bind (wpAny_standAt (wpAny_bind (wpAny_mono h (fun it' s' h' => wpAny_pure (And.intro rfl h')) fun _ _ x => x)))))
      | (refine wpAny_bind (wpAny_rule ?_); show wpAny _ _ (standAt iter2.pos >>= _) _ _ s; exact wpAny_bind (wpAny_standAt (wpAny_bind (wpAny_mono h (fun it' s' h' => wpAny_pure (And.intro rfl h')) fun _ _ x => x))))

/-- the inner range's value -/
def RangeIs (h₀ : Heap) (L : Addr) (m : Str → Option Value) (s : Shared) (news : List (Addr × Obj)) (c d : Int) (v : Value) (s' : Shared) : Prop :=
  ∃ h' tk r t u q, s' = { s with heap := h', toks := tk } ∧ v = .ref r ∧ Fr h₀ L h' m ∧ News h₀ L h' news ∧ IsRange h' r c d 1 t u q
/-- an element's end -/
def EltIs (h₀ : Heap) (L : Addr) (m : Str → Option Value) (s : Shared) (pre : List (Addr × Obj)) (Off : List (Addr × Obj) → Prop) (J : Value → List (Addr × Obj) → Prop) (v : Value) (s' : Shared) : Prop :=
  ∃ h' tk nx, s' = { s with heap := h', toks := tk } ∧ Fr h₀ L h' m ∧ News h₀ L h' (pre ++ nx) ∧ Off nx ∧ J v nx
theorem range_turn {I : Addr} {k b : Int} {Q : Option Value → Shared → Prop} (hh : A.handled = none) (hlt : k < b) (hst : IsRangeIter s.heap I k (b - k) 1)
    (hQ : ∀ t h' tk, IsRangeIter h' I (k + 1) (b - (k + 1)) 1 → (∀ x o, x ∉ [I] → s.heap.get? x = some o → h'.get? x = some o) → Q (some (.int k t)) { s with heap := h', toks := tk }) :
    wpAny (model prog w) A (pyNext (.ref I)) Q E s := by
  have W := LCg.range_walks (prog := prog) (w := w) (I := I) hh k (b - k).toNat
  have st : IsRangeIter s.heap I (k + (0 : Nat) * 1) ((((b - k).toNat : Nat) : Int) - (0 : Nat)) 1 := by
    have e : (((b - k).toNat : Nat) : Int) = b - k := by omega
    rw [e]; simpa using hst
  refine W.item 0 s Q E (by omega) st fun v h' tk hP hst' hk => ?_
  obtain ⟨t, rfl⟩ := hP
  have e0 : k + ((0 : Nat) : Int) = k := by simp
  rw [e0]
  refine hQ t h' tk ?_ hk
  have e1 : k + ((0 + 1 : Nat) : Int) * 1 = k + 1 := by simp
  have e2 : (((b - k).toNat : Nat) : Int) - ((0 + 1 : Nat) : Int) = b - (k + 1) := by omega
  rw [e1, e2] at hst'
  exact hst'
theorem range_end {I : Addr} {k b : Int} {Q : Option Value → Shared → Prop} (hh : A.handled = none) (hle : b = k) (hst : IsRangeIter s.heap I k (b - k) 1)
    (hQ : ∀ h' tk, (∀ x o, x ∉ [I] → s.heap.get? x = some o → h'.get? x = some o) → Q none { s with heap := h', toks := tk }) :
    wpAny (model prog w) A (pyNext (.ref I)) Q E s := by
  have W := LCg.range_walks (prog := prog) (w := w) (I := I) hh k 0
  have st : IsRangeIter s.heap I (k + (0 : Nat) * 1) (((0 : Nat) : Int) - (0 : Nat)) 1 := by
    have e : b - k = 0 := by omega
    rw [e] at hst
    simpa using hst
  exact W.done s Q E st hQ
theorem and11 {a b c d e f g h i j l G : Prop} (q : a ∧ b ∧ c ∧ d ∧ e ∧ f ∧ g ∧ h ∧ i ∧ j ∧ l) (k : a → b → c → d → e → f → g → h → i → j → l → G) : G := k q.1 q.2.1 q.2.2.1 q.2.2.2.1 q.2.2.2.2.1 q.2.2.2.2.2.1 q.2.2.2.2.2.2.1 q.2.2.2.2.2.2.2.1 q.2.2.2.2.2.2.2.2.1 q.2.2.2.2.2.2.2.2.2.1 q.2.2.2.2.2.2.2.2.2.2
theorem block_two {elt iter iter2 : Expr} {x y : Str} {px py : Pos} {scope : Scope} {cl : List (Str × Addr)} {pos : Pos} {s₂ : Shared} {I : Addr} {a b c d : Int} (J : Int → Int → List Value → List (Addr × Obj) → Prop) {news : List (Addr × Obj)} {RR : Value → Addr → Result → Shared → Prop}
    (hh : A.handled = none) (hab : a ≤ b) (hcd : c ≤ d) (hsm : Builtin.Range.small c d 1 = true) (hIt : IsRangeIter s₂.heap I a (b - a) 1) (hIlt : I < s₂.heap.objs.size)
    (hcell : ∀ z ∈ scope.names, z.2 ≠ .cell) (hkind : scope.kind = .function) (hx : scope.names.lookup x = some .local) (hy : scope.names.lookup y = some .local) (hxy : x ≠ y)
    (F : Fr h₀ L s₂.heap m) (N : News h₀ L s₂.heap news) (hIL : L ≠ I) (hI₀ : h₀.get? I = none) (off : ∀ p ∈ news, p.1 ≠ I)
    (hj : J a c [] news) (hrow : ∀ k ys nx, J k d ys nx → J (k + 1) c ys nx) (hlen : ∀ k j ys nx, J k j ys nx → ys.length < 1000)
    (inner : ∀ k t ys nx oI C oC D m₂ h tk (E' : Value → Shared → Prop), a ≤ k → k < b → J k c ys nx → LCg.NsObj oC m₂ → m₂ x = some (.int k t) → Fr h₀ L h m → News h₀ L h ((I, oI) :: (C, oC) :: (D, LCg.lst ys) :: nx) →
      wpAny (model prog w) A (eval iter2 (compEnvC scope cl C env)) (RangeIs h₀ L m { s₂ with heap := h, toks := tk } ((I, oI) :: (C, oC) :: (D, LCg.lst ys) :: nx) c d) E' { s₂ with heap := h, toks := tk })
    (hs2 : ∀ C v, foldedSetIterable iter2 (compEnvC scope cl C env) v = pure v)
    (turn : ∀ k j t u ys nx oI I2 oI2 C oC D m₂ h tk (E' : Value → Shared → Prop), a ≤ k → k < b → c ≤ j → j < d → J k j ys nx → LCg.NsObj oC m₂ → m₂ x = some (.int k t) → m₂ y = some (.int j u) → Fr h₀ L h m → News h₀ L h ((I, oI) :: (I2, oI2) :: (C, oC) :: (D, LCg.lst ys) :: nx) →
      (∀ p ∈ nx, p.1 ≠ I ∧ p.1 ≠ I2 ∧ p.1 ≠ C ∧ p.1 ≠ D) →
      wpAny (model prog w) A (eval elt (compEnvC scope cl C env)) (EltIs h₀ L m { s₂ with heap := h, toks := tk } [(I, oI), (I2, oI2), (C, oC), (D, LCg.lst ys)] (fun nx => ∀ p ∈ nx, p.1 ≠ I ∧ p.1 ≠ I2 ∧ p.1 ≠ C ∧ p.1 ≠ D) (fun v nx => J k (j + 1) (ys ++ [v]) nx)) E' { s₂ with heap := h, toks := tk })
    (hRR : ∀ D C h tk m' ys nx, Fr h₀ L h m → News h₀ L h ((D, LCg.lst ys) :: nx) → (∀ p ∈ nx, p.1 ≠ D) → h.Ns C m' → h₀.get? C = none → h₀.get? D = none → C ≠ L → D ≠ L → C ≠ D → (∀ p ∈ nx, p.1 ≠ C) → J b c ys nx → RR (.ref D) C (.ok .next) { s₂ with heap := h, toks := tk }) :
    wpAny (model prog w) A (newList []) (fun acc s₃ => wpAny (model prog w) A (newFunctionEnv scope env.globals cl [] env.qual none .none (some env)) (fun cenv s₄ =>
      codeAny (model prog w) A (.compStart (.ListComp elt [⟨.Name x px, iter, [], 0⟩, ⟨.Name y py, iter2, [], 0⟩] scope pos) 0 (.ref I) acc { cenv with scope := relabel scope env }) (RR acc cenv.locals) s₄) E s₃) E s₂ := by
  refine wpAny_newObj_type (wpAny_newFunctionEnv hcell (by intro y hy; simp at hy) (fun h₁ hns₁ hsb₁ => ?_) hkind)
  dsimp only at hns₁ hsb₁ ⊢
  generalize hH2 : s₂.heap.push { cls := .type "list", dict := none, data := .seq ([] : List Value).toArray } = H2 at hns₁ hsb₁ ⊢
  have hC : H2.objs.size = s₂.heap.objs.size + 1 := by rw [← hH2, Heap.size_push]
  have hDC : s₂.heap.objs.size ≠ H2.objs.size := by rw [hC]; exact Nat.ne_of_lt (Nat.lt_succ_self _)
  have below : ∀ b, b < s₂.heap.objs.size → b ≠ H2.objs.size ∧ b ≠ s₂.heap.objs.size := fun b hb => ⟨by rw [hC]; exact Nat.ne_of_lt (Nat.lt_succ_of_lt hb), Nat.ne_of_lt hb⟩
  have old : ∀ b o, s₂.heap.get? b = some o → h₁.get? b = some o := fun b o e => hsb₁.extBut b o (below b (Heap.lt_size e)).1 (Heap.get?_push_of_some _ (hH2 ▸ Heap.get?_push_of_some _ e))
  have hacc : h₁.get? s₂.heap.objs.size = some (LCg.lst []) := hsb₁.extBut _ _ hDC (Heap.get?_push_of_some _ (hH2 ▸ Heap.get?_push_size _ rfl))
  have fresh : ∀ a, s₂.heap.objs.size ≤ a → s₂.heap.get? a = none := fun a ha => by
    cases e : s₂.heap.get? a with
    | none => rfl
    | some o' => exact absurd (Heap.lt_size e) (Nat.not_lt.mpr ha)
  have fresh₀ : ∀ a, s₂.heap.objs.size ≤ a → h₀.get? a = none := fun a ha => by
    cases e : h₀.get? a with
    | none => rfl
    | some o' => have := F.keep a o' e; rw [fresh a ha] at this; cases this
  have hD₀ : h₀.get? s₂.heap.objs.size = none := fresh₀ _ (Nat.le_refl _)
  have hC₀ : h₀.get? H2.objs.size = none := fresh₀ _ (by rw [hC]; exact Nat.le_succ _)
  have hLlt : L < s₂.heap.objs.size := F.ns.lt
  have hDL : s₂.heap.objs.size ≠ L := Ne.symm (below L hLlt).2
  have hCL : H2.objs.size ≠ L := Ne.symm (below L hLlt).1
  have hCI : I ≠ H2.objs.size := (below I hIlt).1
  have hDI : I ≠ s₂.heap.objs.size := (below I hIlt).2
  have off₀ : ∀ p ∈ news, p.1 ≠ I ∧ p.1 ≠ H2.objs.size ∧ p.1 ≠ s₂.heap.objs.size := fun p hp => ⟨off p hp, below _ (Heap.lt_size (N p hp).1)⟩
  clear hIlt below fresh fresh₀ hLlt
  generalize s₂.heap.objs.size = D at *
  generalize H2.objs.size = C at *
  have loop : ∀ s₃ : Shared, s₃ = { s₂ with heap := h₁, toks := s₂.toks + ([] : List (Str × Value)).length } →
      codeAny (model prog w) A (.compLoop (.ListComp elt [⟨.Name x px, iter, [], 0⟩, ⟨.Name y py, iter2, [], 0⟩] scope pos) 0 (.ref I) (.ref D) (compEnvC scope cl C env))
        (RR (.ref D) C) s₃ := by
    rintro s₃ rfl
    refine codeAny_out (hs2 := hs2 C) (fun n s' => ∃ h' tk k ys m' nx, s' = { s₂ with heap := h', toks := tk } ∧ a ≤ k ∧ k ≤ b ∧ n = (b - k).toNat ∧ IsRangeIter h' I k (b - k) 1 ∧ Fr h₀ L h' m ∧ h'.Ns C m' ∧ News h₀ L h' ((D, LCg.lst ys) :: nx) ∧
        (∀ p ∈ nx, p.1 ≠ I ∧ p.1 ≠ C ∧ p.1 ≠ D) ∧ J k c ys nx) ?_ _ ⟨h₁, _, a, [], _, news, rfl, Int.le_refl _, hab, rfl, ?_, F.keeps old, hns₁, fun p hp => ?_, off₀, hj⟩
    · intro n s' hJ0
      apply ex6e hJ0
      clear hJ0
      intro h' tk k ys m' nx hJ0
      apply and9 hJ0
      clear hJ0
      intro ha hb hnE hst F' hn' N' off' hJ
      subst hnE
      by_cases hlt : k < b
      · refine range_turn hh hlt hst fun t h2 tk2 hst2 hk2 => ?_
        refine wpAny_assign_Name (wpAny_storeName_local (lookup_relabel_local hx) (hn'.at' fun o e => hk2 _ o (by simpa using Ne.symm hCI) e) (fun h3 hn3 hs3 => ?_) (by simp [compEnvC, relabel, hkind]))
        dsimp only at hs3 ⊢
        have F3 : Fr h₀ L h3 m := (LCg.fr_but F' hk2 hIL hI₀).change hs3 hCL hC₀
        have N2 : News h₀ L h2 ((D, LCg.lst ys) :: nx) := LCg.news_but N' hk2 fun p hp => by
          rcases List.mem_cons.mp hp with rfl | hp
          · exact Ne.symm hDI
          · exact (off' p hp).1
        have hst3 : IsRangeIter h3 I (k + 1) (b - (k + 1)) 1 := hs3.extBut I _ hCI hst2
        obtain ⟨oC, heC, hoC⟩ := LCg.ns_obj hn3
        have N3 : News h₀ L h3 ((I, _) :: (C, oC) :: (D, LCg.lst ys) :: nx) := fun p hp => by
          rcases List.mem_cons.mp hp with rfl | hp
          · exact ⟨hst3, Ne.symm hIL, hI₀⟩
          · rcases List.mem_cons.mp hp with rfl | hp
            · exact ⟨heC, hCL, hC₀⟩
            · refine ⟨hs3.extBut _ _ ?_ (N2 p hp).1, (N2 p hp).2⟩
              rcases List.mem_cons.mp hp with rfl | hp
              · exact hDC
              · exact (off' p hp).2.1
        refine wpAny_mono (inner k t ys nx _ C oC D _ h3 _ _ ha hlt hJ hoC (by simp) F3 N3) (fun xv s4 h4 => ?_) fun _ _ e => e
        apply ex6e h4
        clear h4
        intro h4 tk4 r t4 u4 q4 hJ0
        apply and4 hJ0
        clear hJ0
        intro hvE F4 N4 hr
        subst hvE
        refine wpAny_pyIter_range hr hsm ?_
        have hlI : I < h4.objs.size := Heap.lt_size (N4 _ (.head _)).1
        have hlC : C < h4.objs.size := Heap.lt_size (N4 _ (.tail _ (.head _))).1
        have hlD : D < h4.objs.size := Heap.lt_size (N4 _ (.tail _ (.tail _ (.head _)))).1
        have hlx : ∀ p ∈ nx, p.1 < h4.objs.size := fun p hp => Heap.lt_size (N4 _ (.tail _ (.tail _ (.tail _ hp)))).1
        have hlL : L < h4.objs.size := F4.ns.lt
        have hI20 : h₀.get? h4.objs.size = none := next_is_new F4
        have F5 := F4.push (o := { cls := .type "range_iterator", data := .fields #[rawInt c, rawInt (Builtin.Range.rangeSize c d 1), rawInt 1] })
        have N5 : News h₀ L (h4.push { cls := .type "range_iterator", data := .fields #[rawInt c, rawInt (Builtin.Range.rangeSize c d 1), rawInt 1] }) _ := fun p hp => ⟨Heap.get?_push_of_some _ (N4 p hp).1, (N4 p hp).2⟩
        have hrs : Builtin.Range.rangeSize c d 1 = d - c := by rw [rangeSize_nat]; omega
        have hst5 : IsRangeIter (h4.push { cls := .type "range_iterator", data := .fields #[rawInt c, rawInt (Builtin.Range.rangeSize c d 1), rawInt 1] }) h4.objs.size c (d - c) 1 := by
          show _ = _
          rw [hrs]; exact Heap.get?_push_size _ rfl
        have hI2 : I ≠ h4.objs.size := Nat.ne_of_lt hlI
        have hC2 : C ≠ h4.objs.size := Nat.ne_of_lt hlC
        have hD2 : D ≠ h4.objs.size := Nat.ne_of_lt hlD
        have hL2 : L ≠ h4.objs.size := Nat.ne_of_lt hlL
        have hx2 : ∀ p ∈ nx, p.1 ≠ h4.objs.size := fun p hp => Nat.ne_of_lt (hlx p hp)
        clear hlI hlC hlD hlx hlL
        generalize h4.push { cls := .type "range_iterator", data := .fields #[rawInt c, rawInt (Builtin.Range.rangeSize c d 1), rawInt 1] } = h5 at *
        generalize h4.objs.size = I2 at *
        have loop2 : ∀ s₃ : Shared, s₃ = { s₂ with heap := h5, toks := tk4 } →
            codeAny (model prog w) A (.compLoop (.ListComp elt [⟨.Name x px, iter, [], 0⟩, ⟨.Name y py, iter2, [], 0⟩] scope pos) 1 (.ref I2) (.ref D) (compEnvC scope cl C env))
              (fun r s' => match r with | .ok _ => ∃ m_1, m_1 < (b - k).toNat ∧ ∃ h' tk k ys m' nx, s' = { s₂ with heap := h', toks := tk } ∧ a ≤ k ∧ k ≤ b ∧ m_1 = (b - k).toNat ∧ IsRangeIter h' I k (b - k) 1 ∧ Fr h₀ L h' m ∧ h'.Ns C m' ∧ News h₀ L h' ((D, LCg.lst ys) :: nx) ∧
                (∀ p ∈ nx, p.1 ≠ I ∧ p.1 ≠ C ∧ p.1 ≠ D) ∧ J k c ys nx | .error e => cameBackBy (model prog w) A (compEnvC scope cl C env) (notedBy (model prog w) A (compEnvC scope cl C env) fun e s' => RR (.ref D) C (.error e) s') e s') s₃ := by
          rintro s₃ rfl
          refine codeAny_in (fun n s' => ∃ h' tk j ys m' nx, s' = { s₂ with heap := h', toks := tk } ∧ c ≤ j ∧ j ≤ d ∧ n = (d - j).toNat ∧ IsRangeIter h' I2 j (d - j) 1 ∧ IsRangeIter h' I (k + 1) (b - (k + 1)) 1 ∧ Fr h₀ L h' m ∧ h'.Ns C m' ∧ m' x = some (.int k t) ∧
            News h₀ L h' ((D, LCg.lst ys) :: nx) ∧ (∀ p ∈ nx, p.1 ≠ I ∧ p.1 ≠ I2 ∧ p.1 ≠ C ∧ p.1 ≠ D) ∧ J k j ys nx) ?_ _ ⟨h5, _, c, ys, _, nx, rfl, Int.le_refl _, hcd, rfl, hst5, (N5 _ (.head _)).1, F5, hoC.ns (N5 _ (.tail _ (.head _))).1, by simp, fun p hp => N5 p (.tail _ (.tail _ hp)), fun p hp => ⟨(off' p hp).1, hx2 p hp, (off' p hp).2⟩, hJ⟩
          intro n s' hJ0
          apply ex6e hJ0
          clear hJ0
          intro h' tk j ys m' nx hJ0
          apply and11 hJ0
          clear hJ0
          intro hj1 hj2 hnE hst hstO F' hn' hmx N' off' hJ
          subst hnE
          by_cases hlt2 : j < d
          · refine range_turn hh hlt2 hst fun u h2 tk2 hst2 hk2 => ?_
            refine wpAny_assign_Name (wpAny_storeName_local (lookup_relabel_local hy) (hn'.at' fun o e => hk2 _ o (by simpa using hC2) e) (fun h3 hn3 hs3 => ?_) (by simp [compEnvC, relabel, hkind]))
            dsimp only at hs3 ⊢
            have F3 : Fr h₀ L h3 m := (LCg.fr_but F' hk2 hL2 hI20).change hs3 hCL hC₀
            have N2 : News h₀ L h2 ((D, LCg.lst ys) :: nx) := LCg.news_but N' hk2 fun p hp => by
              rcases List.mem_cons.mp hp with rfl | hp
              · exact hD2
              · exact (off' p hp).2.1
            have hst3 : IsRangeIter h3 I2 (j + 1) (d - (j + 1)) 1 := hs3.extBut I2 _ (Ne.symm hC2) hst2
            have hstO3 : IsRangeIter h3 I (k + 1) (b - (k + 1)) 1 := hs3.extBut I _ hCI (hk2 I _ (by simpa using hI2) hstO)
            obtain ⟨oC, heC, hoC⟩ := LCg.ns_obj hn3
            have N3 : News h₀ L h3 ((I, _) :: (I2, _) :: (C, oC) :: (D, LCg.lst ys) :: nx) := fun p hp => by
              rcases List.mem_cons.mp hp with rfl | hp
              · exact ⟨hstO3, Ne.symm hIL, hI₀⟩
              · rcases List.mem_cons.mp hp with rfl | hp
                · exact ⟨hst3, Ne.symm hL2, hI20⟩
                · rcases List.mem_cons.mp hp with rfl | hp
                  · exact ⟨heC, hCL, hC₀⟩
                  · refine ⟨hs3.extBut _ _ ?_ (N2 p hp).1, (N2 p hp).2⟩
                    rcases List.mem_cons.mp hp with rfl | hp
                    · exact hDC
                    · exact (off' p hp).2.2.1
            refine wpAny_mono (turn k j t u ys nx _ I2 _ C oC D _ h3 _ _ ha hlt hj1 hlt2 hJ hoC (by simpa [hxy] using hmx) (by simp) F3 N3 off') (fun xv s4 h4 => ?_) fun _ _ e => e
            apply ex3e h4
            clear h4
            intro h4 tk4 nx4 hJ0
            apply and4 hJ0
            clear hJ0
            intro F4 N4 off4 hJ4
            have zD := (N4 _ (.tail _ (.tail _ (.tail _ (.head _))))).1
            have hys := hlen _ _ _ _ hJ
            refine append_at (hsz := by rw [List.size_toArray, sizeLine_eq]; omega) zD fun h6 hs6 hD6 => ?_
            refine ⟨(d - (j + 1)).toNat, by omega, h6, _, j + 1, ys ++ [xv], _, nx4, rfl, by omega, by omega, rfl, hs6.extBut _ _ (Ne.symm hD2) (N4 _ (.tail _ (.head _))).1, hs6.extBut _ _ hDI (N4 _ (.head _)).1, F4.change hs6 hDL hD₀,
              (hoC.ns (N4 _ (.tail _ (.tail _ (.head _)))).1).sameBut hs6 (Ne.symm hDC), by simpa [hxy] using hmx, fun p hp => ?_, off4, hJ4⟩
            rcases List.mem_cons.mp hp with rfl | hp
            · exact ⟨hD6.trans (congrArg some (LCg.lst_snoc ys xv)), hDL, hD₀⟩
            · have z := N4 p (.tail _ (.tail _ (.tail _ (.tail _ hp))))
              exact ⟨hs6.extBut _ _ (off4 p hp).2.2.2 z.1, z.2⟩
          · obtain rfl : j = d := by omega
            refine range_end hh rfl hst fun h2 tk2 hk2 => ?_
            refine ⟨(b - (k + 1)).toNat, by omega, h2, _, k + 1, ys, m', nx, rfl, by omega, by omega, rfl, hk2 I _ (by simpa using hI2) hstO, LCg.fr_but F' hk2 hL2 hI20, hn'.at' fun o e => hk2 _ o (by simpa using hC2) e, LCg.news_but N' hk2 fun p hp => by
              rcases List.mem_cons.mp hp with rfl | hp
              · exact hD2
              · exact (off' p hp).2.1, fun p hp => ⟨(off' p hp).1, (off' p hp).2.2⟩, hrow _ _ _ hJ⟩
        refine codeAny_start1 (loop2 _ rfl) ?_
        have hst6 : IsRangeIter h5 I2 (c + (0 : Nat) * 1) ((((d - c).toNat : Nat) : Int) - (0 : Nat)) 1 := by
          have e : (((d - c).toNat : Nat) : Int) = d - c := by omega
          rw [e]; simpa using hst5
        exact (LCg.range_walks (prog := prog) (w := w) hh c (d - c).toNat).self 0 _ _ _ hst6 (loop2 _ rfl)
      · obtain rfl : k = b := by omega
        refine range_end hh rfl hst fun h2 tk2 hk2 => ?_
        exact hRR D C h2 _ m' ys nx (LCg.fr_but F' hk2 hIL hI₀) (LCg.news_but N' hk2 fun p hp => by
          rcases List.mem_cons.mp hp with rfl | hp
          · exact Ne.symm hDI
          · exact (off' p hp).1) (fun p hp => (off' p hp).2.2) (hn'.at' fun o e => hk2 _ o (by simpa using Ne.symm hCI) e) hC₀ hD₀ hCL hDL (Ne.symm hDC) (fun p hp => (off' p hp).2.1) hJ
    · exact old _ _ hIt
    · rcases List.mem_cons.mp hp with rfl | hp
      · exact ⟨hacc, hDL, hD₀⟩
      · exact ⟨old _ _ (N p hp).1, (N p hp).2⟩
  refine codeAny_compStart_list (loop _ rfl) ?_
  have hst₁ : IsRangeIter h₁ I (a + (0 : Nat) * 1) ((((b - a).toNat : Nat) : Int) - (0 : Nat)) 1 := by
    have e : (((b - a).toNat : Nat) : Int) = b - a := by omega
    rw [e]; simpa using old _ _ hIt
  exact (LCg.range_walks (prog := prog) (w := w) hh a (b - a).toNat).self 0 _ _ _ hst₁ (loop _ rfl)
/-- the source of a comprehension over two ranges, and its word -/
def TwoSrc (prog : Program) (w : World) (A : Around) (h₀ : Heap) (L : Addr) (m : Str → Option Value) (env : Env) (elt iter2 : Expr) (x y : Str) (scope : Scope) (cl : List (Str × Addr)) (Q : Value → Shared → Prop) (xv : Value) (s₁ : Shared) : Prop :=
  ∃ (r : Addr) (a b c d : Int) (t u v : Tok) (news : List (Addr × Obj)) (J : Int → Int → List Value → List (Addr × Obj) → Prop), xv = .ref r ∧ A.handled = none ∧ Fr h₀ L s₁.heap m ∧ News h₀ L s₁.heap news ∧ IsRange s₁.heap r a b 1 t u v ∧ Builtin.Range.small a b 1 = true ∧ Builtin.Range.small c d 1 = true ∧ a ≤ b ∧ c ≤ d ∧
    J a c [] news ∧ (∀ k ys nx, J k d ys nx → J (k + 1) c ys nx) ∧ (∀ k j ys nx, J k j ys nx → ys.length < 1000) ∧
    (∀ k t ys nx oI I oC C D m₂ h tk (E' : Value → Shared → Prop), a ≤ k → k < b → J k c ys nx → LCg.NsObj oC m₂ → m₂ x = some (.int k t) → Fr h₀ L h m → News h₀ L h ((I, oI) :: (C, oC) :: (D, LCg.lst ys) :: nx) →
      wpAny (model prog w) A (eval iter2 (compEnvC scope cl C env)) (RangeIs h₀ L m { s₁ with heap := h, toks := tk } ((I, oI) :: (C, oC) :: (D, LCg.lst ys) :: nx) c d) E' { s₁ with heap := h, toks := tk }) ∧
    (∀ k j t u ys nx oI I I2 oI2 C oC D m₂ h tk (E' : Value → Shared → Prop), a ≤ k → k < b → c ≤ j → j < d → J k j ys nx → LCg.NsObj oC m₂ → m₂ x = some (.int k t) → m₂ y = some (.int j u) → Fr h₀ L h m → News h₀ L h ((I, oI) :: (I2, oI2) :: (C, oC) :: (D, LCg.lst ys) :: nx) →
      (∀ p ∈ nx, p.1 ≠ I ∧ p.1 ≠ I2 ∧ p.1 ≠ C ∧ p.1 ≠ D) →
      wpAny (model prog w) A (eval elt (compEnvC scope cl C env)) (EltIs h₀ L m { s₁ with heap := h, toks := tk } [(I, oI), (I2, oI2), (C, oC), (D, LCg.lst ys)] (fun nx => ∀ p ∈ nx, p.1 ≠ I ∧ p.1 ≠ I2 ∧ p.1 ≠ C ∧ p.1 ≠ D) (fun v nx => J k (j + 1) (ys ++ [v]) nx)) E' { s₁ with heap := h, toks := tk }) ∧
    (∀ D h tk ys nx, Fr h₀ L h m → News h₀ L h ((D, LCg.lst ys) :: nx) → (∀ p ∈ nx, p.1 ≠ D) → J b c ys nx → Q (.ref D) { s₁ with heap := h, toks := tk })
theorem listcomp_two {elt iter iter2 : Expr} {x y : Str} {px py : Pos} {scope : Scope} {cl : List (Str × Addr)} {pos : Pos} {Q : Value → Shared → Prop} (_F₀ : Fr h₀ L s.heap m)
    (hclos : closureFor scope env = pure cl) (hcell : ∀ y ∈ scope.names, y.2 ≠ .cell) (hkind : scope.kind = .function)
    (hnames : ∀ y ∈ scope.names, y.2 = .local → scope.names.lookup y.1 = some .local) (hx : scope.names.lookup x = some .local) (hy : scope.names.lookup y = some .local) (hxy : x ≠ y)
    (h : wpAny (model prog w) A (eval iter env) (TwoSrc prog w A h₀ L m env elt iter2 x y scope cl Q) E s)
    (hs : ∀ x, foldedSetIterable iter env x = pure x := by intro _; rfl) (hs2 : ∀ C v, foldedSetIterable iter2 (compEnvC scope cl C env) v = pure v := by intro _ _; rfl) :
    wpAny (model prog w) A (eval (.ListComp elt [⟨.Name x px, iter, [], 0⟩, ⟨.Name y py, iter2, [], 0⟩] scope pos) env) Q E s := by
  rw [eval_ListComp]
  refine wpAny_comprehension_free (use := none) rfl hs hclos hkind hnames (wpAny_mono h (fun xv s₁ h₁ => ?_) fun _ _ e => e)
  obtain ⟨r, a, b, c, d, t, u, v, news, J, rfl, hh, F, N, hr, hsm, hsm2, hab, hcd, hj, hrow, hlen, inner, turn, done⟩ := h₁
  refine wpAny_pyIter_range hr hsm ?_
  have hrs : Builtin.Range.rangeSize a b 1 = b - a := by rw [rangeSize_nat]; omega
  refine block_two J hh hab hcd hsm2 (by show _ = _; rw [hrs]; exact Heap.get?_push_size _ rfl) (by show _ < (s₁.heap.push _).objs.size; rw [Heap.size_push]; exact Nat.lt_succ_self _) hcell hkind hx hy hxy
    (F.keeps fun _ _ e => Heap.get?_push_of_some _ e) (N.grown fun _ _ e => Heap.get?_push_of_some _ e) (Nat.ne_of_lt F.ns.lt) (next_is_new F) (fun p hp => Nat.ne_of_lt (Heap.lt_size (N p hp).1)) hj hrow hlen
    (fun k t ys nx oI C oC D m₂ h tk E' => inner k t ys nx oI _ oC C D m₂ h tk E') hs2 (fun k j t u ys nx oI I2 oI2 C oC D m₂ h tk E' => turn k j t u ys nx oI _ I2 oI2 C oC D m₂ h tk E') ?_
  intro D C h tk m' ys nx F' N' o1 hn hC₀ hD₀ hCL hDL hCD offC fin
  refine ⟨m', hn, fun h'' hs'' => done D h'' tk ys nx (F'.change hs'' hCL hC₀) (fun p hp => ?_) o1 fin⟩
  refine ⟨hs''.extBut _ _ ?_ (N' p hp).1, (N' p hp).2⟩
  rcases List.mem_cons.mp hp with rfl | hp
  · exact Ne.symm hCD
  · exact offC p hp
end
theorem lines27 : True := by
  k_with "M call ref" => ((k_here; (with_reducible show wpAny _ _ (call (Value.ref 407) [_]) _ _ _); k_dflt (refine' Does.useL (by k_asm) (by k_asm) (by k_asm) (by k_asm) (by k_asm) (by first | exact rfl | assumption) (by ktr_room) (by ktr_units) (map_does (by k_updF) (by assumption)) ?_; k_whole); walk_at "END"))
  k_with "M call ref" => ((k_here; (with_reducible show wpAny _ _ (call (Value.ref 379) [_, _, _, _]) _ _ _); k_dflt (refine' Does.useR (by k_asm) (by k_asm) (by k_asm) (by k_asm) (by k_asm) (by first | exact rfl | assumption) (by ktr_room) (by ktr_units) (rect_does (by walk_at "OM")) ?_; k_whole); walk_at "END"))
  k_with "M eval ListComp" => ((k_here; (with_reducible show wpAny _ _ (eval (Expr.ListComp _ [_, _] _ _) _) _ _ _); k_dflt (refine' listcomp_two (by k_asm) (by with_unfolding_all rfl) (by decide) (by rfl) (by decide) (by rfl) (by rfl) (by decide) ?_ (by intro _; rfl) (by intro _ _; rfl))))
  exact True.intro
/-- the dots of a region's rectangle ahead of (k, j), column by column -/
def regU (l k j : Int) : Int → Int → Int := fun u v => if l ≤ u ∧ 0 ≤ v ∧ v < 2 ∧ (u < k ∨ (u = k ∧ v < j)) then 255 else 0
theorem regU_step {l k j : Int} (h1 : l ≤ k) (h2 : 0 ≤ j) (h3 : j < 2) : putF (regU l k j) k j 255 = regU l k (j + 1) := by
  funext u v
  unfold putF regU
  by_cases h : u = k ∧ v = j
  · obtain ⟨rfl, rfl⟩ := h
    rw [if_pos ⟨rfl, rfl⟩, if_pos (by omega)]
  · rw [if_neg h]
    by_cases h2 : l ≤ u ∧ 0 ≤ v ∧ v < 2 ∧ (u < k ∨ (u = k ∧ v < j))
    · rw [if_pos h2, if_pos (by omega)]
    · rw [if_neg h2, if_neg (by omega)]
theorem regU_row (l k : Int) : regU l k 2 = regU l (k + 1) 0 := by
  funext u v
  unfold regU
  by_cases h2 : l ≤ u ∧ 0 ≤ v ∧ v < 2 ∧ (u < k ∨ (u = k ∧ v < 2))
  · rw [if_pos h2, if_pos (by omega)]
  · rw [if_neg h2, if_neg (by omega)]
theorem regU_start (l : Int) : regU l l 0 = fun _ _ => 0 := by
  funext u v
  unfold regU
  rw [if_neg (by omega)]
theorem regU_end (l wd : Int) : regU l (l + wd) 0 = regF l wd := by
  funext u v
  unfold regU regF
  by_cases h2 : l ≤ u ∧ 0 ≤ v ∧ v < 2 ∧ (u < l + wd ∨ (u = l + wd ∧ v < 0))
  · rw [if_pos h2, if_pos (by omega)]
  · rw [if_neg h2, if_neg (by omega)]
/-- the word of the law's own comprehension over a rectangle's dots -/
def KeysJ (nb : Led) (l b k j : Int) (ys : List Value) (nx : Led) : Prop :=
  ∃ (items : List TItem) (S : Led), nx = S ++ nb ∧ ys = items.map (fun x => Value.ref x.p) ∧ (∀ x ∈ items, (x.p, tupO (.ref x.kp) x.val) ∈ S ∧ (x.kp, pairO x.u x.v x.tu x.tv) ∈ S) ∧ (∀ q ∈ nb, Off S q.1) ∧
    (items.length : Int) = 2 * (k - l) + j ∧ k ≤ b ∧ j ≤ 2 ∧ (0 < j → k < b) ∧ ∀ u v, TellsF (items.foldl tstore []) (regU l k j) u v
theorem KeysJ.start (nb : Led) (l b : Int) (h : l ≤ b) : KeysJ nb l b l 0 [] nb :=
  ⟨[], [], rfl, rfl, fun x (h : x ∈ ([] : List TItem)) => (by cases h), fun q hq p (hp : p ∈ ([] : Led)) => (by cases hp), by show ((0 : Nat) : Int) = 2 * (l - l) + 0; omega, h, by decide, fun h => absurd h (by decide), fun u v => Or.inr ⟨rfl, by rw [regU_start]⟩⟩
theorem KeysJ.row {nb : Led} {l b k : Int} {ys : List Value} {nx : Led} (H : KeysJ nb l b k 2 ys nx) : KeysJ nb l b (k + 1) 0 ys nx := by
  obtain ⟨items, S, h1, h2, h3, h4, h5, h6, h7, h8, h9⟩ := H
  exact ⟨items, S, h1, h2, h3, h4, by omega, by have := h8 (by decide); omega, by decide, fun h => absurd h (by decide), fun u v => by rw [← regU_row]; exact h9 u v⟩
theorem KeysJ.len {nb : Led} {l b k j : Int} {ys : List Value} {nx : Led} (H : KeysJ nb l b k j ys nx) (hb : b - l < 10) : ys.length < 1000 := by
  obtain ⟨items, S, h1, h2, h3, h4, h5, h6, h7, h8, h9⟩ := H
  rw [h2, List.length_map]; omega
theorem KeysJ.put {nb : Led} {l b k j : Int} {ys : List Value} {nx : Led} {p kp : Addr} {t tk tj : Tok} (H : KeysJ nb l b k j ys nx) (h1 : l ≤ k) (hb : k < b) (h2 : 0 ≤ j) (h3 : j < 2) (o1 : ∀ q ∈ nb, q.1 < p) (o2 : ∀ q ∈ nb, q.1 < kp) :
    KeysJ nb l b k (j + 1) (ys ++ [.ref p]) ((p, tupO (.ref kp) (.int 255 t)) :: (kp, pairO k j tk tj) :: nx) := by
  obtain ⟨items, S, rfl, rfl, g3, g4, g5, g6, g7, g8, g9⟩ := H
  refine ⟨items ++ [⟨p, kp, k, tk, j, tj, .int 255 t⟩], (p, tupO (.ref kp) (.int 255 t)) :: (kp, pairO k j tk tj) :: S, rfl, by simp, fun x hx => ?_, fun q hq z hz => ?_, by simp; omega, g6, by omega, fun _ => hb, fun u v => ?_⟩
  · rcases List.mem_append.mp hx with hx | hx
    · exact ⟨.tail _ (.tail _ (g3 x hx).1), .tail _ (.tail _ (g3 x hx).2)⟩
    · rw [List.mem_singleton.mp hx]
      exact ⟨.head _, .tail _ (.head _)⟩
  · rcases List.mem_cons.mp hz with rfl | hz
    · exact Nat.ne_of_gt (o1 q hq)
    · rcases List.mem_cons.mp hz with rfl | hz
      · exact Nat.ne_of_gt (o2 q hq)
      · exact g4 q hq z hz
  · rw [List.foldl_append, ← regU_step h1 h2 h3]
    exact tells_put g9 u v
/-- an element's end: a pair of a pair and 255 -/
def EltP (h₀ : Heap) (L : Addr) (m : Str → Option Value) (s₁ : Shared) (k j : Int) (nx : Led) (v : Value) (s' : Shared) : Prop :=
  ∃ p kp t' tk' tj h' tkk, v = .ref p ∧ s' = { s₁ with heap := h', toks := tkk } ∧ Fr h₀ L h' m ∧ News h₀ L h' ((p, tupO (.ref kp) (.int 255 t')) :: (kp, pairO k j tk' tj) :: nx) ∧ AllLt kp nx ∧ kp < p
theorem TwoSrc.keys {prog : Program} {w : World} {A : Around} {h₀ : Heap} {L : Addr} {m : Str → Option Value} {env : Env} {elt iter2 : Expr} {x y : Str} {scope : Scope} {cl : List (Str × Addr)} {Q : Value → Shared → Prop} {s₁ : Shared} {r : Addr} {a b : Int} {t u v : Tok} {news : Led}
    (hh : A.handled = none) (F : Fr h₀ L s₁.heap m) (N : News h₀ L s₁.heap news) (hR : IsRange s₁.heap r a b 1 t u v) (h0 : 0 ≤ a) (hb : a ≤ b) (hb2 : b < 10)
    (inner : ∀ k t ys nx oI I oC C D m₂ h tk (E' : Value → Shared → Prop), a ≤ k → k < b → LCg.NsObj oC m₂ → m₂ x = some (.int k t) → Fr h₀ L h m → News h₀ L h ((I, oI) :: (C, oC) :: (D, LCg.lst ys) :: nx) →
      wpAny (model prog w) A (eval iter2 (compEnvC scope cl C env)) (RangeIs h₀ L m { s₁ with heap := h, toks := tk } ((I, oI) :: (C, oC) :: (D, LCg.lst ys) :: nx) 0 2) E' { s₁ with heap := h, toks := tk })
    (turn : ∀ k j t u ys nx oI I I2 oI2 C oC D m₂ h tk (E' : Value → Shared → Prop), LCg.NsObj oC m₂ → m₂ x = some (.int k t) → m₂ y = some (.int j u) → Fr h₀ L h m → News h₀ L h ((I, oI) :: (I2, oI2) :: (C, oC) :: (D, LCg.lst ys) :: nx) →
      wpAny (model prog w) A (eval elt (compEnvC scope cl C env)) (EltP h₀ L m s₁ k j ((I, oI) :: (I2, oI2) :: (C, oC) :: (D, LCg.lst ys) :: nx)) E' { s₁ with heap := h, toks := tk })
    (done : ∀ D h tk ys nx, Fr h₀ L h m → News h₀ L h ((D, LCg.lst ys) :: nx) → (∀ p ∈ nx, p.1 ≠ D) → KeysJ news a b b 0 ys nx → Q (.ref D) { s₁ with heap := h, toks := tk }) :
    TwoSrc prog w A h₀ L m env elt iter2 x y scope cl Q (.ref r) s₁ := by
  refine ⟨r, a, b, 0, 2, t, u, v, news, KeysJ news a b, rfl, hh, F, N, hR, small_one (by omega) (by omega) (by omega) (by omega), small_one (by omega) (by omega) (by omega) (by omega), hb, by decide, KeysJ.start _ _ _ hb, fun k ys nx h => h.row, fun k j ys nx h => h.len (by omega), ?_, ?_, done⟩
  · intro k t ys nx oI I oC C D m₂ h tk E' ha hb hJ
    exact inner k t ys nx oI I oC C D m₂ h tk E' ha hb
  · intro k j t u ys nx oI I I2 oI2 C oC D m₂ h tk E' ha hb hc hd hJ h1 h2 h3 F' N' off
    refine wpAny_mono (turn k j t u ys nx oI I I2 oI2 C oC D m₂ h tk E' h1 h2 h3 F' N') (fun v s' hv => ?_) fun _ _ e => e
    obtain ⟨p, kp, t', tk', tj, h', tkk, rfl, rfl, F2, N2, l1, l2⟩ := hv
    have hlt := allLt_mem l1
    have hb' : ∀ q ∈ news, q.1 < kp := fun q hq => hlt q (by
      obtain ⟨items, S, e, _⟩ := hJ
      rw [e]
      exact .tail _ (.tail _ (.tail _ (.tail _ (List.mem_append_right _ hq)))))
    have e1 := hlt _ (.head _)
    have e2 := hlt _ (.tail _ (.head _))
    have e3 := hlt _ (.tail _ (.tail _ (.head _)))
    have e4 := hlt _ (.tail _ (.tail _ (.tail _ (.head _))))
    refine ⟨h', tkk, _, rfl, F2, News.of_sub N2 ?_, ?_, hJ.put (t := t') (tk := tk') (tj := tj) ha hb hc hd (fun q hq => Nat.lt_trans (hb' q hq) l2) hb'⟩
    · simp only [List.cons_append, List.nil_append]
      walk_at "SUB"
    · intro q hq
      rcases List.mem_cons.mp hq with rfl | hq
      · exact ⟨Nat.ne_of_gt (Nat.lt_trans e1 l2), Nat.ne_of_gt (Nat.lt_trans e2 l2), Nat.ne_of_gt (Nat.lt_trans e3 l2), Nat.ne_of_gt (Nat.lt_trans e4 l2)⟩
      · rcases List.mem_cons.mp hq with rfl | hq
        · exact ⟨Nat.ne_of_gt e1, Nat.ne_of_gt e2, Nat.ne_of_gt e3, Nat.ne_of_gt e4⟩
        · exact off q hq
theorem regF_bounds (l wd a b : Int) : 0 ≤ regF l wd a b ∧ regF l wd a b ≤ 255 := by
  unfold regF
  split <;> omega
theorem layer_fin {w : World} {src l1 D3 D2 x d D : Addr} {o o3 o2 oD : Obj} {S tl rest : Led} {items : List TItem} {r : Value} {l wd q1 : Int} {kk : Tok} {nn n0 : Nat} {h₀ h : Heap} {L : Addr}
    (NN : News h₀ L h ((l1, listOf (List.toArray [Value.ref x, Value.ref D3]) n0) :: (D3, o3) :: (D2, o2) :: (S ++ (x, instObj 124 d) :: (d, dictOf [⟨q1, .str (Str.ofString "region") kk, r⟩] nn) :: (tl ++ (D, oD) :: (src, o) :: rest)))) (hr : RegR w tl r l wd)
    (hT : ToldS lawProg w ((D3, o3) :: items.map fun x => (x.kp, pairO x.u x.v x.tu x.tv)) D3 (items.foldl tstore [])) (g3 : ∀ x ∈ items, (x.p, tupO (.ref x.kp) x.val) ∈ S ∧ (x.kp, pairO x.u x.v x.tu x.tv) ∈ S) (g9 : ∀ u v, TellsF (items.foldl tstore []) (regU l (l + wd) 0) u v)
    (hS : ∀ q ∈ (src, o) :: rest, Off S q.1) (ht : ∀ q ∈ (src, o) :: rest, Off tl q.1) (hD : ∀ q ∈ (src, o) :: rest, q.1 < D) (hd : ∀ q ∈ (src, o) :: rest, q.1 < d) (hx : d < x) (h2 : ∀ q ∈ (src, o) :: rest, q.1 ≠ D2) (h3 : ∀ q ∈ (src, o) :: rest, q.1 < D3) (h4 : ∀ q ∈ (src, o) :: rest, q.1 < l1) :
    ∃ TL, (∃ f, PairAt w TL (.ref l1) f) ∧ (∀ q ∈ (src, o) :: rest, Off TL q.1) ∧ News h₀ L h (TL ++ (src, o) :: rest) := by
  refine ⟨(l1, listOf (List.toArray [Value.ref x, Value.ref D3]) n0) :: (D3, o3) :: (D2, o2) :: (S ++ (x, instObj 124 d) :: (d, dictOf [⟨q1, .str (Str.ofString "region") kk, r⟩] nn) :: (tl ++ [(D, oD)])), ?_, ?_, ?_⟩
  · refine ⟨regF l wd, l1, _, _, n0, rfl, .head _, ⟨regF_bounds l wd, .inr ?_⟩, D3, _, _, rfl, hT, ?_, fun a b _ _ _ _ => ?_⟩
    · obtain ⟨rg, dr, dd, s0, s1, p0, p1, orr, od, n0, n1, m0, m1, k1, k2, k3, k4, rfl, h1, h2, h3, h4⟩ := hr
      refine ⟨x, l, wd, _, rfl, ⟨d, rg, dr, dd, s0, s1, p0, p1, _, orr, od, n0, n1, m0, m1, k1, k2, k3, k4, ⟨q1, kk, nn, rfl⟩, h1, h2, h3, rfl⟩, rfl, ?_⟩
      refine sub_cons ?_ (sub_cons ?_ fun p hp => ?_)
      · exact .tail _ (.tail _ (.tail _ (List.mem_append_right _ (.head _))))
      · exact .tail _ (.tail _ (.tail _ (List.mem_append_right _ (.tail _ (.head _)))))
      · exact .tail _ (.tail _ (.tail _ (List.mem_append_right _ (.tail _ (.tail _ (List.mem_append_left _ (h4 p hp)))))))
    · refine sub_cons (.tail _ (.head _)) fun p hp => ?_
      obtain ⟨x, hx, rfl⟩ := List.mem_map.mp hp
      exact .tail _ (.tail _ (.tail _ (List.mem_append_left _ (g3 x hx).2)))
    · rw [← regU_end]; exact g9 a b
  · intro q hq
    refine off_cons (Nat.ne_of_gt (h4 q hq)) (off_cons (Nat.ne_of_gt (h3 q hq)) (off_cons (Ne.symm (h2 q hq)) (Off.join (hS q hq) (off_cons (Nat.ne_of_gt (Nat.lt_trans (hd q hq) hx)) (off_cons (Nat.ne_of_gt (hd q hq)) (Off.join (ht q hq) (off_cons (Nat.ne_of_gt (hD q hq)) fun p hp => ?_)))))))
    cases hp
  · refine News.of_sub NN ?_
    walk_at "SUB"
set_option maxRecDepth 100000 in
set_option maxHeartbeats 8000000 in
theorem layer_does {w : World} {src : Addr} {news : Led} {o : Obj} {g : Obj → Led} (U : UpdF src o news g) (ho : SrcO o) :
    Does w 6 412 [.ref src] news (fun r news' => ∃ o' tl, (SrcO o' ∧ ∃ f, PairAt w tl r f) ∧ (∀ q ∈ news, Off tl q.1) ∧ news' = tl ++ g o') := by
  refine Does.updT (P := fun r o' tl => SrcO o' ∧ ∃ f, PairAt w tl r f) U fun rest hr _ => ?_
  clear U
  unfold Does
  k_fill
  intro p loose mean mg mb dp un gd cn cs ad ccd cl outer A₀ base h₀ L m s Q E B F X N T hk hd' hu hret
  refine wpAny_call ?_
  k_dflt ktr_enter
  (repeat' (first | ((fail_if_success (with_reducible show wpAny _ _ (pyIter _) _ _ _)); (fail_if_success (with_reducible show wpAny _ _ (exec (Stmt.For _ _ _ _ _) _) _ _ _)); first | (k_unfold; (try dsimp only)) | (k_end; wrow_close) | walk1 | (dsimp only; walk1) | (leave1; try dsimp only) | (dsimp only [TurnP])) | fail "no step"))
  · exact hret _ _ _ _ (by k_asm) (by k_asm) ⟨_, _, ⟨by assumption, _, by assumption⟩, fun q hq => (by assumption : ∀ q ∈ _ :: rest, Off _ q.1) q (.tail _ hq), (by assumption : ∀ q ∈ (src, _) :: rest, Off _ q.1) _ (.head _), rfl⟩
  · rename IsRange _ _ _ _ _ _ _ _ => hR
    rename News _ _ _ _ => NB
    rename Fr _ _ _ _ => FB
    rename RegR _ _ _ _ _ => hReg
    rename ∀ q ∈ _, Off _ _ => hoffR
    refine TwoSrc.keys rfl FB NB hR (by omega) (by omega) (by omega) ?_ ?_ ?_
    · intro k t ys nx oI I oC C D m2 h2 tk2 E2 ha hb hC2 hx2 F2 N2
      (repeat' (first | ((fail_if_success (with_reducible show wpAny _ _ (pyIter _) _ _ _)); (fail_if_success (with_reducible show wpAny _ _ (exec (Stmt.For _ _ _ _ _) _) _ _ _)); first | (k_unfold; (try dsimp only)) | (k_end; wrow_close) | walk1 | (dsimp only; walk1) | (leave1; try dsimp only) | (dsimp only [TurnP])) | fail "no step"))
      exact ⟨_, _, _, _, _, _, rfl, rfl, by k_asm, by k_asm, by assumption⟩
    · intro k j t u ys nx oI I I2 oI2 C oC D m2 h2 tk2 E2 hC2 hx2 hy2 F2 N2
      (repeat' (first | ((fail_if_success (with_reducible show wpAny _ _ (pyIter _) _ _ _)); (fail_if_success (with_reducible show wpAny _ _ (exec (Stmt.For _ _ _ _ _) _) _ _ _)); first | (k_unfold; (try dsimp only)) | (k_end; wrow_close) | walk1 | (dsimp only; walk1) | (leave1; try dsimp only) | (dsimp only [TurnP])) | fail "no step"))
      exact ⟨_, _, _, _, _, _, _, rfl, rfl, by k_asm, by k_asm, by walk_at "LT", ltN (by omega)⟩
    · intro D2 h2 tk2 ys nx F2 N2 o2 hJ
      obtain ⟨items, S, rfl, rfl, g3, g4, g5, g6, g7, g8, g9⟩ := hJ
      (repeat' (first | ((fail_if_success (with_reducible show wpAny _ _ (pyIter _) _ _ _)); (fail_if_success (with_reducible show wpAny _ _ (exec (Stmt.For _ _ _ _ _) _) _ _ _)); first | (k_unfold; (try dsimp only)) | (k_end; wrow_close) | walk1 | (dsimp only; walk1) | (leave1; try dsimp only) | (dsimp only [TurnP])) | fail "no step"))
      k_dflt (refine' dict_pairs_tup (items := items) ?hhZ ?huZ ?FZ ?NZ ?bigZ ?hlZ ?htsZ ?hksZ ?hszZ ?_)
      case hhZ => rfl
      case huZ => k_units
      case FZ => k_asm
      case NZ => k_asm
      case bigZ => exact TopRead.nolimit (by k_asm)
      case hlZ => exact .head _
      case htsZ => exact fun x hx => .tail _ (List.mem_append_left _ (g3 x hx).1)
      case hksZ => exact fun x hx => .tail _ (List.mem_append_left _ (g3 x hx).2)
      case hszZ => omega
      intro D3 h3 o3 tk3 F3 N3 l3 hT3
      (repeat' (first | ((fail_if_success (with_reducible show wpAny _ _ (pyIter _) _ _ _)); (fail_if_success (with_reducible show wpAny _ _ (exec (Stmt.For _ _ _ _ _) _) _ _ _)); first | (k_unfold; (try dsimp only)) | (k_end; wrow_close) | walk1 | (dsimp only; walk1) | (leave1; try dsimp only) | (dsimp only [TurnP])) | fail "no step"))
      rename News h₀ L _ _ => NN
      obtain ⟨TL, k1, k2, k3⟩ := layer_fin NN hReg hT3 g3 g9 (fun q hq => g4 q (.tail _ (.tail _ (List.mem_append_right _ (.tail _ hq))))) (fun q hq => hoffR q (.tail _ hq)) (allLt_mem (by walk_at "LT")) (fun q hq => (by assumption : ∀ q ∈ _, q.1 < _) q (List.mem_append_right _ (.tail _ hq))) (by assumption)
        (fun q hq => o2 q (List.mem_append_right _ (.tail _ (.tail _ (List.mem_append_right _ (.tail _ hq)))))) (fun q hq => l3 q (.tail _ (List.mem_append_right _ (.tail _ (.tail _ (List.mem_append_right _ (.tail _ hq))))))) (fun q hq => (allLt_mem (by walk_at "LT") : ∀ q ∈ S ++ _, q.1 < _) q (List.mem_append_right _ (.tail _ (.tail _ (List.mem_append_right _ (.tail _ hq))))))
      exact hret _ _ _ _ (by k_asm) k3 ⟨_, TL, ⟨by assumption, k1⟩, fun q hq => k2 q (.tail _ hq), k2 _ (.head _), rfl⟩
/-- a colour -/
structure Col where
  r : Int
  g : Int
  b : Int
  a : Int
def Col.Ok (c : Col) : Prop := 0 ≤ c.r ∧ c.r ≤ 255 ∧ 0 ≤ c.g ∧ c.g ≤ 255 ∧ 0 ≤ c.b ∧ c.b ≤ 255 ∧ 0 ≤ c.a ∧ c.a ≤ 255
/-- a colour's tuple -/
def ColO (o : Obj) (c : Col) : Prop := ∃ (t1 t2 t3 t4 : Tok), o = { cls := .type "tuple", data := .seq (List.toArray [Value.int c.r t1, Value.int c.g t2, Value.int c.b t3, Value.int c.a t4]) }
theorem offs_one {p : Addr × Obj} {src : Addr} {rest : Led} (h : src < p.1 ∧ AllLt p.1 rest) : (∀ q ∈ rest, Off [p] q.1) ∧ Off [p] src :=
  ⟨fun q hq z hz e => by rw [List.mem_singleton.mp hz] at e; exact absurd (allLt_mem h.2 q hq) (by rw [← e]; exact Nat.lt_irrefl _),
   fun z hz e => by rw [List.mem_singleton.mp hz] at e; exact absurd h.1 (by rw [← e]; exact Nat.lt_irrefl _)⟩
set_option maxRecDepth 100000 in
set_option maxHeartbeats 8000000 in
theorem colour_does {w : World} {src : Addr} {news : Led} {o : Obj} {g : Obj → Led} (U : UpdF src o news g) (ho : SrcO o) :
    Does w 4 433 [.ref src] news (fun r news' => ∃ o' tl, (SrcO o' ∧ ∃ p oc c, r = .ref p ∧ tl = [(p, oc)] ∧ ColO oc c ∧ c.Ok) ∧ (∀ q ∈ news, Off tl q.1) ∧ news' = tl ++ g o') := by
  refine Does.updT (P := fun r o' tl => SrcO o' ∧ ∃ p oc c, r = .ref p ∧ tl = [(p, oc)] ∧ ColO oc c ∧ c.Ok) U fun rest hr _ => ?_
  clear U
  unfold Does
  k_fill
  intro p loose mean mg mb dp un gd cn cs ad ccd cl outer A₀ base h₀ L m s Q E B F X N T hk hd' hu hret
  refine wpAny_call ?_
  k_dflt ktr_enter
  (repeat' (first | ((fail_if_success (with_reducible show wpAny _ _ (pyIter _) _ _ _)); (fail_if_success (with_reducible show wpAny _ _ (exec (Stmt.For _ _ _ _ _) _) _ _ _)); first | (k_unfold; (try dsimp only)) | (k_end; wrow_close) | walk1 | (dsimp only; walk1) | (leave1; try dsimp only) | (dsimp only [TurnP])) | fail "no step"))
  rename News h₀ L _ _ => NN
  refine hret _ _ _ _ (by k_asm) (News.of_sub NN (sub_cons (.head _) (sub_tail (sub_tail sub_refl)))) ⟨_, [_], ⟨by assumption, _, _, ⟨_, _, _, _⟩, rfl, rfl, ⟨_, _, _, _, rfl⟩, ?_⟩, (offs_one (by walk_at "LT")).1, (offs_one (by walk_at "LT")).2, rfl⟩
  refine ⟨?_, ?_, ?_, ?_, ?_, ?_, ?_, ?_⟩ <;> dsimp only <;> omega
set_option maxRecDepth 100000 in
set_option maxHeartbeats 8000000 in
theorem clip_does {w : World} {l : Addr} {n0 : Nat} {vs : List Value} {news : Led} (hl : (l, listOf vs.toArray n0) ∈ news) (hsz : vs.length < 1000) :
    Does w 3 173 [.ref l] news (fun r news' => ∃ tl c, (r = .ref c ∧ ClipAt tl c vs) ∧ (∀ q ∈ news, Off tl q.1) ∧ news' = tl ++ news) := by
  unfold Does
  k_fill
  intro p loose mean mg mb dp un gd cn cs ad ccd cl outer A₀ base h₀ L m s Q E B F X N T hk hd' hu hret
  replace N := News.mem N hl
  (repeat' (first | ((fail_if_success (with_reducible show wpAny _ _ (pyIter _) _ _ _)); (fail_if_success (with_reducible show wpAny _ _ (exec (Stmt.For _ _ _ _ _) _) _ _ _)); first | (k_unfold; (try dsimp only)) | (k_end; wrow_close) | walk1 | (dsimp only; walk1) | (leave1; try dsimp only) | (dsimp only [TurnP])) | fail "no step"))
  rename News h₀ L _ _ => NN
  refine hret _ _ _ _ (by k_asm) (News.of_sub NN (sub_app (l₁ := [_, _, _]) (sub_cons (.head _) (sub_cons (.tail _ (.head _)) (sub_cons (.tail _ (.tail _ (.head _))) sub_nil))) (sub_tail (sub_tail (sub_tail (sub_tail sub_refl)))))) ⟨_, _, ⟨rfl, _, _, _, _, ⟨_, _, _, rfl⟩, .tail _ (.head _), .tail _ (.tail _ (.head _)), .head _⟩, ?_, rfl⟩
  exact offs_cons (by walk_at "LT") (offs_gt (fun q hq => Nat.lt_trans (allLt_mem (by walk_at "LT") q hq) (by assumption)) (offs_cons (by walk_at "LT") offs_nil))
theorem lines28 : True := by
  k_with "M call ref" => ((k_here; (with_reducible show wpAny _ _ (call (Value.ref 173) [_]) _ _ _); k_dflt (refine' Does.useC (by k_asm) (by k_asm) (by k_asm) (by k_asm) (by k_asm) (by first | exact rfl | assumption) (by ktr_room) (by ktr_units) (clip_does (by k_mem) (by first | omega | (simp only [List.length_append, List.length_cons, List.length_nil]; omega))) ?_; k_whole); walk_at "END"))
  exact True.intro
/-- no clip yet, or one of these layers -/
def StepV (R : Led) (sv : Value) (us : List Value) : Prop := (sv = .none ∧ us = []) ∨ ∃ c, sv = .ref c ∧ ClipAt R c us
set_option maxRecDepth 100000 in
set_option maxHeartbeats 8000000 in
theorem step_does {w : World} {sv lv : Value} {us : List Value} {news : Led} (hs : StepV news sv us) (hsz : us.length < 500) :
    Does w 6 191 [sv, lv] news (fun r news' => ∃ tl c, (r = .ref c ∧ ClipAt tl c (us ++ [lv])) ∧ (∀ q ∈ news, Off tl q.1) ∧ news' = tl ++ news) := by
  unfold Does
  k_fill
  intro p loose mean mg mb dp un gd cn cs ad ccd cl outer A₀ base h₀ L m s Q E B F X N T hk hd' hu hret
  rcases hs with ⟨rfl, rfl⟩ | ⟨c, rfl, dc, ll, od, n0, ⟨q1, k1, n1, rfl⟩, hc1, hc2, hc3⟩
  · refine wpAny_call ?_
    k_dflt ktr_enter
    (repeat' (first | ((fail_if_success (with_reducible show wpAny _ _ (pyIter _) _ _ _)); (fail_if_success (with_reducible show wpAny _ _ (exec (Stmt.For _ _ _ _ _) _) _ _ _)); first | (k_unfold; (try dsimp only)) | (k_end; wrow_close) | walk1 | (dsimp only; walk1) | (leave1; try dsimp only) | (dsimp only [TurnP])) | fail "no step"))
    rename News h₀ L _ _ => NN
    rename ClipAt _ _ _ => hC
    rename ∀ q ∈ _, Off _ _ => hO
    exact hret _ _ _ _ (by k_asm) (News.of_sub NN (by walk_at "SUB")) ⟨_, _, ⟨rfl, hC⟩, fun q hq => hO q (.tail _ hq), rfl⟩
  · replace N := News.of_sub (news' := (c, instObj 173 dc) :: (dc, _) :: (ll, listOf us.toArray n0) :: news) N (sub_cons hc1 (sub_cons hc2 (sub_cons hc3 sub_refl)))
    refine wpAny_call ?_
    k_dflt ktr_enter
    (repeat' (first | ((fail_if_success (with_reducible show wpAny _ _ (pyIter _) _ _ _)); (fail_if_success (with_reducible show wpAny _ _ (exec (Stmt.For _ _ _ _ _) _) _ _ _)); first | (k_unfold; (try dsimp only)) | (k_end; wrow_close) | walk1 | (dsimp only; walk1) | (leave1; try dsimp only) | (dsimp only [TurnP])) | fail "no step"))
    rename News h₀ L _ _ => NN
    rename ClipAt _ _ _ => hC
    rename ∀ q ∈ _, Off _ _ => hO
    exact hret _ _ _ _ (by k_asm) (News.of_sub NN (by walk_at "SUB")) ⟨_, _, ⟨rfl, hC⟩, fun q hq => hO q (.tail _ (.tail _ (.tail _ (.tail _ (.tail _ hq))))), rfl⟩
section
variable {prog : Program} {w : World} {A : Around} {E : Value → Shared → Prop} {s : Shared} {env : Env} {h₀ : Heap} {x : Str} {body : List Stmt} {Q : Flow → Shared → Prop}
/-- one name of the frame turns, the ledger grows ahead of what stood -/
def OneG (x y : Str) (P : Nat → Value → Led → Prop) (m₀ : Str → Option Value) (news : Led) (i : Nat) (m : Str → Option Value) (nx : Led) : Prop :=
  ∃ tl, nx = tl ++ news ∧ (∃ u, m y = some u ∧ P i u tl) ∧ ∀ z, z ≠ x → z ≠ y → m z = m₀ z
theorem loop_listG {l : Addr} {vs : List Value} {c : Nat} {m₀ : Str → Option Value} {news : Led} {y : Str} {u₀ : Value} (P : Nat → Value → Led → Prop)
    (hh : A.handled = none) (hl : (l, listOf vs.toArray c) ∈ news) (F : Fr h₀ env.locals s.heap m₀) (N : News h₀ env.locals s.heap news) (hy : m₀ y = some u₀) (h0 : P 0 u₀ [])
    (turn : ∀ i v u tl h tk I o, vs[i]? = some v → P i u tl → Off tl I → Off news I → Fr h₀ env.locals h (fun z => if z = x then some v else if z = y then some u else m₀ z) → News h₀ env.locals h ((I, o) :: (tl ++ news)) →
      wpAny (model prog w) A (execs body env) (TurnP h₀ env.locals (OneG x y P m₀ news (i + 1)) I o { s with heap := h, toks := tk } Q) E { s with heap := h, toks := tk })
    (done : ∀ (v : Str → Option Value) u tl h tk, P vs.length u tl → Fr h₀ env.locals h (fun z => if z = x then v z else if z = y then some u else m₀ z) → News h₀ env.locals h (tl ++ news) → Q .next { s with heap := h, toks := tk }) :
    wpAny (model prog w) A (pyIter (.ref l)) (fun it s₂ => LoopAtV prog w A h₀ env x body Q E it s₂) E s := by
  refine loop_list (OneG x y P m₀ news) hh (fun i m nx h => by obtain ⟨tl, rfl, _⟩ := h; exact List.mem_append_right _ hl) F N ⟨[], rfl, ⟨u₀, hy, h0⟩, fun _ _ _ => rfl⟩ ?_ ?_
  · rintro i v m₁ nx h tk I o hv ⟨tl, rfl, ⟨u, hu, hP⟩, hm⟩ hoff F₁ N₁
    have e : (fun z => if z = x then some v else m₁ z) = fun z => if z = x then some v else if z = y then some u else m₀ z := by
      funext z
      by_cases h1 : z = x
      · simp [h1]
      · simp only [if_neg h1]
        by_cases h2 : z = y
        · subst h2; simp [hu]
        · simp only [if_neg h2]; exact hm z h1 h2
    rw [e] at F₁
    exact turn i v u tl h tk I o hv hP (Off.app hoff).1 (Off.app hoff).2 F₁ N₁
  · rintro m₁ nx h tk ⟨tl, rfl, ⟨u, hu, hP⟩, hm⟩ F₁ N₁
    refine done m₁ u tl h tk hP ?_ N₁
    have e : (fun z => if z = x then m₁ z else if z = y then some u else m₀ z) = m₁ := by
      funext z
      by_cases h1 : z = x
      · simp [h1]
      · simp only [if_neg h1]
        by_cases h2 : z = y
        · subst h2; simp [hu]
        · simp only [if_neg h2]; exact (hm z h1 h2).symm
    rw [e]; exact F₁
end
theorem StepV.mono {R R' : Led} {sv : Value} {us : List Value} (h : StepV R sv us) (hs : ∀ p ∈ R, p ∈ R') : StepV R' sv us := by
  rcases h with h | ⟨c, e, h⟩
  · exact .inl h
  · exact .inr ⟨c, e, h.mono hs⟩
theorem StepV.clip {w : World} {R : Led} {sv : Value} {vs : List Value} {fs : List (Int → Int → Int)} (h : StepV R sv vs) (hl : LaysAt w R vs fs) : ClipV w R sv (prodF fs) := by
  rcases h with ⟨rfl, rfl⟩ | ⟨c, rfl, h⟩
  · have : fs = [] := List.length_eq_zero_iff.mp hl.1.symm
    subst this
    exact .inl ⟨rfl, rfl⟩
  · exact .inr ⟨c, vs, fs, rfl, h, hl, rfl⟩
theorem ToldAt.mono {w : World} {R R' : Led} {v : Value} {f : Int → Int → Int} (h : ToldAt w R v f) (hs : ∀ p ∈ R, p ∈ R') : ToldAt w R' v f := by
  obtain ⟨d, T, xs, h1, h2, h3, h4⟩ := h
  exact ⟨d, T, xs, h1, h2, fun p hp => hs p (h3 p hp), h4⟩
theorem ToldsAt.mono {w : World} {R R' : Led} {vs : List Value} {fs : List (Int → Int → Int)} (h : ToldsAt w R vs fs) (hs : ∀ p ∈ R, p ∈ R') : ToldsAt w R' vs fs := ⟨h.1, fun i v f h1 h2 => ⟨((h.2 i v f h1 h2).1).mono hs, (h.2 i v f h1 h2).2⟩⟩
theorem flat2_does {w : World} {cv : Value} {P : Int → Int → Int} {l t wd ht : Int} {t1 t2 t3 t4 : Tok} {news : Led} (hc : ClipV w news cv P) (hb : 0 ≤ l ∧ 0 < wd ∧ l + wd ≤ 3 ∧ 0 ≤ t ∧ 0 < ht ∧ t + ht ≤ 2) :
    Does w 8 226 [cv, .int l t1, .int t t2, .int wd t3, .int ht t4] news (fun r news' => ∃ (M : Led) (x : Addr) (f : Int → Int → Int), r = .ref x ∧ MapS M x l t wd ht f ∧ (∀ u v, f u v = within P l t wd ht u v) ∧ (∀ q ∈ news, Off M q.1) ∧ news' = M ++ news) := by
  intro p loose mean mg mb dp un gd cn cs ad ccd cl outer A₀ base h₀ L m s Q E B F X N T hk hd' hu hret
  exact (flat_does hc hb).use B F X N T hk hd' hu fun r h' tk' news' F' N' ⟨M, x, h1, h2, h3, h4⟩ => hret r h' tk' news' F' N' ⟨M, x, _, h1, h2, fun _ _ => rfl, h3, h4⟩
theorem ClipAt.entries {R : Led} {c : Addr} {vs : List Value} (h : ClipAt R c vs) : ∃ (dc ll : Addr) (q1 : Int) (k1 : Tok) (n n0 : Nat), (c, instObj 173 dc) ∈ R ∧ (dc, dictOf [⟨q1, .str (Str.ofString "layers") k1, .ref ll⟩] n) ∈ R ∧ (ll, listOf vs.toArray n0) ∈ R := by
  obtain ⟨dc, ll, od, n0, ⟨q1, k1, n1, rfl⟩, h2, h3, h4⟩ := h
  exact ⟨dc, ll, q1, k1, n1, n0, h2, h3, h4⟩
/-- a new clip, its entries told -/
theorem Does.useE {w : World} {need : Nat} {f : Addr} {vs us : List Value} {news : Led} {p : Program} {loose : List Str} {mean : ExcName → Option Value} {mg mb : Str → Option Value} {dp un : Nat} {gd : Option (List Code)} {cn : Str} {cs : Scope} {a : Addr} {ccd : Value} {cl : List (Str × Addr)} {outer : List Env} {A₀ : Around} {base h₀ : Heap} {L : Addr} {m : Str → Option Value} {s : Shared} {Q E : Value → Shared → Prop} (B : Below A₀ base outer h₀) (F : Fr h₀ L s.heap m) (X : (hd.heap_1 w.params).In h₀) (N : News h₀ L s.heap news) (T : Top p loose mean mg mb h₀) (hk : cs.kind = .function) (hd : dp + need < recursionLimit) (hu : un + 8 * need < cLine) (D : Does w need f vs news (fun r news' => ∃ tl c, (r = .ref c ∧ ClipAt tl c us) ∧ (∀ q ∈ news, Off tl q.1) ∧ news' = tl ++ news))
    (k : ∀ h' tk', Fr h₀ L h' m → ∀ tl c, ClipAt tl c us → (∀ q ∈ news, Off tl q.1) → ∀ (dc ll : Addr) (q1 : Int) (k1 : Tok) (n n0 : Nat), (c, instObj 173 dc) ∈ tl → (dc, dictOf [⟨q1, .str (Str.ofString "layers") k1, .ref ll⟩] n) ∈ tl → (ll, listOf us.toArray n0) ∈ tl → News h₀ L h' ((c, instObj 173 dc) :: (dc, dictOf [⟨q1, .str (Str.ofString "layers") k1, .ref ll⟩] n) :: (ll, listOf us.toArray n0) :: (tl ++ news)) → Q (.ref c) { s with heap := h', toks := tk' }) :
    wpAny (model PySem.Challenge.rw_nu0025_01.row.prog w) (ktrTop dp un gd cn cs L a ccd cl outer) (call (.ref f) vs) Q E s :=
  D.useC B F X N T hk hd hu fun h' tk' F' tl c h1 h2 N' => by
    obtain ⟨dc, ll, q1, k1, n, n0, e1, e2, e3⟩ := h1.entries
    exact k h' tk' F' tl c h1 h2 dc ll q1 k1 n n0 e1 e2 e3 (News.of_sub N' (sub_cons (List.mem_append_left _ e1) (sub_cons (List.mem_append_left _ e2) (sub_cons (List.mem_append_left _ e3) sub_refl))))
theorem upto_lit (vs : List Value) {y : Int} (h : 0 ≤ y) : (slicePick vs.toArray none (some y) none).toList = vs.take y.toNat := by
  obtain ⟨n, rfl⟩ := Int.eq_ofNat_of_zero_le h
  rw [slicePick_upto' vs.toArray n]; simp
theorem from_lit (vs : List Value) {y : Int} (h : 0 ≤ y) : (slicePick vs.toArray (some y) none none).toList = vs.drop y.toNat := by
  obtain ⟨n, rfl⟩ := Int.eq_ofNat_of_zero_le h
  rw [slicePick_from' vs.toArray n]; simp
theorem half_lo (n : Nat) : 0 ≤ (n : Int).fdiv 2 := Int.fdiv_nonneg (by omega) (by decide)
theorem lines29 : True := by
  k_with "M call ref" => ((k_here; (with_reducible show wpAny _ _ (call (Value.ref 173) [_]) _ _ _); k_dflt (refine' Does.useE (by k_asm) (by k_asm) (by k_asm) (by k_asm) (by k_asm) (by first | exact rfl | assumption) (by ktr_room) (by ktr_units) (clip_does (by k_mem) (by first | omega | (simp only [List.length_append, List.length_cons, List.length_nil, List.length_take, List.length_drop]; omega))) ?_; k_whole); walk_at "END"))
  exact True.intro
set_option maxRecDepth 100000 in
set_option maxHeartbeats 8000000 in
theorem both_does {w : World} {a b : Addr} {us vs : List Value} {news : Led} (ha : ClipAt news a us) (hb : ClipAt news b vs) (hsz : us.length + vs.length < 500) :
    Does w 6 163 [.ref a, .ref b] news (fun r news' => ∃ tl c, (r = .ref c ∧ ClipAt tl c (us ++ vs)) ∧ (∀ q ∈ news, Off tl q.1) ∧ news' = tl ++ news) := by
  unfold Does
  k_fill
  intro p loose mean mg mb dp un gd cn cs ad ccd cl outer A₀ base h₀ L m s Q E B F X N T hk hd' hu hret
  obtain ⟨dc, ll, od, n0, ⟨q1, k1, n1, rfl⟩, hc1, hc2, hc3⟩ := ha
  obtain ⟨dc2, ll2, od2, n02, ⟨q12, k12, n12, rfl⟩, hd1, hd2, hd3⟩ := hb
  replace N := News.of_sub (news' := (a, instObj 173 dc) :: (dc, _) :: (ll, listOf us.toArray n0) :: (b, instObj 173 dc2) :: (dc2, _) :: (ll2, listOf vs.toArray n02) :: news) N (sub_cons hc1 (sub_cons hc2 (sub_cons hc3 (sub_cons hd1 (sub_cons hd2 (sub_cons hd3 sub_refl))))))
  refine wpAny_call ?_
  k_dflt ktr_enter
  (repeat' (first | ((fail_if_success (with_reducible show wpAny _ _ (pyIter _) _ _ _)); (fail_if_success (with_reducible show wpAny _ _ (exec (Stmt.For _ _ _ _ _) _) _ _ _)); first | (k_unfold; (try dsimp only)) | (k_end; wrow_close) | walk1 | (dsimp only; walk1) | (leave1; try dsimp only) | (dsimp only [TurnP])) | fail "no step"))
  rename News h₀ L _ _ => NN
  rename ClipAt _ _ _ => hC
  rename ∀ q ∈ _, Off _ _ => hO
  exact hret _ _ _ _ (by k_asm) (News.of_sub NN (by walk_at "SUB")) ⟨_, _, ⟨rfl, hC⟩, fun q hq => hO q (.tail _ (.tail _ (.tail _ (.tail _ (.tail _ (.tail _ (.tail _ hq))))))), rfl⟩
theorem ClipAt.clipV {w : World} {tl news : Led} {c : Addr} {vs : List Value} {fs : List (Int → Int → Int)} (hW : ClipAt tl c vs) (hL : LaysAt w news vs fs) : ClipV w (tl ++ news) (.ref c) (prodF fs) :=
  .inr ⟨c, vs, fs, rfl, hW.mono (sub_left sub_refl), hL.mono (sub_right sub_refl), rfl⟩
section
variable {prog : Program} {w : World} {A : Around} {E : Value → Shared → Prop} {s : Shared} {env : Env} {h₀ : Heap} {x : Str} {body : List Stmt} {Q : Flow → Shared → Prop}
/-- a for over a range: names that are forgotten, the ledger stands -/
theorem loop_rangeS {r : Addr} {a₀ b₀ : Int} {t₀ u₀ v₀ : Tok} {m₀ : Str → Option Value} {news : Led} (stored : List Str)
    (hh : A.handled = none) (hr : IsRange s.heap r a₀ b₀ 1 t₀ u₀ v₀) (hsmall : Builtin.Range.small a₀ b₀ 1 = true) (hab : a₀ ≤ b₀) (F : Fr h₀ env.locals s.heap m₀) (N : News h₀ env.locals s.heap news)
    (turn : ∀ k t (u : Str → Option Value) h tk I o, a₀ ≤ k → k < b₀ → Off news I → Fr h₀ env.locals h (fun y => if y = x then some (.int k t) else if stored.contains y then u y else m₀ y) → News h₀ env.locals h ((I, o) :: news) →
      wpAny (model prog w) A (execs body env) (TurnP h₀ env.locals (Forgets x stored m₀ (fun nx => nx = news)) I o { s with heap := h, toks := tk } Q) E { s with heap := h, toks := tk })
    (done : ∀ (u : Str → Option Value) h tk, Fr h₀ env.locals h (fun y => if y = x then u y else if stored.contains y then u y else m₀ y) → News h₀ env.locals h news → Q .next { s with heap := h, toks := tk }) :
    wpAny (model prog w) A (pyIter (.ref r)) (fun it s₂ => LoopAtV prog w A h₀ env x body Q E it s₂) E s := by
  refine loop_rangeF stored (fun _ nx => nx = news) hh hr hsmall hab F N rfl ?_ ?_
  · rintro k t u nx h tk I o h1 h2 rfl hoff F₁ N₁
    exact turn k t u h tk I o h1 h2 hoff F₁ N₁
  · rintro u nx h tk rfl F₁ N₁
    exact done u h tk F₁ N₁
theorem turnS {L : Addr} {x : Str} {stored : List Str} {m₀ m' : Str → Option Value} {news big : Led} {I : Addr} {o : Obj} {s₁ : Shared} {h' : Heap} {tk : Nat} (F : Fr h₀ L h' m') (N : News h₀ L h' big) (ho : Off news I) (hs : ∀ p ∈ (I, o) :: news, p ∈ big)
    (hm : ∀ y, y ≠ x → stored.contains y = false → m' y = m₀ y) : TurnG h₀ L (Forgets x stored m₀ (fun nx => nx = news)) I o s₁ { s₁ with heap := h', toks := tk } := ⟨h', tk, m', news, rfl, F, News.of_sub N hs, ho, rfl, hm⟩
end
theorem within_at {P : Int → Int → Int} {l t wd ht u v : Int} (h : l ≤ u ∧ u < l + wd ∧ t ≤ v ∧ v < t + ht) : within P l t wd ht u v = P u v := by unfold within; rw [if_pos h]
theorem within_off {P : Int → Int → Int} {l t wd ht u v : Int} (h : ¬ (l ≤ u ∧ u < l + wd ∧ t ≤ v ∧ v < t + ht)) : within P l t wd ht u v = 0 := by unfold within; rw [if_neg h]
theorem lines30 : True := by
  k_with "M BLK20" => (first | (k_here; (with_reducible show wpAny _ _ (call (Value.ref 191) [_, _]) _ _ _); k_dflt (refine' Does.useC (by k_asm) (by k_asm) (by k_asm) (by k_asm) (by k_asm) (by first | exact rfl | assumption) (by ktr_room) (by ktr_units) (step_does (by first | assumption | exact StepV.mono (by assumption) (by walk_at "SUB")) (by first | omega | (simp only [List.length_take]; omega))) ?_; k_whole); walk_at "END") | (k_here; (with_reducible show wpAny _ _ (call (Value.ref 226) [_, _, _, _, _]) _ _ _); k_dflt (refine' Does.useMF (by k_asm) (by k_asm) (by k_asm) (by k_asm) (by k_asm) (by first | exact rfl | assumption) (by ktr_room) (by ktr_units) (flat2_does (by first | assumption | exact ClipV.mono (by assumption) (by walk_at "SUB")) (by walk_at "OM")) ?_; k_whole); walk_at "END") | (k_here; (with_reducible show wpAny _ _ (call (Value.ref 184) [_, _, _]) _ _ _); k_dflt (refine' Does.useI (by k_asm) (by k_asm) (by k_asm) (by k_asm) (by k_asm) (by first | exact rfl | assumption) (by ktr_room) (by ktr_units) (clipped_does (by first | assumption | exact ClipV.mono (by assumption) (by walk_at "SUB")) (by first | exact .inr rfl | exact .inl ⟨by omega, by omega, by omega, by omega⟩)) ?_; k_whole); walk_at "END") | (k_here; (with_reducible show wpAny _ _ (call (Value.ref 419) [_, _, _]) _ _ _); k_dflt (refine' Does.useI (by k_asm) (by k_asm) (by k_asm) (by k_asm) (by k_asm) (by first | exact rfl | assumption) (by ktr_room) (by ktr_units) (product_does (by k_mem) (by first | assumption | exact ToldsAt.mono (by assumption) (by walk_at "SUB")) (by walk_at "OM")) ?_; k_whole); walk_at "END") | (k_here; (with_reducible show wpAny _ _ (subscriptTail _ (PySem.Expr.Slice _ _ none _) (Value.ref _) (Value.ref _)) _ _ _); k_dflt (refine' kmk_slice_lit (by k_asm) (by k_asm) (by exact News.isList (by k_asm) (by k_mem)) (by kmk_part) (by kmk_part) (by first | exact upto_lit _ (half_lo _) | exact from_lit _ (half_lo _)) ?_ (by with_unfolding_all rfl) (by kmk_pure) (by (rw [List.size_toArray, sizeLine_eq]; omega))); intro D' h' F' N' l1; (try k_lt l1); (try k_sweep)) | (k_here; (with_reducible show wpAny _ _ (call (Value.ref 163) [_, _]) _ _ _); k_dflt (refine' Does.useE (by k_asm) (by k_asm) (by k_asm) (by k_asm) (by k_asm) (by first | exact rfl | assumption) (by ktr_room) (by ktr_units) (both_does (by exact ClipAt.mono (by assumption) (by walk_at "SUB")) (by exact ClipAt.mono (by assumption) (by walk_at "SUB")) (by (simp only [List.length_take, List.length_drop]; omega))) ?_; k_whole); walk_at "END"))
  exact True.intro
set_option maxRecDepth 100000 in
set_option maxHeartbeats 8000000 in
theorem right_does {w : World} {ll rl : Addr} {n0 n1 : Nat} {vs rvs : List Value} {fs : List (Int → Int → Int)} {news : Led} (hl : (ll, listOf vs.toArray n0) ∈ news) (hr : (rl, listOf rvs.toArray n1) ∈ news) (hL : LaysAt w news vs fs) (hT : ToldsAt w news rvs fs) (hsz : vs.length < 4) :
    Does w 10 426 [.ref ll, .ref rl] news (fun r news' => r = .bool true ∧ news' = news) := by
  unfold Does
  k_fill
  intro p loose mean mg mb dp un gd cn cs ad ccd cl outer A₀ base h₀ L m s Q E B F X N T hk hd' hu hret
  replace N := News.mem (News.mem N hr) (.tail _ hl)
  refine wpAny_call ?_
  k_dflt ktr_enter
  (repeat' (first | walk_at "BLK20" | ((fail_if_success (with_reducible show wpAny _ _ (pyIter _) _ _ _)); (fail_if_success (with_reducible show wpAny _ _ (exec (Stmt.For _ _ _ _ _) _) _ _ _)); first | (k_unfold; (try dsimp only)) | (k_end; wrow_close) | walk1 | (dsimp only; walk1) | (leave1; try dsimp only) | (dsimp only [TurnP])) | fail "no step"))
  rename ClipAt _ _ _ => hW
  walk_at "FOR"
  with_unfolding_all refine' loop_listG (y := Str.ofString "steps") (fun i u tl => StepV tl u (vs.take i)) ?hhZ ?hlZ ?FZ ?NZ ?hyZ ?h0Z ?turnZ ?doneZ
  case hhZ => rfl
  case FZ => k_asm
  case NZ => k_asm
  case hlZ => k_mem
  case hyZ => rfl
  case h0Z => exact .inl ⟨rfl, rfl⟩
  case turnZ =>
    rintro i v u tl h2 tk2 I o hv hu2 hI1 hI2 F2 N2
    (repeat' (first | walk_at "BLK20" | ((fail_if_success (with_reducible show wpAny _ _ (pyIter _) _ _ _)); (fail_if_success (with_reducible show wpAny _ _ (exec (Stmt.For _ _ _ _ _) _) _ _ _)); first | (k_unfold; (try dsimp only)) | (k_end; wrow_close) | walk1 | (dsimp only; walk1) | (leave1; try dsimp only) | (dsimp only [TurnP])) | fail "no step"))
    rename ClipAt _ _ (_ ++ [v]) => hC
    rename ∀ q ∈ (I, _) :: _, Off _ _ => hO
    refine turnG (by k_asm) (News.of_sub (by k_asm) ?_) (Off.join (hO _ (.head _)) hI2) ⟨_, rfl, ⟨_, by with_unfolding_all rfl, .inr ⟨_, rfl, ?_⟩⟩, ?_⟩
    · walk_at "SUB"
    · rw [List.take_add_one, hv]; exact hC
    · intro z h1 h2
      simp [h1, h2]
  case doneZ =>
    rintro v u tl h2 tk2 hS F2 N2
    rw [List.take_length] at hS
    have hSV : ClipV w (tl ++ news) u (prodF fs) := (hS.mono (sub_left sub_refl)).clip (hL.mono (sub_right sub_refl))
    have hWV := ClipAt.clipV hW hL
    dsimp only
    (repeat' (first | walk_at "BLK20" | ((fail_if_success (with_reducible show wpAny _ _ (pyIter _) _ _ _)); (fail_if_success (with_reducible show wpAny _ _ (exec (Stmt.For _ _ _ _ _) _) _ _ _)); first | (k_unfold; (try dsimp only)) | (k_end; wrow_close) | walk1 | (dsimp only; walk1) | (leave1; try dsimp only) | (dsimp only [TurnP])) | fail "no step"))
    rename MapS _ _ 0 0 3 2 _ => hM1
    rename MapS _ _ 1 1 2 1 _ => hM2
    rename ∀ u v, _ = within _ 0 0 3 2 u v => hf1
    rename ∀ u v, _ = within _ 1 1 2 1 u v => hf2
    refine MapS.open hM1 ?_
    intro dx1 al1 p1 p2 p3 p4 p5 k1 k2 k3 k4 k5 k6 k7 k8 k9 n9 hx1 hx2
    refine MapS.open hM2 ?_
    intro dx2 al2 z1 z2 z3 z4 z5 y1 y2 y3 y4 y5 y6 y7 y8 y9 m9 hx3 hx4
    rename ClipAt _ _ (List.take _ _ ++ _) => hP
    rw [List.take_append_drop] at hP
    walk_at "FOR"
    with_unfolding_all refine' loop_rangeS [Str.ofString "x", Str.ofString "due"] ?hh2Z ?hr2Z ?hsm2Z ?hab2Z ?F2Z ?N2Z ?turn2Z ?done2Z
    case hh2Z => rfl
    case hr2Z => assumption
    case hsm2Z => exact small_one (by omega) (by omega) (by omega) (by omega)
    case hab2Z => omega
    case F2Z => k_asm
    case N2Z => k_asm
    case done2Z =>
      intro u3 h3 tk3 F3 N3
      dsimp only
      have g1 := (hf1 3 0).trans (within_off (by omega))
      have g2 := (hf1 0 (-1)).trans (within_off (by omega))
      (repeat' (first | walk_at "BLK20" | ((fail_if_success (with_reducible show wpAny _ _ (pyIter _) _ _ _)); (fail_if_success (with_reducible show wpAny _ _ (exec (Stmt.For _ _ _ _ _) _) _ _ _)); first | (k_unfold; (try dsimp only)) | (k_end; wrow_close) | walk1 | (dsimp only; walk1) | (leave1; try dsimp only) | (dsimp only [TurnP])) | fail "no step"))
      · rename News h₀ L _ _ => NN
        rw [beq_self_eq_true]
        exact hret _ _ _ news (by k_asm) (News.of_sub NN (by walk_at "SUB")) ⟨rfl, rfl⟩
      · exact absurd g2 (by assumption)
      · exact absurd g1 (by assumption)
    case turn2Z =>
      intro y ty u3 h3 tk3 I3 o3 hy1 hy2 hI3 F3 N3
      (repeat' (first | walk_at "BLK20" | ((fail_if_success (with_reducible show wpAny _ _ (pyIter _) _ _ _)); (fail_if_success (with_reducible show wpAny _ _ (exec (Stmt.For _ _ _ _ _) _) _ _ _)); first | (k_unfold; (try dsimp only)) | (k_end; wrow_close) | walk1 | (dsimp only; walk1) | (leave1; try dsimp only) | (dsimp only [TurnP])) | fail "no step"))
      walk_at "FOR"
      with_unfolding_all refine' loop_rangeS [Str.ofString "due"] ?hh4Z ?hr4Z ?hsm4Z ?hab4Z ?F4Z ?N4Z ?turn4Z ?done4Z
      case hh4Z => rfl
      case hr4Z => assumption
      case hsm4Z => exact small_one (by omega) (by omega) (by omega) (by omega)
      case hab4Z => omega
      case F4Z => k_asm
      case N4Z => k_asm
      case done4Z =>
        intro u4 h4 tk4 F4 N4
        dsimp only
        (repeat' (first | walk_at "BLK20" | ((fail_if_success (with_reducible show wpAny _ _ (pyIter _) _ _ _)); (fail_if_success (with_reducible show wpAny _ _ (exec (Stmt.For _ _ _ _ _) _) _ _ _)); first | (k_unfold; (try dsimp only)) | (k_end; wrow_close) | walk1 | (dsimp only; walk1) | (leave1; try dsimp only) | (dsimp only [TurnP])) | fail "no step"))
        refine turnS (by k_asm) (by k_asm) hI3 (by walk_at "SUB") ?_
        intro z h1 h2
        simp only [List.contains_cons, List.contains_nil, Bool.or_false, Bool.or_eq_false_iff, beq_eq_false_iff_ne, ne_eq] at h2
        simp [h1, h2.1, h2.2]
      case turn4Z =>
        intro x tx u4 h4 tk4 I4 o4 hx5 hx6 hI4 F4 N4
        have e1 := hf1 x y
        rw [within_at (by omega)] at e1
        have e2 : 1 ≤ x → 1 ≤ y → _ := fun q1 q2 => (hf2 x y).trans (within_at (by omega))
        have e3 : ¬ (1 ≤ x ∧ 1 ≤ y) → _ := fun q1 => (hf2 x y).trans (within_off (by omega))
        (repeat' (first | walk_at "BLK20" | ((fail_if_success (with_reducible show wpAny _ _ (pyIter _) _ _ _)); (fail_if_success (with_reducible show wpAny _ _ (exec (Stmt.For _ _ _ _ _) _) _ _ _)); first | (k_unfold; (try dsimp only)) | (k_end; wrow_close) | walk1 | (dsimp only; walk1) | (leave1; try dsimp only) | (dsimp only [TurnP])) | fail "no step"))
        all_goals first
          | (exfalso; omega)
          | (refine turnS (by k_asm) (by k_asm) hI4 (by walk_at "SUB") ?_
             intro z h1 h2
             simp only [List.contains_cons, List.contains_nil, Bool.or_false, Bool.or_eq_false_iff, beq_eq_false_iff_ne, ne_eq] at h2
             simp [h1, h2])
          | (exfalso
             rename _ ≠ prodF fs x y * _ => hne
             apply hne
             split
             · rename_i hq
               simp only [decide_eq_true_eq] at hq
               rw [e2 (by omega) (by omega), Int.mul_one]
             · rename_i hq
               simp only [decide_eq_true_eq] at hq
               rw [e3 (by omega), Int.mul_zero])
/-- the fields of a canvas of 2 by 2 dots at (1, 1) -/
def IsCanDict (od : Obj) (al : Addr) : Prop := ∃ (q1 q2 q3 q4 q5 : Int) (k1 k2 k3 k4 k5 k6 k7 k8 k9 : Tok) (n : Nat), od =
  dictOf [⟨q1, .str (Str.ofString "width") k1, .int 2 k2⟩, ⟨q2, .str (Str.ofString "height") k3, .int 2 k4⟩, ⟨q3, .str (Str.ofString "left") k5, .int 1 k6⟩, ⟨q4, .str (Str.ofString "top") k7, .int 1 k8⟩, ⟨q5, .str (Str.ofString "cells") k9, .ref al⟩] n
/-- such a canvas: its dots' colours lie at f -/
structure CanS (M : Led) (c : Addr) (f : Int → Int → Addr) : Prop where
  ex : ∃ (dx al r0 r1 : Addr) (od : Obj) (n2 n0 n1 : Nat), IsCanDict od al ∧
    M = [(c, instObj 295 dx), (dx, od), (al, listOf (List.toArray [Value.ref r0, Value.ref r1]) n2), (r0, listOf (List.toArray [Value.ref (f 1 1), Value.ref (f 2 1)]) n0), (r1, listOf (List.toArray [Value.ref (f 1 2), Value.ref (f 2 2)]) n1)] ∧
    [c, dx, al, r0, r1].Nodup
theorem canvas_close {h₀ h' : Heap} {L : Addr} {x dx al r0 r1 : Addr} {od : Obj} {e1 e2 e3 : Addr × Obj} {news : Led}
    (N : News h₀ L h' ((al, LCg.lst [.ref r0, .ref r1]) :: (r1, listOf (List.replicate (Int.toNat 2) [Value.ref 227]).flatten.toArray 0) :: e1 :: (r0, listOf (List.replicate (Int.toNat 2) [Value.ref 227]).flatten.toArray 0) :: e2 :: e3 :: (x, instObj 295 dx) :: (dx, od) :: news))
    (hod : IsCanDict od al) (hd : x ≠ dx ∧ x ≠ al ∧ x ≠ r0 ∧ x ≠ r1 ∧ dx ≠ al ∧ dx ≠ r0 ∧ dx ≠ r1 ∧ al ≠ r0 ∧ al ≠ r1 ∧ r0 ≠ r1)
    (o1 : ∀ p ∈ news, p.1 < dx) (o2 : dx < x) (o3 : LCg.Off1 al news) (o4 : AllLt r0 news) (o5 : AllLt r1 news) :
    ∃ M, News h₀ L h' (M ++ news) ∧ CanS M x (fun _ _ => 227) ∧ ∀ q ∈ news, Off M q.1 := by
  refine ⟨[(x, instObj 295 dx), (dx, od), (al, listOf (List.toArray [Value.ref r0, Value.ref r1]) 2), (r0, listOf (List.toArray [Value.ref 227, Value.ref 227]) 0), (r1, listOf (List.toArray [Value.ref 227, Value.ref 227]) 0)], News.of_sub N ?_, ⟨dx, al, r0, r1, od, 2, 0, 0, hod, rfl, ?_⟩, ?_⟩
  · simp only [List.cons_append, List.nil_append]
    exact sub_cons (.tail _ (.tail _ (.tail _ (.tail _ (.tail _ (.tail _ (.head _))))))) (sub_cons (.tail _ (.tail _ (.tail _ (.tail _ (.tail _ (.tail _ (.tail _ (.head _)))))))) (sub_cons (.head _) (sub_cons (.tail _ (.tail _ (.tail _ (.head _)))) (sub_cons (.tail _ (.head _)) (sub_tail (sub_tail (sub_tail (sub_tail (sub_tail (sub_tail (sub_tail (sub_tail sub_refl))))))))))))
  · obtain ⟨d1, d2, d3, d4, d5, d6, d7, d8, d9, d10⟩ := hd
    simp only [List.nodup_cons, List.mem_cons, List.not_mem_nil, or_false, not_or, not_false_eq_true, List.nodup_nil, and_true]
    exact ⟨⟨d1, d2, d3, d4⟩, ⟨d5, d6, d7⟩, ⟨d8, d9⟩, d10⟩
  · intro q hq p hp
    have h1 := o1 q hq
    have h3 := off1_mem o3 q hq
    have h4 := allLt_mem o4 q hq
    have h5 := allLt_mem o5 q hq
    simp only [List.mem_cons, List.not_mem_nil, or_false] at hp
    rcases hp with rfl | rfl | rfl | rfl | rfl
    · exact Nat.ne_of_gt (Nat.lt_trans h1 o2)
    · exact Nat.ne_of_gt h1
    · exact Ne.symm h3
    · exact Nat.ne_of_gt h4
    · exact Nat.ne_of_gt h5
set_option maxRecDepth 100000 in
set_option maxHeartbeats 8000000 in
theorem canvas_does {w : World} {t1 t2 t3 t4 : Tok} {news : Led} :
    Does w 3 295 [.int 2 t1, .int 2 t2, .int 1 t3, .int 1 t4] news (fun r news' => ∃ (M : Led) (c : Addr), r = .ref c ∧ CanS M c (fun _ _ => 227) ∧ (∀ q ∈ news, Off M q.1) ∧ news' = M ++ news) := by
  unfold Does
  k_fill
  intro p loose mean mg mb dp un gd cn cs ad ccd cl outer A₀ base h₀ L m s Q E B F X N T hk hd' hu hret
  k_steps
  obtain ⟨M, N2, hM, hoff⟩ := canvas_close (by k_asm) ⟨_, _, _, _, _, _, _, _, _, _, _, _, _, _, _, rfl⟩ (by refine ⟨?_, ?_, ?_, ?_, ?_, ?_, ?_, ?_, ?_, ?_⟩ <;> k_ne) (by assumption) (by assumption) (by assumption) (by walk_at "LT") (by walk_at "LT")
  exact hret _ _ _ _ (by k_asm) N2 ⟨M, _, rfl, hM, hoff, rfl⟩
/-- a dot's row, and its colour's place in it -/
theorem CanS.get {M : Led} {c : Addr} {f : Int → Int → Addr} {px py : Int} (H : CanS M c f) (hb : 1 ≤ px ∧ px < 3 ∧ 1 ≤ py ∧ py < 3) :
    ∃ (dx al : Addr) (od : Obj) (n2 : Nat) (rl : List Value) (r : Addr) (vs : List Value) (nr : Nat), IsCanDict od al ∧ rl[(py - 1).toNat]? = some (.ref r) ∧ vs[(px - 1).toNat]? = some (.ref (f px py)) ∧
      (c, instObj 295 dx) ∈ M ∧ (dx, od) ∈ M ∧ (al, listOf rl.toArray n2) ∈ M ∧ (r, listOf vs.toArray nr) ∈ M := by
  obtain ⟨dx, al, r0, r1, od, n2, n0, n1, hod, rfl, _⟩ := H.ex
  have hx : px = 1 ∨ px = 2 := by omega
  have hy : py = 1 ∨ py = 2 := by omega
  rcases hy with rfl | rfl
  · refine ⟨dx, al, od, n2, _, r0, _, n0, hod, rfl, ?_, .head _, .tail _ (.head _), .tail _ (.tail _ (.head _)), .tail _ (.tail _ (.tail _ (.head _)))⟩
    rcases hx with rfl | rfl <;> rfl
  · refine ⟨dx, al, od, n2, _, r1, _, n1, hod, rfl, ?_, .head _, .tail _ (.head _), .tail _ (.tail _ (.head _)), .tail _ (.tail _ (.tail _ (.tail _ (.head _))))⟩
    rcases hx with rfl | rfl <;> rfl
theorem IsCanDict.open {od : Obj} {al : Addr} {C : Obj → Prop} (h : IsCanDict od al) (k : ∀ (q1 q2 q3 q4 q5 : Int) (k1 k2 k3 k4 k5 k6 k7 k8 k9 : Tok) (n : Nat), C (dictOf [⟨q1, .str (Str.ofString "width") k1, .int 2 k2⟩, ⟨q2, .str (Str.ofString "height") k3, .int 2 k4⟩, ⟨q3, .str (Str.ofString "left") k5, .int 1 k6⟩, ⟨q4, .str (Str.ofString "top") k7, .int 1 k8⟩, ⟨q5, .str (Str.ofString "cells") k9, .ref al⟩] n)) : C od := by
  obtain ⟨q1, q2, q3, q4, q5, k1, k2, k3, k4, k5, k6, k7, k8, k9, n, rfl⟩ := h
  exact k ..
set_option maxRecDepth 100000 in
set_option maxHeartbeats 8000000 in
theorem canGet_does {w : World} {c : Addr} {px py : Int} {t1 t2 : Tok} {news M : Led} {f : Int → Int → Addr} (H : CanS M c f) (hs : ∀ p ∈ M, p ∈ news) (hb : 1 ≤ px ∧ px < 3 ∧ 1 ≤ py ∧ py < 3) :
    Does w 2 254 [.ref c, .int px t1, .int py t2] news (fun r news' => r = .ref (f px py) ∧ news' = news) := by
  obtain ⟨dx, al, od, n2, rl, r, vs, nr, hod, hr1, hr2, m1, m2, m3, m4⟩ := H.get hb
  generalize f px py = a at hr2 ⊢
  have m1 := hs _ m1
  have m2 := hs _ m2
  have m3 := hs _ m3
  have m4 := hs _ m4
  obtain ⟨i1, i2, i3, i4⟩ := hb
  clear hs H
  revert m2
  apply IsCanDict.open hod
  clear hod
  intro q1 q2 q3 q4 q5 k1 k2 k3 k4 k5 k6 k7 k8 k9 n9 m2
  unfold Does
  k_fill
  intro p loose mean mg mb dp un gd cn cs ad ccd cl outer A₀ base h₀ L m s Q E B F X N T hk hd' hu hret
  replace N := News.mem (News.mem (News.mem (News.mem N m4) (.tail _ m3)) (.tail _ (.tail _ m2))) (.tail _ (.tail _ (.tail _ m1)))
  clear m1 m2 m3 m4
  refine wpAny_call ?_
  k_dflt ktr_enter
  k_steps
  exact hret _ _ _ _ (by k_asm) (News.of_sub (by k_asm) (by walk_at "SUB")) ⟨rfl, rfl⟩
def putA (f : Int → Int → Addr) (x y : Int) (v : Addr) : Int → Int → Addr := fun a b => if a = x ∧ b = y then v else f a b
/-- a dot's row, the rest, and the canvas behind a put -/
theorem CanS.put {M : Led} {c v : Addr} {f : Int → Int → Addr} {px py : Int} (H : CanS M c f) (hb : 1 ≤ px ∧ px < 3 ∧ 1 ≤ py ∧ py < 3) :
    ∃ (dx al : Addr) (od : Obj) (n2 : Nat) (rl : List Value) (r : Addr) (vs : List Value) (nr : Nat) (rest M' : Led), IsCanDict od al ∧ rl[(py - 1).toNat]? = some (.ref r) ∧ px - 1 < vs.length ∧ (c ≠ r ∧ dx ≠ r ∧ al ≠ r) ∧ (∀ p ∈ rest, p.1 ≠ r) ∧ (∃ e, (r, e) ∈ M) ∧
      (∀ p ∈ (c, instObj 295 dx) :: (dx, od) :: (al, listOf rl.toArray n2) :: (r, listOf vs.toArray nr) :: rest, p ∈ M) ∧
      (∀ p ∈ M', p ∈ (c, instObj 295 dx) :: (dx, od) :: (al, listOf rl.toArray n2) :: (r, listOf (vs.set (px - 1).toNat (.ref v)).toArray nr) :: rest) ∧ Same M M' ∧ CanS M' c (putA f px py v) := by
  obtain ⟨dx, al, r0, r1, od, n2, n0, n1, hod, rfl, hnd⟩ := H.ex
  have hx : px = 1 ∨ px = 2 := by omega
  have hy : py = 1 ∨ py = 2 := by omega
  have hnd' := hnd
  simp only [List.nodup_cons, List.mem_cons, List.not_mem_nil, or_false, not_or, not_false_eq_true, List.nodup_nil, and_true] at hnd'
  obtain ⟨⟨d1, d2, d3, d4⟩, ⟨d5, d6, d7⟩, ⟨d8, d9⟩, d10⟩ := hnd'
  have fin : ∀ g : Int → Int → Addr, ∃ M', M' = [(c, instObj 295 dx), (dx, od), (al, listOf (List.toArray [Value.ref r0, Value.ref r1]) n2), (r0, listOf (List.toArray [Value.ref (g 1 1), Value.ref (g 2 1)]) n0), (r1, listOf (List.toArray [Value.ref (g 1 2), Value.ref (g 2 2)]) n1)] ∧
      Same [(c, instObj 295 dx), (dx, od), (al, listOf (List.toArray [Value.ref r0, Value.ref r1]) n2), (r0, listOf (List.toArray [Value.ref (f 1 1), Value.ref (f 2 1)]) n0), (r1, listOf (List.toArray [Value.ref (f 1 2), Value.ref (f 2 2)]) n1)] M' ∧ CanS M' c g := by
    intro g
    refine ⟨_, rfl, ?_, ⟨dx, al, r0, r1, od, n2, n0, n1, hod, rfl, hnd⟩⟩
    intro p hp
    simp only [List.mem_cons, List.not_mem_nil, or_false] at hp
    rcases hp with rfl | rfl | rfl | rfl | rfl
    · exact ⟨_, .head _, rfl⟩
    · exact ⟨_, .tail _ (.head _), rfl⟩
    · exact ⟨_, .tail _ (.tail _ (.head _)), rfl⟩
    · exact ⟨_, .tail _ (.tail _ (.tail _ (.head _))), rfl⟩
    · exact ⟨_, .tail _ (.tail _ (.tail _ (.tail _ (.head _)))), rfl⟩
  obtain ⟨M', hM', hsame, hcan⟩ := fin (putA f px py v)
  clear fin H
  rcases hy with rfl | rfl
  · refine ⟨dx, al, od, n2, _, r0, [Value.ref (f 1 1), Value.ref (f 2 1)], n0, [(r1, listOf (List.toArray [Value.ref (f 1 2), Value.ref (f 2 2)]) n1)], M', hod, rfl, by simp; omega, ⟨d3, d6, d8⟩, ?_, ⟨_, .tail _ (.tail _ (.tail _ (.head _)))⟩, sub_refl, ?_, hsame, hcan⟩
    · intro p hp; rw [List.mem_singleton.mp hp]; exact Ne.symm d10
    · rw [hM']
      rcases hx with rfl | rfl <;> exact sub_refl
  · refine ⟨dx, al, od, n2, _, r1, [Value.ref (f 1 2), Value.ref (f 2 2)], n1, [(r0, listOf (List.toArray [Value.ref (f 1 1), Value.ref (f 2 1)]) n0)], M', hod, rfl, by simp; omega, ⟨d4, d7, d9⟩, ?_, ⟨_, .tail _ (.tail _ (.tail _ (.tail _ (.head _))))⟩,
      sub_cons (.head _) (sub_cons (.tail _ (.head _)) (sub_cons (.tail _ (.tail _ (.head _))) (sub_cons (.tail _ (.tail _ (.tail _ (.tail _ (.head _))))) (sub_cons (.tail _ (.tail _ (.tail _ (.head _)))) sub_nil)))), ?_, hsame, hcan⟩
    · intro p hp; rw [List.mem_singleton.mp hp]; exact d10
    · rw [hM']
      rcases hx with rfl | rfl <;> exact sub_cons (.head _) (sub_cons (.tail _ (.head _)) (sub_cons (.tail _ (.tail _ (.head _))) (sub_cons (.tail _ (.tail _ (.tail _ (.tail _ (.head _))))) (sub_cons (.tail _ (.tail _ (.tail _ (.head _)))) sub_nil))))
set_option maxRecDepth 100000 in
set_option maxHeartbeats 8000000 in
theorem canPut_does {w : World} {c v : Addr} {px py : Int} {t1 t2 : Tok} {news M : Led} {g : Led → Led} {f : Int → Int → Addr} (H : CanS M c f) (U : UpdL M news g) (hb : 1 ≤ px ∧ px < 3 ∧ 1 ≤ py ∧ py < 3) :
    Does w 2 261 [.ref c, .int px t1, .int py t2, .ref v] news (fun r news' => ∃ M', (r = .none ∧ CanS M' c (putA f px py v) ∧ Same M M') ∧ news' = g M') := by
  refine Does.updL U fun A hA _ => ?_
  obtain ⟨dx, al, od, n2, rl, r, vs, nr, rest, M', hod, e1, e2, ⟨n1, n3, n4⟩, hr, ⟨e0, he0⟩, hs1, hs2, hs3, hM⟩ := H.put (v := v) hb
  have hA0 : ∀ p ∈ A, p.1 ≠ r := fun p hp e => hA p hp _ he0 e.symm
  obtain ⟨i1, i2, i3, i4⟩ := hb
  have hrA : ∀ p ∈ rest ++ A, p.1 ≠ r := fun p hp => (List.mem_append.mp hp).elim (hr p) (hA0 p)
  have hsub : ∀ p ∈ (c, instObj 295 dx) :: (dx, od) :: (al, listOf rl.toArray n2) :: (r, listOf vs.toArray nr) :: (rest ++ A), p ∈ M ++ A := by
    intro p hp
    rw [← List.cons_append, ← List.cons_append, ← List.cons_append, ← List.cons_append] at hp
    exact (List.mem_append.mp hp).elim (fun q => List.mem_append_left _ (hs1 p q)) (List.mem_append_right _)
  have hback : ∀ p ∈ M' ++ A, p ∈ (c, instObj 295 dx) :: (dx, od) :: (al, listOf rl.toArray n2) :: (r, listOf (vs.set (px - 1).toNat (.ref v)).toArray nr) :: (rest ++ A) := by
    intro p hp
    rw [← List.cons_append, ← List.cons_append, ← List.cons_append, ← List.cons_append]
    exact (List.mem_append.mp hp).elim (fun q => List.mem_append_left _ (hs2 p q)) (List.mem_append_right _)
  generalize rest ++ A = rest' at hrA hsub hback
  clear hA hA0 hs1 hs2 hr U H he0
  revert hback hsub
  apply IsCanDict.open hod
  clear hod
  intro q1 q2 q3 q4 q5 k1 k2 k3 k4 k5 k6 k7 k8 k9 n9 hsub hback
  unfold Does
  k_fill
  intro p loose mean mg mb dp un gd cn cs ad ccd cl outer A₀ base h₀ L m s Q E B F X N T hk hd' hu hret
  replace N := News.of_sub N hsub
  clear hsub
  refine wpAny_call ?_
  k_dflt ktr_enter
  k_steps
  exact hret _ _ _ _ (by k_asm) (News.of_sub (by k_asm) hback) ⟨M', ⟨rfl, hM, hs3⟩, rfl⟩
def lumI (c : Col) : Int := (2 * (2125 * c.r + 7154 * c.g + 721 * c.b) + 10000).fdiv (2 * 10000)
theorem lum_bounds {c : Col} (h : c.Ok) : 0 ≤ lumI c ∧ lumI c ≤ 255 := by
  obtain ⟨b1, b2, b3, b4, b5, b6, b7, b8⟩ := h
  unfold lumI
  rw [Int.fdiv_eq_ediv_of_nonneg _ (by decide)]
  omega
theorem lum_law (c : Col) : ((2125 * c.r + 7154 * c.g + 721 * c.b).fdiv 10000 + if decide (5000 ≤ (2125 * c.r + 7154 * c.g + 721 * c.b).fmod 10000) = true then 1 else 0) = lumI c := by
  unfold lumI
  generalize 2125 * c.r + 7154 * c.g + 721 * c.b = z
  rw [Int.fdiv_eq_ediv_of_nonneg _ (by decide), Int.fdiv_eq_ediv_of_nonneg _ (by decide), Int.fmod_eq_emod_of_nonneg _ (by decide)]
  split <;> rename_i h <;> simp only [decide_eq_true_eq] at h <;> omega
set_option maxRecDepth 100000 in
set_option maxHeartbeats 8000000 in
theorem lum_does {w : World} {p : Addr} {oc : Obj} {c : Col} {news : Led} (hm : (p, oc) ∈ news) (ho : ColO oc c) (hk : c.Ok) :
    Does w 1 198 [.ref p] news (fun r news' => (∃ tk, r = .int (lumI c) tk) ∧ news' = news) := by
  obtain ⟨t1, t2, t3, t4, rfl⟩ := ho
  obtain ⟨c1, c2, c3, c4⟩ := c
  obtain ⟨b1, b2, b3, b4, b5, b6, b7, b8⟩ := hk
  dsimp only at *
  unfold Does
  k_fill
  intro p loose mean mg mb dp un gd cn cs ad ccd cl outer A₀ base h₀ L m s Q E B F X N T hk hd' hu hret
  replace N := News.mem N hm
  refine wpAny_call ?_
  k_dflt ktr_enter
  k_steps
  exact hret _ _ _ _ (by k_asm) (News.of_sub (by k_asm) (by walk_at "SUB")) ⟨⟨_, rfl⟩, rfl⟩
theorem lines31 : True := by
  k_with "M call ref" => ((k_here; (with_reducible show wpAny _ _ (call (Value.ref 254) [_, _, _]) _ _ _); k_dflt (refine' Does.useV (by k_asm) (by k_asm) (by k_asm) (by k_asm) (by k_asm) (by first | exact rfl | assumption) (by ktr_room) (by ktr_units) (canGet_does (by assumption) (by walk_at "SUB") (by walk_at "OM")) ?_; k_whole); walk_at "END"))
  exact True.intro
theorem CanS.entries {M : Led} {c : Addr} {f : Int → Int → Addr} (H : CanS M c f) : ∃ dx al od, IsCanDict od al ∧ (c, instObj 295 dx) ∈ M ∧ (dx, od) ∈ M := by
  obtain ⟨dx, al, r0, r1, od, n2, n0, n1, hod, rfl, _⟩ := H.ex
  exact ⟨dx, al, od, hod, .head _, .tail _ (.head _)⟩
theorem CanS.open {M : Led} {c : Addr} {f : Int → Int → Addr} {C : Prop} (H : CanS M c f) (k : ∀ (dx al : Addr) (q1 q2 q3 q4 q5 : Int) (k1 k2 k3 k4 k5 k6 k7 k8 k9 : Tok) (n : Nat), (c, instObj 295 dx) ∈ M → (dx, dictOf [⟨q1, .str (Str.ofString "width") k1, .int 2 k2⟩, ⟨q2, .str (Str.ofString "height") k3, .int 2 k4⟩, ⟨q3, .str (Str.ofString "left") k5, .int 1 k6⟩, ⟨q4, .str (Str.ofString "top") k7, .int 1 k8⟩, ⟨q5, .str (Str.ofString "cells") k9, .ref al⟩] n) ∈ M → C) : C := by
  obtain ⟨dx, al, od, ⟨q1, q2, q3, q4, q5, k1, k2, k3, k4, k5, k6, k7, k8, k9, n, rfl⟩, h1, h2⟩ := H.entries
  exact k dx al _ _ _ _ _ _ _ _ _ _ _ _ _ _ _ h1 h2
set_option maxRecDepth 100000 in
set_option maxHeartbeats 8000000 in
theorem mapped_does {w : World} {c fv : Addr} {M : Led} {f : Int → Int → Addr} {P : Int → Int → Int} {news : Led} (H : CanS M c f) (hs : ∀ p ∈ M, p ∈ news) (hP : ∀ u v, 0 ≤ P u v ∧ P u v ≤ 255)
    (hfa : ∀ (h₀ h : Heap) (L : Addr) (m : Str → Option Value), (hd.heap_1 w.params).In h₀ → Fr h₀ L h m → News h₀ L h news → FnAt fv h)
    (hfn : ∀ nx : Led, (∀ p ∈ news, p ∈ nx) → ∀ u v : Int, 1 ≤ u → u < 3 → 1 ≤ v → v < 3 → Does w 3 fv [.ref (f u v)] nx (fun r news' => (∃ tk, r = .int (P u v) tk) ∧ news' = nx)) :
    Does w 5 205 [.ref c, .ref fv] news (fun r news' => ∃ (M : Led) (x : Addr), r = .ref x ∧ MapS M x 1 1 2 2 (within P 1 1 2 2) ∧ (∀ q ∈ news, Off M q.1) ∧ news' = M ++ news) := by
  refine CanS.open H ?_
  intro dx al q1 q2 q3 q4 q5 k1 k2 k3 k4 k5 k6 k7 k8 k9 n9 hc1 hc2
  unfold Does
  k_fill
  intro p loose mean mg mb dp un gd cn cs ad ccd cl outer A₀ base h₀ L m s Q E B F X N T hk hd' hu hret
  replace hc1 := hs _ hc1
  replace hc2 := hs _ hc2
  refine wpAny_call ?_
  k_dflt ktr_enter
  (repeat' (first | ((fail_if_success (with_reducible show wpAny _ _ (pyIter _) _ _ _)); (fail_if_success (with_reducible show wpAny _ _ (exec (Stmt.For _ _ _ _ _) _) _ _ _)); first | (k_unfold; (try dsimp only)) | (k_end; wrow_close) | walk1 | (dsimp only; walk1) | (leave1; try dsimp only) | (dsimp only [TurnP])) | fail "no step"))
  rename_i M0 x0 hM0 hoff0 _ _ _
  walk_at "FOR"
  with_unfolding_all refine' loop_rangeF [Str.ofString "x"] (fun y nx => ∃ M, nx = M ++ news ∧ MapS M x0 1 1 2 2 (upTo P 1 1 2 2 y 1) ∧ ∀ q ∈ news, Off M q.1) ?hhZ ?hrZ ?hsmZ ?habZ ?FZ ?NZ ?hjZ ?turnZ ?doneZ
  case hhZ => rfl
  case hrZ => assumption
  case hsmZ => exact small_one (by omega) (by omega) (by omega) (by omega)
  case habZ => omega
  case FZ => k_asm
  case NZ => k_asm
  case hjZ => exact ⟨_, rfl, hM0.congr (upTo_start P 1 1 2 2), hoff0⟩
  case doneZ =>
    intro u nx h' tk' hJ0
    apply ex1e hJ0
    clear hJ0
    intro M hJ0
    apply and2 hJ0
    clear hJ0
    intro hM hoff F' N'
    dsimp only
    (repeat' (first | ((fail_if_success (with_reducible show wpAny _ _ (pyIter _) _ _ _)); (fail_if_success (with_reducible show wpAny _ _ (exec (Stmt.For _ _ _ _ _) _) _ _ _)); first | (k_unfold; (try dsimp only)) | (k_end; wrow_close) | walk1 | (dsimp only; walk1) | (leave1; try dsimp only) | (dsimp only [TurnP])) | fail "no step"))
    exact hret _ _ _ _ (by k_asm) (by k_asm) ⟨M, x0, rfl, hM.congr upTo_end, hoff, rfl⟩
  case turnZ =>
    intro y ty u nx h' tk' I o hy1 hy2 hJ0
    apply ex1e hJ0
    clear hJ0
    intro M hJ0
    apply and2 hJ0
    clear hJ0
    intro hM hoff hI F' N'
    (repeat' (first | ((fail_if_success (with_reducible show wpAny _ _ (pyIter _) _ _ _)); (fail_if_success (with_reducible show wpAny _ _ (exec (Stmt.For _ _ _ _ _) _) _ _ _)); first | (k_unfold; (try dsimp only)) | (k_end; wrow_close) | walk1 | (dsimp only; walk1) | (leave1; try dsimp only) | (dsimp only [TurnP])) | fail "no step"))
    walk_at "FOR"
    have hIM := (Off.app hI).1
    with_unfolding_all refine' loop_rangeF [] (fun x nx => ∃ M, nx = (I, o) :: (M ++ news) ∧ MapS M x0 1 1 2 2 (upTo P 1 1 2 2 y x) ∧ (∀ q ∈ news, Off M q.1) ∧ Off M I) ?hh2Z ?hr2Z ?hsm2Z ?hab2Z ?F2Z ?N2Z ?hj2Z ?turn2Z ?done2Z
    case hh2Z => rfl
    case hr2Z => assumption
    case hsm2Z => exact small_one (by omega) (by omega) (by omega) (by omega)
    case hab2Z => omega
    case F2Z => k_asm
    case N2Z => k_asm
    case hj2Z => exact ⟨M, rfl, hM, hoff, hIM⟩
    case done2Z =>
      intro u2 nx h2 tk2 hJ0
      apply ex1e hJ0
      clear hJ0
      intro M2 hJ0
      apply and3 hJ0
      clear hJ0
      intro hM2 hoff2 hI2 F2 N2
      (repeat' (first | ((fail_if_success (with_reducible show wpAny _ _ (pyIter _) _ _ _)); (fail_if_success (with_reducible show wpAny _ _ (exec (Stmt.For _ _ _ _ _) _) _ _ _)); first | (k_unfold; (try dsimp only)) | (k_end; wrow_close) | walk1 | (dsimp only; walk1) | (leave1; try dsimp only) | (dsimp only [TurnP])) | fail "no step"))
      refine turnF (by k_asm) (by k_asm) (Off.join hI2 (Off.app hI).2) ⟨M2, rfl, hM2.congr upTo_row, hoff2⟩ ?_
      intro z h1 h2
      simp only [List.contains_cons, List.contains_nil, Bool.or_false, beq_eq_false_iff_ne, ne_eq] at h2
      simp [h1, h2]
    case turn2Z =>
      intro x tx u2 nx h2 tk2 I2 o2 hx1 hx2 hJ0
      apply ex1e hJ0
      clear hJ0
      intro M2 hJ0
      apply and3 hJ0
      clear hJ0
      intro hM2 hoff2 hI2 hI3 F2 N2
      have hp0 := (hP x y).1
      have hp1 := (hP x y).2
      have hI4 : Off M2 I2 := fun p hp => hI3 p (.tail _ (List.mem_append_left _ hp))
      refine MapS.open hM2 ?_
      intro dx2 al2 z1 z2 z3 z4 z5 y1 y2 y3 y4 y5 y6 y7 y8 y9 m9 hx3 hx4
      (repeat' ((fail_if_success (with_reducible show wpAny _ _ (callWith _ (Value.ref fv) _ _ _) _ _ _)); first | (k_unfold; (try dsimp only)) | (k_end; wrow_close) | walk1 | (dsimp only; walk1) | (leave1; try dsimp only)))
      refine callWith_F (hfa _ _ _ _ (by k_asm) (by k_asm) (News.of_sub (by k_asm) ?hs1Z)) ?_
      case hs1Z => walk_at "SUB"
      (repeat' (first | ((fail_if_success (with_reducible show wpAny _ _ (pyIter _) _ _ _)); (fail_if_success (with_reducible show wpAny _ _ (exec (Stmt.For _ _ _ _ _) _) _ _ _)); first | (k_unfold; (try dsimp only)) | (k_end; wrow_close) | walk1 | (dsimp only; walk1) | (leave1; try dsimp only) | (dsimp only [TurnP])) | fail "no step"))
      · exact hfa _ _ _ _ (by k_asm) (by k_asm) (News.of_sub (by k_asm) (by walk_at "SUB"))
      k_dflt (refine' Does.use (hfn _ ?hsubZ x y hx1 (by omega) hy1 (by omega)) ?BZ ?FZ ?XZ ?NZ ?TZ ?hkZ ?hdZ ?huZ ?_)
      case BZ => k_asm
      case FZ => k_asm
      case XZ => k_asm
      case NZ => k_asm
      case TZ => k_asm
      case hkZ => first | exact rfl | assumption
      case hsubZ => walk_at "SUB"
      case hdZ => ktr_room
      case huZ => ktr_units
      k_whole
      intro r' h' tk' news' F' N' ⟨⟨tv', hr'⟩, hn'⟩
      subst hr'
      subst hn'
      dsimp only
      (repeat' (first | ((fail_if_success (with_reducible show wpAny _ _ (pyIter _) _ _ _)); (fail_if_success (with_reducible show wpAny _ _ (exec (Stmt.For _ _ _ _ _) _) _ _ _)); first | (k_unfold; (try dsimp only)) | (k_end; wrow_close) | walk1 | (dsimp only; walk1) | (leave1; try dsimp only) | (dsimp only [TurnP])) | fail "no step"))
      rename MapS _ _ _ _ _ _ (putF _ _ _ _) => hM3
      rename Same _ _ => hs3
      refine turnF (by k_asm) (by k_asm) (Off.swap hI3 hs3) ⟨_, rfl, hM3.congr (upTo_step hx1 hx2 hy1 hy2), Off.sames hs3 hoff2, Off.same hs3 hI2⟩ ?_
      intro z h1 h2
      simp [h1]
theorem Does.weak {w : World} {n k : Nat} {f : Addr} {vs : List Value} {news : Led} {Post : Value → Led → Prop} (D : Does w n f vs news Post) (h : n ≤ k) : Does w k f vs news Post := by
  intro p loose mean mg mb dp un gd cn cs ad ccd cl outer A₀ base h₀ L m s Q E B F X N T hk hd' hu hret
  exact D.use B F X N T hk (by omega) (by omega) hret
theorem fnAt_of_K {K : Frag} {h : Heap} {f : Addr} (X : K.In h) (e : fnIn K f = true) : FnAt f h := by
  unfold fnIn at e
  split at e
  · rename_i q
    exact ⟨_, _, _, _, X _ _ q⟩
  · cases e
/-- the colours of a canvas -/
def Cols (R : Led) (f : Int → Int → Addr) (col : Int → Int → Col) : Prop := ∀ u v : Int, 1 ≤ u → u < 3 → 1 ≤ v → v < 3 → ∃ oc, (f u v, oc) ∈ R ∧ ColO oc (col u v)
theorem Cols.mono {R R' : Led} {f : Int → Int → Addr} {col : Int → Int → Col} (h : Cols R f col) (hs : ∀ p ∈ R, p ∈ R') : Cols R' f col := fun u v h1 h2 h3 h4 => by
  obtain ⟨oc, a, b⟩ := h u v h1 h2 h3 h4
  exact ⟨oc, hs _ a, b⟩
set_option maxRecDepth 100000 in
set_option maxHeartbeats 8000000 in
theorem lumMask_does {w : World} {c : Addr} {M : Led} {f : Int → Int → Addr} {col : Int → Int → Col} {news : Led} (H : CanS M c f) (hs : ∀ p ∈ M, p ∈ news) (hok : ∀ u v, (col u v).Ok) (hcol : Cols news f col) :
    Does w 6 212 [.ref c] news (fun r news' => ∃ (M : Led) (x : Addr), r = .ref x ∧ MapS M x 1 1 2 2 (within (fun u v => lumI (col u v)) 1 1 2 2) ∧ (∀ q ∈ news, Off M q.1) ∧ news' = M ++ news) := by
  unfold Does
  k_fill
  intro p loose mean mg mb dp un gd cn cs ad ccd cl outer A₀ base h₀ L m s Q E B F X N T hk hd' hu hret
  refine wpAny_call ?_
  k_dflt ktr_enter
  (repeat' (first | ((fail_if_success (with_reducible show wpAny _ _ (call (Value.ref 205) _) _ _ _)); first | (k_unfold; (try dsimp only)) | (k_end; wrow_close) | walk1 | (dsimp only; walk1) | (leave1; try dsimp only) | (dsimp only [TurnP])) | fail "no step"))
  k_dflt (refine' Does.use (mapped_does (P := fun u v => lumI (col u v)) H hs (fun u v => lum_bounds (hok u v)) ?hfaZ ?hfnZ) ?BZ ?FZ ?XZ ?NZ ?TZ ?hkZ ?hdZ ?huZ ?_)
  case BZ => k_asm
  case FZ => k_asm
  case XZ => k_asm
  case NZ => k_asm
  case TZ => k_asm
  case hkZ => first | exact rfl | assumption
  case hfaZ => exact fun h₀ h L m X F N => fnAt_of_K (X.keeps F.keep) (by k_is)
  case hfnZ =>
    intro nx hnx u v h1 h2 h3 h4
    obtain ⟨oc, a, b⟩ := hcol u v h1 h2 h3 h4
    exact (lum_does (hnx _ a) b (hok u v)).weak (by decide)
  case hdZ => ktr_room
  case huZ => ktr_units
  k_whole
  intro r' h' tk' news' F' N' ⟨M', x', hr', hM', hoff', hn'⟩
  subst hr'
  subst hn'
  dsimp only
  (repeat' (first | ((fail_if_success (with_reducible show wpAny _ _ (pyIter _) _ _ _)); (fail_if_success (with_reducible show wpAny _ _ (exec (Stmt.For _ _ _ _ _) _) _ _ _)); first | (k_unfold; (try dsimp only)) | (k_end; wrow_close) | walk1 | (dsimp only; walk1) | (leave1; try dsimp only) | (dsimp only [TurnP])) | fail "no step"))
  exact hret _ _ _ _ (by k_asm) (by k_asm) ⟨M', x', rfl, hM', hoff', rfl⟩
set_option maxRecDepth 100000 in
set_option maxHeartbeats 8000000 in
/-- a lambda that gives the fourth of a tuple -/
theorem fourth_does {w : World} {fv p c' : Addr} {oc ocl : Obj} {vs : Array Value} {t : Tok} {k : Col} {news : Led} {nm qual : Str} {pm ctv : Value} {p1 p2 p3 p4 : Pos}
    (h1 : (fv, kla_obj nm qual { posonlyargs := [], args := [{ arg := Str.ofString "colour", annotation := none, pos := p4 }], vararg := none, kwonlyargs := [], kw_defaults := [], kwarg := none, defaults := [] }
      ((PySem.Expr.Name (Str.ofString "colour") p1).Subscript (PySem.Expr.Constant (Const.int 3) 0 p2) p3) { kind := ScopeKind.function, names := [(Str.ofString "colour", NameKind.local)], isGenerator := false, isCoroutine := false } [] pm c' ctv) ∈ news)
    (h2 : (c', oc) ∈ news) (hd : oc.data = .fields vs) (hv : vs[1]? = some (.str qual t)) (h3 : (p, ocl) ∈ news) (ho : ColO ocl k) :
    Does w 1 fv [.ref p] news (fun r news' => (∃ tk, r = .int k.a tk) ∧ news' = news) := by
  obtain ⟨t1, t2, t3, t4, rfl⟩ := ho
  unfold Does
  k_fill
  intro p loose mean mg mb dp un gd cn cs ad ccd cl outer A₀ base h₀ L m s Q E B F X N T hk hd' hu hret
  replace N := News.of_sub N (sub_cons h1 (sub_cons h2 (sub_cons h3 sub_refl)))
  refine wpAny_call ?_
  refine' kla_code ?k1Z ?k2Z ?k3Z ?k4Z ?k5Z ?kAZ ?kFZ ?kKZ ?k6Z ?k7Z ?k8Z ?k9Z ?kBZ ?_ ?c2Z ?c3Z ?c4Z ?c5Z
  case kAZ => exact rfl
  case kFZ => exact rfl
  case kKZ => exact hk
  case k1Z => k_asm
  case k2Z => k_asm
  case k3Z => k_asm
  case k4Z => k_asm
  case k5Z => k_asm
  case k6Z => exact .head _
  case k7Z => exact codeRec_news (by k_asm) (.tail _ (.head _)) hd hv
  case k8Z => ktr_room
  case k9Z => exact rfl
  case c5Z => decide
  case kBZ => exact locs rfl
  case c2Z => exact rfl
  case c3Z => exact rfl
  case c4Z => exact rfl
  k_whole
  intro g' L' h' FG' F' N' B' X' T'
  dsimp only
  k_fold
  (repeat' (first | ((fail_if_success (with_reducible show wpAny _ _ (pyIter _) _ _ _)); (fail_if_success (with_reducible show wpAny _ _ (exec (Stmt.For _ _ _ _ _) _) _ _ _)); first | (k_unfold; (try dsimp only)) | (k_end; wrow_close) | walk1 | (dsimp only; walk1) | (leave1; try dsimp only) | (dsimp only [TurnP])) | fail "no step"))
  exact hret _ _ _ _ (by k_asm) (News.of_sub (by k_asm) (by walk_at "SUB")) ⟨⟨_, rfl⟩, rfl⟩
/-- the table of alpha_mask's own lambda: empty, or filled -/
def TabP (ps : Array Value) (R : Led) : Prop := ps = #[] ∨ ∃ (c' : Addr) (oc : Obj) (vs : Array Value) (t : Tok), ps = #[rawInt 87, rawInt 26, .ref c'] ∧ (c', oc) ∈ R ∧ oc.data = .fields vs ∧ vs[1]? = some (.str (Str.ofString "alpha_mask.<locals>.<lambda>") t)
theorem TabP.mono {ps : Array Value} {R R' : Led} (h : TabP ps R) (hs : ∀ p ∈ R, p ∈ R') : TabP ps R' := by
  rcases h with h | ⟨c', oc, vs, t, h1, h2, h3, h4⟩
  · exact .inl h
  · exact .inr ⟨c', oc, vs, t, h1, hs _ h2, h3, h4⟩
set_option maxRecDepth 100000 in
set_option maxHeartbeats 8000000 in
theorem alphaMask_does {w : World} {c : Addr} {M : Led} {f : Int → Int → Addr} {col : Int → Int → Col} {rest : Led} {ps : Array Value} (H : CanS M c f) (hs : ∀ p ∈ M, p ∈ rest) (hok : ∀ u v, (col u v).Ok) (hcol : Cols rest f col) (hT : ∀ p ∈ rest, p.1 ≠ 214) (ht : TabP ps rest) :
    Does w 6 219 [.ref c] ((214, tabObj ps) :: rest) (fun r news' => ∃ (tl M : Led) (x : Addr) (ps' : Array Value), r = .ref x ∧ MapS M x 1 1 2 2 (within (fun u v => (col u v).a) 1 1 2 2) ∧ (∀ p ∈ M, p ∈ tl) ∧ (∀ q ∈ rest, Off tl q.1) ∧ Off tl 214 ∧ (ps' = ps ∨ TabP ps' tl) ∧ news' = tl ++ (214, tabObj ps') :: rest) := by
  unfold Does
  k_fill
  intro p loose mean mg mb dp un gd cn cs ad ccd cl outer A₀ base h₀ L m s Q E B F X N T hk hd' hu hret
  rcases ht with rfl | ⟨c1, oc1, vs1, tk1, rfl, hc1, hd1, hv1⟩
  · refine wpAny_call ?_
    k_dflt ktr_enter
    rename (hd.heap_1 w.params).In _ => X'
    have C := codeHd_of_K (c := 218) (P := 214) X' (by kernel_rfl)
    (repeat' (first | ((fail_if_success (with_reducible show wpAny _ _ (call (Value.ref 205) _) _ _ _)); first | (k_unfold; (try dsimp only)) | (k_end; wrow_close) | walk1 | (dsimp only; walk1) | (leave1; try dsimp only) | (dsimp only [TurnP])) | fail "no step"))
    rename_i f' c' oc' vs' t' ct' h1 tk1 F1 N1 d1 d2 l1 l2
    k_dflt (refine' Does.use (mapped_does (P := fun u v => (col u v).a) H ?hsubZ (fun u v => ⟨(hok u v).2.2.2.2.2.2.1, (hok u v).2.2.2.2.2.2.2⟩) ?hfaZ ?hfnZ) ?BZ ?FZ ?XZ ?NZ ?TZ ?hkZ ?hdZ ?huZ ?_)
    case BZ => k_asm
    case FZ => k_asm
    case XZ => k_asm
    case NZ => k_asm
    case TZ => k_asm
    case hkZ => first | exact rfl | assumption
    case hsubZ => exact fun p hp => .tail _ (.tail _ (.tail _ (hs p hp)))
    case hfaZ => exact fun h₀ h L m X F N => FnAt.of N (.head _)
    case hfnZ =>
      intro nx hnx u v h1 h2 h3 h4
      obtain ⟨oc, a, b⟩ := hcol u v h1 h2 h3 h4
      exact (fourth_does (hnx _ (.head _)) (hnx _ (.tail _ (.head _))) d1 d2 (hnx _ (.tail _ (.tail _ (.tail _ a)))) b).weak (by decide)
    case hdZ => ktr_room
    case huZ => ktr_units
    k_whole
    intro r' h' tk' news' F' N' ⟨M', x', hr', hM', hoff', hn'⟩
    subst hr'
    subst hn'
    dsimp only
    (repeat' (first | ((fail_if_success (with_reducible show wpAny _ _ (pyIter _) _ _ _)); (fail_if_success (with_reducible show wpAny _ _ (exec (Stmt.For _ _ _ _ _) _) _ _ _)); first | (k_unfold; (try dsimp only)) | (k_end; wrow_close) | walk1 | (dsimp only; walk1) | (leave1; try dsimp only) | (dsimp only [TurnP])) | fail "no step"))
    refine hret _ _ _ _ (by k_asm) (News.of_sub (by k_asm) ?_) ⟨M' ++ [(c', oc')], M', x', _, rfl, hM', sub_left sub_refl, ?_, ?_, .inr (.inr ⟨c', oc', vs', t', rfl, List.mem_append_right _ (.head _), d1, d2⟩), rfl⟩
    · walk_at "SUB"
    · intro q hq
      have := allLt_mem l1.2 q hq
      exact Off.join (hoff' q (.tail _ (.tail _ (.tail _ hq)))) (off_cons (Nat.ne_of_gt this) (by intro p hp; cases hp))
    · exact Off.join (hoff' (214, _) (.tail _ (.tail _ (.head _)))) (off_cons (Nat.ne_of_gt l1.1) (by intro p hp; cases hp))
  · refine wpAny_call ?_
    k_dflt ktr_enter
    rename (hd.heap_1 w.params).In _ => X'
    have C := codeHd_of_K (c := 218) (P := 214) X' (by kernel_rfl)
    (repeat' (first | ((fail_if_success (with_reducible show wpAny _ _ (call (Value.ref 205) _) _ _ _)); first | (k_unfold; (try dsimp only)) | (k_end; wrow_close) | walk1 | (dsimp only; walk1) | (leave1; try dsimp only) | (dsimp only [TurnP])) | fail "no step"))
    rename_i f' ct' h1 tkA F1 N1 l1
    k_dflt (refine' Does.use (mapped_does (P := fun u v => (col u v).a) H ?hsubZ (fun u v => ⟨(hok u v).2.2.2.2.2.2.1, (hok u v).2.2.2.2.2.2.2⟩) ?hfaZ ?hfnZ) ?BZ ?FZ ?XZ ?NZ ?TZ ?hkZ ?hdZ ?huZ ?_)
    case BZ => k_asm
    case FZ => k_asm
    case XZ => k_asm
    case NZ => k_asm
    case TZ => k_asm
    case hkZ => first | exact rfl | assumption
    case hsubZ => exact fun p hp => .tail _ (.tail _ (hs p hp))
    case hfaZ => exact fun h₀ h L m X F N => FnAt.of N (.head _)
    case hfnZ =>
      intro nx hnx u v h1 h2 h3 h4
      obtain ⟨oc, a, b⟩ := hcol u v h1 h2 h3 h4
      exact (fourth_does (hnx _ (.head _)) (hnx _ (.tail _ (.tail _ hc1))) hd1 hv1 (hnx _ (.tail _ (.tail _ a))) b).weak (by decide)
    case hdZ => ktr_room
    case huZ => ktr_units
    k_whole
    intro r' h' tk' news' F' N' ⟨M', x', hr', hM', hoff', hn'⟩
    subst hr'
    subst hn'
    dsimp only
    (repeat' (first | ((fail_if_success (with_reducible show wpAny _ _ (pyIter _) _ _ _)); (fail_if_success (with_reducible show wpAny _ _ (exec (Stmt.For _ _ _ _ _) _) _ _ _)); first | (k_unfold; (try dsimp only)) | (k_end; wrow_close) | walk1 | (dsimp only; walk1) | (leave1; try dsimp only) | (dsimp only [TurnP])) | fail "no step"))
    refine hret _ _ _ _ (by k_asm) (News.of_sub (by k_asm) ?_) ⟨M', M', x', _, rfl, hM', sub_refl, ?_, ?_, .inl rfl, rfl⟩
    · walk_at "SUB"
    · intro q hq
      exact hoff' q (.tail _ (.tail _ hq))
    · exact hoff' (214, _) (.tail _ (.head _))
theorem col0_ok : Col.Ok ⟨0, 0, 0, 0⟩ := by refine ⟨?_, ?_, ?_, ?_, ?_, ?_, ?_, ?_⟩ <;> decide
theorem off_one {d q : Addr} {od : Obj} (h : q < d) : Off [(d, od)] q := fun p hp e => by
  rw [List.mem_singleton.mp hp] at e
  exact absurd h (by rw [← e]; exact Nat.lt_irrefl _)
/-- the state of the canvas's painting: the dots ahead of (y, x) are told -/
structure Paint (w : World) (src c d : Addr) (base : Led) (y x n : Int) (o : Obj) (T M K : Led) : Prop where
  so : SrcO o
  ex : ∃ (f : Int → Int → Addr) (xs : List (List Int × Addr × Value)) (col : Int → Int → Col), CanS M c f ∧ ToldS lawProg w T d xs ∧ (∀ u v, (col u v).Ok) ∧ (∀ u v : Int, 1 ≤ u → u < 3 → 1 ≤ v → v < 3 → (v < y ∨ (v = y ∧ u < x)) → ∃ p oc, atKey xs [u, v] = some (p, .ref (f u v)) ∧ (f u v, oc) ∈ K ∧ ColO oc (col u v)) ∧ (xs.length : Int) ≤ n
  o1 : ∀ q ∈ K ++ base, Off M q.1
  o2 : Off M src
  o3 : ∀ q ∈ K ++ base, Off T q.1
  o4 : Off T src
  o5 : ∀ q ∈ M, Off T q.1
  o6 : ∀ q ∈ T, Off M q.1
  o7 : ∀ q ∈ base, Off K q.1
  o8 : Off K src
theorem Paint.skip {w : World} {src c d : Addr} {base T M K : Led} {y x n y' x' n' : Int} {o o' : Obj} (H : Paint w src c d base y x n o T M K) (ho : SrcO o') (hn : n ≤ n') (hyx : ∀ u v : Int, 1 ≤ u → u < 3 → 1 ≤ v → v < 3 → (v < y' ∨ (v = y' ∧ u < x')) → (v < y ∨ (v = y ∧ u < x))) : Paint w src c d base y' x' n' o' T M K := by
  obtain ⟨f, xs, col, h1, h2, h3, h4, h5⟩ := H.ex
  exact ⟨ho, ⟨f, xs, col, h1, h2, h3, fun u v a b c d e => h4 u v a b c d (hyx u v a b c d e), by omega⟩, H.o1, H.o2, H.o3, H.o4, H.o5, H.o6, H.o7, H.o8⟩
theorem Paint.put {w : World} {src c d k p : Addr} {base T M K T' M' : Led} {y x n : Int} {o o' oc : Obj} {f : Int → Int → Addr} {xs : List (List Int × Addr × Value)} {col : Int → Int → Col} {cc : Col}
    (H : Paint w src c d base y x n o T M K) (ho : SrcO o') (hok : ∀ u v, (col u v).Ok) (htell : ∀ u v : Int, 1 ≤ u → u < 3 → 1 ≤ v → v < 3 → (v < y ∨ (v = y ∧ u < x)) → ∃ p oc, atKey xs [u, v] = some (p, .ref (f u v)) ∧ (f u v, oc) ∈ K ∧ ColO oc (col u v)) (hlen : (xs.length : Int) ≤ n)
    (hco : ColO oc cc) (hcok : cc.Ok) (hT : ToldS lawProg w T' d (storedH xs [x, y] k (.ref p))) (hM : CanS M' c (putA f x y p)) (hg : Grown k T T') (hs : Same M M')
    (hkM : Off M k) (hkK : Off K k) (hkb : Off base k) (hks : @Ne Nat src k) (hpk : @Ne Nat p k) (hpT : Off T p) (hpM : Off M p) (hpb : Off base p) (hps : @Ne Nat src p) : Paint w src c d base y (x + 1) (n + 1) o' T' M' ((p, oc) :: K) := by
  have hgT : ∀ {q : Addr}, Off T q → @Ne Nat k q → Off T' q := fun h1 h2 => Off.grown hg h1 h2
  have o5' : ∀ q ∈ M', Off T' q.1 := fun q hq => by
    obtain ⟨q', hq', e⟩ := hs q hq
    rw [← e]
    exact hgT (H.o5 q' hq') (Ne.symm (hkM q' hq'))
  refine ⟨ho, ⟨_, _, fun u v => if u = x ∧ v = y then cc else col u v, hM, hT, fun u v => ?_, fun u v h1 h2 h3 h4 h5 => ?_, ?_⟩, fun q hq => ?_, Off.same hs H.o2, fun q hq => ?_, hgT H.o4 (Ne.symm hks), o5', off_symm o5', fun q hq => ?_, ?_⟩
  · dsimp only
    split
    · exact hcok
    · exact hok u v
  · by_cases e : u = x ∧ v = y
    · obtain ⟨rfl, rfl⟩ := e
      obtain ⟨p2, hp2⟩ := atKey_same (xs := xs) (k := [u, v]) (a := k) (v := .ref p)
      have e2 : putA f u v p u v = p := by unfold putA; rw [if_pos ⟨rfl, rfl⟩]
      refine ⟨p2, oc, ?_, ?_, ?_⟩
      · rw [hp2, e2]
      · rw [e2]; exact .head _
      · dsimp only; rw [if_pos ⟨rfl, rfl⟩]; exact hco
    · have hne : ([u, v] : List Int) ≠ [x, y] := by
        intro q
        simp only [List.cons.injEq, and_true] at q
        exact e q
      have e2 : putA f x y p u v = f u v := by unfold putA; rw [if_neg e]
      obtain ⟨p2, oc2, a1, a2, a3⟩ := htell u v h1 h2 h3 h4 (by omega)
      refine ⟨p2, oc2, ?_, ?_, ?_⟩
      · rw [atKey_other hne, a1, e2]
      · rw [e2]; exact .tail _ a2
      · dsimp only; rw [if_neg e]; exact a3
  · have := storedH_length xs [x, y] k (.ref p)
    omega
  · rcases List.mem_cons.mp hq with rfl | hq
    · exact Off.same hs hpM
    · exact Off.same hs (H.o1 q hq)
  · rcases List.mem_cons.mp hq with rfl | hq
    · exact hgT hpT (Ne.symm hpk)
    · refine hgT (H.o3 q hq) ?_
      rcases List.mem_append.mp hq with hq | hq
      · exact Ne.symm (hkK q hq)
      · exact Ne.symm (hkb q hq)
  · exact off_cons (Ne.symm (hpb q hq)) (H.o7 q hq)
  · exact off_cons (Ne.symm hps) H.o8
/-- a colour drawn, its tuple ahead -/
theorem Does.useK {w : World} {need : Nat} {f : Addr} {vs : List Value} {news : Led} {p : Program} {loose : List Str} {mean : ExcName → Option Value} {mg mb : Str → Option Value} {dp un : Nat} {gd : Option (List Code)} {cn : Str} {cs : Scope} {a : Addr} {ccd : Value} {cl : List (Str × Addr)} {outer : List Env} {A₀ : Around} {base h₀ : Heap} {L : Addr} {m : Str → Option Value} {s : Shared} {Q E : Value → Shared → Prop} {S : Obj → Prop} {P : Obj → Col → Prop} {P2 : Col → Prop} {g : Obj → Led} (B : Below A₀ base outer h₀) (F : Fr h₀ L s.heap m) (X : (hd.heap_1 w.params).In h₀) (N : News h₀ L s.heap news) (T : Top p loose mean mg mb h₀) (hk : cs.kind = .function) (hd : dp + need < recursionLimit) (hu : un + 8 * need < cLine) (D : Does w need f vs news (fun r news' => ∃ o' tl, (S o' ∧ ∃ p oc c, r = .ref p ∧ tl = [(p, oc)] ∧ P oc c ∧ P2 c) ∧ (∀ q ∈ news, Off tl q.1) ∧ news' = tl ++ g o'))
    (k : ∀ h' tk', Fr h₀ L h' m → ∀ o', S o' → ∀ p oc c, P oc c → P2 c → (∀ q ∈ news, Off [(p, oc)] q.1) → News h₀ L h' ((p, oc) :: g o') → Q (.ref p) { s with heap := h', toks := tk' }) :
    wpAny (model PySem.Challenge.rw_nu0025_01.row.prog w) (ktrTop dp un gd cn cs L a ccd cl outer) (call (.ref f) vs) Q E s :=
  D.use B F X N T hk hd hu (by rintro _ h' tk' _ F' N' ⟨o', tl, ⟨ho, p, oc, c, e, e2, h1, h3⟩, h2, e'⟩; subst e; subst e2; subst e'; exact k h' tk' F' o' ho p oc c h1 h3 h2 N')
theorem lines32 : True := by
  k_with "M BLK27" => (first | (k_here; (with_reducible show wpAny _ _ (call (Value.ref 295) [_, _, _, _]) _ _ _); k_dflt (refine' Does.useM (by k_asm) (by k_asm) (by k_asm) (by k_asm) (by k_asm) (by first | exact rfl | assumption) (by ktr_room) (by ktr_units) canvas_does ?_; k_whole); walk_at "END") | (k_here; (with_reducible show wpAny _ _ (call (Value.ref 433) [_]) _ _ _); k_dflt (refine' Does.useK (by k_asm) (by k_asm) (by k_asm) (by k_asm) (by k_asm) (by first | exact rfl | assumption) (by ktr_room) (by ktr_units) (colour_does (by k_updF) (by assumption)) ?_; k_whole); walk_at "END") | (k_here; (with_reducible show wpAny _ _ (call (Value.ref 261) [_, _, _, _]) _ _ _); k_dflt (refine' Does.useG (by k_asm) (by k_asm) (by k_asm) (by k_asm) (by k_asm) (by first | exact rfl | assumption) (by ktr_room) (by ktr_units) (canPut_does (by assumption) (by walk_at "UPDL") (by walk_at "OM")) ?_; k_whole); walk_at "END") | (k_here; (with_reducible show wpAny _ _ (subscriptTail _ _ (Value.ref _) (Value.ref _)) _ _ _); k_dflt (refine' told_item (by k_units) (by k_asm) (by assumption) (by walk_at "SUB") (by k_mem) (by assumption) ?_; k_whole); intros; (try dsimp only)))
  exact True.intro
set_option maxRecDepth 100000 in
set_option maxHeartbeats 8000000 in
theorem maskRight_does {w : World} {src : Addr} {o : Obj} {rest : Led} {ps : Array Value} (ho : SrcO o) (hsrc : @Ne Nat src 214) (h1 : ∀ p ∈ rest, p.1 ≠ src) (h2 : ∀ p ∈ rest, p.1 ≠ 214) (ht : TabP ps rest) :
    Does w 9 440 [.ref src] ((src, o) :: (214, tabObj ps) :: rest) (fun r news' => r = .bool true ∧ ∃ ps' tl, (ps' = ps ∨ TabP ps' tl) ∧ (∀ q ∈ rest, Off tl q.1) ∧ Off tl 214 ∧ news' = tl ++ (214, tabObj ps') :: rest) := by
  unfold Does
  k_fill
  intro p loose mean mg mb dp un gd cn cs ad ccd cl outer A₀ base h₀ L m s Q E B F X N T hk hd' hu hret
  refine wpAny_call ?_
  k_dflt ktr_enter
  (repeat' (first | walk_at "BLK27" | ((fail_if_success (with_reducible show wpAny _ _ (pyIter _) _ _ _)); (fail_if_success (with_reducible show wpAny _ _ (exec (Stmt.For _ _ _ _ _) _) _ _ _)); first | (k_unfold; (try dsimp only)) | (k_end; wrow_close) | walk1 | (dsimp only; walk1) | (leave1; try dsimp only) | (dsimp only [TurnP])) | fail "no step"))
  rename_i M0 c hM0 hoff0 d _ od l1 lo1 hs1 fs1 hi1 fi1 D1 _ _ _ _ _ _ _
  have hp0 : Paint w src c d ((214, tabObj ps) :: rest) 1 1 0 o [(d, od)] M0 [] := {
    so := ho
    ex := ⟨_, [], fun _ _ => ⟨0, 0, 0, 0⟩, hM0, told_new lo1 hi1, fun _ _ => col0_ok, fun u v a b c d e => by omega, by decide⟩
    o1 := fun q hq => hoff0 q (.tail _ hq)
    o2 := hoff0 (src, o) (.head _)
    o3 := fun q hq => off_one (l1 q (List.mem_append_right _ (.tail _ hq)))
    o4 := off_one (l1 (src, o) (List.mem_append_right _ (.head _)))
    o5 := fun q hq => off_one (l1 q (List.mem_append_left _ hq))
    o6 := off_symm fun q hq => off_one (l1 q (List.mem_append_left _ hq))
    o7 := offs_nil
    o8 := fun _ h => nomatch h }
  have hbs : ∀ p ∈ ((214, tabObj ps) :: rest : Led), p.1 ≠ src := off_cons (Ne.symm hsrc) h1
  walk_at "FOR"
  with_unfolding_all refine' loop_rangeF (news := (src, o) :: ([(d, od)] ++ (M0 ++ ([] ++ (214, tabObj ps) :: rest)))) [Str.ofString "x"] (fun y nx => ∃ M T K o, nx = (src, o) :: (T ++ (M ++ (K ++ (214, tabObj ps) :: rest))) ∧ Paint w src c d ((214, tabObj ps) :: rest) y 1 (2 * (y - 1)) o T M K) ?hhZ ?hrZ ?hsmZ ?habZ ?FZ ?NZ ?hjZ ?turnZ ?doneZ
  case hhZ => rfl
  case hrZ => assumption
  case hsmZ => exact small_one (by omega) (by omega) (by omega) (by omega)
  case habZ => omega
  case FZ => k_asm
  case NZ => exact News.of_sub (by k_asm) (by
    refine sub_cons (by k_mem) (sub_app (sub_cons (by k_mem) sub_nil) (sub_app ?_ ?_)) <;> walk_at "SUB")
  case hjZ => exact ⟨M0, _, [], o, rfl, hp0⟩
  case turnZ =>
    intro y ty u nx h' tk' I o1 hy1 hy2 hJ0
    apply ex4e hJ0
    clear hJ0
    intro M T K o hdr hI F' N'
    have hIT : Off T I := fun p hp => hI p (.tail _ (List.mem_append_left _ hp))
    have hIM : Off M I := fun p hp => hI p (.tail _ (List.mem_append_right _ (List.mem_append_left _ hp)))
    have hIK : Off K I := fun p hp => hI p (.tail _ (List.mem_append_right _ (List.mem_append_right _ (List.mem_append_left _ hp))))
    have hIs : @Ne Nat src I := hI _ (.head _)
    have hIr : Off ((214, tabObj ps) :: rest) I := fun p hp => hI p (.tail _ (List.mem_append_right _ (List.mem_append_right _ (List.mem_append_right _ hp))))
    (repeat' (first | walk_at "BLK27" | ((fail_if_success (with_reducible show wpAny _ _ (pyIter _) _ _ _)); (fail_if_success (with_reducible show wpAny _ _ (exec (Stmt.For _ _ _ _ _) _) _ _ _)); first | (k_unfold; (try dsimp only)) | (k_end; wrow_close) | walk1 | (dsimp only; walk1) | (leave1; try dsimp only) | (dsimp only [TurnP])) | fail "no step"))
    walk_at "FOR"
    with_unfolding_all refine' loop_rangeF [] (fun x nx => ∃ M T K o, nx = (I, o1) :: (src, o) :: (T ++ (M ++ (K ++ (214, tabObj ps) :: rest))) ∧ Paint w src c d ((214, tabObj ps) :: rest) y x (2 * (y - 1) + (x - 1)) o T M K ∧ Off T I ∧ Off M I ∧ Off K I) ?hh2Z ?hr2Z ?hsm2Z ?hab2Z ?F2Z ?N2Z ?hj2Z ?turn2Z ?done2Z
    case hh2Z => rfl
    case hr2Z => assumption
    case hsm2Z => exact small_one (by omega) (by omega) (by omega) (by omega)
    case hab2Z => omega
    case F2Z => k_asm
    case N2Z => k_asm
    case hj2Z => exact ⟨M, T, K, o, rfl, by rw [Int.sub_self, Int.add_zero]; exact hdr, hIT, hIM, hIK⟩
    case done2Z =>
      intro u2 nx h2 tk2 hJ0
      apply ex4e hJ0
      clear hJ0
      intro M2 T2 K2 o2 hJ0
      apply and4 hJ0
      clear hJ0
      intro hdr2 hI2 hI3 hI4 F2 N2
      (repeat' (first | walk_at "BLK27" | ((fail_if_success (with_reducible show wpAny _ _ (pyIter _) _ _ _)); (fail_if_success (with_reducible show wpAny _ _ (exec (Stmt.For _ _ _ _ _) _) _ _ _)); first | (k_unfold; (try dsimp only)) | (k_end; wrow_close) | walk1 | (dsimp only; walk1) | (leave1; try dsimp only) | (dsimp only [TurnP])) | fail "no step"))
      refine turnF (by k_asm) (by k_asm) (off_cons hIs (Off.join hI2 (Off.join hI3 (Off.join hI4 hIr)))) ⟨M2, T2, K2, o2, rfl, hdr2.skip hdr2.so (by omega) (fun u v a b c d e => by omega)⟩ ?_
      intro z h1 h2
      simp only [List.contains_cons, List.contains_nil, Bool.or_false, beq_eq_false_iff_ne, ne_eq] at h2
      simp [h1, h2]
    case turn2Z =>
      intro x tx u2 nx h2 tk2 I2 o2 hx1 hx2 hJ0
      apply ex4e hJ0
      clear hJ0
      intro M2 T2 K2 o3 hJ0
      apply and4 hJ0
      clear hJ0
      intro hdr2 hI2 hI3 hI4 hI5 F2 N2
      obtain ⟨f, xs, col, hM2, hT2, hok, htell, hlen⟩ := hdr2.ex
      have hso := hdr2.so
      have q1 := hdr2.o1
      have q2 := hdr2.o2
      have q3 := hdr2.o3
      have q4 := hdr2.o4
      have q5 := hdr2.o5
      have q6 := hdr2.o6
      have q7 := hdr2.o7
      have q8 := hdr2.o8
      have hsrcO : ∀ p ∈ T2 ++ (M2 ++ (K2 ++ (214, tabObj ps) :: rest)), p.1 ≠ src := Off.join q4 (Off.join q2 (Off.join q8 hbs))
      have hI2T : Off T2 I2 := fun p hp => hI5 p (.tail _ (.tail _ (List.mem_append_left _ hp)))
      have hI2M : Off M2 I2 := fun p hp => hI5 p (.tail _ (.tail _ (List.mem_append_right _ (List.mem_append_left _ hp))))
      have hI2K : Off K2 I2 := fun p hp => hI5 p (.tail _ (.tail _ (List.mem_append_right _ (List.mem_append_right _ (List.mem_append_left _ hp)))))
      have hI2r : Off ((214, tabObj ps) :: rest) I2 := fun p hp => hI5 p (.tail _ (.tail _ (List.mem_append_right _ (List.mem_append_right _ (List.mem_append_right _ hp)))))
      have hI2s : @Ne Nat src I2 := hI5 _ (.tail _ (.head _))
      have hI2I : @Ne Nat I I2 := hI5 _ (.head _)
      (repeat' (first | walk_at "BLK27" | ((fail_if_success (with_reducible show wpAny _ _ (pyIter _) _ _ _)); (fail_if_success (with_reducible show wpAny _ _ (exec (Stmt.For _ _ _ _ _) _) _ _ _)); first | (k_unfold; (try dsimp only)) | (k_end; wrow_close) | walk1 | (dsimp only; walk1) | (leave1; try dsimp only) | (dsimp only [TurnP])) | fail "no step"))
      rename_i o4 ho4 pc oc cc hco hcok hofp k h9 F9 N9 lk
      have hpT : Off T2 pc := fun p hp => Ne.symm ((hofp p (.tail _ (.tail _ (.tail _ (List.mem_append_left _ hp))))) _ (.head _))
      have hpM : Off M2 pc := fun p hp => Ne.symm ((hofp p (.tail _ (.tail _ (.tail _ (List.mem_append_right _ (List.mem_append_left _ hp)))))) _ (.head _))
      have hpK : Off K2 pc := fun p hp => Ne.symm ((hofp p (.tail _ (.tail _ (.tail _ (List.mem_append_right _ (List.mem_append_right _ (List.mem_append_left _ hp))))))) _ (.head _))
      have hpb : Off ((214, tabObj ps) :: rest) pc := fun p hp => Ne.symm ((hofp p (.tail _ (.tail _ (.tail _ (List.mem_append_right _ (List.mem_append_right _ (List.mem_append_right _ hp))))))) _ (.head _))
      have hps : @Ne Nat src pc := Ne.symm ((hofp _ (.tail _ (.tail _ (.head _)))) _ (.head _))
      have hpI : @Ne Nat pc I := (hofp _ (.tail _ (.head _))) _ (.head _)
      have hpI2 : @Ne Nat pc I2 := (hofp _ (.head _)) _ (.head _)
      have hl := allLt_mem lk.2.2.2.2
      have hkT : Off T2 k := fun p hp => Nat.ne_of_lt (hl p (List.mem_append_left _ hp))
      have hkM : Off M2 k := fun p hp => Nat.ne_of_lt (hl p (List.mem_append_right _ (List.mem_append_left _ hp)))
      have hkK : Off K2 k := fun p hp => Nat.ne_of_lt (hl p (List.mem_append_right _ (List.mem_append_right _ (List.mem_append_left _ hp))))
      have hkb : Off ((214, tabObj ps) :: rest) k := fun p hp => Nat.ne_of_lt (hl p (List.mem_append_right _ (List.mem_append_right _ (List.mem_append_right _ hp))))
      k_dflt (refine' told_put ?uZ ?FZ ?NZ ?HZ ?UZ ?kZ ?zZ ?_)
      case uZ => k_units
      case FZ => k_asm
      case NZ => k_asm
      case HZ => exact hT2
      case UZ => walk_at "UPDL"
      case kZ => k_mem
      case zZ => rw [sizeLine_eq]; omega
      intro h3 T3 tk3 F3 N3 hT3 hg3
      dsimp only at N3 ⊢
      have q5' : ∀ q ∈ T3, Off M2 q.1 := off_symm fun q hq => Off.grown hg3 (q5 q hq) (Ne.symm (hkM q hq))
      obtain ⟨p9, hat⟩ := atKey_same (xs := xs) (k := [x, y]) (a := k) (v := .ref pc)
      clear hT2
      refine CanS.open hM2 ?_
      intro dx al z1 z2 z3 z4 z5 y1 y2 y3 y4 y5 y6 y7 y8 y9 n9 hx3 hx4
      (repeat' (first | walk_at "BLK27" | ((fail_if_success (with_reducible show wpAny _ _ (pyIter _) _ _ _)); (fail_if_success (with_reducible show wpAny _ _ (exec (Stmt.For _ _ _ _ _) _) _ _ _)); first | (k_unfold; (try dsimp only)) | (k_end; wrow_close) | walk1 | (dsimp only; walk1) | (leave1; try dsimp only) | (dsimp only [TurnP])) | fail "no step"))
      rename CanS _ _ (putA _ _ _ _) => hM3
      rename Same _ _ => hs3
      have hdr3 := hdr2.put ho4 hok htell hlen hco hcok hT3 hM3 hg3 hs3 hkM hkK hkb (Nat.ne_of_lt lk.2.2.2.1) (Nat.ne_of_lt lk.1) hpT hpM hpb hps
      have e : 2 * (y - 1) + (x - 1) + 1 = 2 * (y - 1) + (x + 1 - 1) := by omega
      rw [e] at hdr3
      refine turnF (by k_asm) (News.of_sub (by k_asm) ?_) ?_ ⟨_, _, _, _, rfl, hdr3, Off.grown hg3 hI2 (Nat.ne_of_gt lk.2.2.1), Off.same hs3 hI3, off_cons hpI hI4⟩ ?_
      · walk_at "SUB"
      · exact off_cons hI2I (off_cons hI2s (Off.join (Off.grown hg3 hI2T (Nat.ne_of_gt lk.2.1)) (Off.join (Off.same hs3 hI2M) (Off.join (off_cons hpI2 hI2K) hI2r))))
      · intro z h1 h2
        simp only [List.contains_cons, List.contains_nil, Bool.or_false, beq_eq_false_iff_ne, ne_eq] at h2
        simp [h1, h2]
  case doneZ =>
    intro u nx h' tk' hJ0
    apply ex4e hJ0
    clear hJ0
    intro M T K o2 hdr F' N'
    obtain ⟨f, xs, col, hM, hT, hok, htell0, hlen⟩ := hdr.ex
    have htell : ∀ u v : Int, 1 ≤ u → u < 3 → 1 ≤ v → v < 3 → ∃ p oc, atKey xs [u, v] = some (p, .ref (f u v)) ∧ (f u v, oc) ∈ K ∧ ColO oc (col u v) := fun u v a b c d => htell0 u v a b c d (by omega)
    clear htell0
    have hcol : Cols K f col := fun u v a b c d => by
      obtain ⟨p, oc, _, e1, e2⟩ := htell u v a b c d
      exact ⟨oc, e1, e2⟩
    dsimp only
    (repeat' (first | walk_at "BLK27" | ((fail_if_success (with_reducible show wpAny _ _ (call (Value.ref 219) _) _ _ _)); (fail_if_success (with_reducible show wpAny _ _ (call (Value.ref 212) _) _ _ _)); first | (k_unfold; (try dsimp only)) | (k_end; wrow_close) | walk1 | (dsimp only; walk1) | (leave1; try dsimp only) | (dsimp only [TurnP])) | fail "no step"))
    k_dflt (refine' Does.use (lumMask_does hM ?hsZ hok (Cols.mono hcol ?hs2Z)) ?BZ ?FZ ?XZ ?NZ ?TZ ?hkZ ?hdZ ?huZ ?_)
    case BZ => k_asm
    case FZ => k_asm
    case XZ => k_asm
    case NZ => k_asm
    case TZ => k_asm
    case hkZ => first | exact rfl | assumption
    case hsZ => walk_at "SUB"
    case hs2Z => walk_at "SUB"
    case hdZ => ktr_room
    case huZ => ktr_units
    k_whole
    intro r5 h5 tk5 news5 F5 N5 ⟨M1, b1, hr5, hM1, hoff1, hn5⟩
    subst hr5
    subst hn5
    dsimp only
    (repeat' (first | walk_at "BLK27" | ((fail_if_success (with_reducible show wpAny _ _ (call (Value.ref 219) _) _ _ _)); (fail_if_success (with_reducible show wpAny _ _ (call (Value.ref 212) _) _ _ _)); first | (k_unfold; (try dsimp only)) | (k_end; wrow_close) | walk1 | (dsimp only; walk1) | (leave1; try dsimp only) | (dsimp only [TurnP])) | fail "no step"))
    have hR : ∀ p ∈ M1 ++ (src, o2) :: (T ++ (M ++ (K ++ rest))), p.1 ≠ 214 :=
      Off.join (hoff1 (214, tabObj ps) (.tail _ (List.mem_append_right _ (List.mem_append_right _ (List.mem_append_right _ (.head _)))))) (off_cons hsrc (Off.join (hdr.o3 (214, tabObj ps) (List.mem_append_right _ (.head _))) (Off.join (hdr.o1 (214, tabObj ps) (List.mem_append_right _ (.head _))) (Off.join (hdr.o7 (214, tabObj ps) (.head _)) h2))))
    k_dflt (refine' Does.use (alphaMask_does (rest := M1 ++ (src, o2) :: (T ++ (M ++ (K ++ rest)))) (ps := ps) hM ?hsZ hok (Cols.mono hcol ?hs2Z) hR (TabP.mono ht ?hs3Z)) ?BZ ?FZ ?XZ ?NZ ?TZ ?hkZ ?hdZ ?huZ ?_)
    case BZ => k_asm
    case FZ => k_asm
    case XZ => k_asm
    case NZ => exact News.of_sub (by k_asm) (by walk_at "SUB")
    case TZ => k_asm
    case hkZ => first | exact rfl | assumption
    case hsZ => walk_at "SUB"
    case hs2Z => walk_at "SUB"
    case hs3Z => walk_at "SUB"
    case hdZ => ktr_room
    case huZ => ktr_units
    k_whole
    intro r6 h6 tk6 news6 F6 N6 ⟨tl, M2, b2, ps', hr6, hM2, hsub2, hoff2, hoff3, ht2, hn6⟩
    subst hr6
    subst hn6
    dsimp only
    (repeat' (first | walk_at "BLK27" | ((fail_if_success (with_reducible show wpAny _ _ (pyIter _) _ _ _)); (fail_if_success (with_reducible show wpAny _ _ (exec (Stmt.For _ _ _ _ _) _) _ _ _)); first | (k_unfold; (try dsimp only)) | (k_end; wrow_close) | walk1 | (dsimp only; walk1) | (leave1; try dsimp only) | (dsimp only [TurnP])) | fail "no step"))
    refine MapS.open hM1 ?_
    intro dx1 al1 p1 p2 p3 p4 p5 k1 k2 k3 k4 k5 k6 k7 k8 k9 n9 hx1 hx2
    refine MapS.open hM2 ?_
    intro dx2 al2 z1 z2 z3 z4 z5 y1 y2 y3 y4 y5 y6 y7 y8 y9 m9 hx3 hx4
    replace hx3 := hsub2 _ hx3
    replace hx4 := hsub2 _ hx4
    have ef1 : ∀ u v : Int, 1 ≤ u → u < 3 → 1 ≤ v → v < 3 → within (fun u v => lumI (col u v)) 1 1 2 2 u v = lumI (col u v) := fun u v a b c d => within_at (by omega)
    have ef2 : ∀ u v : Int, 1 ≤ u → u < 3 → 1 ≤ v → v < 3 → within (fun u v => (col u v).a) 1 1 2 2 u v = (col u v).a := fun u v a b c d => within_at (by omega)
    have g1 : within (fun u v => lumI (col u v)) 1 1 2 2 0 0 = 0 := within_off (by omega)
    have g2 : within (fun u v => (col u v).a) 1 1 2 2 3 1 = 0 := within_off (by omega)
    generalize hF1 : within (fun u v => lumI (col u v)) 1 1 2 2 = F1 at *
    generalize hF2 : within (fun u v => (col u v).a) 1 1 2 2 = F2 at *
    walk_at "FOR"
    with_unfolding_all refine' loop_rangeS [Str.ofString "x", Str.ofString "red", Str.ofString "green", Str.ofString "blue", Str.ofString "alpha", Str.ofString "top"] ?hh2Z ?hr2Z ?hsm2Z ?hab2Z ?F2Z ?N2Z ?turn2Z ?done2Z
    case hh2Z => rfl
    case hr2Z => assumption
    case hsm2Z => exact small_one (by omega) (by omega) (by omega) (by omega)
    case hab2Z => omega
    case F2Z => k_asm
    case N2Z => k_asm
    case done2Z =>
      intro u3 h3 tk3 F3 N3
      dsimp only
      (repeat' (first | walk_at "BLK27" | ((fail_if_success (with_reducible show wpAny _ _ (pyIter _) _ _ _)); (fail_if_success (with_reducible show wpAny _ _ (exec (Stmt.For _ _ _ _ _) _) _ _ _)); first | (k_unfold; (try dsimp only)) | (k_end; wrow_close) | walk1 | (dsimp only; walk1) | (leave1; try dsimp only) | (dsimp only [TurnP])) | fail "no step"))
      · rename News h₀ L _ _ => NN
        rw [g2, beq_self_eq_true]
        refine hret _ _ _ ((tl ++ (M1 ++ (src, o2) :: (T ++ (M ++ K)))) ++ (214, tabObj ps') :: rest) (by k_asm) (News.of_sub NN (by walk_at "SUB")) ⟨rfl, ps', tl ++ (M1 ++ (src, o2) :: (T ++ (M ++ K))), ht2.imp_right (fun h => TabP.mono h (sub_left sub_refl)), fun q hq => ?_, Off.join hoff3 fun p hp => hR p ?_, rfl⟩
        · exact Off.join (hoff2 q (List.mem_append_right _ (.tail _ (List.mem_append_right _ (List.mem_append_right _ (List.mem_append_right _ hq)))))) (Off.join (hoff1 q (.tail _ (List.mem_append_right _ (List.mem_append_right _ (List.mem_append_right _ (.tail _ hq)))))) (off_cons (Ne.symm (h1 q hq)) (Off.join (hdr.o3 q (List.mem_append_right _ (.tail _ hq))) (Off.join (hdr.o1 q (List.mem_append_right _ (.tail _ hq))) (hdr.o7 q (.tail _ hq))))))
        · revert p
          walk_at "SUB"
      · exact absurd g1 (by assumption)
    case turn2Z =>
      intro y ty u3 h3 tk3 I3 o3 hy1 hy2 hI3 F3 N3
      (repeat' (first | walk_at "BLK27" | ((fail_if_success (with_reducible show wpAny _ _ (pyIter _) _ _ _)); (fail_if_success (with_reducible show wpAny _ _ (exec (Stmt.For _ _ _ _ _) _) _ _ _)); first | (k_unfold; (try dsimp only)) | (k_end; wrow_close) | walk1 | (dsimp only; walk1) | (leave1; try dsimp only) | (dsimp only [TurnP])) | fail "no step"))
      walk_at "FOR"
      with_unfolding_all refine' loop_rangeS [Str.ofString "red", Str.ofString "green", Str.ofString "blue", Str.ofString "alpha", Str.ofString "top"] ?hh4Z ?hr4Z ?hsm4Z ?hab4Z ?F4Z ?N4Z ?turn4Z ?done4Z
      case hh4Z => rfl
      case hr4Z => assumption
      case hsm4Z => exact small_one (by omega) (by omega) (by omega) (by omega)
      case hab4Z => omega
      case F4Z => k_asm
      case N4Z => k_asm
      case done4Z =>
        intro u4 h4 tk4 F4 N4
        dsimp only
        (repeat' (first | walk_at "BLK27" | ((fail_if_success (with_reducible show wpAny _ _ (pyIter _) _ _ _)); (fail_if_success (with_reducible show wpAny _ _ (exec (Stmt.For _ _ _ _ _) _) _ _ _)); first | (k_unfold; (try dsimp only)) | (k_end; wrow_close) | walk1 | (dsimp only; walk1) | (leave1; try dsimp only) | (dsimp only [TurnP])) | fail "no step"))
        refine turnS (by k_asm) (by k_asm) hI3 (by walk_at "SUB") ?_
        intro z h1 h2
        simp only [List.contains_cons, List.contains_nil, Bool.or_false, Bool.or_eq_false_iff, beq_eq_false_iff_ne, ne_eq] at h2
        simp [h1, h2]
      case turn4Z =>
        intro x tx u4 h4 tk4 I4 o4 hx5 hx6 hI4 F4 N4
        have e1 := ef1 x y hx5 hx6 hy1 hy2
        have e2 := ef2 x y hx5 hx6 hy1 hy2
        obtain ⟨p9, oc9, hat, hmem, t1, t2, t3, t4, rfl⟩ := htell x y hx5 hx6 hy1 hy2
        (repeat' (first | walk_at "BLK27" | ((fail_if_success (with_reducible show wpAny _ _ (pyIter _) _ _ _)); (fail_if_success (with_reducible show wpAny _ _ (exec (Stmt.For _ _ _ _ _) _) _ _ _)); first | (k_unfold; (try dsimp only)) | (k_end; wrow_close) | walk1 | (dsimp only; walk1) | (leave1; try dsimp only) | (dsimp only [TurnP])) | fail "no step"))
        · exact absurd (e1.trans (lum_law (col x y)).symm) (by assumption)
        · exact absurd e2 (by assumption)
        · refine turnS (by k_asm) (by k_asm) hI4 (by walk_at "SUB") ?_
          intro z h1 h2
          simp only [List.contains_cons, List.contains_nil, Bool.or_false, Bool.or_eq_false_iff, beq_eq_false_iff_ne, ne_eq] at h2
          simp [h1, h2]
/-- as Does, from a base heap with a list of ints -/
def DoesI (w : World) (sl : Addr) (items : List Value) (need : Nat) (f : Addr) (vs : List Value) (news : Led) (Post : Value → Led → Prop) : Prop :=
  ∀ (p : Program) (loose : List Str) (mean : ExcName → Option Value) (mg mb : Str → Option Value) (dp un : Nat) (gd : Option (List Code)) (cn : Str) (cs : Scope) (a : Addr) (ccd : Value) (cl : List (Str × Addr)) (outer : List Env) (A₀ : Around) (base h₀ : Heap) (L : Addr) (m : Str → Option Value) (s : Shared) (Q E : Value → Shared → Prop),
    base.IsList sl items.toArray → Below A₀ base outer h₀ → Fr h₀ L s.heap m → (hd.heap_1 w.params).In h₀ → News h₀ L s.heap news → Top p loose mean mg mb h₀ → cs.kind = .function → dp + need < recursionLimit → un + 8 * need < cLine →
    (∀ r h' tk' news', Fr h₀ L h' m → News h₀ L h' news' → Post r news' → Q r { s with heap := h', toks := tk' }) →
    wpAny (model PySem.Challenge.rw_nu0025_01.row.prog w) (ktrTop dp un gd cn cs L a ccd cl outer) (call (.ref f) vs) Q E s
section
variable {w : World} {sl : Addr} {items : List Value} {need : Nat} {f : Addr} {vs : List Value} {news : Led} {Post : Value → Led → Prop} {p : Program} {loose : List Str} {mean : ExcName → Option Value} {mg mb : Str → Option Value} {dp un : Nat} {gd : Option (List Code)} {cn : Str} {cs : Scope} {a : Addr} {ccd : Value} {cl : List (Str × Addr)} {outer : List Env} {A₀ : Around} {base h₀ : Heap} {L : Addr} {m : Str → Option Value} {s : Shared} {Q E : Value → Shared → Prop}
theorem DoesI.use (D : DoesI w sl items need f vs news Post) (hl : base.IsList sl items.toArray) (B : Below A₀ base outer h₀) (F : Fr h₀ L s.heap m) (X : (hd.heap_1 w.params).In h₀) (N : News h₀ L s.heap news) (T : Top p loose mean mg mb h₀) (hk : cs.kind = .function) (hd' : dp + need < recursionLimit) (hu : un + 8 * need < cLine)
    (k : ∀ r h' tk' news', Fr h₀ L h' m → News h₀ L h' news' → Post r news' → Q r { s with heap := h', toks := tk' }) :
    wpAny (model PySem.Challenge.rw_nu0025_01.row.prog w) (ktrTop dp un gd cn cs L a ccd cl outer) (call (.ref f) vs) Q E s :=
  D _ _ _ _ _ _ _ _ _ _ _ _ _ _ _ _ _ _ _ _ _ _ hl B F X N T hk hd' hu k
theorem DoesI.useP {S : Obj → Prop} (B : Below A₀ base outer h₀) (F : Fr h₀ L s.heap m) (X : (hd.heap_1 w.params).In h₀) (N : News h₀ L s.heap news) (T : Top p loose mean mg mb h₀) (hk : cs.kind = .function) (hd : dp + need < recursionLimit) (hu : un + 8 * need < cLine) (D : DoesI w sl items need f vs news (fun r news' => ∃ l o, r = .ref l ∧ S o ∧ (∀ q ∈ news, q.1 < l) ∧ news' = (l, o) :: news)) (hl : base.IsList sl items.toArray)
    (k : ∀ h' tk', Fr h₀ L h' m → ∀ l o, S o → (∀ q ∈ news, q.1 < l) → News h₀ L h' ((l, o) :: news) → Q (.ref l) { s with heap := h', toks := tk' }) :
    wpAny (model PySem.Challenge.rw_nu0025_01.row.prog w) (ktrTop dp un gd cn cs L a ccd cl outer) (call (.ref f) vs) Q E s :=
  D.use hl B F X N T hk hd hu (by rintro _ h' tk' _ F' N' ⟨l, o, e, h1, h2, e'⟩; subst e; subst e'; exact k h' tk' F' l o h1 h2 N')
end
theorem src_pool (c m : Int) {t1 t2 : Tok} {n : Nat} : SrcO (listOf #[.int ((if -1 - c > c then -1 - c else c) * if decide (10 ^ Int.toNat 18 ≤ if -1 - c > c then -1 - c else c) = true then 1 else 0) t1, .int (m.fmod 2147483647) t2] n) := by
  refine ⟨_, _, _, _, _, ?_, fmod_lo _ (by decide), fmod_hi _ (by decide), rfl⟩
  have h : 0 ≤ if -1 - c > c then -1 - c else c := by split <;> omega
  generalize (if -1 - c > c then -1 - c else c) = z at *
  split
  · omega
  · omega
set_option maxRecDepth 100000 in
set_option maxHeartbeats 8000000 in
theorem pool_does {w : World} {sl : Addr} {items : List Value} {cells : List Int} {k : Int} {tk0 : Tok} {news : Led} (hI : IntsAre items cells) (hlen : ¬ (63 : Int) < cells.length) (hk0 : 0 ≤ k) (hk1 : k < 2) :
    DoesI w sl items 3 386 [.ref sl, .int k tk0] news (fun r news' => ∃ l o, r = .ref l ∧ SrcO o ∧ (∀ q ∈ news, q.1 < l) ∧ news' = (l, o) :: news) := by
  unfold DoesI
  k_fill
  intro p loose mean mg mb dp un gd cn cs ad ccd cl outer A₀ base h₀ L m s Q E lifted B F X N T hk hd' hu hret
  refine wpAny_call ?_
  k_dflt ktr_enter
  rename Below _ _ _ _ => B1
  k_lift B1
  (repeat' (first | ((fail_if_success (with_reducible show wpAny _ _ (pyIter _) _ _ _)); (fail_if_success (with_reducible show wpAny _ _ (exec (Stmt.For _ _ _ _ _) _) _ _ _)); first | (k_unfold; (try dsimp only)) | (k_end; wrow_close) | walk1 | (dsimp only; walk1) | (leave1; try dsimp only) | (dsimp only [TurnP])) | fail "no step"))
  all_goals
    rename News h₀ L _ _ => NN
    refine hret _ _ _ _ (by k_asm) NN ⟨_, _, rfl, ?_, by assumption, rfl⟩
    exact src_pool _ _

theorem lines33 : True := by
  k_with "M call ref" => ((k_here; (with_reducible show wpAny _ _ (call (Value.ref 386) [_, _]) _ _ _); k_dflt (refine' DoesI.useP (by k_asm) (by k_asm) (by k_asm) (by k_asm) (by k_asm) (by first | exact rfl | assumption) (by ktr_room) (by ktr_units) (pool_does (by assumption) (by assumption) (by omega) (by omega)) (by assumption) ?_; k_whole); walk_at "END"))
  exact True.intro
section
variable {prog : Program} {w : World} {A : Around} {s : Shared} {h₀ : Heap} {L : Addr} {m : Str → Option Value} {env : Env} {elt : PySem.Expr} {x : Str} {scope : Scope} {cl : List (Str × Addr)}
/-- a comprehension's turns, by a word over the counter, the items made and the ledger -/
theorem compRest_J {S : Led → Prop} {P : Nat → Value → Prop} {Fin : List Value → Led → Prop} {n : Nat} (J : Nat → List Value → Led → Prop)
    (turn : ∀ i ys nx v I oI C oC D m₂ h tk (E' : Value → Shared → Prop), i < n → J i ys nx → P i v → LCg.NsObj oC m₂ → m₂ x = some v → Fr h₀ L h m → News h₀ L h ((I, oI) :: (C, oC) :: (D, LCg.lst ys) :: nx) → LCg.Off3 I C D nx → ((@Ne Nat I C) ∧ (@Ne Nat I D) ∧ (@Ne Nat C D)) →
      wpAny (model prog w) A (eval elt (compEnvC scope cl C env)) (LCg.CompEnd h₀ L m { s with heap := h, toks := tk } I oI C oC D (LCg.lst ys) S (fun y nx' => J (i + 1) (ys ++ [y]) nx')) E' { s with heap := h, toks := tk })
    (done : ∀ ys nx, J n ys nx → Fin ys nx) : ∀ (k i : Nat) (ys : List Value) (nx : Led), i + k = n → J i ys nx → LCg.CompRest prog w A h₀ L m env elt x scope cl s S P Fin k i ys nx
  | 0, i, ys, nx, e, hJ => LCg.CompRest.zero (done ys nx ((show i = n from e) ▸ hJ))
  | k + 1, i, ys, nx, e, hJ => LCg.CompRest.succ fun v I oI C oC D m₂ h tk E' hP hC hx F N off ne =>
    wpAny_mono (turn i ys nx v I oI C oC D m₂ h tk E' (by omega) hJ hP hC hx F N off ne) (fun y s' ⟨h', tk', nx', e', F', N', off', hS, hJ'⟩ => ⟨h', tk', nx', e', F', N', off', hS, compRest_J J turn done k (i + 1) (ys ++ [y]) nx' (by omega) hJ'⟩) fun _ _ e => e
theorem compSrc_rangeJ {Fin : Shared → List Value → Led → Prop} {r : Addr} {b : Int} {t u v : Tok} {news : Led} {s₁ : Shared} (J : Nat → List Value → Led → Prop)
    (hh : A.handled = none) (F : Fr h₀ L s₁.heap m) (N : News h₀ L s₁.heap news) (hr : IsRange s₁.heap r 0 b 1 t u v) (hb0 : 0 ≤ b) (hb1 : b < 10) (hj : J 0 [] news)
    (turn : ∀ i ys nx v I oI C oC D m₂ h tk (E' : Value → Shared → Prop), i < b.toNat → J i ys nx → (∃ t, v = .int (0 + (i : Int)) t) → LCg.NsObj oC m₂ → m₂ x = some v → Fr h₀ L h m → News h₀ L h ((I, oI) :: (C, oC) :: (D, LCg.lst ys) :: nx) → LCg.Off3 I C D nx → ((@Ne Nat I C) ∧ (@Ne Nat I D) ∧ (@Ne Nat C D)) →
      wpAny (model prog w) A (eval elt (compEnvC scope cl C env)) (LCg.CompEnd h₀ L m { s₁ with heap := h, toks := tk } I oI C oC D (LCg.lst ys) (fun _ => True) (fun y nx' => J (i + 1) (ys ++ [y]) nx')) E' { s₁ with heap := h, toks := tk })
    (done : ∀ g ys nx, J b.toNat ys nx → Fin { s₁ with heap := g } ys nx) : LCg.CompSrc prog w A h₀ L m env elt x scope cl Fin (.ref r) s₁ := by
  refine LCg.CompSrc.range hh F N hr (small_one (by omega) (by omega) (by omega) (by omega)) (n := b.toNat) ?_ ?_ fun g => ?_
  · rw [rangeSize_nat, Int.sub_zero]
  · rw [sizeLine_eq]; omega
  · exact compRest_J (s := { s₁ with heap := g }) J (fun i ys nx v I oI C oC D m₂ h tk E' => turn i ys nx v I oI C oC D m₂ h tk E') (fun ys nx => done g ys nx) b.toNat 0 [] news (by omega) hj
/-- an item's end: the ledger stands -/
def EltEnd (h₀ : Heap) (L : Addr) (m : Str → Option Value) (s₁ : Shared) (news : Led) (J : Value → Prop) (y : Value) (s' : Shared) : Prop := ∃ h' tk', s' = { s₁ with heap := h', toks := tk' } ∧ Fr h₀ L h' m ∧ News h₀ L h' news ∧ J y
theorem compSrc_listJ {Fin : Shared → List Value → Led → Prop} {l : Addr} {c : Nat} {vs : List Value} {news : Led} {s₁ : Shared} (J : Nat → List Value → Prop)
    (hh : A.handled = none) (F : Fr h₀ L s₁.heap m) (N : News h₀ L s₁.heap news) (hl : (l, listOf vs.toArray c) ∈ news) (hb1 : vs.length < 10) (hj : J 0 [])
    (turn : ∀ i ys v I oI C oC D m₂ h tk (E' : Value → Shared → Prop), J i ys → vs[i]? = some v → LCg.NsObj oC m₂ → m₂ x = some v → Fr h₀ L h m → News h₀ L h ((I, oI) :: (C, oC) :: (D, LCg.lst ys) :: news) →
      wpAny (model prog w) A (eval elt (compEnvC scope cl C env)) (EltEnd h₀ L m s₁ ((I, oI) :: (C, oC) :: (D, LCg.lst ys) :: news) (fun y => J (i + 1) (ys ++ [y]))) E' { s₁ with heap := h, toks := tk })
    (done : ∀ g ys, J vs.length ys → Fin { s₁ with heap := g } ys news) : LCg.CompSrc prog w A h₀ L m env elt x scope cl Fin (.ref l) s₁ := by
  refine LCg.CompSrc.ledger (its := vs.toArray) (k := c) hh F N hl ?_ fun g => ?_
  · rw [List.size_toArray, sizeLine_eq]; omega
  · refine compRest_J (s := { s₁ with heap := g }) (n := vs.toArray.size) (fun i ys nx => nx = news ∧ J i ys) ?_ ?_ _ 0 [] news (Nat.zero_add _) ⟨rfl, hj⟩
    · rintro i ys nx v I oI C oC D m₂ h tk E' hi ⟨rfl, hJ⟩ hP hC hx F' N' off ne
      refine wpAny_mono (turn i ys v I oI C oC D m₂ h tk E' hJ (by simpa using hP) hC hx F' N') ?_ fun _ _ e => e
      rintro y s' ⟨h', tk', rfl, F2, N2, hJ2⟩
      exact ⟨h', tk', nx, rfl, F2, N2, off, .inr ⟨_, hl, rfl, _, rfl⟩, rfl, hJ2⟩
    · rintro ys nx ⟨rfl, hJ⟩
      rw [List.size_toArray] at hJ
      exact done g ys hJ
end
theorem PairAt.mono {w : World} {R R' : Led} {v : Value} {f : Int → Int → Int} (h : PairAt w R v f) (hs : ∀ p ∈ R, p ∈ R') : PairAt w R' v f := by
  obtain ⟨pr, lv, tv, np, h1, h2, h3, h4⟩ := h
  exact ⟨pr, lv, tv, np, h1, hs _ h2, h3.mono hs, h4.mono hs⟩
def PairsAt (w : World) (R : Led) (ys : List Value) (fs : List (Int → Int → Int)) : Prop := ys.length = fs.length ∧ ∀ (j : Nat) v f, ys[j]? = some v → fs[j]? = some f → PairAt w R v f
theorem at_snoc {α β : Type} {P : α → β → Prop} {xs : List α} {fs : List β} {i : Nat} {y : α} {f : β} (hl : xs.length = i) (h : ∀ (j : Nat) v g, xs[j]? = some v → fs[j]? = some g → P v g) (hf : fs[i]? = some f) (hy : P y f) : ∀ (j : Nat) v g, (xs ++ [y])[j]? = some v → fs[j]? = some g → P v g := by
  intro j v g h1 h2
  by_cases hj : j < xs.length
  · rw [List.getElem?_append_left hj] at h1
    exact h j v g h1 h2
  · have hlt := (List.getElem?_eq_some_iff.mp h1).1
    rw [List.length_append, List.length_singleton] at hlt
    have e : j = xs.length := by omega
    subst e
    rw [List.getElem?_append_right (Nat.le_refl _), Nat.sub_self] at h1
    simp only [List.getElem?_cons_zero, Option.some.injEq] at h1
    subst h1
    rw [hl] at h2
    rw [hf] at h2
    cases h2
    exact hy
theorem PairsAt.snoc {w : World} {tl TL : Led} {ys : List Value} {fs : List (Int → Int → Int)} {y : Value} {f : Int → Int → Int} (h : PairsAt w TL ys fs) (hy : PairAt w tl y f) : PairsAt w (tl ++ TL) (ys ++ [y]) (fs ++ [f]) := by
  refine ⟨by simp [h.1], at_snoc (i := fs.length) h.1 (fun j v g h1 h2 => ?_) (by simp) (hy.mono (sub_left sub_refl))⟩
  have hj := (List.getElem?_eq_some_iff.mp h1).1
  rw [List.getElem?_append_left (by have := h.1; omega)] at h2
  exact (h.2 j v g h1 h2).mono (sub_right sub_refl)
/-- the word of the law's own layers, drawn one by one -/
def DrawJ (w : World) (l : Addr) (R : Led) (i : Nat) (ys : List Value) (nx : Led) : Prop :=
  ∃ o TL fs, nx = (l, o) :: (TL ++ R) ∧ SrcO o ∧ Off TL l ∧ (∀ q ∈ R, Off TL q.1) ∧ ys.length = i ∧ PairsAt w TL ys fs
theorem DrawJ.turn {w : World} {h₀ h' : Heap} {L l I C D : Addr} {m : Str → Option Value} {oI oC oD o o' : Obj} {tl TL R : Led} {ys : List Value} {fs : List (Int → Int → Int)} {y : Value} {f : Int → Int → Int} {i tk : Nat} {s₁ : Shared}
    (F : Fr h₀ L h' m) (N : News h₀ L h' (tl ++ (I, oI) :: (C, oC) :: (D, oD) :: (l, o') :: (TL ++ R))) (ho : SrcO o') (hTL : Off TL l) (hR : ∀ q ∈ R, Off TL q.1) (hlen : ys.length = i) (hp : PairsAt w TL ys fs) (hy : PairAt w tl y f)
    (hoff : ∀ q ∈ (I, oI) :: (C, oC) :: (D, oD) :: (l, o) :: (TL ++ R), Off tl q.1) (off : LCg.Off3 I C D ((l, o) :: (TL ++ R))) :
    LCg.CompEnd h₀ L m s₁ I oI C oC D oD (fun _ => True) (fun y nx' => DrawJ w l R (i + 1) (ys ++ [y]) nx') y { s₁ with heap := h', toks := tk } := by
  refine LCg.CompEnd.intro F N ((l, o') :: ((tl ++ TL) ++ R)) ?_ ?_ True.intro ⟨o', tl ++ TL, fs ++ [f], rfl, ho, Off.join (hoff _ (.tail _ (.tail _ (.tail _ (.head _))))) hTL, fun q hq => Off.join (hoff q (.tail _ (.tail _ (.tail _ (.tail _ (List.mem_append_right _ hq)))))) (hR q hq), by simp [hlen], hp.snoc hy⟩
  · rw [List.append_assoc]
    walk_at "SUB"
  · refine LCg.Off3.of fun p hp => ?_
    have hm := off.mem
    rw [List.append_assoc] at hp
    rcases List.mem_cons.mp hp with rfl | hp
    · exact hm (l, o) (.head _)
    · rcases List.mem_append.mp hp with hp | hp
      · exact ⟨hoff (I, oI) (.head _) p hp, hoff (C, oC) (.tail _ (.head _)) p hp, hoff (D, oD) (.tail _ (.tail _ (.head _))) p hp⟩
      · exact hm p (.tail _ hp)

theorem lines34 : True := by
  k_with "M call ref" => ((k_here; (with_reducible show wpAny _ _ (call (Value.ref 412) [_]) _ _ _); k_dflt (refine' Does.useL (by k_asm) (by k_asm) (by k_asm) (by k_asm) (by k_asm) (by first | exact rfl | assumption) (by ktr_room) (by ktr_units) (layer_does (by k_updF) (by assumption)) ?_; k_whole); walk_at "END"))
  k_with "M call ref" => ((k_here; (with_reducible show wpAny _ _ (call (Value.ref 184) [Value.none, _, _]) _ _ _); k_dflt (refine' Does.useI (by k_asm) (by k_asm) (by k_asm) (by k_asm) (by k_asm) (by first | exact rfl | assumption) (by ktr_room) (by ktr_units) (clipped_does (.inl ⟨rfl, rfl⟩) (.inr rfl)) ?_; k_whole); walk_at "END"))
  k_with "M call ref" => ((k_here; (with_reducible show wpAny _ _ (call (Value.ref 226) [Value.none, _, _, _, _]) _ _ _); k_dflt (refine' Does.useMF (by k_asm) (by k_asm) (by k_asm) (by k_asm) (by k_asm) (by first | exact rfl | assumption) (by ktr_room) (by ktr_units) (flat2_does (.inl ⟨rfl, rfl⟩) (by walk_at "OM")) ?_; k_whole); walk_at "END"))
  exact True.intro
set_option maxRecDepth 100000 in
set_option maxHeartbeats 8000000 in
theorem law_holds : PySem.Challenge.rw_nu0025_01.Holds := Mine.hd (by
  k_go0
  all_goals try k_fold
  rename IntsAre _ _ => hI
  rename ¬ (_ : Int) < _ => hlen
  rename 214 < _ => l0
  rename Shared => sh
  rename World => w
  (repeat' (first | ((fail_if_success (with_reducible show wpAny _ _ (pyIter _) _ _ _)); (fail_if_success (with_reducible show wpAny _ _ (exec (Stmt.For _ _ _ _ _) _) _ _ _)); first | (k_unfold; (try dsimp only)) | (k_end; wrow_close) | walk1 | (dsimp only; walk1) | (leave1; try dsimp only) | (dsimp only [TurnP])) | fail "no step"))
  walk_at "FOR"
  with_unfolding_all refine' loop_rangeF [Str.ofString "drawn"] (fun k nx => ∃ tl ps oc ov, nx = (sh.heap.objs.size + 1, oc) :: (tl ++ [(214, tabObj ps)]) ∧ oc.data = .cell ov ∧ TabP ps tl ∧ Off tl 214 ∧ Off tl (sh.heap.objs.size + 1)) ?hhZ ?hrZ ?hsmZ ?habZ ?FZ ?NZ ?hjZ ?turnZ ?doneZ
  case hhZ => rfl
  case hrZ => assumption
  case hsmZ => exact small_one (by omega) (by omega) (by omega) (by omega)
  case habZ => omega
  case FZ => k_asm
  case NZ => k_asm
  case hjZ => exact ⟨[], _, _, _, rfl, by assumption, .inl rfl, fun _ h => (nomatch h), fun _ h => (nomatch h)⟩
  case doneZ =>
    intro u nx h' tk' hJ0
    apply ex4e hJ0
    clear hJ0
    intro tl ps oc ov hJ0
    apply and4 hJ0
    clear hJ0
    intro hoc ht h1 h2 F' N'
    dsimp only
    (repeat' (first | ((fail_if_success (with_reducible show wpAny _ _ (pyIter _) _ _ _)); (fail_if_success (with_reducible show wpAny _ _ (exec (Stmt.For _ _ _ _ _) _) _ _ _)); first | (k_unfold; (try dsimp only)) | (k_end; wrow_close) | walk1 | (dsimp only; walk1) | (leave1; try dsimp only) | (dsimp only [TurnP])) | fail "no step"))
  case turnZ =>
    intro k tk u nx h' tk' I oI hk1 hk2 hJ0
    apply ex4e hJ0
    clear hJ0
    intro tl ps oc ov hJ0
    apply and4 hJ0
    clear hJ0
    intro hoc ht hz1 hz2 hI2 F' N'
    have hcI : @Ne Nat (sh.heap.objs.size + 1) I := hI2 _ (.head _)
    have h214c : @Ne Nat 214 (sh.heap.objs.size + 1) := Nat.ne_of_lt (Nat.lt_succ_of_lt l0)
    have hrest : ∀ p ∈ tl ++ [(214, tabObj ps)], p.1 ≠ sh.heap.objs.size + 1 := Off.join hz2 (off_cons h214c fun _ h => (nomatch h))
    (repeat' (first | ((fail_if_success (with_reducible show wpAny _ _ (exec (Stmt.Assign [Expr.Name _ _] (Expr.ListComp _ _ _ _) _) _) _ _ _)); (fail_if_success (with_reducible show wpAny _ _ (eval (Expr.ListComp _ _ _ _) _) _ _ _)); (fail_if_success (with_reducible show LCg.CompSrc _ _ _ _ _ _ _ _ _ _ _ _ _ _)); first | (k_unfold; (try dsimp only)) | (k_end; wrow_close) | walk1 | (dsimp only; walk1) | (leave1; try dsimp only) | (dsimp only [TurnP])) | fail "no step"))
    rename SrcO _ => hso
    rename_i l o0 hlo N2
    have hlI : @Ne Nat l I := Nat.ne_of_gt (hlo _ (.head _))
    have hlc : @Ne Nat l (sh.heap.objs.size + 1) := Nat.ne_of_gt (hlo _ (.tail _ (.head _)))
    have hlr : ∀ p ∈ tl ++ [(214, tabObj ps)], p.1 ≠ l := fun p hp => Nat.ne_of_lt (hlo p (.tail _ (.tail _ hp)))
    (repeat' (first | ((fail_if_success (with_reducible show wpAny _ _ (exec (Stmt.Assign [Expr.Name _ _] (Expr.ListComp _ _ _ _) _) _) _ _ _)); (fail_if_success (with_reducible show wpAny _ _ (eval (Expr.ListComp _ _ _ _) _) _ _ _)); (fail_if_success (with_reducible show LCg.CompSrc _ _ _ _ _ _ _ _ _ _ _ _ _ _)); first | (k_unfold; (try dsimp only)) | (k_end; wrow_close) | walk1 | (dsimp only; walk1) | (leave1; try dsimp only) | (dsimp only [TurnP])) | fail "no step"))
    rename_i h5 oc2 F5 N5 hoc2
    have hlR : ∀ p ∈ (I, oI) :: (sh.heap.objs.size + 1, oc2) :: (tl ++ [(214, tabObj ps)]), p.1 ≠ l := off_cons (Ne.symm hlI) (off_cons (Ne.symm hlc) hlr)
    k_dflt (refine LCg.Assign_ListComp_U (F₀ := by k_asm) (by rfl) (by with_unfolding_all rfl) (by with_unfolding_all rfl) (by decide) (by rfl) (by decide) (by rfl) (by rfl) (by rfl) ?_)
    (repeat' (first | ((fail_if_success (with_reducible show wpAny _ _ (exec (Stmt.Assign [Expr.Name _ _] (Expr.ListComp _ _ _ _) _) _) _ _ _)); (fail_if_success (with_reducible show wpAny _ _ (eval (Expr.ListComp _ _ _ _) _) _ _ _)); (fail_if_success (with_reducible show LCg.CompSrc _ _ _ _ _ _ _ _ _ _ _ _ _ _)); first | (k_unfold; (try dsimp only)) | (k_end; wrow_close) | walk1 | (dsimp only; walk1) | (leave1; try dsimp only) | (dsimp only [TurnP])) | fail "no step"))
    rename SrcO _ => hso2
    rename IsRange _ _ _ _ _ _ _ _ => hR
    refine compSrc_rangeJ (DrawJ w l ((I, oI) :: (sh.heap.objs.size + 1, oc2) :: (tl ++ [(214, tabObj ps)]))) rfl (by k_asm) (by k_asm) hR (by omega) (by omega) ⟨_, [], [], rfl, hso2, fun _ h => (nomatch h), offs_nil, rfl, rfl, fun _ _ _ h => (nomatch h)⟩ ?_ ?_
    · rintro i ys nx v I2 oI2 C2 oC2 D2 m2 h2 tk2 E2 hi ⟨o, TL, fs, rfl, ho, hTL, hTR, hys, hp⟩ ⟨t2, rfl⟩ hC2 hx2 F2 N2 off ⟨ne1, ne2, ne3⟩
      have offm := off.mem
      have hlI2 : @Ne Nat l I2 := (offm _ (.head _)).1
      have hlC2 : @Ne Nat l C2 := (offm _ (.head _)).2.1
      have hlD2 : @Ne Nat l D2 := (offm _ (.head _)).2.2
      have hlA : ∀ p ∈ TL ++ (I, oI) :: (sh.heap.objs.size + 1, oc2) :: (tl ++ [(214, tabObj ps)]), p.1 ≠ l := Off.join hTL hlR
      (repeat' (first | ((fail_if_success (with_reducible show wpAny _ _ (exec (Stmt.Assign [Expr.Name _ _] (Expr.ListComp _ _ _ _) _) _) _ _ _)); (fail_if_success (with_reducible show wpAny _ _ (eval (Expr.ListComp _ _ _ _) _) _ _ _)); (fail_if_success (with_reducible show LCg.CompSrc _ _ _ _ _ _ _ _ _ _ _ _ _ _)); first | (k_unfold; (try dsimp only)) | (k_end; wrow_close) | walk1 | (dsimp only; walk1) | (leave1; try dsimp only) | (dsimp only [TurnP])) | fail "no step"))
      rename PairAt _ _ _ _ => hy2
      rename SrcO _ => hso3
      rename News _ _ _ _ => NN
      rename ∀ q ∈ _, Off _ _ => hoff2
      exact DrawJ.turn (by k_asm) NN hso3 hTL hTR hys hp hy2 hoff2 off
    · rintro g ys nx ⟨o, TL, fs, rfl, ho, hTL, hTR, hys, hp⟩
      walk_at "FinA"
      rename_i D1 h6 tk6 F6 N6 oa1 oa2
      have hys3 : ys.length < 4 := by omega
      dsimp only at F6
      (repeat' (first | ((fail_if_success (with_reducible show wpAny _ _ (exec (Stmt.Assign [Expr.Name _ _] (Expr.ListComp _ _ _ _) _) _) _ _ _)); (fail_if_success (with_reducible show wpAny _ _ (eval (Expr.ListComp _ _ _ _) _) _ _ _)); (fail_if_success (with_reducible show LCg.CompSrc _ _ _ _ _ _ _ _ _ _ _ _ _ _)); first | (k_unfold; (try dsimp only)) | (k_end; wrow_close) | walk1 | (dsimp only; walk1) | (leave1; try dsimp only) | (dsimp only [TurnP])) | fail "no step"))
      k_dflt (refine LCg.ListComp_U (F₀ := by k_asm) (by with_unfolding_all rfl) (by decide) (by rfl) (by decide) (by rfl) ?_)
      (repeat' (first | ((fail_if_success (with_reducible show wpAny _ _ (exec (Stmt.Assign [Expr.Name _ _] (Expr.ListComp _ _ _ _) _) _) _ _ _)); (fail_if_success (with_reducible show wpAny _ _ (eval (Expr.ListComp _ _ _ _) _) _ _ _)); (fail_if_success (with_reducible show LCg.CompSrc _ _ _ _ _ _ _ _ _ _ _ _ _ _)); first | (k_unfold; (try dsimp only)) | (k_end; wrow_close) | walk1 | (dsimp only; walk1) | (leave1; try dsimp only) | (dsimp only [TurnP])) | fail "no step"))
      refine compSrc_listJ (vs := ys) (c := ys.length) (fun i xs => xs.length = i ∧ ∀ (j : Nat) v f, xs[j]? = some v → fs[j]? = some f → LayerAt w TL v f) rfl (by k_asm) (by k_asm) (.head _) (by omega) ⟨rfl, fun _ _ _ h => (nomatch h)⟩ ?_ ?_
      · rintro i xs v I2 oI2 C2 oC2 D2 m2 h2 tk2 E2 ⟨hxl, hxs⟩ hv hC2 hx2 F2 N2
        have hi : i < fs.length := by have := (List.getElem?_eq_some_iff.mp hv).1; have := hp.1; omega
        obtain ⟨pr, lv, tv, np, rfl, hm, hlay, htld⟩ := hp.2 i v _ hv (List.getElem?_eq_getElem hi)
        (repeat' (first | ((fail_if_success (with_reducible show wpAny _ _ (exec (Stmt.Assign [Expr.Name _ _] (Expr.ListComp _ _ _ _) _) _) _ _ _)); (fail_if_success (with_reducible show wpAny _ _ (eval (Expr.ListComp _ _ _ _) _) _ _ _)); (fail_if_success (with_reducible show LCg.CompSrc _ _ _ _ _ _ _ _ _ _ _ _ _ _)); first | (k_unfold; (try dsimp only)) | (k_end; wrow_close) | walk1 | (dsimp only; walk1) | (leave1; try dsimp only) | (dsimp only [TurnP])) | fail "no step"))
        exact ⟨_, _, rfl, by k_asm, by k_asm, by simp [hxl], at_snoc hxl hxs (List.getElem?_eq_getElem hi) hlay⟩
      · rintro g2 xs ⟨hxl, hxs⟩
        walk_at "FinE"
        rename_i D3 h7 tk7 F7 N7 ob1 ob2 ob3
        (repeat' (first | ((fail_if_success (with_reducible show wpAny _ _ (exec (Stmt.Assign [Expr.Name _ _] (Expr.ListComp _ _ _ _) _) _) _ _ _)); (fail_if_success (with_reducible show wpAny _ _ (eval (Expr.ListComp _ _ _ _) _) _ _ _)); (fail_if_success (with_reducible show LCg.CompSrc _ _ _ _ _ _ _ _ _ _ _ _ _ _)); first | (k_unfold; (try dsimp only)) | (k_end; wrow_close) | walk1 | (dsimp only; walk1) | (leave1; try dsimp only) | (dsimp only [TurnP])) | fail "no step"))
        k_dflt (refine LCg.ListComp_U (F₀ := by k_asm) (by with_unfolding_all rfl) (by decide) (by rfl) (by decide) (by rfl) ?_)
        (repeat' (first | ((fail_if_success (with_reducible show wpAny _ _ (exec (Stmt.Assign [Expr.Name _ _] (Expr.ListComp _ _ _ _) _) _) _ _ _)); (fail_if_success (with_reducible show wpAny _ _ (eval (Expr.ListComp _ _ _ _) _) _ _ _)); (fail_if_success (with_reducible show LCg.CompSrc _ _ _ _ _ _ _ _ _ _ _ _ _ _)); first | (k_unfold; (try dsimp only)) | (k_end; wrow_close) | walk1 | (dsimp only; walk1) | (leave1; try dsimp only) | (dsimp only [TurnP])) | fail "no step"))
        refine compSrc_listJ (vs := ys) (c := ys.length) (fun i zs => zs.length = i ∧ ∀ (j : Nat) v f, zs[j]? = some v → fs[j]? = some f → ToldAt w TL v f ∧ ∀ a b, 0 ≤ f a b ∧ f a b ≤ 255) rfl (by k_asm) (by k_asm) (.tail _ (.head _)) (by omega) ⟨rfl, fun _ _ _ h => (nomatch h)⟩ ?_ ?_
        · rintro i zs v I2 oI2 C2 oC2 D2 m2 h2 tk2 E2 ⟨hzl, hzs⟩ hv hC2 hx2 F2 N2
          have hi : i < fs.length := by have := (List.getElem?_eq_some_iff.mp hv).1; have := hp.1; omega
          obtain ⟨pr, lv, tv, np, rfl, hm, hlay, htld⟩ := hp.2 i v _ hv (List.getElem?_eq_getElem hi)
          (repeat' (first | ((fail_if_success (with_reducible show wpAny _ _ (exec (Stmt.Assign [Expr.Name _ _] (Expr.ListComp _ _ _ _) _) _) _ _ _)); (fail_if_success (with_reducible show wpAny _ _ (eval (Expr.ListComp _ _ _ _) _) _ _ _)); (fail_if_success (with_reducible show LCg.CompSrc _ _ _ _ _ _ _ _ _ _ _ _ _ _)); first | (k_unfold; (try dsimp only)) | (k_end; wrow_close) | walk1 | (dsimp only; walk1) | (leave1; try dsimp only) | (dsimp only [TurnP])) | fail "no step"))
          exact ⟨_, _, rfl, by k_asm, by k_asm, by simp [hzl], at_snoc hzl hzs (List.getElem?_eq_getElem hi) ⟨htld, hlay.1⟩⟩
        · rintro g3 zs ⟨hzl, hzs⟩
          have hLays : LaysAt w TL xs fs := ⟨hxl.trans hp.1, hxs⟩
          have hTolds : ToldsAt w TL zs fs := ⟨hzl.trans hp.1, hzs⟩
          have hxs4 : xs.length < 4 := by omega
          walk_at "FinE"
          rename_i D4 h8 tk8 F8 N8 oc1 oc3 oc4 oc5
          (repeat' ((fail_if_success (with_reducible show wpAny _ _ (call _ _) _ _ _)); walk1))
          k_here
          k_dflt (apply Does.useV (D := right_does (n0 := xs.length) (n1 := zs.length) (vs := xs) (rvs := zs) (fs := fs) (ll := D3) (rl := D4) ?zlZ ?zrZ ?zLZ ?zTZ hxs4); walk_at "STD"; (case zLZ => exact LaysAt.mono hLays (by walk_at "SUB")); (case zTZ => exact ToldsAt.mono hTolds (by walk_at "SUB")); (case zlZ => exact .tail _ (.head _)); (case zrZ => exact .head _); k_whole)
          walk_at "END"
          (repeat' ((fail_if_success (with_reducible show wpAny _ _ (getMethod _ _ _) _ _ _)); (fail_if_success (with_reducible show wpAny _ _ (call (Value.ref 86) _) _ _ _)); first | (k_unfold; (try dsimp only)) | (k_end; wrow_close) | walk1 | (dsimp only; walk1) | (leave1; try dsimp only) | (dsimp only [TurnP])))
          rename_i M5 x5 f5 hM5 hf5 hoff5 N5b
          have e0 : f5 0 0 = 255 := (hf5 0 0).trans (within_at (by omega))
          refine MapS.open hM5 ?_
          intro dx2 al2 z1 z2 z3 z4 z5 y1 y2 y3 y4 y5 y6 y7 y8 y9 m9 hx3 hx4
          clear hf5
          (repeat' (first | ((fail_if_success (with_reducible show wpAny _ _ (call (Value.ref 440) _) _ _ _)); first | (k_unfold; (try dsimp only)) | (k_end; wrow_close) | walk1 | (dsimp only; walk1) | (leave1; try dsimp only) | (dsimp only [TurnP])) | fail "no step"))
          have m1 := off1_mem oa2
          have m3 := off1_mem ob3
          have m4 := off1_mem oc5
          have r1 : ∀ p ∈ M5 ++ (D4, LCg.lst zs) :: (D3, LCg.lst xs) :: (D1, listOf ys.toArray ys.length) :: (TL ++ (I, oI) :: (sh.heap.objs.size + 1, oc2) :: tl), p.1 ≠ l :=
            Off.join (hoff5 (l, o) (by k_mem)) (off_cons (Ne.symm oc4) (off_cons (Ne.symm ob2) (off_cons (Ne.symm oa1) (Off.join hTL (off_cons (Ne.symm hlI) (off_cons (Ne.symm hlc) fun p hp => hlr p (List.mem_append_left _ hp)))))))
          have i214 : ((214, tabObj ps) : Addr × Obj) ∈ TL ++ (I, oI) :: (sh.heap.objs.size + 1, oc2) :: (tl ++ [(214, tabObj ps)]) := List.mem_append_right _ (.tail _ (.tail _ (List.mem_append_right _ (.head _))))
          have r2 : ∀ p ∈ M5 ++ (D4, LCg.lst zs) :: (D3, LCg.lst xs) :: (D1, listOf ys.toArray ys.length) :: (TL ++ (I, oI) :: (sh.heap.objs.size + 1, oc2) :: tl), p.1 ≠ 214 :=
            Off.join (hoff5 (214, tabObj ps) (.tail _ (.tail _ (.tail _ (.tail _ i214))))) (off_cons (Ne.symm (m4 _ i214)) (off_cons (Ne.symm (m3 _ i214)) (off_cons (Ne.symm (m1 _ i214)) (Off.join (hTR (214, tabObj ps) (.tail _ (.tail _ (List.mem_append_right _ (.head _))))) (off_cons (Ne.symm (hI2 (214, tabObj ps) (.tail _ (List.mem_append_right _ (.head _))))) (off_cons (Ne.symm h214c) hz1))))))
          k_here
          k_dflt (refine' Does.use (maskRight_does (rest := M5 ++ (D4, LCg.lst zs) :: (D3, LCg.lst xs) :: (D1, listOf ys.toArray ys.length) :: (TL ++ (I, oI) :: (sh.heap.objs.size + 1, oc2) :: tl)) (ps := ps) (src := l) ho (Ne.symm (hlr (214, tabObj ps) (List.mem_append_right _ (.head _)))) r1 r2 (ht.mono ?hsZ)) ?BZ ?FZ ?XZ ?NZ ?TZ ?hkZ ?hdZ ?huZ ?_)
          case BZ => k_asm
          case FZ => k_asm
          case XZ => k_asm
          case NZ => exact News.of_sub (by k_asm) (by walk_at "SUB")
          case TZ => k_asm
          case hkZ => first | exact rfl | assumption
          case hsZ => walk_at "SUB"
          case hdZ => ktr_room
          case huZ => ktr_units
          k_whole
          intro r9 h9 tk9 news9 F9 N9 ⟨hr9, ps', tl', hps, hoff9, hoffT, hn9⟩
          subst hr9
          subst hn9
          dsimp only
          (repeat' (first | ((fail_if_success (with_reducible show wpAny _ _ (call (Value.ref 440) _) _ _ _)); first | (k_unfold; (try dsimp only)) | (k_end; wrow_close) | walk1 | (dsimp only; walk1) | (leave1; try dsimp only) | (dsimp only [TurnP])) | fail "no step"))
          have iI : ((I, oI) : Addr × Obj) ∈ TL ++ (I, oI) :: (sh.heap.objs.size + 1, oc2) :: (tl ++ [(214, tabObj ps)]) := List.mem_append_right _ (.head _)
          have iC : ((sh.heap.objs.size + 1, oc2) : Addr × Obj) ∈ TL ++ (I, oI) :: (sh.heap.objs.size + 1, oc2) :: (tl ++ [(214, tabObj ps)]) := List.mem_append_right _ (.tail _ (.head _))
          refine turnF (nx := (sh.heap.objs.size + 1, oc2) :: ((tl' ++ (M5 ++ (D4, LCg.lst zs) :: (D3, LCg.lst xs) :: (D1, listOf ys.toArray ys.length) :: (TL ++ tl))) ++ [(214, tabObj ps')])) (by k_asm) (News.of_sub N9 ?_) ?_ ⟨tl' ++ (M5 ++ (D4, LCg.lst zs) :: (D3, LCg.lst xs) :: (D1, listOf ys.toArray ys.length) :: (TL ++ tl)), ps', oc2, _, rfl, hoc2, ?_, ?_, ?_⟩ ?_
          · walk_at "SUB"
          · exact off_cons hcI (Off.join (Off.join (hoff9 (I, oI) (by k_mem)) (Off.join (hoff5 (I, oI) (.tail _ (.tail _ (.tail _ (.tail _ iI))))) (off_cons (Ne.symm (m4 _ iI)) (off_cons (Ne.symm (m3 _ iI)) (off_cons (Ne.symm (m1 _ iI)) (Off.join (hTR (I, oI) (.head _)) fun p hp => hI2 p (.tail _ (List.mem_append_left _ hp)))))))) (off_cons (hI2 (214, tabObj ps) (.tail _ (List.mem_append_right _ (.head _)))) fun _ h => (nomatch h)))
          · rcases hps with rfl | hps
            · exact ht.mono (by walk_at "SUB")
            · exact hps.mono (sub_left sub_refl)
          · exact Off.join hoffT fun p hp => r2 p (by revert p; walk_at "SUB")
          · exact Off.join (hoff9 (sh.heap.objs.size + 1, oc2) (by k_mem)) (Off.join (hoff5 (sh.heap.objs.size + 1, oc2) (.tail _ (.tail _ (.tail _ (.tail _ iC))))) (off_cons (Ne.symm (m4 _ iC)) (off_cons (Ne.symm (m3 _ iC)) (off_cons (Ne.symm (m1 _ iC)) (Off.join (hTR (sh.heap.objs.size + 1, oc2) (.tail _ (.head _))) hz2)))))
          · intro z h1 h2
            simp only [List.contains_cons, List.contains_nil, Bool.or_false, beq_eq_false_iff_ne, ne_eq] at h2
            simp [h1, h2]
  )
end Mine
set_option maxRecDepth 100000 in
theorem PySem.Challenge.cw_nu0025_01_holds : PySem.Challenge.rw_nu0025_01.Holds := by
  exact Mine.law_holds
