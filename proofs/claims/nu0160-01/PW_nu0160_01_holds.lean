import PyProof.Rows.All
import Wide.All
import OpenK.AllK
import Wide.FinOn
import Lean
import PySem.Challenge.RW_nu0160_01
open PySem PySem.W PyProof.Rows PySem.Calls PySem.Spec
set_option Elab.async false
set_option compiler.extract_closed false
set_option maxRecDepth 100000
set_option maxHeartbeats 8000000
set_option linter.unusedVariables false
namespace Mine
/-- the checks that «topFrom» makes of the state behind the top, as one word -/
def topFits (p : Program) (h : Heap) (s : Shared) : Bool := staticsOk (importedModules p.main.body) h s.heap && namesBound p s.heap && gensDone s && laidKept h s.heap
theorem left_run {p q : Program} {loose : List Str} {Xt : Shared → Bool} {α : Type} {Yf : Shared → α} {Ya : World → α} {N : Nat} {g0 : Bool} {H : Params → Heap} {gs : Array GenState} {d : Drawn} {k m : Nat} {ann : Option Value}
    (begun : ∀ w : World, (fencedOpening treeTable p w N).map (fun s => (s.heap, s.gens, s.drawn, s.toks)) = some (H w.params, gs, d, k))
    (size : ∀ w : World, ((H w.params).isNs mainGlobals && gs.size == 0, (H w.params).objs.size, (H w.params).nsMap mainGlobals "__annotations__") = (true, m, ann))
    (run : ∀ (w : World) (os : OsState), (topRun treeTable p w m ann N ⟨H w.params, gs, d, k, os⟩ (topStub p)).map (fun s => (topFits p (H w.params) s, openSeen q loose (importedModules p.main.body) Xt g0 s, Yf s)) = some (true, openGood q loose, Ya w)) :
    LeftO p q loose Xt Yf Ya N g0 := by
  intro w
  obtain ⟨s, e, e'⟩ := Option.map_eq_some_iff.mp (begun w)
  have z := size w
  simp only [Prod.mk.injEq] at e' z
  obtain ⟨s1, r, r'⟩ := Option.map_eq_some_iff.mp (run w s.os)
  simp only [Prod.mk.injEq] at r'
  have es : s = ⟨H w.params, gs, d, k, s.os⟩ := by
    cases s
    simp only [Shared.mk.injEq]
    exact ⟨e'.1, e'.2.1, e'.2.2.1, e'.2.2.2, trivial⟩
  have t : topFrom treeTable p w N s = some s1 := by
    rw [es]
    unfold topFrom
    dsimp only
    rw [z.1, z.2.1, z.2.2, r]
    show (match topFits p (H w.params) s1 with | true => some s1 | false => none) = some s1
    rw [r'.1]
  unfold openEnds
  rw [e]
  show (topFrom treeTable p w N s).map _ = _
  rw [t]
  show some (_, _) = _
  rw [r'.2.1, r'.2.2]
section
def topView : Program := PySem.W.view PySem.Challenge.pw_nu0160_01 [0, 2, 3, 4, 6, 7, 8, 9, 10, 11, 12, 13, 14, 15, 16, 17, 18, 19, 21, 22, 23, 24, 25, 26, 27, 28]
theorem boot_is (w : World) : ((boot_heap w.params).isNs mainGlobals && (Array.mk ([] : List GenState)).size == 0, (boot_heap w.params).objs.size, (boot_heap w.params).nsMap mainGlobals "__annotations__") = (true, 11, some (Value.ref 6)) := by kernel_rfl
theorem begun : ∀ w : World, (fencedOpening treeTable PySem.Challenge.pw_nu0160_01 w 3162).map (fun s => (s.heap, s.gens, s.drawn, s.toks)) = some (boot_heap w.params, Array.mk [], boot_drawn, boot_toks) :=
  boot_open (by kernel_rfl) (by kernel_rfl) (fun s => by kernel_rfl)
set_option hygiene false in
local macro_rules | `(tactic| o_head $H:term) => `(tactic| (
  refine holds_open (q := topView) (loose := []) (Xt := fun s => xlAt topView [] s && recOk (RowW.records PySem.Challenge.rw_nu0160_01.row.toRowW) s) (XP := XL topView []) (Yf := Hook.obs $H) (Ya := Hook.val $H) (YP := Hook.says $H) (N := 3162) ?hl (Hook.of $H) (Hook.keeps $H) (fun s e => xl_of s (Bool.and_eq_true_iff.mp e).1) XL.keeps (by rfl) (by rfl) (by rfl) (fun s e => recFacts_of (Bool.and_eq_true_iff.mp e).2) (by rfl) (by first | assumption | decide +kernel) (by decide +kernel) ⟨rfl, rfl, rfl, rfl, rfl, by decide +kernel⟩ ?hw ?hc
  (case hl =>
    refine left_run begun boot_is ?_
    rw [PySem.W.Fast.te14082659384304107361, PySem.W.Fast.te14364793385576792824, PySem.W.Fast.te4187177175401517315]
    intro w os
    kernel_rfl)))
theorem row_told : PySem.Challenge.rw_nu0160_01.row.wellSaid = true := by
  delta OpenRow.wellSaid
  try delta OpenRow.partSaid
  try delta looksOpen
  try dsimp only [Bool.and_eq_true]
  rw [PySem.W.Fast.te8326940854005059898, PySem.W.Fast.te8377067652309620493, PySem.W.Fast.te17119622794617984870]
  kernel_rfl
theorem law_told : PySem.Challenge.rw_nu0160_01.wellSaid = true := by
  delta OpenLaw.wellSaid
  try dsimp only [Bool.and_eq_true]
  rw [row_told, PySem.W.Fast.te8326940854005059898, PySem.W.Fast.te17119622794617984870, PySem.W.Fast.te797321630700447069]
  kernel_rfl
set_option hygiene false in
local macro_rules | `(tactic| o_law) => `(tactic| refine holds_law law_told fun said => ?_)
open_top hd for PySem.Challenge.rw_nu0160_01
end
section
/-- a goal hidden behind a word: what is taken apart meanwhile does not name it -/
theorem hide {G : Prop} (h : ∀ X : Prop, (G → X) → X) : G := h G id
/-- what stood is still there, but for the places told -/
def Kept (own : List Addr) (h h' : Heap) : Prop := ∀ b o, h.get? b = some o → b ∉ own → h'.get? b = some o
theorem Kept.refl {own : List Addr} {h : Heap} : Kept own h h := fun _ _ e _ => e
theorem Kept.all {h h' : Heap} (k : Kept [] h h') : ∀ b o, h.get? b = some o → h'.get? b = some o := fun b o e => k b o e (by simp)

def retOf : Flow → Value
  | .ret v => v
  | _ => .none

/-- the end of a def's body -/
def Ret (g : Heap) (L : Addr) (s : Shared) (Post : Heap → Value → List (Addr × Obj) → Prop) (fl : Flow) (s' : Shared) : Prop :=
  ∃ h' tk m' news', s' = { s with heap := h', toks := tk } ∧ Fr g L h' m' ∧ News g L h' news' ∧ Post h' (retOf fl) news'
theorem Ret.intro {g : Heap} {L : Addr} {s : Shared} {Post : Heap → Value → List (Addr × Obj) → Prop} {fl : Flow} {h' : Heap} {tk : Nat} {m' : Str → Option Value} {news' : List (Addr × Obj)}
    (F : Fr g L h' m') (N : News g L h' news') (p : Post h' (retOf fl) news') : Ret g L s Post fl { s with heap := h', toks := tk } := ⟨h', tk, m', news', rfl, F, N, p⟩

/-- a def's contract: called upon a heap h with these arguments, it changes nothing but `own` and gives back what Post tells -/
def Spec (prog : Program) (w : World) (K : Frag) (f : Addr) (args : List Value) (own : List (Addr × Obj)) (d u : Nat) (h : Heap) (Post : Heap → Value → List (Addr × Obj) → Prop) : Prop :=
  ∀ (A : Around) (env : Env) (outer : List Env) (A₀ : Around) (base h₀ : Heap) (L : Addr) (m : Str → Option Value) (p : Program) (loose : List Str) (mean : ExcName → Option Value) (mg mb : Str → Option Value) (s : Shared) (R : Result → Shared → Prop),
    s.heap = h → Below A₀ base outer h₀ → Fr h₀ L s.heap m → K.In h₀ → Top p loose mean mg mb h₀ → News h₀ L s.heap own →
    A.handled = none → A.frames = some (env :: outer) → env.frame = some L → env.scope.kind = .function → A.depth + d < recursionLimit → A.units + u < cLine →
    (∀ v h' tk news', Fr h₀ L h' m → News h₀ L h' news' → Kept (own.map (·.1)) h h' → (∀ p ∈ news', p.1 ∈ own.map (·.1) ∨ h.get? p.1 = none) → Post h' v news' → R (.ok (.ret v)) { s with heap := h', toks := tk }) →
    codeAny (model prog w) A (.call (.ref f) ⟨args, []⟩) R s

section
variable {prog : Program} {w : World} {K : Frag} {f : Addr} {args : List Value} {own : List (Addr × Obj)} {d u : Nat} {h : Heap} {Post Post' : Heap → Value → List (Addr × Obj) → Prop}

theorem Spec.mono (S : Spec prog w K f args own d u h Post) (hp : ∀ h' v news', Kept (own.map (·.1)) h h' → Post h' v news' → Post' h' v news') : Spec prog w K f args own d u h Post' :=
  fun A env outer A₀ base h₀ L m p loose mean mg mb s R e B F X T N a1 a2 a3 a4 a5 a6 k =>
    S A env outer A₀ base h₀ L m p loose mean mg mb s R e B F X T N a1 a2 a3 a4 a5 a6 fun v h' tk news' F' N' k1 k2 P => k v h' tk news' F' N' k1 k2 (hp _ _ _ k1 P)

theorem Spec.room {d' u' : Nat} (S : Spec prog w K f args own d u h Post) (hd : d ≤ d') (hu : u ≤ u') : Spec prog w K f args own d' u' h Post :=
  fun A env outer A₀ base h₀ L m p loose mean mg mb s R e B F X T N a1 a2 a3 a4 a5 a6 k =>
    S A env outer A₀ base h₀ L m p loose mean mg mb s R e B F X T N a1 a2 a3 a4 (by omega) (by omega) k

theorem Spec.plain {name qual : Str} {params : Arguments} {body : List Stmt} {scope : Scope} {dV kV doc pm cdv ct oc : Value} {an od : Option Addr} {osl : Array (Option Value)} {binds : List (Str × Value)}
    (ho : K.lookup f = some ⟨oc, od, .func (fnOf name qual params body scope dV kV doc pm an cdv ct), osl⟩) (hcd : codeIn K cdv qual = true)
    (hbind : ∀ s : Shared, K.In s.heap → BindsTo s (fnOf name qual params body scope dV kV doc pm an cdv ct) ⟨args, []⟩ binds) (hloc : ∀ y ∈ binds, scope.names.lookup y.1 = some .local)
    (hcell : ∀ x ∈ scope.names, x.2 ≠ .cell) (hco : scope.isCoroutine = false) (hgen : scope.isGenerator = false) (hk : scope.kind = .function)
    (hb : ∀ (g : Heap) (L : Addr) (dp un : Nat) (gd : Option (List Code)) (outer : List Env) (A₀ : Around) (base : Heap) (p : Program) (loose : List Str) (mean : ExcName → Option Value) (mg mb : Str → Option Value) (s : Shared),
      (∀ b o, h.get? b = some o → b ∉ own.map (·.1) → g.get? b = some o) → Fr g L s.heap (fun y => binds.reverse.lookup y) → News g L s.heap own → Below A₀ base outer g → K.In g → Top p loose mean mg mb g → dp + d < recursionLimit → un + u < cLine →
      wpAny (model prog w) (ktrTop dp un gd qual scope L f cdv [] outer) (execs body (envX qual scope L f cdv [])) (Ret g L s Post) (fun _ _ => False) s) :
    Spec prog w K f args own (d + 1) (u + 3) h Post := by
  rintro A env outer A₀ base h₀ L m p loose mean mg mb s R rfl B F X₀ T N hh hA hf hke hd hu k
  obtain ⟨FG, BG, st, lv⟩ := groundX (R := R) B F N hA hf hke
  refine codeAny_call_def (fd := fnX name qual params body scope [] dV kV doc pm an cdv ct) (body := body) (binds := binds) (by omega) ((X₀.keeps F.keep) _ _ ho) rfl (T.nolimit.keeps F.keep) (codeRec_of (X₀.keeps F.keep) hcd) rfl (hbind _ (X₀.keeps F.keep)) hcell hloc (fun h₁ hns hk₁ => ?_) hco hgen hk
  obtain ⟨hd', dp, fr, gd, un⟩ := A
  dsimp only at hh hA hd hu
  subst hh hA
  refine wpAny_mono (hb (hideAll s.heap (own.map (·.1))) s.heap.objs.size (dp + 1) (un + 3) gd (env :: outer) _ base p loose mean mg mb { s with heap := h₁, toks := s.toks + binds.length } (fun b o e n => hideAll_get _ e n)
    ⟨hns, fun b o e => hk₁ b o (of_hideAll _ e), Nat.le_of_eq (hideAll_size _ _)⟩ (fun p hp => ⟨hk₁ _ _ (N p hp).1, Nat.ne_of_lt (Heap.lt_size (N p hp).1), hideAll_none _ (List.mem_map_of_mem hp)⟩) BG (X₀.keeps st) (T.keeps st) (by omega) (by omega)) (fun fl s' hl => ?_) fun _ _ y => y.elim
  obtain ⟨h', tk, m', news', rfl, F', N', P⟩ := hl
  refine lv (retOf fl) _ (leaveK_ F' N' fun Fh Nh => k (retOf fl) h' tk news' Fh Nh (fun b o e n => F'.keep b o (hideAll_get _ e n)) (fun p hp => ?_) P)
  by_cases hm : p.1 ∈ own.map (·.1)
  · exact .inl hm
  · refine .inr ?_
    cases q : s.heap.get? p.1 with
    | none => rfl
    | some o => have z := (N' p hp).2.2; rw [hideAll_get _ q hm] at z; cases z

theorem Spec.cells {name qual : Str} {params : Arguments} {body : List Stmt} {scope : Scope} {dV kV doc pm cdv ct oc : Value} {an od : Option Addr} {osl : Array (Option Value)} {binds : List (Str × Value)}
    (ho : K.lookup f = some ⟨oc, od, .func (fnOf name qual params body scope dV kV doc pm an cdv ct), osl⟩) (hcd : codeIn K cdv qual = true)
    (hbind : ∀ s : Shared, K.In s.heap → BindsTo s (fnOf name qual params body scope dV kV doc pm an cdv ct) ⟨args, []⟩ binds)
    (hkind : (binds.all fun y => scope.names.lookup y.1 == some .local || scope.names.lookup y.1 == some .cell) = true)
    (hnd : ((cellsFrom 0 scope.names []).map (·.1)).Nodup) (hco : scope.isCoroutine = false) (hgen : scope.isGenerator = false) (hk : scope.kind = .function)
    (hb : ∀ (g : Heap) (L : Addr) (dp un : Nat) (gd : Option (List Code)) (outer : List Env) (A₀ : Around) (base : Heap) (p : Program) (loose : List Str) (mean : ExcName → Option Value) (mg mb : Str → Option Value) (s : Shared) (cells : List (Addr × Obj)),
      (∀ b o, h.get? b = some o → b ∉ own.map (·.1) → g.get? b = some o) → Fr g L s.heap (bindL (envOfC qual scope L f cdv).kindOf binds fun _ => none) → News g L s.heap (cells ++ own) →
      CellsAre (bindC (envOfC qual scope L f cdv).kindOf binds fun _ => none) (cellsFrom (L + 1) scope.names []) cells → (∀ p ∈ own, p.1 < L) → Below A₀ base outer g → K.In g → Top p loose mean mg mb g → dp + d < recursionLimit → un + u < cLine →
      wpAny (model prog w) (ktrTop dp un gd qual scope L f cdv (cellsFrom (L + 1) scope.names []) outer) (execs body (envX qual scope L f cdv (cellsFrom (L + 1) scope.names []))) (Ret g L s Post) (fun _ _ => False) s) :
    Spec prog w K f args own (d + 1) (u + 3) h Post := by
  rintro A env outer A₀ base h₀ L m p loose mean mg mb s R rfl B F X₀ T N hh hA hf hke hd hu k
  obtain ⟨FG, BG, st, lv⟩ := groundX (R := R) B F N hA hf hke
  refine codeAny_call_function (by omega) ((X₀.keeps F.keep) _ _ ho) rfl hco hgen rfl (codeRec_of (X₀.keeps F.keep) hcd) (hbind _ (X₀.keeps F.keep) _ _ _ _ ?_)
  refine wpAny_newFunctionEnv_cells hk (kindsX hkind _) fun env' he s' x => ?_
  subst he
  refine ⟨(T.nolimit.keeps F.keep).keeps x.toInCall.keep, codeAny_func ?_⟩
  obtain ⟨h₁, tk, rfl, _⟩ := x.done
  have hk₁ := x.toInCall.keep
  obtain ⟨cells, NC, Y⟩ := Cl.news (h₀ := s.heap) (Nat.le_refl _) fun n c hm => ⟨x.cell n c (lookup_of_mem_nodup (cellsFrom_names scope.names 0 (s.heap.objs.size + 1) [] [] rfl ▸ hnd) hm), x.above n c hm⟩
  obtain ⟨hd', dp, fr, gd, un⟩ := A
  dsimp only at hh hA hd hu
  subst hh hA
  refine wpAny_mono (hb (hideAll s.heap (own.map (·.1))) s.heap.objs.size (dp + 1) (un + 3) gd (env :: outer) _ base p loose mean mg mb { s with heap := h₁, toks := tk } cells (fun b o e n => hideAll_get _ e n)
    ⟨x.toInCall.ns, fun b o e => hk₁ b o (of_hideAll _ e), Nat.le_of_eq (hideAll_size _ _)⟩ (fun p hp => ?_) Y (fun p hp => Heap.lt_size (N p hp).1) BG (X₀.keeps st) (T.keeps st) (by omega) (by omega)) (fun fl s' hl => ?_) fun _ _ y => y.elim
  · rcases List.mem_append.mp hp with hp | hp
    · refine ⟨(NC p hp).1, (NC p hp).2.1, ?_⟩
      cases q : (hideAll s.heap (own.map (·.1))).get? p.1 with
      | none => rfl
      | some o => have := of_hideAll _ q; rw [(NC p hp).2.2] at this; cases this
    · exact ⟨hk₁ _ _ (N p hp).1, Nat.ne_of_lt (Heap.lt_size (N p hp).1), hideAll_none _ (List.mem_map_of_mem hp)⟩
  obtain ⟨h', tk, m', news', rfl, F', N', P⟩ := hl
  refine lv (retOf fl) _ (leaveK_ F' N' fun Fh Nh => k (retOf fl) h' tk news' Fh Nh (fun b o e n => F'.keep b o (hideAll_get _ e n)) (fun p hp => ?_) P)
  by_cases hm : p.1 ∈ own.map (·.1)
  · exact .inl hm
  · refine .inr ?_
    cases q : s.heap.get? p.1 with
    | none => rfl
    | some o => have z := (N' p hp).2.2; rw [hideAll_get _ q hm] at z; cases z
end

section
variable {prog : Program} {w : World} {A₀ : Around} {E : Value → Shared → Prop} {s : Shared} {K : Frag} {h₀ base : Heap} {outer : List Env} {L : Addr} {m mg mb : Str → Option Value} {p : Program} {loose : List Str} {mean : ExcName → Option Value}
  {dp un : Nat} {gd : Option (List Code)} {cn : Str} {cs : Scope} {a : Addr} {ccd : Value} {cl : List (Str × Addr)} {f : Addr} {args : List Value} {own rest : List (Addr × Obj)} {d u : Nat} {h : Heap} {Post : Heap → Value → List (Addr × Obj) → Prop} {Q : Value → Shared → Prop}

/-- the caller's side: the rest of the ledger stays -/
theorem Spec.call (S : Spec prog w K f args own d u s.heap Post) (B : Below A₀ base outer h₀) (F : Fr h₀ L s.heap m) (X : K.In h₀) (T : Top p loose mean mg mb h₀) (N : News h₀ L s.heap (own ++ rest))
    (off : ∀ p ∈ rest, p.1 ∉ own.map (·.1)) (hk : cs.kind = .function) (hd : dp + d < recursionLimit) (hu : un + u < cLine)
    (k : ∀ v h' tk news', Fr h₀ L h' m → News h₀ L h' (news' ++ rest) → Kept (own.map (·.1)) s.heap h' → (∀ p ∈ news', p.1 ∈ own.map (·.1) ∨ s.heap.get? p.1 = none) → Post h' v news' → Q v { s with heap := h', toks := tk }) :
    wpAny (model prog w) (ktrTop dp un gd cn cs L a ccd cl outer) (PySem.call (.ref f) args) Q E s := by
  refine wpAny_call (S _ (envX cn cs L a ccd cl) outer A₀ base h₀ L m p loose mean mg mb s _ rfl B F X T (fun p hp => N p (List.mem_append_left _ hp)) rfl rfl rfl hk hd hu fun v h' tk news' F' N' k1 k2 P => ?_)
  refine k v h' tk news' F' (fun p hp => ?_) k1 k2 P
  rcases List.mem_append.mp hp with hp | hp
  · exact N' p hp
  · have z := N p (List.mem_append_right _ hp)
    exact ⟨k1 _ _ z.1 (off p hp), z.2⟩
/-- a call that changes nothing -/
theorem Spec.call0 (S : Spec prog w K f args [] d u s.heap Post) (B : Below A₀ base outer h₀) (F : Fr h₀ L s.heap m) (X : K.In h₀) (T : Top p loose mean mg mb h₀) (N : News h₀ L s.heap rest)
    (hk : cs.kind = .function) (hd : dp + d < recursionLimit) (hu : un + u < cLine)
    (k : ∀ v h' tk news', Fr h₀ L h' m → News h₀ L h' (news' ++ rest) → Kept [] s.heap h' → (∀ p ∈ news', ∀ q ∈ rest, q.1 ≠ p.1) → Post h' v news' → Q v { s with heap := h', toks := tk }) :
    wpAny (model prog w) (ktrTop dp un gd cn cs L a ccd cl outer) (PySem.call (.ref f) args) Q E s :=
  S.call B F X T (by simpa using N) (by simp) hk hd hu fun v h' tk news' F' N' k1 k2 P => k v h' tk news' F' N' k1 (fun p hp q hq e => by
    rcases k2 p hp with z | z
    · simp at z
    · rw [← e, (N q hq).1] at z; cases z) P
/-- a call that changes nothing and whose made things are forgotten -/
theorem Spec.callP (S : Spec prog w K f args [] d u s.heap Post) (B : Below A₀ base outer h₀) (F : Fr h₀ L s.heap m) (X : K.In h₀) (T : Top p loose mean mg mb h₀) (N : News h₀ L s.heap rest)
    (hk : cs.kind = .function) (hd : dp + d < recursionLimit) (hu : un + u < cLine)
    (k : ∀ v h' tk news', Fr h₀ L h' m → News h₀ L h' rest → (∀ b o, s.heap.get? b = some o → h'.get? b = some o) → Post h' v news' → Q v { s with heap := h', toks := tk }) :
    wpAny (model prog w) (ktrTop dp un gd cn cs L a ccd cl outer) (PySem.call (.ref f) args) Q E s :=
  S.call0 B F X T N hk hd hu fun v h' tk news' F' N' k1 _ P => k v h' tk news' F' (fun p hp => N' p (List.mem_append_right _ hp)) k1.all P
end
end
section
/-- the end of a loop's turn: the iterator (I, io) stands as it stood, the word holds of the rest -/
def TurnEnd (g : Heap) (L : Addr) (s₁ : Shared) (I : Addr) (io : Obj) (J : (Str → Option Value) → List (Addr × Obj) → Prop) (Q : Flow → Shared → Prop) (f : Flow) (s₂ : Shared) : Prop :=
  match f with
  | .ret v => Q (.ret v) s₂
  | .brk => Q .next s₂
  | _ => ∃ h' tk m' σ', s₂ = { s₁ with heap := h', toks := tk } ∧ Fr g L h' m' ∧ News g L h' ((I, io) :: σ') ∧ (∀ p ∈ σ', p.1 ≠ I ∨ p.2.cls ≠ io.cls) ∧ J m' σ'
theorem TurnEnd.next {g : Heap} {L : Addr} {s₁ : Shared} {I : Addr} {io : Obj} {J : (Str → Option Value) → List (Addr × Obj) → Prop} {Q : Flow → Shared → Prop} {h' : Heap} {tk : Nat} {m' : Str → Option Value} {all : List (Addr × Obj)} (σ' : List (Addr × Obj))
    (F : Fr g L h' m') (N : News g L h' all) (hI : (I, io) ∈ all) (sub : ∀ p ∈ σ', p ∈ all) (off : ∀ p ∈ σ', p.1 ≠ I ∨ p.2.cls ≠ io.cls) (j : J m' σ') : TurnEnd g L s₁ I io J Q .next { s₁ with heap := h', toks := tk } :=
  ⟨h', tk, m', σ', rfl, F, fun p hp => by
    rcases List.mem_cons.mp hp with rfl | hp
    · exact N _ hI
    · exact N p (sub p hp), off, j⟩
theorem TurnEnd.cont {g : Heap} {L : Addr} {s₁ : Shared} {I : Addr} {io : Obj} {J : (Str → Option Value) → List (Addr × Obj) → Prop} {Q : Flow → Shared → Prop} {s₂ : Shared} (h : TurnEnd g L s₁ I io J Q .next s₂) : TurnEnd g L s₁ I io J Q .cont s₂ := h

theorem TurnEnd.ret {g : Heap} {L : Addr} {s₁ : Shared} {I : Addr} {io : Obj} {J : (Str → Option Value) → List (Addr × Obj) → Prop} {Q : Flow → Shared → Prop} {s₂ : Shared} {v : Value} (h : Q (.ret v) s₂) : TurnEnd g L s₁ I io J Q (.ret v) s₂ := h
theorem TurnEnd.brk {g : Heap} {L : Addr} {s₁ : Shared} {I : Addr} {io : Obj} {J : (Str → Option Value) → List (Addr × Obj) → Prop} {Q : Flow → Shared → Prop} {s₂ : Shared} (h : Q .next s₂) : TurnEnd g L s₁ I io J Q .brk s₂ := h

section
variable {prog : Program} {w : World} {A : Around} {E : Value → Shared → Prop} {s : Shared} {env : Env} {g : Heap} {target : Expr} {body : List Stmt} {Q : Flow → Shared → Prop}

theorem turns_core {s₂ : Shared} {I : Addr} {fp : List Addr} {n : Nat} {P : Nat → Value → Prop} {St : Nat → Heap → Prop} {icls : String} {src σ₀ : List (Addr × Obj)} {m₀ : Str → Option Value}
    (J : Nat → (Str → Option Value) → List (Addr × Obj) → Prop)
    (W : Walks prog w A I fp [I] n P St) (hgo : ∀ i v (s : Shared) (Q : Unit → Shared → Prop) (E : Value → Shared → Prop), St i s.heap → Q () s → wpAny (model prog w) A (letOwnedTupleGo target (.ref I) v) Q E s)
    (hIo : ∀ i h, St i h → ∃ o, h.get? I = some o ∧ o.cls = .type icls) (hI0 : g.get? I = none) (hIL : env.locals ≠ I)
    (hfp : ∀ b ∈ fp, b ≠ env.locals ∧ (b = I ∨ (∃ o, g.get? b = some o) ∨ ∃ o, (b, o) ∈ src)) (hst : St 0 s₂.heap) (F : Fr g env.locals s₂.heap m₀) (N : News g env.locals s₂.heap σ₀)
    (hoff : ∀ p ∈ σ₀, p.1 ≠ I) (hsrc : ∀ i m σ, J i m σ → ∀ p ∈ src, p ∈ σ) (h0 : J 0 m₀ σ₀)
    (turn : ∀ i v m σ h tk io, i < n → P i v → J i m σ → Fr g env.locals h m → News g env.locals h ((I, io) :: σ) → (∀ p ∈ σ, p.1 ≠ I) → io.cls = .type icls →
      wpAny (model prog w) A (assign target env v) (fun _ s₃ => wpAny (model prog w) A (execs body env) (TurnEnd g env.locals { s₂ with heap := h, toks := tk } I io (J (i + 1)) Q) E s₃) E { s₂ with heap := h, toks := tk })
    (done : ∀ m σ h tk, J n m σ → Fr g env.locals h m → News g env.locals h σ → Q .next { s₂ with heap := h, toks := tk }) :
    TurnsAt prog w A g env target body Q E (.ref I) s₂ := by
  refine ⟨I, fp, [I], n, _, _, St, m₀, σ₀, J, rfl, KTurns.ofWalks W hgo, fun hm => (hfp _ hm).1 rfl, fun b hb => by rw [List.mem_singleton.mp hb]; exact hI0, fun p hp hI => hoff p hp (List.mem_singleton.mp hI), hst, F, N, h0, ?_, fun h' tk m' σ' F' N' _ hJ => done m' σ' h' tk hJ F' N'⟩
  intro i v m₁ σ₁ h₁ tk₁ own hin hPi hJ hoff₁ hown hget hall hst₁ F₁ N₁
  obtain ⟨io, hio, hic⟩ := hIo _ _ hst₁
  have hIfp : I ∈ fp := W.sub I (List.mem_singleton.mpr rfl)
  have hIown : (I, io) ∈ own := hall I hIfp hI0 io hio
  have N₂ : News g env.locals h₁ ((I, io) :: σ₁) := fun p hp => by
    rcases List.mem_cons.mp hp with rfl | hp
    · exact N₁ _ (List.mem_append_left _ hIown)
    · exact N₁ p (List.mem_append_right _ hp)
  have ownIs : ∀ p ∈ own, p = (I, io) ∨ p ∈ src := fun p hp => by
    obtain ⟨_, h2⟩ := hfp p.1 (hown p hp)
    rcases h2 with h3 | ⟨o, h3⟩ | ⟨o, h3⟩
    · have h4 := hget p hp
      rw [h3, hio] at h4
      exact .inl (Prod.ext h3 (Option.some.inj h4).symm)
    · have h4 := (N₁ p (List.mem_append_left _ hp)).2.2
      rw [h3] at h4; cases h4
    · have h4 := hget p hp
      have h5 := (N₁ _ (List.mem_append_right _ (hsrc _ _ _ hJ _ h3))).1
      have h6 : o = p.2 := Option.some.inj (h5.symm.trans h4)
      subst h6
      exact .inr h3
  have fin : ∀ s₃, (∃ h' tk m' σ', s₃ = { s₂ with heap := h', toks := tk } ∧ Fr g env.locals h' m' ∧ News g env.locals h' ((I, io) :: σ') ∧ (∀ p ∈ σ', p.1 ≠ I ∨ p.2.cls ≠ io.cls) ∧ J (i + 1) m' σ') →
      LoopStepU g env.locals [I] own (J (i + 1)) { s₂ with heap := h₁, toks := tk₁ } .next s₃ := by
    rintro s₃ ⟨h', tk, m', σ', e, F', N', off', hJ'⟩
    refine ⟨rfl, h', tk, m', σ', e, F', fun p hp => ?_, fun p hp hI => ?_, hJ'⟩
    · rcases List.mem_append.mp hp with hp | hp
      · rcases ownIs p hp with rfl | h1
        · exact N' _ (.head _)
        · exact N' _ (.tail _ (hsrc _ _ _ hJ' _ h1))
      · exact N' _ (.tail _ hp)
    · have e1 := List.mem_singleton.mp hI
      rcases off' p hp with h1 | h1
      · exact h1 e1
      · have h2 := (N' _ (.tail _ hp)).1
        have h3 := (N' (I, io) (.head _)).1
        rw [e1] at h2
        exact h1 (congrArg Obj.cls (Option.some.inj (h2.symm.trans h3)))
  refine wpAny_mono (turn i v m₁ σ₁ h₁ tk₁ io hin hPi hJ F₁ N₂ (fun p hp hI => hoff₁ p hp (List.mem_singleton.mpr hI)) hic) (fun _ s₃ h₃ => wpAny_mono h₃ (fun f s₄ p => ?_) fun _ _ e => e) fun _ _ e => e
  cases f with
  | ret v => exact .ret p
  | brk => exact .brk p
  | next => exact .next (fin _ p)
  | cont => exact .cont (fin _ p)

/-- a for over a list that stands in the ledger -/
theorem iter_list {l : Addr} {lo : Obj} {its : List Value} {k : Nat} {σ₀ : List (Addr × Obj)} {m₀ : Str → Option Value} (J : Nat → (Str → Option Value) → List (Addr × Obj) → Prop)
    (hh : A.handled = none) (F : Fr g env.locals s.heap m₀) (N : News g env.locals s.heap σ₀) (hl : lo = { cls := .type "list", data := .seq its.toArray k })
    (hsrc : ∀ i m σ, J i m σ → (l, lo) ∈ σ) (h0 : J 0 m₀ σ₀)
    (turn : ∀ i v m σ h tk I io, its[i]? = some v → J i m σ → Fr g env.locals h m → News g env.locals h ((I, io) :: σ) → (∀ p ∈ σ, p.1 ≠ I) → io.cls = .type "list_iterator" →
      wpAny (model prog w) A (assign target env v) (fun _ s₃ => wpAny (model prog w) A (execs body env) (TurnEnd g env.locals { s with heap := h, toks := tk } I io (J (i + 1)) Q) E s₃) E { s with heap := h, toks := tk })
    (done : ∀ m σ h tk, J its.length m σ → Fr g env.locals h m → News g env.locals h σ → Q .next { s with heap := h, toks := tk }) :
    wpAny (model prog w) A (pyIter (.ref l)) (fun it s₂ => TurnsAt prog w A g env target body Q E it s₂) E s := by
  have hm := hsrc _ _ _ h0
  have hls : s.heap.IsList l its.toArray := by subst hl; exact ⟨_, (N _ hm).1, rfl, _, rfl⟩
  have hlt : l < s.heap.objs.size := Heap.lt_size (N _ hm).1
  refine wpAny_pyIter_list hls ?_
  refine turns_core (I := s.heap.objs.size) (icls := "list_iterator") (src := [(l, lo)]) J (Walks.list hh _ l (Nat.ne_of_lt hlt) its.toArray) (fun i v s Q E st q => letGo_listiter st.1 q) (fun i h st => by obtain ⟨o, a, b, _⟩ := st.1; exact ⟨o, a, b⟩) (next_is_new F) (Nat.ne_of_lt F.ns.lt) (fun b hb => ?_)
    ⟨⟨_, Heap.get?_push_size _ rfl, rfl, rfl⟩, hls.at fun o e => Heap.get?_push_of_some _ e⟩ (F.push _) (fun p hp => ⟨Heap.get?_push_of_some _ (N p hp).1, (N p hp).2⟩) (fun p hp => Nat.ne_of_lt (Heap.lt_size (N p hp).1)) (fun i m σ j p hp => by rw [List.mem_singleton.mp hp]; exact hsrc i m σ j) h0
    (fun i v m σ h tk io hi hP hJ F' N' off hic => turn i v m σ h tk _ io (by simpa using hP) hJ F' N' off hic) (fun m σ h tk hJ F' N' => done m σ h tk (by simpa using hJ) F' N')
  rcases List.mem_cons.mp hb with rfl | hb
  · exact ⟨Ne.symm (Nat.ne_of_lt F.ns.lt), .inl rfl⟩
  · rw [List.mem_singleton.mp hb]
    exact ⟨(N _ hm).2.1, .inr (.inr ⟨lo, List.mem_singleton.mpr rfl⟩)⟩

/-- a for over a list of the ground -/
theorem iter_listG {l : Addr} {its : List Value} {σ₀ : List (Addr × Obj)} {m₀ : Str → Option Value} (J : Nat → (Str → Option Value) → List (Addr × Obj) → Prop)
    (hh : A.handled = none) (F : Fr g env.locals s.heap m₀) (N : News g env.locals s.heap σ₀) (hl : g.IsList l its.toArray) (h0 : J 0 m₀ σ₀)
    (turn : ∀ i v m σ h tk I io, its[i]? = some v → J i m σ → Fr g env.locals h m → News g env.locals h ((I, io) :: σ) → (∀ p ∈ σ, p.1 ≠ I) → io.cls = .type "list_iterator" →
      wpAny (model prog w) A (assign target env v) (fun _ s₃ => wpAny (model prog w) A (execs body env) (TurnEnd g env.locals { s with heap := h, toks := tk } I io (J (i + 1)) Q) E s₃) E { s with heap := h, toks := tk })
    (done : ∀ m σ h tk, J its.length m σ → Fr g env.locals h m → News g env.locals h σ → Q .next { s with heap := h, toks := tk }) :
    wpAny (model prog w) A (pyIter (.ref l)) (fun it s₂ => TurnsAt prog w A g env target body Q E it s₂) E s := by
  have hls : s.heap.IsList l its.toArray := hl.at fun o e => F.keep l o e
  obtain ⟨lo, hlo, _⟩ := id hl
  have hlt : l < s.heap.objs.size := Heap.lt_size (F.keep _ _ hlo)
  refine wpAny_pyIter_list hls ?_
  refine turns_core (I := s.heap.objs.size) (icls := "list_iterator") (src := []) J (Walks.list hh _ l (Nat.ne_of_lt hlt) its.toArray) (fun i v s Q E st q => letGo_listiter st.1 q) (fun i h st => by obtain ⟨o, a, b, _⟩ := st.1; exact ⟨o, a, b⟩) (next_is_new F) (Nat.ne_of_lt F.ns.lt) (fun b hb => ?_)
    ⟨⟨_, Heap.get?_push_size _ rfl, rfl, rfl⟩, hls.at fun o e => Heap.get?_push_of_some _ e⟩ (F.push _) (fun p hp => ⟨Heap.get?_push_of_some _ (N p hp).1, (N p hp).2⟩) (fun p hp => Nat.ne_of_lt (Heap.lt_size (N p hp).1)) (fun i m σ j p hp => by simp at hp) h0
    (fun i v m σ h tk io hi hP hJ F' N' off hic => turn i v m σ h tk _ io (by simpa using hP) hJ F' N' off hic) (fun m σ h tk hJ F' N' => done m σ h tk (by simpa using hJ) F' N')
  rcases List.mem_cons.mp hb with rfl | hb
  · exact ⟨Ne.symm (Nat.ne_of_lt F.ns.lt), .inl rfl⟩
  · rw [List.mem_singleton.mp hb]
    exact ⟨Nat.ne_of_lt (Nat.lt_of_lt_of_le (Heap.lt_size hlo) F.above), .inr (.inl ⟨lo, hlo⟩)⟩

theorem iter_tupG {l : Addr} {its : List Value} {σ₀ : List (Addr × Obj)} {m₀ : Str → Option Value} (J : Nat → (Str → Option Value) → List (Addr × Obj) → Prop)
    (hh : A.handled = none) (F : Fr g env.locals s.heap m₀) (N : News g env.locals s.heap σ₀) (hl : IsTup g l its.toArray) (h0 : J 0 m₀ σ₀)
    (turn : ∀ i v m σ h tk I io, its[i]? = some v → J i m σ → Fr g env.locals h m → News g env.locals h ((I, io) :: σ) → (∀ p ∈ σ, p.1 ≠ I) → io.cls = .type "tuple_iterator" →
      wpAny (model prog w) A (assign target env v) (fun _ s₃ => wpAny (model prog w) A (execs body env) (TurnEnd g env.locals { s with heap := h, toks := tk } I io (J (i + 1)) Q) E s₃) E { s with heap := h, toks := tk })
    (done : ∀ m σ h tk, J its.length m σ → Fr g env.locals h m → News g env.locals h σ → Q .next { s with heap := h, toks := tk }) :
    wpAny (model prog w) A (pyIter (.ref l)) (fun it s₂ => TurnsAt prog w A g env target body Q E it s₂) E s := by
  have hls : s.heap.IsTuple l its.toArray := by obtain ⟨o, a, b⟩ := hl; exact ⟨o, F.keep _ _ a, b⟩
  obtain ⟨lo, hlo, _⟩ := id hl
  have hlt : l < s.heap.objs.size := Heap.lt_size (F.keep _ _ hlo)
  refine wpAny_pyIter_tuple hls ?_
  refine turns_core (I := s.heap.objs.size) (icls := "tuple_iterator") (src := []) J (Walks.tuple hh _ l (Nat.ne_of_lt hlt) its.toArray) (fun i v s Q E st q => letGo_tupleiter st.1 q) (fun i h st => by obtain ⟨o, a, b, _⟩ := st.1; exact ⟨o, a, b⟩) (next_is_new F) (Nat.ne_of_lt F.ns.lt) (fun b hb => ?_)
    ⟨⟨_, Heap.get?_push_size _ rfl, rfl, rfl⟩, hls.at fun o e => Heap.get?_push_of_some _ e⟩ (F.push _) (fun p hp => ⟨Heap.get?_push_of_some _ (N p hp).1, (N p hp).2⟩) (fun p hp => Nat.ne_of_lt (Heap.lt_size (N p hp).1)) (fun i m σ j p hp => by simp at hp) h0
    (fun i v m σ h tk io hi hP hJ F' N' off hic => turn i v m σ h tk _ io (by simpa using hP) hJ F' N' off hic) (fun m σ h tk hJ F' N' => done m σ h tk (by simpa using hJ) F' N')
  rcases List.mem_cons.mp hb with rfl | hb
  · exact ⟨Ne.symm (Nat.ne_of_lt F.ns.lt), .inl rfl⟩
  · rw [List.mem_singleton.mp hb]
    exact ⟨Nat.ne_of_lt (Nat.lt_of_lt_of_le (Heap.lt_size hlo) F.above), .inr (.inl ⟨lo, hlo⟩)⟩

theorem letGo_rangeiter {E : Value → Shared → Prop} {target : Expr} {I : Addr} {x left st : Int} {v : Value} {Q' : Unit → Shared → Prop} {s' : Shared} (hit : IsRangeIter s'.heap I x left st) (h : Q' () s') :
    wpAny (model prog w) A (letOwnedTupleGo target (.ref I) v) Q' E s' := by
  unfold letOwnedTupleGo
  cases target <;> first
    | exact wpAny_pure h
    | (cases v <;> first
        | exact wpAny_pure h
        | (refine wpAny_bind (wpAny_load hit ?_)
           exact wpAny_pure h))

theorem iter_range {r : Addr} {a b : Int} {t u v : Tok} {n : Nat} {σ₀ : List (Addr × Obj)} {m₀ : Str → Option Value} (J : Nat → (Str → Option Value) → List (Addr × Obj) → Prop)
    (hh : A.handled = none) (F : Fr g env.locals s.heap m₀) (N : News g env.locals s.heap σ₀) (hr : IsRange s.heap r a b 1 t u v) (hsm : Builtin.Range.small a b 1 = true) (hn : Builtin.Range.rangeSize a b 1 = (n : Int)) (h0 : J 0 m₀ σ₀)
    (turn : ∀ (i : Nat) t m σ h tk I io, i < n → J i m σ → Fr g env.locals h m → News g env.locals h ((I, io) :: σ) → (∀ p ∈ σ, p.1 ≠ I) → io.cls = .type "range_iterator" →
      wpAny (model prog w) A (assign target env (.int (a + (i : Int)) t)) (fun _ s₃ => wpAny (model prog w) A (execs body env) (TurnEnd g env.locals { s with heap := h, toks := tk } I io (J (i + 1)) Q) E s₃) E { s with heap := h, toks := tk })
    (done : ∀ m σ h tk, J n m σ → Fr g env.locals h m → News g env.locals h σ → Q .next { s with heap := h, toks := tk }) :
    wpAny (model prog w) A (pyIter (.ref r)) (fun it s₂ => TurnsAt prog w A g env target body Q E it s₂) E s := by
  refine wpAny_pyIter_range hr hsm ?_
  refine turns_core (I := s.heap.objs.size) (icls := "range_iterator") (src := []) J (LCg.range_walks hh a n) (fun i v s Q E st q => letGo_rangeiter st q) (fun i h st => ⟨_, st, rfl⟩) (next_is_new F) (Nat.ne_of_lt F.ns.lt) (fun b hb => ?_)
    (by show IsRangeIter _ _ _ _ _; rw [hn]; simpa using Heap.get?_push_size _ rfl) (F.push _) (fun p hp => ⟨Heap.get?_push_of_some _ (N p hp).1, (N p hp).2⟩) (fun p hp => Nat.ne_of_lt (Heap.lt_size (N p hp).1)) (fun i m σ j p hp => by simp at hp) h0
    (fun i v m σ h tk io hi hP hJ F' N' off hic => by obtain ⟨t, rfl⟩ := hP; exact turn i t m σ h tk _ io hi hJ F' N' off hic) (fun m σ h tk hJ F' N' => done m σ h tk hJ F' N')
  rw [List.mem_singleton.mp hb]
  exact ⟨Ne.symm (Nat.ne_of_lt F.ns.lt), .inl rfl⟩
end

def OffN (I : Nat) : List (Addr × Obj) → Prop
  | [] => True
  | p :: r => (@Ne Nat p.1 I) ∧ OffN I r
theorem offN_of {I : Addr} : ∀ {l : List (Addr × Obj)}, (∀ p ∈ l, p.1 ≠ I) → OffN I l
  | [], _ => trivial
  | p :: _, h => ⟨h p (.head _), offN_of fun q hq => h q (.tail _ hq)⟩
theorem OffN.all {I : Addr} : ∀ {l : List (Addr × Obj)}, OffN I l → ∀ p ∈ l, p.1 ≠ I
  | [], _, _, h => nomatch h
  | _ :: _, x, p, h => by
    rcases List.mem_cons.mp h with rfl | h
    · exact x.1
    · exact OffN.all x.2 p h

/-- a list comprehension by a word over its turns -/
theorem comp_gen {prog : Program} {w : World} {A : Around} {h₀ : Heap} {L : Addr} {m : Str → Option Value} {env : Env} {elt : Expr} {x : Str} {scope : Scope} {cl : List (Str × Addr)} {s : Shared} {S : List (Addr × Obj) → Prop} {P : Nat → Value → Prop}
    {Fin : List Value → List (Addr × Obj) → Prop} {news : List (Addr × Obj)} {n : Nat} (J : Nat → List Value → List (Addr × Obj) → Prop) (h0 : J 0 [] news)
    (turn : ∀ i v ys σ I oI C oC D m₂ h tk (E' : Value → Shared → Prop), i < n → P i v → J i ys σ → LCg.NsObj oC m₂ → m₂ x = some v → Fr h₀ L h m → News h₀ L h ((I, oI) :: (C, oC) :: (D, LCg.lst ys) :: σ) → LCg.Off3 I C D σ → ((@Ne Nat I C) ∧ (@Ne Nat I D) ∧ (@Ne Nat C D)) →
      wpAny (model prog w) A (eval elt (compEnvC scope cl C env)) (LCg.CompEnd h₀ L m { s with heap := h, toks := tk } I oI C oC D (LCg.lst ys) S (fun y σ' => J (i + 1) (ys ++ [y]) σ')) E' { s with heap := h, toks := tk })
    (fin : ∀ ys σ, J n ys σ → Fin ys σ) : LCg.CompRest prog w A h₀ L m env elt x scope cl s S P Fin n 0 [] news := by
  have key : ∀ (j i : Nat) (ys : List Value) (σ : List (Addr × Obj)), i + j = n → J i ys σ → LCg.CompRest prog w A h₀ L m env elt x scope cl s S P Fin j i ys σ := by
    intro j
    induction j with
    | zero =>
      intro i ys σ hi hJ
      have e : i = n := by omega
      subst e
      exact LCg.CompRest.zero (fin ys σ hJ)
    | succ j ih =>
      intro i ys σ hi hJ
      refine LCg.CompRest.succ ?_
      intro v I oI C oC D m₂ h tk E' hv hC hx F N off ne
      refine wpAny_mono (turn i v ys σ I oI C oC D m₂ h tk E' (by omega) hv hJ hC hx F N off ne) (fun y s₂ hq => ?_) fun _ _ e => e
      obtain ⟨h', tk', nw, e, F', N', off', hS, hJ'⟩ := hq
      exact ⟨h', tk', nw, e, F', N', off', hS, ih (i + 1) _ _ (by omega) hJ'⟩
  exact key n 0 [] news (by omega) h0

section
variable {prog : Program} {w : World} {A : Around} {E : Value → Shared → Prop} {s : Shared} {env : Env} {g : Heap} {target : Expr} {body : List Stmt} {Q : Flow → Shared → Prop}
theorem iter_range0 {r : Addr} {b : Int} {t u v : Tok} {n : Nat} {σ₀ : List (Addr × Obj)} {m₀ : Str → Option Value} (J : Nat → (Str → Option Value) → List (Addr × Obj) → Prop)
    (hh : A.handled = none) (F : Fr g env.locals s.heap m₀) (N : News g env.locals s.heap σ₀) (hr : IsRange s.heap r 0 b 1 t u v) (hb : b = (n : Int)) (hsz : n < 2 ^ 62) (h0 : J 0 m₀ σ₀)
    (turn : ∀ (i : Nat) t m σ h tk I io, i < n → J i m σ → Fr g env.locals h m → News g env.locals h ((I, io) :: σ) → (∀ p ∈ σ, p.1 ≠ I) → io.cls = .type "range_iterator" →
      wpAny (model prog w) A (assign target env (.int (i : Int) t)) (fun _ s₃ => wpAny (model prog w) A (execs body env) (TurnEnd g env.locals { s with heap := h, toks := tk } I io (J (i + 1)) Q) E s₃) E { s with heap := h, toks := tk })
    (done : ∀ m σ h tk, J n m σ → Fr g env.locals h m → News g env.locals h σ → Q .next { s with heap := h, toks := tk }) :
    wpAny (model prog w) A (pyIter (.ref r)) (fun it s₂ => TurnsAt prog w A g env target body Q E it s₂) E s := by
  subst hb
  refine iter_range J hh F N hr (small_one (by omega) (by omega) (by omega) (by omega)) ?_ h0 (fun i t m σ h tk I io hi hJ F' N' off hic => ?_) done
  · rw [rangeSize_one]; split <;> omega
  · rw [Int.zero_add]
    exact turn i t m σ h tk I io hi hJ F' N' off hic

theorem item_list {value slice : Expr} {l : Addr} {vs : List Value} {k : Int} {u : Tok} {v : Value} {Q : Value → Shared → Prop}
    (hl : s.heap.IsList l vs.toArray) (h0 : 0 ≤ k) (hhi : k < 2 ^ 63) (hx : vs[k.toNat]? = some v) (h : Q v s)
    (hs : subscripted slice false (.ref l) (.int k u) = operate [.ref l, .int k u] (getItem (.ref l) (.int k u)) := by with_unfolding_all rfl) :
    wpAny (model prog w) A (subscriptTail value slice (.ref l) (.int k u)) Q E s :=
  tail_any hl.typeIs slot_list_getitem.lookup (wpAny_getItem_list hl h0 hhi (by simpa using hx) h) hs
theorem item_arr {value slice : Expr} {l : Addr} {its : Array Value} {k : Int} {u : Tok} {v : Value} {Q : Value → Shared → Prop}
    (hl : s.heap.IsList l its) (h0 : 0 ≤ k) (hhi : k < 2 ^ 63) (hx : its[k.toNat]? = some v) (h : Q v s)
    (hs : subscripted slice false (.ref l) (.int k u) = operate [.ref l, .int k u] (getItem (.ref l) (.int k u)) := by with_unfolding_all rfl) :
    wpAny (model prog w) A (subscriptTail value slice (.ref l) (.int k u)) Q E s :=
  tail_any hl.typeIs slot_list_getitem.lookup (wpAny_getItem_list hl h0 hhi hx h) hs
end
theorem News.sub {g h : Heap} {L : Addr} {σ σ' : List (Addr × Obj)} (N : News g L h σ) (k : ∀ p ∈ σ', p ∈ σ) : News g L h σ' := fun p hp => N p (k p hp)
end
section
abbrev SpecW (w : World) (f : Addr) (args : List Value) (own : List (Addr × Obj)) (d u : Nat) (h : Heap) (Post : Heap → Value → List (Addr × Obj) → Prop) : Prop :=
  Spec PySem.Challenge.rw_nu0160_01.row.prog w (hd.heap_1 w.params) f args own d u h Post

mutual
/-- the data d stands at the value v, by the objects that P tells -/
def LR (P : Addr → Obj → Prop) : PyData → Value → Prop
  | .none, v => v = Value.none
  | .bool b, v => v = Value.bool b
  | .int i, v => ∃ t, v = Value.int i t
  | .str x, v => ∃ t, v = Value.str x t
  | .list xs, v => ∃ a o vs n, v = Value.ref a ∧ P a o ∧ o.cls = Value.type "list" ∧ o.data = .seq vs n ∧ LRs P xs vs.toList
  | .tuple xs, v => ∃ a o vs n, v = Value.ref a ∧ P a o ∧ o.cls = Value.type "tuple" ∧ o.data = .seq vs n ∧ LRs P xs vs.toList
  | .dict _, _ => False
def LRs (P : Addr → Obj → Prop) : List PyData → List Value → Prop
  | [], vs => vs = []
  | d :: ds, vs => ∃ v r, vs = v :: r ∧ LR P d v ∧ LRs P ds r
end

abbrev HAt (h : Heap) : Addr → Obj → Prop := fun a o => h.get? a = some o
abbrev Led (σ : List (Addr × Obj)) : Addr → Obj → Prop := fun a o => (a, o) ∈ σ
abbrev GLed (g : Heap) (σ : List (Addr × Obj)) : Addr → Obj → Prop := fun a o => g.get? a = some o ∨ (a, o) ∈ σ
/-- what stands in h outside of these places -/
abbrev HOut (h : Heap) (as : List Addr) : Addr → Obj → Prop := fun a o => h.get? a = some o ∧ a ∉ as

section
variable {P P' : Addr → Obj → Prop}
mutual
theorem LR.mono (k : ∀ a o, P a o → P' a o) : ∀ {d : PyData} {v : Value}, LR P d v → LR P' d v
  | .none, _, h => h
  | .bool _, _, h => h
  | .int _, _, h => h
  | .str _, _, h => h
  | .list _, _, h => by
    rw [LR] at h ⊢
    obtain ⟨a, o, vs, n, e, p, c, q, r⟩ := h
    exact ⟨a, o, vs, n, e, k _ _ p, c, q, LRs.mono k r⟩
  | .tuple _, _, h => by
    rw [LR] at h ⊢
    obtain ⟨a, o, vs, n, e, p, c, q, r⟩ := h
    exact ⟨a, o, vs, n, e, k _ _ p, c, q, LRs.mono k r⟩
  | .dict _, _, h => by rw [LR] at h; exact h.elim
theorem LRs.mono (k : ∀ a o, P a o → P' a o) : ∀ {ds : List PyData} {vs : List Value}, LRs P ds vs → LRs P' ds vs
  | [], _, h => h
  | _ :: _, _, h => by
    rw [LRs] at h ⊢
    obtain ⟨v, r, e, a, b⟩ := h
    exact ⟨v, r, e, LR.mono k a, LRs.mono k b⟩
end
theorem LRs.nil : LRs P [] [] := by rw [LRs]
theorem LRs.cons {d : PyData} {v : Value} {ds : List PyData} {vs : List Value} (a : LR P d v) (b : LRs P ds vs) : LRs P (d :: ds) (v :: vs) := by rw [LRs]; exact ⟨v, vs, rfl, a, b⟩
theorem LR.intI (i : Int) (t : Tok) : LR P (.int i) (.int i t) := by rw [LR]; exact ⟨t, rfl⟩
theorem LR.strI (x : Str) (t : Tok) : LR P (.str x) (.str x t) := by rw [LR]; exact ⟨t, rfl⟩
theorem LR.boolI (b : Bool) : LR P (.bool b) (.bool b) := by rw [LR]
theorem LR.listI {a : Addr} {vs : List Value} {n : Nat} {ds : List PyData} (p : P a { cls := .type "list", data := .seq vs.toArray n }) (r : LRs P ds vs) : LR P (.list ds) (.ref a) := by
  rw [LR]; exact ⟨a, _, _, _, rfl, p, rfl, rfl, by simpa using r⟩
theorem LR.tupleI {a : Addr} {vs : List Value} {n : Nat} {ds : List PyData} (p : P a { cls := .type "tuple", data := .seq vs.toArray n }) (r : LRs P ds vs) : LR P (.tuple ds) (.ref a) := by
  rw [LR]; exact ⟨a, _, _, _, rfl, p, rfl, rfl, by simpa using r⟩
theorem LR.intE {i : Int} {v : Value} (h : LR P (.int i) v) : ∃ t, v = .int i t := by rw [LR] at h; exact h
theorem LR.strE {x : Str} {v : Value} (h : LR P (.str x) v) : ∃ t, v = .str x t := by rw [LR] at h; exact h
theorem LR.boolE {b : Bool} {v : Value} (h : LR P (.bool b) v) : v = .bool b := by rw [LR] at h; exact h
theorem LR.listE {ds : List PyData} {v : Value} (h : LR P (.list ds) v) : ∃ a o vs n, v = Value.ref a ∧ P a o ∧ o.cls = Value.type "list" ∧ o.data = .seq vs n ∧ LRs P ds vs.toList := by rw [LR] at h; exact h
theorem LR.tupleE {ds : List PyData} {v : Value} (h : LR P (.tuple ds) v) : ∃ a o vs n, v = Value.ref a ∧ P a o ∧ o.cls = Value.type "tuple" ∧ o.data = .seq vs n ∧ LRs P ds vs.toList := by rw [LR] at h; exact h
theorem LRs.nilE {vs : List Value} (h : LRs P [] vs) : vs = [] := by rw [LRs] at h; exact h
theorem LRs.consE {d : PyData} {ds : List PyData} {vs : List Value} (h : LRs P (d :: ds) vs) : ∃ v r, vs = v :: r ∧ LR P d v ∧ LRs P ds r := by rw [LRs] at h; exact h
theorem LRs.length : ∀ {ds : List PyData} {vs : List Value}, LRs P ds vs → vs.length = ds.length
  | [], _, h => by rw [h.nilE]; rfl
  | _ :: _, _, h => by obtain ⟨v, r, rfl, _, b⟩ := h.consE; simp [b.length]
theorem LRs.get : ∀ {ds : List PyData} {vs : List Value}, LRs P ds vs → ∀ {i : Nat} {d : PyData}, ds[i]? = some d → ∃ v, vs[i]? = some v ∧ LR P d v
  | [], _, _, _, _, e => by simp at e
  | d :: ds, _, h, 0, d', e => by
    obtain ⟨v, r, rfl, a, b⟩ := h.consE
    have : d = d' := by simpa using e
    subst this
    exact ⟨v, rfl, a⟩
  | d :: ds, _, h, i + 1, d', e => by
    obtain ⟨v, r, rfl, a, b⟩ := h.consE
    obtain ⟨v', e', l⟩ := b.get (i := i) (d := d') (by simpa using e)
    exact ⟨v', by simpa using e', l⟩
theorem LRs.at {ds : List PyData} {vs : List Value} (h : LRs P ds vs) {i : Nat} {v : Value} (e : vs[i]? = some v) : ∃ d, ds[i]? = some d ∧ LR P d v := by
  have hi : i < ds.length := by rw [← h.length]; exact (List.getElem?_eq_some_iff.mp e).1
  obtain ⟨v', e', l⟩ := h.get (i := i) (d := ds[i]) (by simp [hi])
  rw [e] at e'
  cases e'
  exact ⟨ds[i], by simp [hi], l⟩
theorem LRs.append : ∀ {ds es : List PyData} {vs us : List Value}, LRs P ds vs → LRs P es us → LRs P (ds ++ es) (vs ++ us)
  | [], _, _, _, h, k => by rw [h.nilE]; exact k
  | _ :: _, _, _, _, h, k => by
    obtain ⟨v, r, rfl, a, b⟩ := h.consE
    exact LRs.cons a (b.append k)
theorem LRs.snoc {ds : List PyData} {d : PyData} {vs : List Value} {v : Value} (h : LRs P ds vs) (k : LR P d v) : LRs P (ds ++ [d]) (vs ++ [v]) := h.append (LRs.cons k LRs.nil)
theorem LRs.ints : ∀ {cs : List Int} {vs : List Value}, LRs P (cs.map .int) vs → IntsAre vs cs
  | [], _, h => by rw [h.nilE]; exact .nil
  | _ :: _, _, h => by
    obtain ⟨v, r, rfl, a, b⟩ := h.consE
    obtain ⟨t, rfl⟩ := a.intE
    exact .cons _ t b.ints
theorem LRs.ofInts : ∀ {cs : List Int} {vs : List Value}, IntsAre vs cs → LRs P (cs.map .int) vs
  | [], _, h => by cases h; exact LRs.nil
  | _ :: _, _, h => by cases h with | cons n t r => exact LRs.cons (LR.intI _ _) (LRs.ofInts r)
theorem LRs.strs : ∀ {xs : List Str} {vs : List Value}, LRs P (xs.map .str) vs → StrsAre vs xs
  | [], _, h => by rw [h.nilE]; exact .nil
  | _ :: _, _, h => by
    obtain ⟨v, r, rfl, a, b⟩ := h.consE
    obtain ⟨t, rfl⟩ := a.strE
    exact .cons _ t b.strs
theorem LRs.ofStrs : ∀ {xs : List Str} {vs : List Value}, StrsAre vs xs → LRs P (xs.map .str) vs
  | [], _, h => by cases h; exact LRs.nil
  | _ :: _, _, h => by cases h with | cons n t r => exact LRs.cons (LR.strI _ _) (LRs.ofStrs r)
end

mutual
theorem LR.reads {h : Heap} : ∀ {d : PyData} {v : Value}, LR (HAt h) d v → ∃ as, Reads h v d as
  | .none, _, e => by rw [LR] at e; subst e; exact ⟨_, .none⟩
  | .bool _, _, e => by rw [LR] at e; subst e; exact ⟨_, .bool _⟩
  | .int _, _, e => by rw [LR] at e; obtain ⟨t, rfl⟩ := e; exact ⟨_, .int _ _⟩
  | .str _, _, e => by rw [LR] at e; obtain ⟨t, rfl⟩ := e; exact ⟨_, .str _ _⟩
  | .list _, _, e => by
    rw [LR] at e
    obtain ⟨a, o, vs, n, rfl, p, c, q, r⟩ := e
    obtain ⟨as, z⟩ := LRs.reads r
    exact ⟨_, .list p c q z⟩
  | .tuple _, _, e => by
    rw [LR] at e
    obtain ⟨a, o, vs, n, rfl, p, c, q, r⟩ := e
    obtain ⟨as, z⟩ := LRs.reads r
    exact ⟨_, .tuple p c q z⟩
  | .dict _, _, e => by rw [LR] at e; exact e.elim
theorem LRs.reads {h : Heap} : ∀ {ds : List PyData} {vs : List Value}, LRs (HAt h) ds vs → ∃ as, ReadsAll h vs ds as
  | [], _, e => by rw [e.nilE]; exact ⟨_, .nil⟩
  | _ :: _, _, e => by
    obtain ⟨v, r, rfl, a, b⟩ := e.consE
    obtain ⟨as, z⟩ := LR.reads a
    obtain ⟨bs, y⟩ := LRs.reads b
    exact ⟨_, .cons z y⟩
end

section
variable {g h : Heap} {L : Addr} {m : Str → Option Value} {σ σ' : List (Addr × Obj)} {d : PyData} {v : Value}
theorem LR.now (x : LR (GLed g σ) d v) (F : Fr g L h m) (N : News g L h σ) : LR (HAt h) d v := x.mono fun a o e => e.elim (F.keep a o) fun q => (N _ q).1
theorem LR.led (x : LR (Led σ) d v) : LR (GLed g σ) d v := x.mono fun a o e => .inr e
theorem LR.ground (x : LR (HAt g) d v) : LR (GLed g σ) d v := x.mono fun a o e => .inl e
theorem LR.more (x : LR (GLed g σ) d v) (k : ∀ p ∈ σ, p ∈ σ') : LR (GLed g σ') d v := x.mono fun a o e => e.imp id fun q => k _ q
theorem LR.sub (x : LR (Led σ) d v) (k : ∀ p ∈ σ, p ∈ σ') : LR (Led σ') d v := x.mono fun a o e => k _ e
theorem LRs.sub {ds : List PyData} {vs : List Value} (x : LRs (Led σ) ds vs) (k : ∀ p ∈ σ, p ∈ σ') : LRs (Led σ') ds vs := x.mono fun a o e => k _ e
theorem LR.isList {P : Addr → Obj → Prop} {l : Addr} {ds : List PyData} (x : LR P (.list ds) (.ref l)) (k : ∀ a o, P a o → h.get? a = some o) : ∃ vs : List Value, h.IsList l vs.toArray ∧ LRs P ds vs := by
  obtain ⟨a, o, vs, n, e, p, c, q, r⟩ := x.listE
  cases e
  exact ⟨vs.toList, ⟨o, k _ _ p, c, n, by simpa using q⟩, r⟩
theorem LR.isTup {P : Addr → Obj → Prop} {v : Value} {ds : List PyData} (x : LR P (.tuple ds) v) (k : ∀ a o, P a o → h.get? a = some o) : ∃ (a : Addr) (vs : List Value), v = .ref a ∧ IsTup h a vs.toArray ∧ LRs P ds vs := by
  obtain ⟨a, o, vs, n, e, p, c, q, r⟩ := x.tupleE
  exact ⟨a, vs.toList, e, ⟨o, k _ _ p, c, n, by simpa using q⟩, r⟩
end
end
local macro_rules | `(tactic| walk_at "eval Name") => `(tactic| (k_dflt (refine' nameX_L ?F ?v ?_ ?a ?b; (case F => k_asm); (case a => rfl); (case b => rfl); (case v => first | rfl | assumption); k_whole)))
local macro_rules | `(tactic| walk_at "my_ret") => `(tactic| ((try dsimp only); (try with_reducible refine TurnEnd.ret ?_); (try dsimp only); refine' Ret.intro ?F ?N ?p; (case F => assumption); skip))
local macro_rules | `(tactic| walk_at "my_turn") => `(tactic| (refine' TurnEnd.next ?σ ?F ?N ?hI ?sub ?off ?j; (case F => assumption); (case N => assumption); (case hI => k_memK)))
local macro_rules | `(tactic| walk_at "my_args") => `(tactic| ((case B => k_asm); (case F => k_asm); (case X => k_asm); (case T => k_asm); (case N => k_asm); (case hk => first | rfl | assumption); (case hd => first | omega | (simp only [recursionLimit] at *; omega)); (case hu => first | omega | (simp only [cLine] at *; omega))))
local macro_rules | `(tactic| walk_at "compareOp NotIn int ref") => `(tactic| (k_dflt (refine kdg_notin (knd := PySem.intKind _ _) (by k_asm) (by k_memK) (by k_asm) (by k_asm) (intKind_is _ _ _ _) _ rfl ?_)))
local macro_rules | `(tactic| walk_at "setItem ref int") => `(tactic| ((with_reducible show wpAny _ _ (setItem (Value.ref _) (Value.int _ _) (Value.str _ _)) _ _ _); k_dflt (refine' kda_set (knd := PySem.intKind _ _) ?F ?N ?U ?d (intKind_is _ _ _ _) ?z ?_; (case F => k_asm); (case N => k_asm); (case U => k_updF); (case d => k_asm); (case z => rw [sizeLine_eq]; omega)); intro h' o' F' N' hd'; (try dsimp only at N')))
local macro_rules | `(tactic| walk_at "my_cend") => `(tactic| ((try k_unfold); refine' LCg.CompEnd.intro ?F ?N ?σ ?sub ?off ?hS ?r; (case F => assumption); (case N => assumption); skip))
local macro_rules | `(tactic| walk_at "my_for") => `(tactic| ((rename Fr _ _ _ _ => lF'); (with_unfolding_all refine' For_turns lF' ?_ (by intro _; rfl) PassesOwn.never)))
local macro_rules | `(tactic| walk_at "exec For Name Call cons nil") => `(tactic| walk_at "my_for")
local macro_rules | `(tactic| walk_at "exec For Name Name cons nil") => `(tactic| walk_at "my_for")
local macro_rules | `(tactic| walk_at "exec For Name Attribute cons nil") => `(tactic| walk_at "my_for")
local macro_rules | `(tactic| walk_at "exec For Tuple Call cons nil") => `(tactic| walk_at "my_for")
local macro_rules | `(tactic| walk_at "exec For Tuple Name cons nil") => `(tactic| walk_at "my_for")
local macro_rules | `(tactic| walk_at "my_list") => `(tactic| first | exact News.isList (by k_asm) (by k_memK) | exact Heap.IsList.at (by assumption) (fun o e => Fr.keep (by k_asm) _ o e))
local macro_rules | `(tactic| walk_at "my_arith") => `(tactic| first | omega | ((simp only [List.size_toArray, List.length_map, List.length_append, List.length_cons, List.length_nil, Array.size_push] at *); omega))
local macro_rules | `(tactic| walk_at "call builtin:len") => `(tactic| ((with_reducible show wpAny _ _ (PySem.call (Value.builtin "len") [Value.ref _]) _ _ _); k_dflt (refine' call_len_list ?hl ?hfit ?_; (case hl => walk_at "my_list"); (case hfit => walk_at "my_arith"))))
local macro_rules | `(tactic| walk_at "subscriptTail") => `(tactic| ((with_reducible show wpAny _ _ (subscriptTail _ _ (Value.ref _) (Value.int _ _)) _ _ _); k_dflt (refine' item_list ?hl ?h0 ?hhi ?hx ?_; (case hl => walk_at "my_list"); (case hx => assumption); (case h0 => omega); (case hhi => omega))))
local macro_rules | `(tactic| k_all) => `(tactic| assumption)
local macro_rules | `(tactic| walk_at "eval ListComp") => `(tactic| k_dflt (refine LCg.ListComp_U (F₀ := by k_asm) (by with_unfolding_all rfl) (by decide) (by rfl) (by decide) (by rfl) ?_))
local macro_rules | `(tactic| walk_at "exec Assign cons ListComp") => `(tactic| k_dflt (refine LCg.Assign_ListComp_U (F₀ := by k_asm) (by rfl) (by with_unfolding_all rfl) (by with_unfolding_all rfl) (by decide) (by rfl) (by decide) (by rfl) (by rfl) (by rfl) ?_))
local macro_rules | `(tactic| walk_at "subscriptTail Name Name ref int") => `(tactic| ((with_reducible show wpAny _ _ (subscriptTail _ _ (Value.ref _) (Value.int _ _)) _ _ _); k_dflt (refine' item_arr ?hl ?h0 ?hhi ?hx ?_; (case hl => walk_at "my_list"); (case hx => assumption); (case h0 => omega); (case hhi => omega))))
local macro_rules | `(tactic| walk_at "subscriptTail Name Name ref int") => `(tactic| ((with_reducible show wpAny _ _ (subscriptTail _ _ (Value.ref _) (Value.int _ _)) _ _ _); k_dflt (refine' item_list ?hl ?h0 ?hhi ?hx ?_; (case hl => walk_at "my_list"); (case hx => assumption); (case h0 => omega); (case hhi => omega))))
local macro_rules | `(tactic| walk_at "eval Call") => `(tactic| k_dflt (refine Call_ ?_))
local macro_rules | `(tactic| walk_at "eval Call Attribute") => `(tactic| k_dflt (refine MethodCall_ ?_))
local macro_rules | `(tactic| k_memK) => `(tactic| assumption)
local macro_rules | `(tactic| walk_at "my_at") => `(tactic| first | exact Fr.keep (by k_asm) _ _ (by assumption) | exact News.get (by k_asm) (by k_memK))
local macro_rules | `(tactic| walk_at "my_inst") => `(tactic| (refine' inst_of ?hx ?hd; (case hx => walk_at "my_at"); (case hd => walk_at "my_at")))
local macro_rules | `(tactic| walk_at "getAttr ref") => `(tactic| k_dflt (refine' get_own ?k1 ?k2 ?k3 ?k4 ?k5 ?k6 ?k7 ?k8 ?k9 ?_; (case k1 => k_asm); (case k2 => k_asm); (case k3 => walk_at "my_inst"); (case k4 => k_is); (case k5 => k_is); (case k6 => k_is); (case k7 => k_is); (case k8 => assumption); (case k9 => k_handed)))
local macro_rules | `(tactic| walk_at "subscriptTail Name Slice ref ref") => `(tactic| (k_dflt (refine' kmk_slice_lit ?F ?N ?l ?p ?q ?e ?_ ?s ?t ?z; (case F => k_asm); (case N => k_asm); (case l => walk_at "my_list"); (case p => kmk_part); (case q => kmk_part); (case e => assumption); (case s => with_unfolding_all rfl); (case t => kmk_pure); (case z => rw [sizeLine_eq]; walk_at "my_arith")); intro D' h' F' N' l1; (try k_lt l1)))
local macro_rules | `(tactic| walk_at "pk") => `(tactic| (iterate 10 (try (first | with_reducible assumption | apply And.right))))
local macro_rules | `(tactic| walk_at "pkn") => `(tactic| first | (walk_at "pk"; done) | (apply And.left; walk_at "pk"; done) | (apply Ne.symm; first | (walk_at "pk"; done) | (apply And.left; walk_at "pk"; done)) | omega)
local macro_rules | `(tactic| k_ne) => `(tactic| (refine neN ?_; (try dsimp only); walk_at "pkn"))
section
theorem calm_3 : True := by w_top off; exact True.intro
def prD (r : Int × Int) : PyData := .tuple [.int r.1, .int r.2]
def prDs (rs : List (Int × Int)) : PyData := .list (rs.map prD)
theorem prD.elim {P : Addr → Obj → Prop} {h : Heap} {r : Int × Int} {v : Value} (x : LR P (prD r) v) (k : ∀ a o, P a o → h.get? a = some o) : ∃ a t t', v = .ref a ∧ IsTup h a #[.int r.1 t, .int r.2 t'] := by
  have hTmp := LR.isTup x k
  refine hide fun gX gk => ?_
  obtain ⟨a, vs, e, ht, r⟩ := hTmp
  refine gk ?_
  clear gk gX
  have hTmp := r.consE
  refine hide fun gX gk => ?_
  obtain ⟨v1, r1, rfl, a1, b1⟩ := hTmp
  refine gk ?_
  clear gk gX
  have hTmp := b1.consE
  refine hide fun gX gk => ?_
  obtain ⟨v2, r2, rfl, a2, b2⟩ := hTmp
  refine gk ?_
  clear gk gX
  obtain rfl := b2.nilE
  obtain ⟨t, rfl⟩ := a1.intE
  obtain ⟨t', rfl⟩ := a2.intE
  exact ⟨a, t, t', e, ht⟩

def inR (rs : List (Int × Int)) (c : Int) : Bool := rs.any fun r => decide (r.1 ≤ c) && decide (c ≤ r.2)

theorem in_ranges_ok (w : World) {h : Heap} {l : Addr} {rs : List (Int × Int)} {c : Int} {t : Tok} (hp : LR (HAt h) (prDs rs) (.ref l)) :
    SpecW w 116 [.ref l, .int c t] [] 2 8 h (fun _ v news' => v = .bool (inR rs c) ∧ news' = []) := by
  (( unfold SpecW; k_fill; refine' Spec.plain (ho := ?ho) (hcd := ?hcd) (hbind := ?hbind) (hloc := ?hloc) (hcell := ?hcell) (hco := ?hco) (hgen := ?hgen) (hk := ?hk) (hb := ?hbEnter); (case ho => k_is); (case hcd => k_is); (case hbind => intro s hX; first | exact BindsTo.of_eq rfl); (case hloc => exact locs rfl); (case hcell => decide); (case hco => exact rfl); (case hgen => exact rfl); (case hk => exact rfl)))
  intro g L dp un gd outer A₀ base p loose mean mg mb s hg F N B X T hd hu
  replace hp := hp.mono (P' := HAt g) (fun b o e => hg b o e (by simp))
  have hTmp := hp.isList fun _ _ e => e
  refine hide fun gX gk => ?_
  obtain ⟨vs, hl, hit⟩ := hTmp
  refine gk ?_
  clear gk gX
  have hlen : vs.length = rs.length := by simpa using hit.length
  refine wpAny_execs_cons ?_
  refine For_turns F ?_ (by intro _; rfl) PassesOwn.never
  walk1
  refine iter_listG (fun i m σ => σ = [] ∧ m (Str.ofString "code") = some (.int c t) ∧ ∀ j r, j < i → rs[j]? = some r → (decide (r.1 ≤ c) && decide (c ≤ r.2)) = false) rfl F N hl ⟨rfl, by rfl, by intro j r hj; omega⟩ ?_ ?_
  · rintro i v m σ h₁ tk I io hv hTmp
    refine hide fun gX gk => ?_
    obtain ⟨rfl, hm, hno⟩ := hTmp
    refine gk ?_
    clear gk gX
    rintro F₁ N₁ off hic
    have hi : i < rs.length := by rw [← hlen]; exact (List.getElem?_eq_some_iff.mp hv).1
    have hri : rs[i]? = some rs[i] := by simp [hi]
    have hTmp := hit.at hv
    refine hide fun gX gk => ?_
    obtain ⟨d, hd1, hd2⟩ := hTmp
    refine gk ?_
    clear gk gX
    simp only [List.getElem?_map, hri, Option.map_some, Option.some.injEq] at hd1
    subst hd1
    have hTmp := prD.elim hd2 fun _ _ e => e
    refine hide fun gX gk => ?_
    obtain ⟨a, t1, t2, rfl, ht⟩ := hTmp
    refine gk ?_
    clear gk gX
    (repeat' ((fail_if_success (with_reducible show LCg.CompSrc _ _ _ _ _ _ _ _ _ _ _ _ _ _)); (fail_if_success (with_reducible show wpAny _ _ (pyIter (Value.ref _)) _ _ _)); (fail_if_success (with_reducible show wpAny _ _ (exec (Stmt.While _ _ _ _) _) _ _ _)); (fail_if_success (with_reducible show wpAny _ _ (compareOp _ (Value.ref _) (Value.ref _)) _ _ _)); first | walk1 | (dsimp only; walk1)))
    · walk_at "my_ret"
      case N => exact News.nil
      refine ⟨?_, rfl⟩
      show Value.bool true = _
      refine congrArg Value.bool (Eq.symm (List.any_eq_true.mpr ⟨rs[i], List.getElem_mem _, ?_⟩))
      simp_all
    all_goals (
      walk_at "my_turn"
      case σ => exact []
      case sub => simp
      case off => simp
      refine ⟨rfl, hm, fun j r hj hr => ?_⟩
      rcases Nat.lt_succ_iff_lt_or_eq.mp hj with h1 | h1
      · exact hno j r h1 hr
      · subst h1
        rw [hri] at hr
        cases hr
        simp_all <;> omega)
  · rintro m σ h₁ tk hTmp
    refine hide fun gX gk => ?_
    obtain ⟨rfl, hm, hno⟩ := hTmp
    refine gk ?_
    clear gk gX
    rintro F₁ N₁
    (repeat' ((fail_if_success (with_reducible show LCg.CompSrc _ _ _ _ _ _ _ _ _ _ _ _ _ _)); (fail_if_success (with_reducible show wpAny _ _ (pyIter (Value.ref _)) _ _ _)); (fail_if_success (with_reducible show wpAny _ _ (exec (Stmt.While _ _ _ _) _) _ _ _)); (fail_if_success (with_reducible show wpAny _ _ (compareOp _ (Value.ref _) (Value.ref _)) _ _ _)); first | walk1 | (dsimp only; walk1)))
    walk_at "my_ret"
    case N => exact News.nil
    refine ⟨?_, rfl⟩
    show Value.bool false = _
    refine congrArg Value.bool (Eq.symm (List.any_eq_false.mpr fun r hr => ?_))
    have hTmp := List.getElem_of_mem hr
    refine hide fun gX gk => ?_
    obtain ⟨j, hj, rfl⟩ := hTmp
    refine gk ?_
    clear gk gX
    rw [hno j rs[j] (by omega) (by simp [hj])]
    simp
end
section
theorem calm_4 : True := by w_top off; exact True.intro
local macro_rules | `(tactic| walk_at "my_idle") => `(tactic| skip)
def rightRs : List (Int × Int) := [(1570, 1573), (1575, 1575), (1577, 1577), (1583, 1586), (1608, 1608), (1649, 1651), (1653, 1655), (1672, 1689), (1728, 1728), (1731, 1739), (1741, 1741), (1743, 1743), (1746, 1747), (1749, 1749), (1774, 1775)]
def dualRs : List (Int × Int) := [(1568, 1568), (1574, 1574), (1576, 1576), (1578, 1582), (1587, 1599), (1601, 1607), (1609, 1610), (1646, 1647), (1656, 1671), (1690, 1727), (1729, 1730), (1740, 1740), (1742, 1742), (1744, 1745), (1786, 1788), (1791, 1791)]
def passedRs : List (Int × Int) := [(768, 879), (1552, 1562), (1611, 1631), (1648, 1648), (1750, 1756), (1759, 1764), (1767, 1768), (1770, 1773), (65024, 65039)]

theorem prDs.intro {P : Addr → Obj → Prop} {l : Addr} {vs : List Value} {n : Nat} {rs : List (Int × Int)} (p : P l { cls := .type "list", data := .seq vs.toArray n }) (r : LRs P (rs.map prD) vs) : LR P (prDs rs) (.ref l) := LR.listI p r
theorem prD.intro {P : Addr → Obj → Prop} {a : Addr} {i j : Int} {t t' : Tok} {n : Nat} (p : P a { cls := .type "tuple", data := .seq [Value.int i t, Value.int j t'].toArray n }) : LR P (prD (i, j)) (.ref a) :=
  LR.tupleI p (LRs.cons (LR.intI _ _) (LRs.cons (LR.intI _ _) LRs.nil))


theorem right_ranges_ok (w : World) {h : Heap} : SpecW w 123 [] [] 2 8 h (fun h' v _ => ∃ l, v = .ref l ∧ LR (HAt h') (prDs rightRs) (.ref l)) := by (( (( unfold SpecW; k_fill; refine' Spec.plain (ho := ?ho) (hcd := ?hcd) (hbind := ?hbind) (hloc := ?hloc) (hcell := ?hcell) (hco := ?hco) (hgen := ?hgen) (hk := ?hk) (hb := ?hbEnter); (case ho => k_is); (case hcd => k_is); (case hbind => intro s hX; first | exact BindsTo.of_eq rfl); (case hloc => exact locs rfl); (case hcell => decide); (case hco => exact rfl); (case hgen => exact rfl); (case hk => exact rfl))); intro g L dp un gd outer A₀ base p loose mean mg mb s hg F N B X T hd hu; (repeat' ((fail_if_success (with_reducible show LCg.CompSrc _ _ _ _ _ _ _ _ _ _ _ _ _ _)); (fail_if_success (with_reducible show wpAny _ _ (pyIter (Value.ref _)) _ _ _)); (fail_if_success (with_reducible show wpAny _ _ (exec (Stmt.While _ _ _ _) _) _ _ _)); (fail_if_success (with_reducible show wpAny _ _ (compareOp _ (Value.ref _) (Value.ref _)) _ _ _)); first | walk1 | (dsimp only; walk1))); walk_at "my_ret"; (case N => assumption); refine ⟨_, rfl, prDs.intro (News.get (by assumption) (by k_memK)) ?_⟩; repeat' (first | exact LRs.nil | (refine LRs.cons (prD.intro (News.get (by assumption) (by k_memK))) ?_))))
theorem dual_ranges_ok (w : World) {h : Heap} : SpecW w 130 [] [] 2 8 h (fun h' v _ => ∃ l, v = .ref l ∧ LR (HAt h') (prDs dualRs) (.ref l)) := by (( (( unfold SpecW; k_fill; refine' Spec.plain (ho := ?ho) (hcd := ?hcd) (hbind := ?hbind) (hloc := ?hloc) (hcell := ?hcell) (hco := ?hco) (hgen := ?hgen) (hk := ?hk) (hb := ?hbEnter); (case ho => k_is); (case hcd => k_is); (case hbind => intro s hX; first | exact BindsTo.of_eq rfl); (case hloc => exact locs rfl); (case hcell => decide); (case hco => exact rfl); (case hgen => exact rfl); (case hk => exact rfl))); intro g L dp un gd outer A₀ base p loose mean mg mb s hg F N B X T hd hu; (repeat' ((fail_if_success (with_reducible show LCg.CompSrc _ _ _ _ _ _ _ _ _ _ _ _ _ _)); (fail_if_success (with_reducible show wpAny _ _ (pyIter (Value.ref _)) _ _ _)); (fail_if_success (with_reducible show wpAny _ _ (exec (Stmt.While _ _ _ _) _) _ _ _)); (fail_if_success (with_reducible show wpAny _ _ (compareOp _ (Value.ref _) (Value.ref _)) _ _ _)); first | walk1 | (dsimp only; walk1))); walk_at "my_ret"; (case N => assumption); refine ⟨_, rfl, prDs.intro (News.get (by assumption) (by k_memK)) ?_⟩; repeat' (first | exact LRs.nil | (refine LRs.cons (prD.intro (News.get (by assumption) (by k_memK))) ?_))))
theorem passed_ranges_ok (w : World) {h : Heap} : SpecW w 137 [] [] 2 8 h (fun h' v _ => ∃ l, v = .ref l ∧ LR (HAt h') (prDs passedRs) (.ref l)) := by (( (( unfold SpecW; k_fill; refine' Spec.plain (ho := ?ho) (hcd := ?hcd) (hbind := ?hbind) (hloc := ?hloc) (hcell := ?hcell) (hco := ?hco) (hgen := ?hgen) (hk := ?hk) (hb := ?hbEnter); (case ho => k_is); (case hcd => k_is); (case hbind => intro s hX; first | exact BindsTo.of_eq rfl); (case hloc => exact locs rfl); (case hcell => decide); (case hco => exact rfl); (case hgen => exact rfl); (case hk => exact rfl))); intro g L dp un gd outer A₀ base p loose mean mg mb s hg F N B X T hd hu; (repeat' ((fail_if_success (with_reducible show LCg.CompSrc _ _ _ _ _ _ _ _ _ _ _ _ _ _)); (fail_if_success (with_reducible show wpAny _ _ (pyIter (Value.ref _)) _ _ _)); (fail_if_success (with_reducible show wpAny _ _ (exec (Stmt.While _ _ _ _) _) _ _ _)); (fail_if_success (with_reducible show wpAny _ _ (compareOp _ (Value.ref _) (Value.ref _)) _ _ _)); first | walk1 | (dsimp only; walk1))); walk_at "my_ret"; (case N => assumption); refine ⟨_, rfl, prDs.intro (News.get (by assumption) (by k_memK)) ?_⟩; repeat' (first | exact LRs.nil | (refine LRs.cons (prD.intro (News.get (by assumption) (by k_memK))) ?_))))

/-- joining_type's word -/
def jt (c : Int) : Str :=
  if c = 8205 ∨ c = 1600 then Str.ofString "C" else if inR passedRs c then Str.ofString "T" else if inR dualRs c then Str.ofString "D" else if inR rightRs c then Str.ofString "R" else Str.ofString "U"

local macro_rules | `(tactic| walk_at "my_use") => `(tactic| (walk_at "my_args"; intro v' h' tk' n' F' N' K' P'; obtain ⟨l', e', R'⟩ := P'; subst e'; (try dsimp only)))
local macro_rules | `(tactic| walk_at "call ref") => `(tactic| ((show wpAny _ _ (PySem.call (Value.ref 137) _) _ _ _); refine' Spec.callP (passed_ranges_ok _) ?B ?F ?X ?T ?N ?hk ?hd ?hu ?_; walk_at "my_use"))
local macro_rules | `(tactic| walk_at "call ref") => `(tactic| ((show wpAny _ _ (PySem.call (Value.ref 130) _) _ _ _); refine' Spec.callP (dual_ranges_ok _) ?B ?F ?X ?T ?N ?hk ?hd ?hu ?_; walk_at "my_use"))
local macro_rules | `(tactic| walk_at "call ref") => `(tactic| ((show wpAny _ _ (PySem.call (Value.ref 123) _) _ _ _); refine' Spec.callP (right_ranges_ok _) ?B ?F ?X ?T ?N ?hk ?hd ?hu ?_; walk_at "my_use"))
local macro_rules | `(tactic| walk_at "call ref") => `(tactic| ((show wpAny _ _ (PySem.call (Value.ref 116) _) _ _ _); refine' Spec.callP (in_ranges_ok _ ?hp) ?B ?F ?X ?T ?N ?hk ?hd ?hu ?_; (case hp => assumption); walk_at "my_args"; intro v' h' tk' n' F' N' K' P'; obtain ⟨e', _⟩ := P'; subst e'; (try dsimp only)))

theorem joining_type_ok (w : World) {h : Heap} {c : Int} {t : Tok} : SpecW w 144 [.int c t] [] 3 12 h (fun h' v _ => ∃ t', v = .str (jt c) t') := by
  (( unfold SpecW; k_fill; refine' Spec.plain (ho := ?ho) (hcd := ?hcd) (hbind := ?hbind) (hloc := ?hloc) (hcell := ?hcell) (hco := ?hco) (hgen := ?hgen) (hk := ?hk) (hb := ?hbEnter); (case ho => k_is); (case hcd => k_is); (case hbind => intro s hX; first | exact BindsTo.of_eq rfl); (case hloc => exact locs rfl); (case hcell => decide); (case hco => exact rfl); (case hgen => exact rfl); (case hk => exact rfl)))
  intro g L dp un gd outer A₀ base p loose mean mg mb s hg F N B X T hd hu
  (repeat' ((fail_if_success (with_reducible show LCg.CompSrc _ _ _ _ _ _ _ _ _ _ _ _ _ _)); (fail_if_success (with_reducible show wpAny _ _ (pyIter (Value.ref _)) _ _ _)); (fail_if_success (with_reducible show wpAny _ _ (exec (Stmt.While _ _ _ _) _) _ _ _)); (fail_if_success (with_reducible show wpAny _ _ (compareOp _ (Value.ref _) (Value.ref _)) _ _ _)); first | walk1 | (dsimp only; walk1)))
  all_goals (walk_at "my_ret"; (case N => exact News.nil))
  all_goals (refine ⟨_, congrArg (fun x => Value.str x _) ?_⟩; unfold jt; simp [*])
end
local macro_rules | `(tactic| walk_at "call ref") => `(tactic| ((show wpAny _ _ (PySem.call (Value.ref 144) _) _ _ _); refine' Spec.callP (joining_type_ok _) ?B ?F ?X ?T ?N ?hk ?hd ?hu ?_; walk_at "my_args"; intro v' h' tk' n' F' N' K' P'; obtain ⟨t', e'⟩ := P'; subst e'; (try dsimp only)))
section
theorem calm_5 : True := by w_top off; exact True.intro
local macro_rules | `(tactic| walk_at "my_idle") => `(tactic| skip)
local macro_rules | `(tactic| walk_at "my_idle") => `(tactic| skip)
local macro_rules | `(tactic| walk_at "my_idle") => `(tactic| skip)
local macro_rules | `(tactic| walk_at "my_idle") => `(tactic| skip)
local macro_rules | `(tactic| walk_at "my_idle") => `(tactic| skip)
local macro_rules | `(tactic| walk_at "my_idle") => `(tactic| skip)
theorem valueAt_stored {K : Type} [DecidableEq K] (k : K) (v : Value) (c : K) : ∀ kvs : List (K × Value), valueAt (stored kvs k v) c = if c = k then some v else valueAt kvs c := by
  intro kvs
  unfold stored
  split
  · rename_i hany
    induction kvs with
    | nil => simp at hany
    | cons p r ih =>
      by_cases hp : p.1 = k
      · by_cases hr : r.any (fun kv => decide (kv.1 = k)) = true
        · have := ih hr
          by_cases hc : c = k
          · subst hc; simp [valueAt, hp]
          · rw [if_neg hc] at this
            simp only [valueAt, List.map_cons, if_pos hp, List.find?_cons]
            have h1 : decide (k = c) = false := by simpa using fun e => hc e.symm
            have h2 : decide (p.1 = c) = false := by rw [hp]; exact h1
            simp only [h1, h2, if_neg hc]
            exact this
        · have hr' : r.map (fun kv => if kv.1 = k then (kv.1, v) else kv) = r := by
            refine (List.map_congr_left fun q hq => ?_).trans (List.map_id r)
            have : ¬ q.1 = k := fun e => hr (List.any_eq_true.mpr ⟨q, hq, by simpa using e⟩)
            simp [this]
          by_cases hc : c = k
          · subst hc; simp [valueAt, hp]
          · have h1 : decide (k = c) = false := by simpa using fun e => hc e.symm
            have h2 : decide (p.1 = c) = false := by rw [hp]; exact h1
            simp only [valueAt, List.map_cons, if_pos hp, List.find?_cons, h1, h2, if_neg hc, hr']
      · have hr : r.any (fun kv => decide (kv.1 = k)) = true := by simpa [hp] using hany
        have := ih hr
        simp only [valueAt, List.map_cons, if_neg hp, List.find?_cons] at this ⊢
        by_cases hpc : p.1 = c
        · have hck : ¬ c = k := fun e => hp (hpc.trans e)
          simp [hpc, hck]
        · simp only [hpc, decide_false]
          exact this
  · rename_i hany
    have hno : ∀ q ∈ kvs, ¬ q.1 = k := fun q hq e => hany (List.any_eq_true.mpr ⟨q, hq, by simpa using e⟩)
    unfold valueAt
    rw [List.find?_append]
    by_cases hc : c = k
    · subst hc
      have : kvs.find? (fun kv => decide (kv.1 = c)) = none := List.find?_eq_none.mpr fun q hq => by simpa using hno q hq
      simp [this]
    · have h1 : decide (k = c) = false := by simpa using fun e => hc e.symm
      simp [h1, hc]

theorem StrsAre.snoc {vs : List Value} {xs : List Str} (h : StrsAre vs xs) (x : Str) (t : Tok) : StrsAre (vs ++ [Value.str x t]) (xs ++ [x]) := StrsAre.append' h (.cons x t .nil)

theorem types_of_ok (w : World) {h : Heap} {l : Addr} {cs : List Int} (hp : LR (HAt h) (.list (cs.map .int)) (.ref l)) (hlen : cs.length ≤ 1000) :
    SpecW w 149 [.ref l] [] 4 16 h (fun h' v news' => ∃ a k vs, v = Value.ref a ∧ (a, W.listOf vs k) ∈ news' ∧ StrsAre vs.toList (cs.map jt)) := by
  (( unfold SpecW; k_fill; refine' Spec.cells (ho := ?ho) (hcd := ?hcd) (hbind := ?hbind) (hkind := ?hkind) (hnd := ?hnd) (hco := ?hco) (hgen := ?hgen) (hk := ?hk) (hb := ?hbEnter); (case ho => k_is); (case hcd => k_is); (case hbind => intro s hX; first | exact BindsTo.of_eq rfl); (case hkind => exact rfl); (case hnd => decide +kernel); (case hco => exact rfl); (case hgen => exact rfl); (case hk => exact rfl)))
  intro g L dp un gd outer A₀ base p loose mean mg mb s cells hg F N Y hlt B X T hd hu
  replace hp := hp.mono (P' := HAt g) (fun b o e => hg b o e (by simp))
  have hTmp := hp.isList fun _ _ e => e
  refine hide fun gX gk => ?_
  obtain ⟨vs, hl, hit⟩ := hTmp
  refine gk ?_
  clear gk gX
  have hvl : vs.length = cs.length := by simpa using hit.length
  k_cells Y
  simp only [List.cons_append, List.nil_append] at N
  (repeat' ((fail_if_success (with_reducible show LCg.CompSrc _ _ _ _ _ _ _ _ _ _ _ _ _ _)); (fail_if_success (with_reducible show wpAny _ _ (pyIter (Value.ref _)) _ _ _)); (fail_if_success (with_reducible show wpAny _ _ (exec (Stmt.While _ _ _ _) _) _ _ _)); (fail_if_success (with_reducible show wpAny _ _ (compareOp _ (Value.ref _) (Value.ref _)) _ _ _)); first | walk1 | (dsimp only; walk1)))
  rename_i d h1 od lo hs fs hi fi l1 h2 oc F1 N1 hc
  refine iter_listG (fun i m σ => ∃ od kvs, σ = [(d, od), (L + 1, oc)] ∧ od.IsDictOf (intKind PySem.Challenge.rw_nu0160_01.row.prog w) kvs ∧ (∀ c x, valueAt kvs c = some x → ∃ t, x = Value.str (jt c) t) ∧
    (∀ j c, j < i → cs[j]? = some c → (valueAt kvs c).isSome = true) ∧ kvs.length ≤ i ∧ m (Str.ofString "codes") = some (.ref l)) rfl F1 N1 hl
    ⟨od, [], rfl, hi, by intro c x hx; simp [valueAt] at hx, by intro j c hj; omega, by simp, by rfl⟩ ?_ ?_
  · rintro i v m σ h₁ tk I io hv hTmp
    refine hide fun gX gk => ?_
    obtain ⟨od, kvs, rfl, hod, hval, hall, hkl, hm⟩ := hTmp
    refine gk ?_
    clear gk gX
    rintro F₁ N₁ off hic
    have hTmp := hit.at hv
    refine hide fun gX gk => ?_
    obtain ⟨dd, hd1, hd2⟩ := hTmp
    refine gk ?_
    clear gk gX
    obtain ⟨c, hc1, rfl⟩ : ∃ c, cs[i]? = some c ∧ PyData.int c = dd := by simpa using hd1
    obtain ⟨t, rfl⟩ := hd2.intE
    have hilt : i < cs.length := (List.getElem?_eq_some_iff.mp hc1).1
    replace off := offN_of off
    simp only [OffN, and_true] at off
    (repeat' ((fail_if_success (with_reducible show LCg.CompSrc _ _ _ _ _ _ _ _ _ _ _ _ _ _)); (fail_if_success (with_reducible show wpAny _ _ (pyIter (Value.ref _)) _ _ _)); (fail_if_success (with_reducible show wpAny _ _ (exec (Stmt.While _ _ _ _) _) _ _ _)); (fail_if_success (with_reducible show wpAny _ _ (compareOp _ (Value.ref _) (Value.ref _)) _ _ _)); first | walk1 | (dsimp only; walk1)))
    · rename_i hsome
      walk_at "my_turn"
      case σ => exact [(d, od), (L + 1, oc)]
      case sub => simp
      case off => simp; exact ⟨.inl off.1, .inl off.2⟩
      refine ⟨od, kvs, rfl, hod, hval, fun j c' hj hc' => ?_, by omega, hm⟩
      rcases Nat.lt_succ_iff_lt_or_eq.mp hj with h1 | h1
      · exact hall j c' h1 hc'
      · subst h1; rw [hc1] at hc'; cases hc'; exact hsome
    · rename_i o1 F3 N3 hd3
      walk_at "my_turn"
      case σ => exact [(d, o1), (L + 1, oc)]
      case sub => simp
      case off => simp; exact ⟨.inl off.1, .inl off.2⟩
      refine ⟨o1, _, rfl, hd3, fun c' x hx => ?_, fun j c' hj hc' => ?_, ?_, hm⟩
      · rw [valueAt_stored] at hx
        split at hx
        · cases hx; subst_vars; exact ⟨_, rfl⟩
        · exact hval c' x hx
      · rw [valueAt_stored]
        split
        · rfl
        · rcases Nat.lt_succ_iff_lt_or_eq.mp hj with h1 | h1
          · exact hall j c' h1 hc'
          · subst h1; rw [hc1] at hc'; cases hc'; simp at *
      · have := stored_length_le kvs c (Value.str (jt c) ‹Tok›)
        exact Nat.le_trans (stored_length_le _ _ _) (by omega)
  · rintro m σ h₁ tk hTmp
    refine hide fun gX gk => ?_
    obtain ⟨od, kvs, rfl, hod, hval, hall, hkl, hm⟩ := hTmp
    refine gk ?_
    clear gk gX
    rintro F₁ N₁
    rw [hvl] at hall
    dsimp only
    (repeat' ((fail_if_success (with_reducible show LCg.CompSrc _ _ _ _ _ _ _ _ _ _ _ _ _ _)); (fail_if_success (with_reducible show wpAny _ _ (pyIter (Value.ref _)) _ _ _)); (fail_if_success (with_reducible show wpAny _ _ (exec (Stmt.While _ _ _ _) _) _ _ _)); (fail_if_success (with_reducible show wpAny _ _ (compareOp _ (Value.ref _) (Value.ref _)) _ _ _)); first | walk1 | (dsimp only; walk1)))
    refine LCg.CompSrc.base rfl (by assumption) (by assumption) hl (by rw [sizeLine_eq, List.size_toArray]; omega) ?_
    intro g1
    refine comp_gen (fun i ys σ => σ = [(d, od), (L + 1, oc)] ∧ StrsAre ys ((cs.take i).map jt)) ⟨rfl, StrsAre.nil⟩ ?_ ?_
    · rintro i v ys σ I oI C oC D m₂ h tk E' hi hv ⟨rfl, hys⟩ hC hx F N off ne
      have hTmp := hit.at (i := i) (v := v) (by simpa using hv)
      refine hide fun gX gk => ?_
      obtain ⟨dd, hd1, hd2⟩ := hTmp
      refine gk ?_
      clear gk gX
      obtain ⟨c, hc1, rfl⟩ : ∃ c, cs[i]? = some c ∧ PyData.int c = dd := by simpa using hd1
      obtain ⟨t, rfl⟩ := hd2.intE
      have hilt : i < cs.length := (List.getElem?_eq_some_iff.mp hc1).1
      obtain ⟨x, hx1⟩ := Option.isSome_iff_exists.mp (hall i c hilt hc1)
      obtain ⟨t1, rfl⟩ := hval c x hx1
      (repeat' ((fail_if_success (with_reducible show LCg.CompSrc _ _ _ _ _ _ _ _ _ _ _ _ _ _)); (fail_if_success (with_reducible show wpAny _ _ (pyIter (Value.ref _)) _ _ _)); (fail_if_success (with_reducible show wpAny _ _ (exec (Stmt.While _ _ _ _) _) _ _ _)); (fail_if_success (with_reducible show wpAny _ _ (compareOp _ (Value.ref _) (Value.ref _)) _ _ _)); first | walk1 | (dsimp only; walk1)))
      refine kda_item (knd := PySem.intKind _ _) (by assumption) (by k_memK) hod (intKind_is _ _ _ _) hx1 ?_
      walk_at "my_cend"
      case σ => exact [(d, od), (L + 1, oc)]
      case sub => exact fun p hp => hp
      case off => exact off
      case hS => exact .inl hl
      refine ⟨rfl, ?_⟩
      rw [List.take_add_one, hc1]
      simpa using StrsAre.snoc hys (jt c) t1
    · rintro ys σ ⟨rfl, hys⟩
      (repeat' ((fail_if_success (with_reducible show LCg.CompSrc _ _ _ _ _ _ _ _ _ _ _ _ _ _)); (fail_if_success (with_reducible show wpAny _ _ (pyIter (Value.ref _)) _ _ _)); (fail_if_success (with_reducible show wpAny _ _ (exec (Stmt.While _ _ _ _) _) _ _ _)); (fail_if_success (with_reducible show wpAny _ _ (compareOp _ (Value.ref _) (Value.ref _)) _ _ _)); first | walk1 | (dsimp only; walk1)))
      walk_at "my_ret"
      case N => assumption
      refine ⟨_, _, _, rfl, by k_memK, ?_⟩
      rw [List.size_toArray, hvl, List.take_length] at hys
      simpa using hys
end
theorem calm_6 : True := by w_top off; exact True.intro
def jOn (x : Str) : Bool := x == Str.ofString "D" || x == Str.ofString "C"
def jBack (x : Str) : Bool := x == Str.ofString "D" || (x == Str.ofString "C" || x == Str.ofString "R")

theorem joins_on_ok (w : World) {h : Heap} {x : Str} {t : Tok} : SpecW w 156 [.str x t] [] 2 8 h (fun h' v _ => v = .bool (jOn x)) := by
  (( unfold SpecW; k_fill; refine' Spec.plain (ho := ?ho) (hcd := ?hcd) (hbind := ?hbind) (hloc := ?hloc) (hcell := ?hcell) (hco := ?hco) (hgen := ?hgen) (hk := ?hk) (hb := ?hbEnter); (case ho => k_is); (case hcd => k_is); (case hbind => intro s hX; first | exact BindsTo.of_eq rfl); (case hloc => exact locs rfl); (case hcell => decide); (case hco => exact rfl); (case hgen => exact rfl); (case hk => exact rfl)))
  intro g L dp un gd outer A₀ base p loose mean mg mb s hg F N B X T hd hu
  (repeat' ((fail_if_success (with_reducible show LCg.CompSrc _ _ _ _ _ _ _ _ _ _ _ _ _ _)); (fail_if_success (with_reducible show wpAny _ _ (pyIter (Value.ref _)) _ _ _)); (fail_if_success (with_reducible show wpAny _ _ (exec (Stmt.While _ _ _ _) _) _ _ _)); (fail_if_success (with_reducible show wpAny _ _ (compareOp _ (Value.ref _) (Value.ref _)) _ _ _)); first | walk1 | (dsimp only; walk1)))
  all_goals (walk_at "my_ret"; (case N => exact News.nil))
  all_goals (refine congrArg Value.bool ?_; unfold jOn; simp [*])
theorem joins_back_ok (w : World) {h : Heap} {x : Str} {t : Tok} : SpecW w 163 [.str x t] [] 2 8 h (fun h' v _ => v = .bool (jBack x)) := by
  (( unfold SpecW; k_fill; refine' Spec.plain (ho := ?ho) (hcd := ?hcd) (hbind := ?hbind) (hloc := ?hloc) (hcell := ?hcell) (hco := ?hco) (hgen := ?hgen) (hk := ?hk) (hb := ?hbEnter); (case ho => k_is); (case hcd => k_is); (case hbind => intro s hX; first | exact BindsTo.of_eq rfl); (case hloc => exact locs rfl); (case hcell => decide); (case hco => exact rfl); (case hgen => exact rfl); (case hk => exact rfl)))
  intro g L dp un gd outer A₀ base p loose mean mg mb s hg F N B X T hd hu
  (repeat' ((fail_if_success (with_reducible show LCg.CompSrc _ _ _ _ _ _ _ _ _ _ _ _ _ _)); (fail_if_success (with_reducible show wpAny _ _ (pyIter (Value.ref _)) _ _ _)); (fail_if_success (with_reducible show wpAny _ _ (exec (Stmt.While _ _ _ _) _) _ _ _)); (fail_if_success (with_reducible show wpAny _ _ (compareOp _ (Value.ref _) (Value.ref _)) _ _ _)); first | walk1 | (dsimp only; walk1)))
  all_goals (walk_at "my_ret"; (case N => exact News.nil))
  all_goals (refine congrArg Value.bool ?_; unfold jBack; simp [*])
local macro_rules | `(tactic| walk_at "call ref") => `(tactic| ((show wpAny _ _ (PySem.call (Value.ref 156) _) _ _ _); refine' Spec.callP (joins_on_ok _) ?B ?F ?X ?T ?N ?hk ?hd ?hu ?_; walk_at "my_args"; intro v' h' tk' n' F' N' K' P'; subst P'; (try dsimp only)))
local macro_rules | `(tactic| walk_at "call ref") => `(tactic| ((show wpAny _ _ (PySem.call (Value.ref 163) _) _ _ _); refine' Spec.callP (joins_back_ok _) ?B ?F ?X ?T ?N ?hk ?hd ?hu ?_; walk_at "my_args"; intro v' h' tk' n' F' N' K' P'; subst P'; (try dsimp only)))

def tyAt (ts : List Str) (i : Nat) : Str := ts.getD i (Str.ofString "")
/-- the pairs found in the first i types, and the last one that is not passed over -/
def jpS (ts : List Str) : Nat → List (Nat × Nat) × Option Nat
  | 0 => ([], none)
  | i + 1 => if tyAt ts i = Str.ofString "T" then jpS ts i else
    ((match (jpS ts i).2 with
      | some l => if jOn (tyAt ts l) && jBack (tyAt ts i) then (jpS ts i).1 ++ [(l, i)] else (jpS ts i).1
      | none => (jpS ts i).1), some i)
def jp (ts : List Str) : List (Nat × Nat) := (jpS ts ts.length).1
def npD (p : Nat × Nat) : PyData := .tuple [.int (p.1 : Int), .int (p.2 : Int)]
def lastI : Option Nat → Int
  | some l => (l : Int)
  | none => -1

theorem jpS_T {ts : List Str} {i : Nat} (h : (tyAt ts i != Str.ofString "T") = false) : jpS ts (i + 1) = jpS ts i := by
  have h' : tyAt ts i = Str.ofString "T" := by simpa using h
  simp [jpS, h']
theorem jpS_none {ts : List Str} {i : Nat} (h : (tyAt ts i != Str.ofString "T") = true) (hj : (jpS ts i).2 = none) : jpS ts (i + 1) = ((jpS ts i).1, some i) := by
  have h' : ¬ tyAt ts i = Str.ofString "T" := by simpa using h
  simp [jpS, h', hj]
theorem jpS_some {ts : List Str} {i j : Nat} (h : (tyAt ts i != Str.ofString "T") = true) (hj : (jpS ts i).2 = some j) :
    jpS ts (i + 1) = (if jOn (tyAt ts j) && jBack (tyAt ts i) then (jpS ts i).1 ++ [(j, i)] else (jpS ts i).1, some i) := by
  have h' : ¬ tyAt ts i = Str.ofString "T" := by simpa using h
  simp [jpS, h', hj]

theorem joined_pairs_ok (w : World) {h : Heap} {l : Addr} {ts : List Str} (hp : LR (HAt h) (.list (ts.map .str)) (.ref l)) (hlen : ts.length ≤ 1000) :
    SpecW w 170 [.ref l] [] 4 16 h (fun h' v news' => ∃ a k vs, v = Value.ref a ∧ (a, W.listOf vs k) ∈ news' ∧ LRs (Led news') ((jp ts).map npD) vs.toList) := by
  (( unfold SpecW; k_fill; refine' Spec.plain (ho := ?ho) (hcd := ?hcd) (hbind := ?hbind) (hloc := ?hloc) (hcell := ?hcell) (hco := ?hco) (hgen := ?hgen) (hk := ?hk) (hb := ?hbEnter); (case ho => k_is); (case hcd => k_is); (case hbind => intro s hX; first | exact BindsTo.of_eq rfl); (case hloc => exact locs rfl); (case hcell => decide); (case hco => exact rfl); (case hgen => exact rfl); (case hk => exact rfl)))
  intro g L dp un gd outer A₀ base p loose mean mg mb s hg F N B X T hd hu
  replace hp := hp.mono (P' := HAt g) (fun b o e => hg b o e (by simp))
  have hTmp := hp.isList fun _ _ e => e
  refine hide fun gX gk => ?_
  obtain ⟨vs, hl, hit⟩ := hTmp
  refine gk ?_
  clear gk gX
  have hvl : vs.length = ts.length := by simpa using hit.length
  have hat : ∀ i, i < ts.length → ∃ t, vs[i]? = some (Value.str (tyAt ts i) t) := fun i hi => by
    have hTmp := hit.get (i := i) (d := .str (tyAt ts i)) (by simp [tyAt, List.getD_eq_getElem?_getD, hi])
    refine hide fun gX gk => ?_
    obtain ⟨v, hv1, hv2⟩ := hTmp
    refine gk ?_
    clear gk gX
    obtain ⟨t, rfl⟩ := hv2.strE
    exact ⟨t, hv1⟩
  (repeat' ((fail_if_success (with_reducible show LCg.CompSrc _ _ _ _ _ _ _ _ _ _ _ _ _ _)); (fail_if_success (with_reducible show wpAny _ _ (pyIter (Value.ref _)) _ _ _)); (fail_if_success (with_reducible show wpAny _ _ (exec (Stmt.While _ _ _ _) _) _ _ _)); (fail_if_success (with_reducible show wpAny _ _ (compareOp _ (Value.ref _) (Value.ref _)) _ _ _)); first | walk1 | (dsimp only; walk1)))
  rename_i fl h1 l1 h2 h3 F0 N0 h4 tk1 t1 u1 v1 hr F1 N1 hk1
  refine iter_range0 (n := ts.length) (fun i m σ => ∃ fvs k tups t, σ = (fl, W.listOf fvs k) :: tups ∧ LRs (Led tups) ((jpS ts i).1.map npD) fvs.toList ∧ (∀ p ∈ tups, p.1 ≠ fl) ∧ fvs.size ≤ i ∧
    (∀ j, (jpS ts i).2 = some j → j < i) ∧ m (Str.ofString "last") = some (.int (lastI (jpS ts i).2) t) ∧ m (Str.ofString "found") = some (.ref fl) ∧ m (Str.ofString "types") = some (.ref l)) rfl F1 N1 hr (by simp [hvl]) (by omega)
    ⟨_, _, [], _, rfl, LRs.nil, by simp, by simp, by simp [jpS], by rfl, by rfl, by rfl⟩ ?_ ?_
  · rintro i ti m σ h₁ tk I io hi hTmp
    refine hide fun gX gk => ?_
    obtain ⟨fvs, k, tups, tl, rfl, hfv, hft, hfs, hjl, hm1, hm2, hm3⟩ := hTmp
    refine gk ?_
    clear gk gX
    rintro F₁ N₁ off hic
    have off0 := off
    replace off := offN_of off
    simp only [OffN] at off
    obtain ⟨t2, hx⟩ := hat i hi
    cases hj : (jpS ts i).2 with
    | none =>
      rw [hj] at hm1
      dsimp only [lastI] at hm1
      (repeat' ((fail_if_success (with_reducible show LCg.CompSrc _ _ _ _ _ _ _ _ _ _ _ _ _ _)); (fail_if_success (with_reducible show wpAny _ _ (pyIter (Value.ref _)) _ _ _)); (fail_if_success (with_reducible show wpAny _ _ (exec (Stmt.While _ _ _ _) _) _ _ _)); (fail_if_success (with_reducible show wpAny _ _ (compareOp _ (Value.ref _) (Value.ref _)) _ _ _)); first | walk1 | (dsimp only; walk1)))
      · rename (_ != _) = true => hT
        walk_at "my_turn"
        case σ => exact (fl, W.listOf fvs k) :: tups
        case sub => simp; intros; simp [*]
        case off => exact fun p hp => .inl (off0 p hp)
        rw [jpS_none hT hj]
        exact ⟨fvs, k, tups, _, rfl, hfv, hft, by omega, by simp, by rfl, hm2, hm3⟩
      · rename (_ != _) = false => hT
        walk_at "my_turn"
        case σ => exact (fl, W.listOf fvs k) :: tups
        case sub => simp; intros; simp [*]
        case off => exact fun p hp => .inl (off0 p hp)
        rw [jpS_T hT]
        exact ⟨fvs, k, tups, _, rfl, hfv, hft, by omega, fun j hj' => Nat.lt_succ_of_lt (hjl j hj'), by rw [hj]; exact hm1, hm2, hm3⟩
    | some j =>
      rw [hj] at hm1
      dsimp only [lastI] at hm1
      have hji := hjl j hj
      obtain ⟨t3, hx3⟩ := hat j (by omega)
      (repeat' ((fail_if_success (with_reducible show LCg.CompSrc _ _ _ _ _ _ _ _ _ _ _ _ _ _)); (fail_if_success (with_reducible show wpAny _ _ (pyIter (Value.ref _)) _ _ _)); (fail_if_success (with_reducible show wpAny _ _ (exec (Stmt.While _ _ _ _) _) _ _ _)); (fail_if_success (with_reducible show wpAny _ _ (compareOp _ (Value.ref _) (Value.ref _)) _ _ _)); first | walk1 | (dsimp only; walk1)))
      · rename (_ != _) = true => hT
        rename jOn _ = _ => hOn
        rename jBack _ = _ => hBack
        rename_i D _ l1 _ _ _ _
        walk_at "my_turn"
        case σ => exact (fl, W.listOf (fvs.push (Value.ref D)) (k + 1)) :: (D, { cls := .type "tuple", data := .seq [Value.int (j : Int) tl, Value.int (i : Int) ti].toArray }) :: tups
        case sub => exact fun p hp => by simp only [List.mem_cons] at hp ⊢; rcases hp with rfl | rfl | hp <;> simp [*]
        case off =>
          intro p hp
          rcases List.mem_cons.mp hp with rfl | hp
          · exact .inl off.1
          · rcases List.mem_cons.mp hp with rfl | hp
            · exact .inl (Nat.ne_of_gt l1.1)
            · exact .inl (off0 _ (.tail _ hp))
        rw [jpS_some hT hj, hOn, hBack]
        refine ⟨_, _, _, _, rfl, ?_, ?_, ?_, by simp, by rfl, hm2, hm3⟩
        · simp only [Bool.and_self, if_true, List.map_append, List.map_cons, List.map_nil, Array.toList_push]
          exact (hfv.sub fun p hp => .tail _ hp).snoc (LR.tupleI (.head _) (LRs.cons (LR.intI _ _) (LRs.cons (LR.intI _ _) LRs.nil)))
        · intro p hp
          rcases List.mem_cons.mp hp with rfl | hp
          · exact Nat.ne_of_gt l1.2.1
          · exact hft p hp
        · rw [Array.size_push]; omega
      · rename (_ != _) = true => hT
        rename jOn _ = _ => hOn
        rename jBack _ = _ => hBack
        walk_at "my_turn"
        case σ => exact (fl, W.listOf fvs k) :: tups
        case sub => simp; intros; simp [*]
        case off => exact fun p hp => .inl (off0 p hp)
        rw [jpS_some hT hj, hOn, hBack]
        exact ⟨fvs, k, tups, _, rfl, hfv, hft, by omega, by simp, by rfl, hm2, hm3⟩
      · rename (_ != _) = true => hT
        rename jOn _ = _ => hOn
        walk_at "my_turn"
        case σ => exact (fl, W.listOf fvs k) :: tups
        case sub => simp; intros; simp [*]
        case off => exact fun p hp => .inl (off0 p hp)
        rw [jpS_some hT hj, hOn]
        exact ⟨fvs, k, tups, _, rfl, hfv, hft, by omega, by simp, by rfl, hm2, hm3⟩
      · rename (_ != _) = false => hT
        walk_at "my_turn"
        case σ => exact (fl, W.listOf fvs k) :: tups
        case sub => simp; intros; simp [*]
        case off => exact fun p hp => .inl (off0 p hp)
        rw [jpS_T hT]
        exact ⟨fvs, k, tups, _, rfl, hfv, hft, by omega, fun j hj' => Nat.lt_succ_of_lt (hjl j hj'), by rw [hj]; exact hm1, hm2, hm3⟩
  · rintro m σ h₁ tk hTmp
    refine hide fun gX gk => ?_
    obtain ⟨fvs, k, tups, tl, rfl, hfv, hft, hfs, hjl, hm1, hm2, hm3⟩ := hTmp
    refine gk ?_
    clear gk gX
    rintro F₁ N₁
    (repeat' ((fail_if_success (with_reducible show LCg.CompSrc _ _ _ _ _ _ _ _ _ _ _ _ _ _)); (fail_if_success (with_reducible show wpAny _ _ (pyIter (Value.ref _)) _ _ _)); (fail_if_success (with_reducible show wpAny _ _ (exec (Stmt.While _ _ _ _) _) _ _ _)); (fail_if_success (with_reducible show wpAny _ _ (compareOp _ (Value.ref _) (Value.ref _)) _ _ _)); first | walk1 | (dsimp only; walk1)))
    walk_at "my_ret"
    case N => assumption
    exact ⟨fl, k, fvs, rfl, .head _, hfv.sub fun p hp => .tail _ hp⟩
theorem calm_7 : True := by w_top off; exact True.intro
local macro_rules | `(tactic| walk_at "my_idle") => `(tactic| skip)
def formS (b1 b2 : Bool) : Str := if b1 then (if b2 then Str.ofString "medi" else Str.ofString "fina") else if b2 then Str.ofString "init" else Str.ofString "isol"

theorem form_of_ok (w : World) {h : Heap} {b1 b2 : Bool} : SpecW w 177 [.bool b1, .bool b2] [] 2 8 h (fun h' v _ => ∃ t, v = .str (formS b1 b2) t) := by
  (( unfold SpecW; k_fill; refine' Spec.plain (ho := ?ho) (hcd := ?hcd) (hbind := ?hbind) (hloc := ?hloc) (hcell := ?hcell) (hco := ?hco) (hgen := ?hgen) (hk := ?hk) (hb := ?hbEnter); (case ho => k_is); (case hcd => k_is); (case hbind => intro s hX; first | exact BindsTo.of_eq rfl); (case hloc => exact locs rfl); (case hcell => decide); (case hco => exact rfl); (case hgen => exact rfl); (case hk => exact rfl)))
  intro g L dp un gd outer A₀ base p loose mean mg mb s hg F N B X T hd hu
  (repeat' ((fail_if_success (with_reducible show LCg.CompSrc _ _ _ _ _ _ _ _ _ _ _ _ _ _)); (fail_if_success (with_reducible show wpAny _ _ (pyIter (Value.ref _)) _ _ _)); (fail_if_success (with_reducible show wpAny _ _ (exec (Stmt.While _ _ _ _) _) _ _ _)); (fail_if_success (with_reducible show wpAny _ _ (compareOp _ (Value.ref _) (Value.ref _)) _ _ _)); first | walk1 | (dsimp only; walk1)))
  all_goals (walk_at "my_ret"; (case N => exact News.nil))
  all_goals (refine ⟨_, congrArg (fun x => Value.str x _) ?_⟩; unfold formS; simp [*])

theorem set_any {prog : Program} {w : World} {A : Around} {E : Value → Shared → Prop} {s : Shared} {h₀ : Heap} {L D : Addr} {m : Str → Option Value} {news news' : List (Addr × Obj)} {vs : Array Value} {n : Nat} {k : Int} {t : Tok} {v : Value} {Q : Unit → Shared → Prop}
    (F : Fr h₀ L s.heap m) (N : News h₀ L s.heap news) (U : Upd D (W.listOf vs n) (W.listOf (vs.setIfInBounds k.toNat v) n) news news') (h0 : 0 ≤ k) (h1 : k < vs.size) (hfit : k < 2 ^ 63)
    (h : ∀ h', Fr h₀ L h' m → News h₀ L h' news' → Q () { s with heap := h' }) : wpAny (model prog w) A (setItem (.ref D) (.int k t) v) Q E s := by
  have hTmp := U.split
  refine hide fun gX gk => ?_
  obtain ⟨pre, post, rfl, rfl, a, b⟩ := hTmp
  refine gk ?_
  clear gk gX
  have z := N (D, W.listOf vs n) (List.mem_append.mpr (.inr (.head _)))
  refine ki_setAt z.1 h0 hfit (by omega) (h _ (F.change (Heap.SameBut.update ..) z.2.1 z.2.2) (ki_turn _ N a b rfl ?_))
  simp

def bArr (n : Nat) (f : Nat → Bool) : Array Value := ((List.range n).map fun a => Value.bool (f a)).toArray
theorem bArr_size (n : Nat) (f : Nat → Bool) : (bArr n f).size = n := by simp [bArr]
theorem bArr_get {n : Nat} {f : Nat → Bool} {i : Nat} (h : i < n) : (bArr n f)[i]? = some (Value.bool (f i)) := by simp [bArr, h]
theorem bArr_set (n : Nat) (f : Nat → Bool) (k : Nat) : (bArr n f).setIfInBounds k (.bool true) = bArr n (fun a => f a || k == a) := by
  apply Array.ext
  · simp [bArr]
  · intro i h1 h2
    simp only [bArr, List.size_toArray, List.length_map, List.length_range] at h2
    simp only [bArr, Array.getElem_setIfInBounds, List.getElem_toArray, List.getElem_map, List.getElem_range]
    by_cases hk : k = i
    · subst hk; simp
    · simp [hk]

theorem jpS_lt (ts : List Str) : ∀ i, (∀ p ∈ (jpS ts i).1, p.1 < p.2 ∧ p.2 < i) ∧ ∀ j, (jpS ts i).2 = some j → j < i
  | 0 => by simp [jpS]
  | i + 1 => by
    obtain ⟨h1, h2⟩ := jpS_lt ts i
    have h1' : ∀ p ∈ (jpS ts i).1, p.1 < p.2 ∧ p.2 < i + 1 := fun p hp => ⟨(h1 p hp).1, Nat.lt_succ_of_lt (h1 p hp).2⟩
    by_cases hT : tyAt ts i = Str.ofString "T"
    · rw [jpS_T (by simp [hT])]
      exact ⟨h1', fun j hj => Nat.lt_succ_of_lt (h2 j hj)⟩
    · have hT' : (tyAt ts i != Str.ofString "T") = true := by simpa using hT
      cases hj : (jpS ts i).2 with
      | none => rw [jpS_none hT' hj]; exact ⟨h1', by simp⟩
      | some l =>
        rw [jpS_some hT' hj]
        refine ⟨fun p hp => ?_, by simp⟩
        split at hp
        · rcases List.mem_append.mp hp with hp | hp
          · exact h1' p hp
          · rw [List.mem_singleton.mp hp]; exact ⟨h2 l hj, Nat.lt_succ_self _⟩
        · exact h1' p hp
theorem jp_lt {ts : List Str} {p : Nat × Nat} (hp : p ∈ jp ts) : p.1 < p.2 ∧ p.2 < ts.length := (jpS_lt ts ts.length).1 p hp

local macro_rules | `(tactic| walk_at "setItem ref int") => `(tactic| ((with_reducible show wpAny _ _ (setItem (Value.ref _) (Value.int _ _) (Value.bool _)) _ _ _); k_dflt (refine' set_any ?F ?N ?U ?h0 ?h1 ?hfit ?_; (case F => k_asm); (case N => k_asm); (case U => k_upd); (case h0 => omega); (case h1 => rw [bArr_size]; omega); (case hfit => omega)); intro h' F' N'; (try rw [bArr_set] at N')))

def formAt (ts : List Str) (a : Nat) : Str := if jBack (tyAt ts a) then formS ((jp ts).any (·.2 == a)) ((jp ts).any (·.1 == a)) else Str.ofString ""
theorem any_take_succ {α : Type} (f : α → Bool) {l : List α} {i : Nat} {x : α} (h : l[i]? = some x) : (l.take (i + 1)).any f = ((l.take i).any f || f x) := by
  rw [List.take_add_one, h]; simp
local macro_rules | `(tactic| walk_at "call ref") => `(tactic| ((show wpAny _ _ (PySem.call (Value.ref 177) _) _ _ _); refine' Spec.callP (form_of_ok _) ?B ?F ?X ?T ?N ?hk ?hd ?hu ?_; walk_at "my_args"; intro v' h' tk' n' F' N' K' P'; obtain ⟨t', e'⟩ := P'; subst e'; (try dsimp only)))
theorem StrsAre.snoc' {vs : List Value} {xs ys : List Str} (h : StrsAre vs xs) (x : Str) (t : Tok) (e : ys = xs ++ [x]) : StrsAre (vs ++ [Value.str x t]) ys := e ▸ StrsAre.snoc h x t
theorem forms_of_ok (w : World) {h : Heap} {l : Addr} {ts : List Str} (hp : LR (HAt h) (.list (ts.map .str)) (.ref l)) (hlen : ts.length ≤ 1000) :
    SpecW w 182 [.ref l] [] 8 24 h (fun h' v news' => ∃ a k vs, v = Value.ref a ∧ (a, W.listOf vs k) ∈ news' ∧ StrsAre vs.toList ((List.range ts.length).map (formAt ts))) := by
  (( unfold SpecW; k_fill; refine' Spec.cells (ho := ?ho) (hcd := ?hcd) (hbind := ?hbind) (hkind := ?hkind) (hnd := ?hnd) (hco := ?hco) (hgen := ?hgen) (hk := ?hk) (hb := ?hbEnter); (case ho => k_is); (case hcd => k_is); (case hbind => intro s hX; first | exact BindsTo.of_eq rfl); (case hkind => exact rfl); (case hnd => decide +kernel); (case hco => exact rfl); (case hgen => exact rfl); (case hk => exact rfl)))
  intro g L dp un gd outer A₀ base p loose mean mg mb s cells hg F N Y hlt B X T hd hu
  replace hp := hp.mono (P' := HAt g) (fun b o e => hg b o e (by simp))
  have hTmp := hp.isList fun _ _ e => e
  refine hide fun gX gk => ?_
  obtain ⟨vs, hl, hit⟩ := hTmp
  refine gk ?_
  clear gk gX
  have hvl : vs.length = ts.length := by simpa using hit.length
  have hat : ∀ i, i < ts.length → ∃ t, vs[i]? = some (Value.str (tyAt ts i) t) := fun i hi => by
    have hTmp := hit.get (i := i) (d := .str (tyAt ts i)) (by simp [tyAt, List.getD_eq_getElem?_getD, hi])
    refine hide fun gX gk => ?_
    obtain ⟨v, hv1, hv2⟩ := hTmp
    refine gk ?_
    clear gk gX
    obtain ⟨t, rfl⟩ := hv2.strE
    exact ⟨t, hv1⟩
  k_cells Y
  rename_i o1 o2 o3 hc1 hc2 hc3
  replace hc3 : o3.data = .cell (some (.ref l)) := hc3
  replace hc1 : o1.data = .cell none := hc1
  replace hc2 : o2.data = .cell none := hc2
  simp only [List.cons_append, List.nil_append] at N
  (repeat' ((fail_if_success (with_reducible show LCg.CompSrc _ _ _ _ _ _ _ _ _ _ _ _ _ _)); (fail_if_success (with_reducible show wpAny _ _ (pyIter (Value.ref _)) _ _ _)); (fail_if_success (with_reducible show wpAny _ _ (exec (Stmt.While _ _ _ _) _) _ _ _)); (fail_if_success (with_reducible show wpAny _ _ (compareOp _ (Value.ref _) (Value.ref _)) _ _ _)); first | walk1 | (dsimp only; walk1)))
  refine LCg.CompSrc.base rfl (by assumption) (by assumption) hl (by rw [sizeLine_eq, List.size_toArray]; omega) ?_
  intro g1
  refine comp_gen (fun i ys σ => σ = [(L + 1 + 1 + 1, o1), (L + 1 + 1, o2), (L + 1, o3)] ∧ ys = List.replicate i (Value.bool false)) ⟨rfl, rfl⟩ ?_ ?_
  · rintro i v ys σ I oI C oC D m₂ h tk E' hi hv ⟨rfl, rfl⟩ hC hx F N off ne
    (repeat' ((fail_if_success (with_reducible show LCg.CompSrc _ _ _ _ _ _ _ _ _ _ _ _ _ _)); (fail_if_success (with_reducible show wpAny _ _ (pyIter (Value.ref _)) _ _ _)); (fail_if_success (with_reducible show wpAny _ _ (exec (Stmt.While _ _ _ _) _) _ _ _)); (fail_if_success (with_reducible show wpAny _ _ (compareOp _ (Value.ref _) (Value.ref _)) _ _ _)); first | walk1 | (dsimp only; walk1)))
    walk_at "my_cend"
    case σ => exact [(L + 1 + 1 + 1, o1), (L + 1 + 1, o2), (L + 1, o3)]
    case sub => exact fun p hp => hp
    case off => exact off
    case hS => exact .inl hl
    exact ⟨rfl, by rw [List.replicate_succ']⟩
  rintro ys σ ⟨rfl, rfl⟩
  (repeat' ((fail_if_success (with_reducible show LCg.CompSrc _ _ _ _ _ _ _ _ _ _ _ _ _ _)); (fail_if_success (with_reducible show wpAny _ _ (pyIter (Value.ref _)) _ _ _)); (fail_if_success (with_reducible show wpAny _ _ (exec (Stmt.While _ _ _ _) _) _ _ _)); (fail_if_success (with_reducible show wpAny _ _ (compareOp _ (Value.ref _) (Value.ref _)) _ _ _)); first | walk1 | (dsimp only; walk1)))
  rename_i hb _ _ od1 _ o4 F1 N1 hc4
  refine LCg.CompSrc.base rfl (by assumption) (by assumption) hl (by rw [sizeLine_eq, List.size_toArray]; omega) ?_
  intro g2
  refine comp_gen (fun i ys σ => σ = [(hb, LCg.lst (List.replicate vs.toArray.size (Value.bool false))), (L + 1 + 1 + 1, o1), (L + 1 + 1, o4), (L + 1, o3)] ∧ ys = List.replicate i (Value.bool false)) ⟨rfl, rfl⟩ ?_ ?_
  · rintro i v ys σ I oI C oC D m₂ h tk E' hi hv ⟨rfl, rfl⟩ hC hx F N off ne
    (repeat' ((fail_if_success (with_reducible show LCg.CompSrc _ _ _ _ _ _ _ _ _ _ _ _ _ _)); (fail_if_success (with_reducible show wpAny _ _ (pyIter (Value.ref _)) _ _ _)); (fail_if_success (with_reducible show wpAny _ _ (exec (Stmt.While _ _ _ _) _) _ _ _)); (fail_if_success (with_reducible show wpAny _ _ (compareOp _ (Value.ref _) (Value.ref _)) _ _ _)); first | walk1 | (dsimp only; walk1)))
    walk_at "my_cend"
    case σ => exact [(hb, LCg.lst (List.replicate vs.toArray.size (Value.bool false))), (L + 1 + 1 + 1, o1), (L + 1 + 1, o4), (L + 1, o3)]
    case sub => exact fun p hp => hp
    case off => exact off
    case hS => exact .inl hl
    exact ⟨rfl, by rw [List.replicate_succ']⟩
  rintro ys σ ⟨rfl, rfl⟩
  (repeat' ((fail_if_success (with_reducible show LCg.CompSrc _ _ _ _ _ _ _ _ _ _ _ _ _ _)); (fail_if_success (with_reducible show wpAny _ _ (pyIter (Value.ref _)) _ _ _)); (fail_if_success (with_reducible show wpAny _ _ (exec (Stmt.While _ _ _ _) _) _ _ _)); (fail_if_success (with_reducible show wpAny _ _ (compareOp _ (Value.ref _) (Value.ref _)) _ _ _)); first | walk1 | (dsimp only; walk1)))
  rename_i bh _ _ od2 _ o5 F2 N2 hc5
  refine' Spec.call0 (joined_pairs_ok _ ?hp hlen) ?B ?F ?X ?T ?N ?hk ?hd ?hu ?_
  case hp => exact hp.mono fun a o e => Fr.keep (by assumption) a o e
  walk_at "my_args"
  rintro v h5 tk5 pl F5 N5 K5 off5 hTmp
  refine hide fun gX gk => ?_
  obtain ⟨pa, pk, pvs, rfl, hpm, hpl⟩ := hTmp
  refine gk ?_
  clear gk gX
  have hpvl : pvs.toList.length = (jp ts).length := by simpa using hpl.length
  have hrep : (List.replicate vs.toArray.size (Value.bool false)).toArray = bArr ts.length fun _ => false := by
    unfold bArr; rw [List.size_toArray, hvl]; congr 1; simp [List.map_const']
  have hoff5 : (∀ p ∈ pl, p.1 ≠ hb) ∧ (∀ p ∈ pl, p.1 ≠ bh) := ⟨fun p hp => Ne.symm (off5 p hp (hb, LCg.lst (List.replicate vs.toArray.size (Value.bool false))) (by simp)), fun p hp => Ne.symm (off5 p hp (bh, LCg.lst (List.replicate vs.toArray.size (Value.bool false))) (by simp))⟩
  have hlst : LCg.lst (List.replicate vs.toArray.size (Value.bool false)) = W.listOf (bArr ts.length fun _ => false) ts.length := by
    show ({ cls := Value.type "list", data := .seq (List.replicate vs.toArray.size (Value.bool false)).toArray (List.replicate vs.toArray.size (Value.bool false)).length } : Obj) = _
    rw [hrep, List.length_replicate, List.size_toArray, hvl]
  rw [hlst] at N5
  have N6 : News g L h5 ((hb, W.listOf (bArr ts.length fun a => ((jp ts).take 0).any (·.2 == a)) ts.length) :: (bh, W.listOf (bArr ts.length fun a => ((jp ts).take 0).any (·.1 == a)) ts.length) :: (L + 1 + 1 + 1, o5) :: (L + 1 + 1, o4) :: (L + 1, o3) :: pl) := by
    refine News.sub N5 fun p hp => ?_
    simp only [List.take_zero, List.any_nil, List.mem_cons, List.mem_append] at hp ⊢
    rcases hp with h | h | h | h | h | h <;> simp [h]
  have hcell : (L + 1 + 1 + 1 ≠ hb ∧ L + 1 + 1 + 1 ≠ bh ∧ L + 1 + 1 ≠ hb ∧ L + 1 + 1 ≠ bh ∧ L + 1 ≠ hb ∧ L + 1 ≠ bh) ∧ hb ≠ bh := ⟨⟨od1.1, od2.2.1, od1.2.1, od2.2.2.1, od1.2.2, od2.2.2.2⟩, od2.1⟩
  obtain ⟨hp1, hp2⟩ := hoff5
  refine iter_list (l := pa) (lo := W.listOf pvs pk) (its := pvs.toList) (k := pk) (fun i m σ => ∃ k1 k2, σ = (hb, W.listOf (bArr ts.length fun a => ((jp ts).take i).any (·.2 == a)) k1) :: (bh, W.listOf (bArr ts.length fun a => ((jp ts).take i).any (·.1 == a)) k2) :: (L + 1 + 1 + 1, o5) :: (L + 1 + 1, o4) :: (L + 1, o3) :: pl)
    rfl F5 N6 (by simp [W.listOf]) (by rintro i m σ ⟨k1, k2, rfl⟩; simp [hpm]) ⟨_, _, rfl⟩ ?_ ?_
  · rintro i v m σ h₁ tk I io hv hTmp
    refine hide fun gX gk => ?_
    obtain ⟨k1, k2, rfl⟩ := hTmp
    refine gk ?_
    clear gk gX
    rintro F₁ N₁ off hic
    have hTmp := hpl.at hv
    refine hide fun gX gk => ?_
    obtain ⟨dd, hd1, hd2⟩ := hTmp
    refine gk ?_
    clear gk gX
    obtain ⟨⟨a, b⟩, hab, rfl⟩ : ∃ q, (jp ts)[i]? = some q ∧ npD q = dd := by simpa using hd1
    have hlt := jp_lt (List.mem_of_getElem? hab)
    dsimp only at hlt
    have off0 := off
    replace off := offN_of off
    simp only [OffN] at off
    have hTmp := prD.elim (r := ((a : Int), (b : Int))) hd2 fun x o e => (N₁ (x, o) (by simp [e])).1
    refine hide fun gX gk => ?_
    obtain ⟨ta, t1, t2, rfl, ht⟩ := hTmp
    refine gk ?_
    clear gk gX
    (repeat' ((fail_if_success (with_reducible show LCg.CompSrc _ _ _ _ _ _ _ _ _ _ _ _ _ _)); (fail_if_success (with_reducible show wpAny _ _ (pyIter (Value.ref _)) _ _ _)); (fail_if_success (with_reducible show wpAny _ _ (exec (Stmt.While _ _ _ _) _) _ _ _)); (fail_if_success (with_reducible show wpAny _ _ (compareOp _ (Value.ref _) (Value.ref _)) _ _ _)); first | walk1 | (dsimp only; walk1)))
    rename_i F9 N9
    simp only [Int.toNat_natCast] at N9
    have e1 : (fun x => ((jp ts).take (i + 1)).any (·.2 == x)) = fun x => ((jp ts).take i).any (·.2 == x) || (b == x) := funext fun x => any_take_succ _ hab
    have e2 : (fun x => ((jp ts).take (i + 1)).any (·.1 == x)) = fun x => ((jp ts).take i).any (·.1 == x) || (a == x) := funext fun x => any_take_succ _ hab
    rw [← e1, ← e2] at N9
    walk_at "my_turn"
    case σ => exact (hb, W.listOf (bArr ts.length fun x => ((jp ts).take (i + 1)).any (·.2 == x)) k1) :: (bh, W.listOf (bArr ts.length fun x => ((jp ts).take (i + 1)).any (·.1 == x)) k2) :: (L + 1 + 1 + 1, o5) :: (L + 1 + 1, o4) :: (L + 1, o3) :: pl
    case sub => exact fun p hp => .tail _ hp
    case off =>
      intro p hp
      rcases List.mem_cons.mp hp with rfl | hp
      · exact .inl off.1
      · rcases List.mem_cons.mp hp with rfl | hp
        · exact .inl off.2.1
        · exact .inl (off0 p (.tail _ (.tail _ hp)))
    exact ⟨_, _, rfl⟩
  · rintro m σ h₁ tk hTmp
    refine hide fun gX gk => ?_
    obtain ⟨k1, k2, rfl⟩ := hTmp
    refine gk ?_
    clear gk gX
    rintro F₁ N₁
    rw [hpvl, List.take_length] at N₁
    (repeat' ((fail_if_success (with_reducible show LCg.CompSrc _ _ _ _ _ _ _ _ _ _ _ _ _ _)); (fail_if_success (with_reducible show wpAny _ _ (pyIter (Value.ref _)) _ _ _)); (fail_if_success (with_reducible show wpAny _ _ (exec (Stmt.While _ _ _ _) _) _ _ _)); (fail_if_success (with_reducible show wpAny _ _ (compareOp _ (Value.ref _) (Value.ref _)) _ _ _)); first | walk1 | (dsimp only; walk1)))
    rename_i h7 tk7 t1 u1 v1 hr F7 N7 hk7
    rw [show vs.toArray.size = ts.length by simp [hvl]] at hr
    refine LCg.CompSrc.range (n := ts.length) rfl (by assumption) (by assumption) hr (small_one (by omega) (by omega) (by omega) (by omega)) (by rw [rangeSize_one]; split <;> omega) (by rw [sizeLine_eq]; omega) ?_
    intro g3
    refine comp_gen (fun i ys σ => σ = (hb, W.listOf (bArr ts.length fun x => (jp ts).any (·.2 == x)) k1) :: (bh, W.listOf (bArr ts.length fun x => (jp ts).any (·.1 == x)) k2) :: (L + 1 + 1 + 1, o5) :: (L + 1 + 1, o4) :: (L + 1, o3) :: pl ∧
      StrsAre ys ((List.range i).map (formAt ts))) ⟨rfl, StrsAre.nil⟩ ?_ ?_
    · rintro i v ys σ I oI C oC D m₂ h tk E' hi ⟨tv, rfl⟩ ⟨rfl, hys⟩ hC hx F N off ne
      rw [Int.zero_add] at hx
      obtain ⟨t2, hx2⟩ := hat i hi
      have hb1 := bArr_get (f := fun x => (jp ts).any (·.2 == x)) hi
      have hb2 := bArr_get (f := fun x => (jp ts).any (·.1 == x)) hi
      (repeat' ((fail_if_success (with_reducible show LCg.CompSrc _ _ _ _ _ _ _ _ _ _ _ _ _ _)); (fail_if_success (with_reducible show wpAny _ _ (pyIter (Value.ref _)) _ _ _)); (fail_if_success (with_reducible show wpAny _ _ (exec (Stmt.While _ _ _ _) _) _ _ _)); (fail_if_success (with_reducible show wpAny _ _ (compareOp _ (Value.ref _) (Value.ref _)) _ _ _)); first | walk1 | (dsimp only; walk1)))
      all_goals (
        rename jBack _ = _ => hB
        walk_at "my_cend"
        case σ => exact (hb, W.listOf (bArr ts.length fun x => (jp ts).any (·.2 == x)) k1) :: (bh, W.listOf (bArr ts.length fun x => (jp ts).any (·.1 == x)) k2) :: (L + 1 + 1 + 1, o5) :: (L + 1 + 1, o4) :: (L + 1, o3) :: pl
        case sub => exact fun p hp => hp
        case off => exact off
        case hS => trivial
        refine ⟨rfl, StrsAre.snoc' hys _ _ ?_⟩
        rw [List.range_succ, List.map_append, List.map_cons, List.map_nil]
        unfold formAt
        simp [hB])
    · rintro ys σ ⟨rfl, hys⟩
      (repeat' ((fail_if_success (with_reducible show LCg.CompSrc _ _ _ _ _ _ _ _ _ _ _ _ _ _)); (fail_if_success (with_reducible show wpAny _ _ (pyIter (Value.ref _)) _ _ _)); (fail_if_success (with_reducible show wpAny _ _ (exec (Stmt.While _ _ _ _) _) _ _ _)); (fail_if_success (with_reducible show wpAny _ _ (compareOp _ (Value.ref _) (Value.ref _)) _ _ _)); first | walk1 | (dsimp only; walk1)))
      walk_at "my_ret"
      case N => assumption
      exact ⟨_, _, _, rfl, .head _, by simpa using hys⟩
section
theorem calm_8 : True := by w_top off; exact True.intro
/-- what a dict of an Info tells -/
structure InfoD (es : List DictEntry) (code cluster mask : Int) (uns : Bool) : Prop where
  code : ∃ t, getL (Str.ofString "code") es = some (some (.int code t))
  glyph : ∃ t, getL (Str.ofString "glyph") es = some (some (.int 7 t))
  cluster : ∃ t, getL (Str.ofString "cluster") es = some (some (.int cluster t))
  mask : ∃ t, getL (Str.ofString "mask") es = some (some (.int mask t))
  uns : getL (Str.ofString "is_unsafe") es = some (some (.bool uns))
  xa : ∃ t, getL (Str.ofString "x_advance") es = some (some (.int 0 t))
  ya : ∃ t, getL (Str.ofString "y_advance") es = some (some (.int 0 t))
  xo : ∃ t, getL (Str.ofString "x_offset") es = some (some (.int 0 t))
  yo : ∃ t, getL (Str.ofString "y_offset") es = some (some (.int 0 t))
  len : es.length ≤ 100
  told : getL (Str.ofString "told") es = some none

structure Inf where
  x : Addr
  dx : Addr
  es : List DictEntry
  n : Nat
  code : Int
  cluster : Int
  mask : Int
  uns : Bool
def Inf.ok (i : Inf) : Prop := InfoD i.es i.code i.cluster i.mask i.uns
abbrev Inf.dict (i : Inf) : Addr × Obj := (i.dx, dictOf i.es i.n)
def SameI (a b : Inf) : Prop := a.x = b.x ∧ a.dx = b.dx ∧ a.code = b.code ∧ a.cluster = b.cluster
theorem SameI.refl (a : Inf) : SameI a a := ⟨rfl, rfl, rfl, rfl⟩
theorem SameI.trans {a b c : Inf} (h : SameI a b) (k : SameI b c) : SameI a c := ⟨h.1.trans k.1, h.2.1.trans k.2.1, h.2.2.1.trans k.2.2.1, h.2.2.2.trans k.2.2.2⟩

theorem isStr_eq {v : Value} {a b : Str} (h : v.isStr a = true) : v.isStr b = (a == b) := by
  cases v <;> simp [Value.isStr] at h ⊢
  subst h; rfl

def getF (name : Str) (es : List DictEntry) : Option Value := (es.find? (·.key.isStr name)).map (·.val)
theorem getL_iff {name : Str} {es : List DictEntry} {w : Value} : getL name es = some (some w) ↔ getF name es = some w := by
  unfold getL getF
  cases es.find? (·.key.isStr name) with
  | some e => simp
  | none =>
    simp only [Option.map_none]
    by_cases h : es.any (·.refKey) = true
    · simp [h]
    · simp [h]
theorem getF_putL (name x : Str) (hsh : Int) (key v : Value) : ∀ es : List DictEntry, (getF name es).isSome = true → getF x (putL name hsh key v es) = if x = name then some v else getF x es
  | [], h => by simp [getF] at h
  | e :: r, h => by
    unfold putL
    by_cases he : e.key.isStr name = true
    · rw [if_pos he]
      have hx := isStr_eq (b := x) he
      by_cases hn : x = name
      · subst hn; simp [getF, he]
      · have hne : (name == x) = false := by simpa using fun e => hn e.symm
        rw [hne] at hx
        simp only [getF, List.find?_cons, hx, if_neg hn]
    · rw [if_neg he]
      have he' : e.key.isStr name = false := by simpa using he
      have hg : (getF name r).isSome = true := by simpa only [getF, List.find?_cons, he'] using h
      have ih := getF_putL name x hsh key v r hg
      by_cases hx : e.key.isStr x = true
      · have hn : ¬ x = name := fun q => by rw [q] at hx; exact he hx
        simp [getF, hx, hn]
      · have hx' : e.key.isStr x = false := by simpa using hx
        simpa only [getF, List.find?_cons, hx'] using ih
theorem putL_length (name : Str) (hsh : Int) (key v : Value) : ∀ es : List DictEntry, (getF name es).isSome = true → (putL name hsh key v es).length = es.length
  | [], h => by simp [getF] at h
  | e :: r, h => by
    unfold putL
    by_cases he : e.key.isStr name = true
    · rw [if_pos he]; rfl
    · rw [if_neg he]
      have he' : e.key.isStr name = false := by simpa using he
      have hg : (getF name r).isSome = true := by simpa only [getF, List.find?_cons, he'] using h
      simp [putL_length name hsh key v r hg]
theorem getL_put_same {name : Str} {hsh : Int} {key v w : Value} {es : List DictEntry} (h : getL name es = some (some w)) : getL name (putL name hsh key v es) = some (some v) := by
  rw [getL_iff, getF_putL _ _ _ _ _ _ (by rw [getL_iff.mp h]; rfl), if_pos rfl]
theorem getL_put_other {name x : Str} {hsh : Int} {key v w u : Value} {es : List DictEntry} (h : getL name es = some (some w)) (k : getL x es = some (some u)) (hn : x ≠ name) : getL x (putL name hsh key v es) = some (some u) := by
  rw [getL_iff, getF_putL _ _ _ _ _ _ (by rw [getL_iff.mp h]; rfl), if_neg hn]
  exact getL_iff.mp k

theorem getF_of_none {x : Str} {es : List DictEntry} (h : getL x es = some none) : getF x es = none ∧ es.any (·.refKey) = false := by
  unfold getL at h
  unfold getF
  cases e : es.find? (·.key.isStr x) with
  | some d => rw [e] at h; cases h
  | none =>
    rw [e] at h
    dsimp only at h
    refine ⟨rfl, ?_⟩
    by_cases q : es.any (·.refKey) = true
    · rw [if_pos q] at h; cases h
    · simpa using q
theorem none_of_getF {x : Str} {es : List DictEntry} (h : getF x es = none) (k : es.any (·.refKey) = false) : getL x es = some none := by
  unfold getF at h
  unfold getL
  have : es.find? (·.key.isStr x) = none := by simpa using h
  rw [this]
  dsimp only
  rw [k]; rfl
theorem putL_refKey (name : Str) (hsh : Int) (key v : Value) : ∀ es : List DictEntry, (getF name es).isSome = true → (putL name hsh key v es).any (·.refKey) = es.any (·.refKey)
  | [], h => by simp [getF] at h
  | e :: r, h => by
    unfold putL
    by_cases he : e.key.isStr name = true
    · rw [if_pos he]; rfl
    · rw [if_neg he]
      have he' : e.key.isStr name = false := by simpa using he
      have hg : (getF name r).isSome = true := by simpa only [getF, List.find?_cons, he'] using h
      rw [List.any_cons, List.any_cons, putL_refKey name hsh key v r hg]
theorem getL_put_none {name x : Str} {hsh : Int} {key v w : Value} {es : List DictEntry} (h : getL name es = some (some w)) (k : getL x es = some none) (hn : x ≠ name) : getL x (putL name hsh key v es) = some none := by
  have hs : (getF name es).isSome = true := by rw [getL_iff.mp h]; rfl
  exact none_of_getF (by rw [getF_putL _ _ _ _ _ _ hs, if_neg hn]; exact (getF_of_none k).1) (by rw [putL_refKey _ _ _ _ _ hs]; exact (getF_of_none k).2)

theorem InfoD.putMask {es : List DictEntry} {c cl mk : Int} {u : Bool} (h : InfoD es c cl mk u) (hsh : Int) (key : Value) (k : Int) (t : Tok) : InfoD (putL (Str.ofString "mask") hsh key (.int k t) es) c cl k u := by
  obtain ⟨⟨t1, h1⟩, ⟨t2, h2⟩, ⟨t3, h3⟩, ⟨t4, h4⟩, h5, ⟨t6, h6⟩, ⟨t7, h7⟩, ⟨t8, h8⟩, ⟨t9, h9⟩, h10, h11⟩ := h
  exact ⟨⟨t1, getL_put_other h4 h1 (by decide)⟩, ⟨t2, getL_put_other h4 h2 (by decide)⟩, ⟨t3, getL_put_other h4 h3 (by decide)⟩, ⟨t, getL_put_same h4⟩, getL_put_other h4 h5 (by decide),
    ⟨t6, getL_put_other h4 h6 (by decide)⟩, ⟨t7, getL_put_other h4 h7 (by decide)⟩, ⟨t8, getL_put_other h4 h8 (by decide)⟩, ⟨t9, getL_put_other h4 h9 (by decide)⟩, by rw [putL_length _ _ _ _ _ (by rw [getL_iff.mp h4]; rfl)]; exact h10, getL_put_none h4 h11 (by decide)⟩
theorem InfoD.putUns {es : List DictEntry} {c cl mk : Int} {u : Bool} (h : InfoD es c cl mk u) (hsh : Int) (key : Value) (b : Bool) : InfoD (putL (Str.ofString "is_unsafe") hsh key (.bool b) es) c cl mk b := by
  obtain ⟨⟨t1, h1⟩, ⟨t2, h2⟩, ⟨t3, h3⟩, ⟨t4, h4⟩, h5, ⟨t6, h6⟩, ⟨t7, h7⟩, ⟨t8, h8⟩, ⟨t9, h9⟩, h10, h11⟩ := h
  exact ⟨⟨t1, getL_put_other h5 h1 (by decide)⟩, ⟨t2, getL_put_other h5 h2 (by decide)⟩, ⟨t3, getL_put_other h5 h3 (by decide)⟩, ⟨t4, getL_put_other h5 h4 (by decide)⟩, getL_put_same h5,
    ⟨t6, getL_put_other h5 h6 (by decide)⟩, ⟨t7, getL_put_other h5 h7 (by decide)⟩, ⟨t8, getL_put_other h5 h8 (by decide)⟩, ⟨t9, getL_put_other h5 h9 (by decide)⟩, by rw [putL_length _ _ _ _ _ (by rw [getL_iff.mp h5]; rfl)]; exact h10, getL_put_none h5 h11 (by decide)⟩

/-- a buffer over these infos, its own parts told by P -/
structure BufAt (P : Addr → Obj → Prop) (b : Addr) (infs : List Inf) : Prop where
  inst : ∃ db bes bn r k, P b (instObj 100 db) ∧ P db (dictOf bes bn) ∧ getL (Str.ofString "row") bes = some (some (.ref r)) ∧ P r (W.listOf (infs.map fun i => Value.ref i.x).toArray k)
  rows : ∀ i ∈ infs, P i.x (instObj 52 i.dx)
theorem BufAt.mono {P P' : Addr → Obj → Prop} {b : Addr} {infs : List Inf} (h : BufAt P b infs) (k : ∀ a o, P a o → P' a o) : BufAt P' b infs := by
  obtain ⟨⟨db, bes, bn, r, n, h1, h2, h3, h4⟩, h5⟩ := h
  exact ⟨⟨db, bes, bn, r, n, k _ _ h1, k _ _ h2, h3, k _ _ h4⟩, fun i hi => k _ _ (h5 i hi)⟩
/-- infs' are infs after some stores -/
def Moved (infs' infs : List Inf) : Prop := infs'.length = infs.length ∧ ∀ (j : Nat) (a' a : Inf), infs'[j]? = some a' → infs[j]? = some a → SameI a' a
theorem Moved.refl (l : List Inf) : Moved l l := ⟨rfl, fun j a' a h k => by rw [h] at k; cases k; exact SameI.refl a'⟩
theorem Moved.trans {a b c : List Inf} (h : Moved a b) (k : Moved b c) : Moved a c :=
  ⟨h.1.trans k.1, fun j x z hx hz => by
    have hj : j < b.length := by rw [← h.1]; exact (List.getElem?_eq_some_iff.mp hx).1
    have hy : b[j]? = some b[j] := by simp [hj]
    exact (h.2 j x _ hx hy).trans (k.2 j _ z hy hz)⟩
theorem Moved.set {l' l : List Inf} (h : Moved l' l) {j : Nat} {a a' : Inf} (ha : l'[j]? = some a) (hs : SameI a' a) : Moved (l'.set j a') l :=
  ⟨by rw [List.length_set]; exact h.1, fun k x z hx hz => by
    by_cases hk : j = k
    · subst hk
      rw [List.getElem?_set_self (List.getElem?_eq_some_iff.mp ha).1] at hx
      cases hx
      exact hs.trans (h.2 _ _ _ ha hz)
    · rw [List.getElem?_set_ne hk] at hx
      exact h.2 _ _ _ hx hz⟩
theorem Moved.xs {l' l : List Inf} (h : Moved l' l) : l'.map (·.x) = l.map (·.x) := by
  apply List.ext_getElem
  · simp [h.1]
  · intro i h1 h2
    simp only [List.length_map] at h1 h2
    simp only [List.getElem_map]
    exact (h.2 i _ _ (by simp [h1]) (by simp [h2])).1
theorem Moved.dxs {l' l : List Inf} (h : Moved l' l) : l'.map (·.dx) = l.map (·.dx) := by
  apply List.ext_getElem
  · simp [h.1]
  · intro i h1 h2
    simp only [List.length_map] at h1 h2
    simp only [List.getElem_map]
    exact (h.2 i _ _ (by simp [h1]) (by simp [h2])).2.1
theorem BufAt.moved {P : Addr → Obj → Prop} {b : Addr} {l' l : List Inf} (h : BufAt P b l) (k : Moved l' l) : BufAt P b l' := by
  obtain ⟨⟨db, bes, bn, r, n, h1, h2, h3, h4⟩, h5⟩ := h
  refine ⟨⟨db, bes, bn, r, n, h1, h2, h3, ?_⟩, fun i hi => ?_⟩
  · have e : (l'.map fun i => Value.ref i.x) = l.map fun i => Value.ref i.x := by
      have := congrArg (List.map Value.ref) k.xs
      rw [List.map_map, List.map_map] at this
      exact this
    rw [e]; exact h4
  · obtain ⟨j, hj, rfl⟩ := List.getElem_of_mem hi
    have hj' : j < l.length := by rw [← k.1]; exact hj
    have s := k.2 j _ _ (by simp [hj] : l'[j]? = some l'[j]) (by simp [hj'] : l[j]? = some l[j])
    rw [s.1, s.2.1]
    exact h5 _ (List.getElem_mem _)

theorem Upd.mk {d : Addr} {o o' : Obj} : ∀ {pre post : List (Addr × Obj)}, (∀ p ∈ pre, p.1 ≠ d) → (∀ p ∈ post, p.1 ≠ d) → Upd d o o' (pre ++ (d, o) :: post) (pre ++ (d, o') :: post)
  | [], _, _, h => .head h
  | p :: _, _, h, k => .tail (h p (.head _)) (Upd.mk (fun q hq => h q (.tail _ hq)) k)
/-- the store into the j-th dict of the row -/
theorem upd_inf {infs : List Inf} {j : Nat} {a a' : Inf} (ha : infs[j]? = some a) (hnd : (infs.map (·.dx)).Nodup) (hd : a'.dx = a.dx) {front rest : List (Addr × Obj)} (hf : ∀ p ∈ front, p.1 ≠ a.dx) (hr : ∀ p ∈ rest, p.1 ≠ a.dx) :
    Upd a.dx (dictOf a.es a.n) (dictOf a'.es a'.n) (front ++ (infs.map Inf.dict ++ rest)) (front ++ ((infs.set j a').map Inf.dict ++ rest)) := by
  obtain ⟨hj, rfl⟩ := List.getElem?_eq_some_iff.mp ha
  have e1 : infs = infs.take j ++ infs[j] :: infs.drop (j + 1) := by rw [List.getElem_cons_drop, List.take_append_drop]
  have e2 : infs.set j a' = infs.take j ++ a' :: infs.drop (j + 1) := List.set_eq_take_append_cons_drop .. |>.trans (by rw [if_pos hj])
  have hn := hnd
  rw [e1, List.map_append, List.map_cons, List.nodup_append] at hn
  obtain ⟨n1, n2, n3⟩ := hn
  have q1 : front ++ (infs.map Inf.dict ++ rest) = (front ++ (infs.take j).map Inf.dict) ++ (infs[j].dx, dictOf infs[j].es infs[j].n) :: ((infs.drop (j + 1)).map Inf.dict ++ rest) := by
    have e3 : infs.map Inf.dict = (infs.take j).map Inf.dict ++ infs[j].dict :: (infs.drop (j + 1)).map Inf.dict := by
      rw [← List.map_cons, ← List.map_append, ← e1]
    rw [e3, List.append_assoc, List.append_assoc]
    rfl
  have q2 : front ++ ((infs.set j a').map Inf.dict ++ rest) = (front ++ (infs.take j).map Inf.dict) ++ (infs[j].dx, dictOf a'.es a'.n) :: ((infs.drop (j + 1)).map Inf.dict ++ rest) := by
    rw [e2]
    simp [Inf.dict, hd]
  rw [q1, q2]
  refine Upd.mk (fun p hp => ?_) (fun p hp => ?_)
  · rcases List.mem_append.mp hp with hp | hp
    · exact hf p hp
    · obtain ⟨i, hi, rfl⟩ := List.mem_map.mp hp
      exact n3 _ (List.mem_map.mpr ⟨i, hi, rfl⟩) _ (.head _)
  · rcases List.mem_append.mp hp with hp | hp
    · obtain ⟨i, hi, rfl⟩ := List.mem_map.mp hp
      rw [List.nodup_cons] at n2
      exact fun q => n2.1 (List.mem_map.mpr ⟨i, hi, q⟩)
    · exact hr p hp
theorem inst_of {h : Heap} {x C dx : Addr} {od : Obj} (hx : h.get? x = some (instObj C dx)) (hd : h.get? dx = some od) : InstAt h x (instObj C dx) C (some od) := ⟨hx, rfl, rfl, hd⟩

theorem set_info {prog : Program} {w : World} {A : Around} {E : Value → Shared → Prop} {s : Shared} {K : Frag} {h₀ : Heap} {L : Addr} {m : Str → Option Value} {infs : List Inf} {j : Nat} {a : Inf} {front rest : List (Addr × Obj)} {name : Str} {v w0 : Value} {Q : Unit → Shared → Prop}
    (F : Fr h₀ L s.heap m) (X₀ : K.In h₀) (N : News h₀ L s.heap (front ++ (infs.map Inf.dict ++ rest))) (hx : s.heap.get? a.x = some (instObj 52 a.dx)) (ha : infs[j]? = some a) (hnd : (infs.map (·.dx)).Nodup)
    (hf : ∀ p ∈ front, p.1 ≠ a.dx) (hr : ∀ p ∈ rest, p.1 ≠ a.dx)
    (hs : findIn K (.ref 52) "__setattr__" = some (some (.builtin "object.__setattr__"))) (hp : plainOver K 52 = true) (ht : takerIn K 52 name = some none) (hh : hasDictIn K 52 = true) (hl : getL name a.es = some (some w0)) (hlen : a.es.length ≤ 100)
    (h : ∀ h' hsh key n', Fr h₀ L h' m → (∀ a' : Inf, a'.dx = a.dx → a'.es = putL name hsh key v a.es → a'.n = n' → News h₀ L h' (front ++ ((infs.set j a').map Inf.dict ++ rest))) → Q () { s with heap := h', toks := s.toks + 2 }) :
    wpAny (model prog w) A (setAttr (.ref a.x) name v) Q E s := by
  have hm : (a.dx, dictOf a.es a.n) ∈ front ++ (infs.map Inf.dict ++ rest) := List.mem_append_right _ (List.mem_append_left _ (List.mem_map.mpr ⟨a, List.mem_of_getElem? ha, rfl⟩))
  have hU := fun (es' : List DictEntry) (n' : Nat) => upd_inf (a' := { a with es := es', n := n' }) ha hnd rfl hf hr
  refine set_dict (es' := putL name (PyData.keyHash w.params name) (.str name (s.toks + 1)) v a.es) (n' := putN name a.es a.n) F X₀ N (inst_of hx (N.get hm)) rfl hs hp ht hh (by rw [hl]; rfl) rfl (hU _ _) (by rw [putL_length _ _ _ _ _ (by rw [getL_iff.mp hl]; rfl)]; omega) fun h' F' N' => h h' (PyData.keyHash w.params name) (.str name (s.toks + 1)) (putN name a.es a.n) F' fun a' e1 e2 e3 => ?_
  have e : ∀ b : Inf, b.dict = a'.dict → (infs.set j b).map Inf.dict = (infs.set j a').map Inf.dict := fun b hb => by
    rw [List.map_set, List.map_set, hb]
  have e4 := e { a with es := putL name (PyData.keyHash w.params name) (.str name (s.toks + 1)) v a.es, n := putN name a.es a.n } (by simp only [Inf.dict, e1, e2, e3])
  have N2 : News h₀ L h' (front ++ ((infs.set j { a with es := putL name (PyData.keyHash w.params name) (.str name (s.toks + 1)) v a.es, n := putN name a.es a.n }).map Inf.dict ++ rest)) := N'
  rw [e4] at N2
  exact N2
end
local macro_rules | `(tactic| walk_at "my_inst") => `(tactic| (refine' inst_of ?hx ?hd; (case hx => walk_at "my_at"); (case hd => walk_at "my_at")))
section
theorem calm_9 : True := by w_top off; exact True.intro
theorem pick_range {vs : List Value} {lo hi : Nat} (h2 : hi ≤ vs.length) (h1 : lo ≤ hi) : (slicePick vs.toArray (some (lo : Int)) (some (hi : Int)) none).toList = (vs.drop lo).take (hi - lo) := by
  have e : sliceBounds (some (lo : Int)) (some (hi : Int)) none vs.toArray.size = ((lo : Int), (hi : Int), 1) := by
    simp only [sliceBounds, Option.getD_none, show (1 : Int) > 0 by decide, if_true, if_neg (show ¬ ((lo : Int) < 0) by omega), if_neg (show ¬ ((hi : Int) < 0) by omega), List.size_toArray]
    congr 1
    · omega
    · congr 1
      omega
  rw [kmk_pick_nat _ e]

def Rising (infs : List Inf) : Prop := ∀ (i j : Nat) (a b : Inf), infs[i]? = some a → infs[j]? = some b → i ≤ j → a.cluster ≤ b.cluster
theorem hang_ok (w : World) {h : Heap} {b : Addr} {infs : List Inf} {lo hi : Nat} {tl tu : Tok} {c0 : Int}
    (hb : BufAt (HOut h ((infs.map Inf.dict).map (·.1))) b infs) (hok : ∀ i ∈ infs, i.ok) (hnd : (infs.map (·.dx)).Nodup) (hlo : lo < hi) (hhi : hi ≤ infs.length) (hlen : infs.length ≤ 1000)
    (hc0 : ∀ a, infs[lo]? = some a → a.cluster = c0) (hup : Rising infs) :
    SpecW w 109 [.ref b, .int lo tl, .int hi tu] (infs.map Inf.dict) 4 24 h (fun h' v news' => ∃ infs', Moved infs' infs ∧ news' = infs'.map Inf.dict ∧
      ∀ (j : Nat) (a' a : Inf), infs'[j]? = some a' → infs[j]? = some a → a'.ok ∧ a'.mask = a.mask ∧ a'.uns = (a.uns || (decide (lo ≤ j) && decide (j < hi) && decide (c0 < a.cluster)))) := by
  (( unfold SpecW; k_fill; refine' Spec.plain (ho := ?ho) (hcd := ?hcd) (hbind := ?hbind) (hloc := ?hloc) (hcell := ?hcell) (hco := ?hco) (hgen := ?hgen) (hk := ?hk) (hb := ?hbEnter); (case ho => k_is); (case hcd => k_is); (case hbind => intro s hX; first | exact BindsTo.of_eq rfl); (case hloc => exact locs rfl); (case hcell => decide); (case hco => exact rfl); (case hgen => exact rfl); (case hk => exact rfl)))
  intro g L dp un gd outer A₀ base p loose mean mg mb s hg F N B X T hd hu
  replace hb := hb.mono (P' := HAt g) (fun a o e => hg a o e.1 e.2)
  refine hide fun gX gk => ?_
  obtain ⟨⟨db, bes, bn, r, k, hb1, hb2, hb3, hb4⟩, hrow⟩ := hb
  refine gk ?_
  clear gk gX
  have hlb : g.IsList r (infs.map fun i => Value.ref i.x).toArray := ⟨_, hb4, rfl, _, rfl⟩
  have hpk := pick_range (vs := infs.map fun i => Value.ref i.x) (lo := lo) (hi := hi) (by simpa using hhi) (by omega)
  obtain ⟨zs, hzs⟩ : ∃ zs, zs = ((infs.map fun i => Value.ref i.x).drop lo).take (hi - lo) := ⟨_, rfl⟩
  rw [← hzs] at hpk
  have hz : zs.length = hi - lo := by rw [hzs]; simp; omega
  have hget : ∀ i, i < hi - lo → ∃ a, infs[lo + i]? = some a ∧ zs[i]? = some (Value.ref a.x) := fun i hi' => by
    have hlt : lo + i < infs.length := by omega
    refine ⟨infs[lo + i], by simp [hlt], ?_⟩
    rw [hzs, List.getElem?_take_of_lt hi', List.getElem?_drop]
    simp [hlt]
  clear hzs
  (repeat' ((fail_if_success (with_reducible show LCg.CompSrc _ _ _ _ _ _ _ _ _ _ _ _ _ _)); (fail_if_success (with_reducible show wpAny _ _ (pyIter (Value.ref _)) _ _ _)); (fail_if_success (with_reducible show wpAny _ _ (exec (Stmt.While _ _ _ _) _) _ _ _)); (fail_if_success (with_reducible show wpAny _ _ (compareOp _ (Value.ref _) (Value.ref _)) _ _ _)); first | walk1 | (dsimp only; walk1)))
  · rename_i h2
    have h1 : hi = lo + 1 := by simp only [List.size_toArray, hz] at h2; omega
    rename News _ _ _ _ => N1
    walk_at "my_ret"
    case N => exact (News.sub N1 (fun p hp => .tail _ hp) : News _ _ _ (infs.map Inf.dict))
    refine ⟨infs, Moved.refl _, rfl, fun j a' a ha' ha => ?_⟩
    obtain rfl : a' = a := by rw [ha] at ha'; exact (Option.some.inj ha').symm
    refine ⟨hok a' (List.mem_of_getElem? ha), rfl, ?_⟩
    by_cases hj : j = lo
    · subst hj
      simp [hc0 a' ha]
    · have : (decide (lo ≤ j) && decide (j < hi)) = false := by simp <;> omega
      simp [this]
  · rename_i D _ lD _ _ _ h2
    obtain ⟨cls, hcl⟩ : ∃ cls, cls = ((infs.drop lo).take (hi - lo)).map (·.cluster) := ⟨_, rfl⟩
    have hcls : ∀ i a, i < hi - lo → infs[lo + i]? = some a → cls[i]? = some a.cluster := fun i a hi' ha => by
      rw [hcl, List.getElem?_map, List.getElem?_take_of_lt hi', List.getElem?_drop, ha]; rfl
    refine LCg.CompSrc.ledger rfl (by assumption) (by assumption) (.head _) (by rw [sizeLine_eq, List.size_toArray]; omega) ?_
    intro g1
    refine comp_gen (fun i ys σ => σ = (D, W.listOf zs.toArray 0) :: infs.map Inf.dict ∧ IntsAre ys (cls.take i)) ⟨rfl, .nil⟩ ?_ ?_
    · rintro i v ys σ I oI C oC D2 m₂ h tk E' hi' hv ⟨rfl, hys⟩ hC hx F N off ne
      rw [List.size_toArray, hz] at hi'
      have hTmp := hget i hi'
      refine hide fun gX gk => ?_
      obtain ⟨a, ha, hza⟩ := hTmp
      refine gk ?_
      clear gk gX
      obtain rfl : v = Value.ref a.x := by
        have : zs[i]? = some v := by simpa using hv
        rw [hza] at this; exact (Option.some.inj this).symm
      have ham := List.mem_of_getElem? ha
      have hax := hrow a ham
      have had : (a.dx, dictOf a.es a.n) ∈ infs.map Inf.dict := List.mem_map.mpr ⟨a, ham, rfl⟩
      obtain ⟨t3, h3⟩ := (hok a ham).cluster
      (repeat' ((fail_if_success (with_reducible show LCg.CompSrc _ _ _ _ _ _ _ _ _ _ _ _ _ _)); (fail_if_success (with_reducible show wpAny _ _ (pyIter (Value.ref _)) _ _ _)); (fail_if_success (with_reducible show wpAny _ _ (exec (Stmt.While _ _ _ _) _) _ _ _)); (fail_if_success (with_reducible show wpAny _ _ (compareOp _ (Value.ref _) (Value.ref _)) _ _ _)); first | walk1 | (dsimp only; walk1)))
      walk_at "my_cend"
      case σ => exact (D, W.listOf zs.toArray 0) :: infs.map Inf.dict
      case sub => exact fun p hp => hp
      case off => exact off
      case hS => exact .inr ⟨_, .head _, rfl, _, rfl⟩
      refine ⟨rfl, ?_⟩
      rw [List.take_add_one, hcls i a hi' ha]
      exact IntsAre.append hys (.cons _ _ .nil)
    · rintro ys σ ⟨rfl, hys⟩
      rw [List.size_toArray, hz] at hys
      have hcll : cls.length = hi - lo := by rw [hcl]; simp; omega
      rw [List.take_of_length_le (by omega)] at hys
      (repeat' ((fail_if_success (with_reducible show LCg.CompSrc _ _ _ _ _ _ _ _ _ _ _ _ _ _)); (fail_if_success (with_reducible show wpAny _ _ (pyIter (Value.ref _)) _ _ _)); (fail_if_success (with_reducible show wpAny _ _ (exec (Stmt.While _ _ _ _) _) _ _ _)); (fail_if_success (with_reducible show wpAny _ _ (compareOp _ (Value.ref _) (Value.ref _)) _ _ _)); first | walk1 | (dsimp only; walk1)))
      rename_i M tM _ hMm hMl _ F1 N1
      have hM : M = c0 := by
        have hlt : lo < infs.length := by omega
        have h0 := hcls 0 infs[lo] (by omega) (by simp [hlt])
        have e0 := hc0 infs[lo] (by simp [hlt])
        refine Int.le_antisymm (e0 ▸ hMl _ (List.mem_of_getElem? h0)) ?_
        have hTmp := List.getElem_of_mem hMm
        refine hide fun gX gk => ?_
        obtain ⟨j, hj, rfl⟩ := hTmp
        refine gk ?_
        clear gk gX
        have hj' : j < hi - lo := by omega
        have hlj : lo + j < infs.length := by omega
        have := hcls j infs[lo + j] hj' (by simp [hlj])
        rw [List.getElem?_eq_getElem hj] at this
        rw [Option.some.inj this, ← e0]
        exact hup lo (lo + j) _ _ (by simp [hlt]) (by simp [hlj]) (by omega)
      subst hM
      have hDne : ∀ p ∈ infs.map Inf.dict, p.1 ≠ D := fun p hp => Nat.ne_of_lt (lD p hp)
      refine iter_list (l := D) (lo := W.listOf zs.toArray 0) (its := zs) (k := 0) (fun i m σ => ∃ infs', Moved infs' infs ∧ σ = (D, W.listOf zs.toArray 0) :: infs'.map Inf.dict ∧
        (∀ (j : Nat) (a' a : Inf), infs'[j]? = some a' → infs[j]? = some a → a'.ok ∧ a'.mask = a.mask ∧ a'.uns = (a.uns || (decide (lo ≤ j) && decide (j < lo + i) && decide (M < a.cluster)))) ∧
        m (Str.ofString "least_cluster") = some (.int M tM)) rfl F1 (News.sub N1 (fun p hp => .tail _ hp)) rfl (by rintro i m σ ⟨_, _, rfl, _⟩; exact .head _)
        ⟨infs, Moved.refl _, rfl, fun j a' a ha' ha => ?_, by rfl⟩ ?_ ?_
      · obtain rfl : a' = a := by rw [ha] at ha'; exact (Option.some.inj ha').symm
        refine ⟨hok a' (List.mem_of_getElem? ha), rfl, ?_⟩
        have : (decide (lo ≤ j) && decide (j < lo + 0)) = false := by simp <;> omega
        rw [this, Bool.false_and, Bool.or_false]
      · rintro i v m σ h₁ tk I io hv hTmp
        refine hide fun gX gk => ?_
        obtain ⟨infs', hmov, rfl, hall, hm⟩ := hTmp
        refine gk ?_
        clear gk gX
        rintro F₁ N₁ off hic
        have hi' : i < hi - lo := by rw [← hz]; exact (List.getElem?_eq_some_iff.mp hv).1
        have hTmp := hget i hi'
        refine hide fun gX gk => ?_
        obtain ⟨a, ha, hza⟩ := hTmp
        refine gk ?_
        clear gk gX
        obtain rfl : v = Value.ref a.x := by rw [hza] at hv; exact (Option.some.inj hv).symm
        have hlt' : lo + i < infs'.length := by rw [hmov.1]; omega
        have ha' : infs'[lo + i]? = some infs'[lo + i] := by simp [hlt']
        generalize infs'[lo + i] = a' at ha'
        have hsame := hmov.2 _ _ _ ha' ha
        have hTmp := hall _ _ _ ha' ha
        refine hide fun gX gk => ?_
        obtain ⟨hok', hmk', huns'⟩ := hTmp
        refine gk ?_
        clear gk gX
        have hax := hrow a (List.mem_of_getElem? ha)
        rw [← hsame.1, ← hsame.2.1] at hax
        rw [← hsame.1]
        have had : (a'.dx, dictOf a'.es a'.n) ∈ infs'.map Inf.dict := List.mem_map.mpr ⟨a', List.mem_of_getElem? ha', rfl⟩
        obtain ⟨t3, h3⟩ := hok'.cluster
        have h5 := hok'.uns
        have hnd' : (infs'.map (·.dx)).Nodup := by rw [hmov.dxs]; exact hnd
        have hne : ∀ p ∈ infs'.map Inf.dict, p.1 ≠ D ∧ p.1 ≠ I := fun p hp => ⟨by
          have hTmp := List.mem_map.mp hp
          refine hide fun gX gk => ?_
          obtain ⟨q, hq, rfl⟩ := hTmp
          refine gk ?_
          clear gk gX
          have : q.dx ∈ infs.map (·.dx) := by rw [← hmov.dxs]; exact List.mem_map.mpr ⟨q, hq, rfl⟩
          have hTmp := List.mem_map.mp this
          refine hide fun gX gk => ?_
          obtain ⟨q', hq', e⟩ := hTmp
          refine gk ?_
          clear gk gX
          have := hDne _ (List.mem_map.mpr ⟨q', hq', rfl⟩)
          rwa [show q'.dict.1 = q.dict.1 from e] at this, off p (.tail _ hp)⟩
        have hstep : ∀ (j : Nat) (b' b : Inf) (u : Bool), infs[j]? = some b → (j ≠ lo + i → b'.ok ∧ b'.mask = b.mask ∧ b'.uns = (b.uns || (decide (lo ≤ j) && decide (j < lo + i) && decide (M < b.cluster)))) →
            (j = lo + i → b'.ok ∧ b'.mask = b.mask ∧ b'.uns = (b.uns || decide (M < b.cluster))) → b'.ok ∧ b'.mask = b.mask ∧ b'.uns = (b.uns || (decide (lo ≤ j) && decide (j < lo + (i + 1)) && decide (M < b.cluster))) := by
          intro j b' b u _ h1 h2
          by_cases hj : j = lo + i
          · have hTmp := h2 hj
            refine hide fun gX gk => ?_
            obtain ⟨e1, e2, e3⟩ := hTmp
            refine gk ?_
            clear gk gX
            refine ⟨e1, e2, e3.trans ?_⟩
            have : (decide (lo ≤ j) && decide (j < lo + (i + 1))) = true := by simp <;> omega
            rw [this, Bool.true_and]
          · have hTmp := h1 hj
            refine hide fun gX gk => ?_
            obtain ⟨e1, e2, e3⟩ := hTmp
            refine gk ?_
            clear gk gX
            refine ⟨e1, e2, e3.trans ?_⟩
            have : decide (j < lo + i) = decide (j < lo + (i + 1)) := by apply decide_eq_decide.mpr; omega
            rw [this]
        have hcM : M ≤ a.cluster := hup lo (lo + i) infs[lo] a (by simp <;> omega) ha (by omega) |> fun q => by rwa [hc0 infs[lo] (by simp <;> omega)] at q
        (repeat' ((fail_if_success (with_reducible show LCg.CompSrc _ _ _ _ _ _ _ _ _ _ _ _ _ _)); (fail_if_success (with_reducible show wpAny _ _ (pyIter (Value.ref _)) _ _ _)); (fail_if_success (with_reducible show wpAny _ _ (exec (Stmt.While _ _ _ _) _) _ _ _)); (fail_if_success (with_reducible show wpAny _ _ (compareOp _ (Value.ref _) (Value.ref _)) _ _ _)); first | walk1 | (dsimp only; walk1)))
        · rename_i F2 N2 _ hcl
          have N3 := N2
          rw [show (I, io) :: (D, W.listOf zs.toArray 0) :: infs'.map Inf.dict = [(I, io), (D, W.listOf zs.toArray 0)] ++ (infs'.map Inf.dict ++ []) by simp] at N3
          refine set_info F2 X N3 (Fr.keep F2 _ _ hax) ha' hnd' (fun p hp => ?_) (by simp) (by k_is) (by k_is) (by k_is) (by k_is) h5 hok'.len fun h7 hsh key n7 F7 N7 => ?_
          · have := hne _ had
            rcases List.mem_cons.mp hp with rfl | hp
            · exact Ne.symm this.2
            · rw [List.mem_singleton.mp hp]; exact Ne.symm this.1
          replace N7 := N7 { a' with es := _, n := n7, uns := true } rfl rfl rfl
          simp only [List.append_nil, List.cons_append, List.nil_append] at N7
          (repeat' ((fail_if_success (with_reducible show LCg.CompSrc _ _ _ _ _ _ _ _ _ _ _ _ _ _)); (fail_if_success (with_reducible show wpAny _ _ (pyIter (Value.ref _)) _ _ _)); (fail_if_success (with_reducible show wpAny _ _ (exec (Stmt.While _ _ _ _) _) _ _ _)); (fail_if_success (with_reducible show wpAny _ _ (compareOp _ (Value.ref _) (Value.ref _)) _ _ _)); first | walk1 | (dsimp only; walk1)))
          walk_at "my_turn"
          case σ => exact (D, W.listOf zs.toArray 0) :: (infs'.set (lo + i) { a' with es := putL (Str.ofString "is_unsafe") hsh key (.bool true) a'.es, n := n7, uns := true }).map Inf.dict
          case sub => exact fun p hp => .tail _ hp
          case off =>
            intro p hp
            rcases List.mem_cons.mp hp with rfl | hp
            · exact .inl (off _ (.head _))
            · have hTmp := List.mem_map.mp hp
              refine hide fun gX gk => ?_
              obtain ⟨q, hq, rfl⟩ := hTmp
              refine gk ?_
              clear gk gX
              rcases List.mem_or_eq_of_mem_set hq with hq | rfl
              · exact .inl (hne _ (List.mem_map.mpr ⟨q, hq, rfl⟩)).2
              · exact .inl (hne _ had).2
          refine ⟨_, Moved.set (a' := { a' with es := putL (Str.ofString "is_unsafe") hsh key (.bool true) a'.es, n := n7, uns := true }) hmov ha' ⟨rfl, rfl, rfl, rfl⟩, rfl, fun j b' b hb' hb => hstep j b' b true hb (fun hj => ?_) (fun hj => ?_), hm⟩
          · rw [List.getElem?_set_ne (Ne.symm hj)] at hb'
            exact hall j b' b hb' hb
          · subst hj
            rw [List.getElem?_set_self hlt'] at hb'
            rw [ha] at hb
            cases hb'
            cases hb
            refine ⟨hok'.putUns _ _ _, hmk', ?_⟩
            have h8 : M < a.cluster := by rw [← hsame.2.2.2]; rw [← hsame.2.2.2] at hcM; omega
            simp [h8]
        · rename_i hcl
          walk_at "my_turn"
          case σ => exact (D, W.listOf zs.toArray 0) :: infs'.map Inf.dict
          case sub => exact fun p hp => .tail _ hp
          case off => exact fun p hp => .inl (off p hp)
          refine ⟨_, hmov, rfl, fun j b' b hb' hb => hstep j b' b true hb (fun hj => hall j b' b hb' hb) (fun hj => ?_), hm⟩
          subst hj
          rw [ha] at hb
          rw [ha'] at hb'
          cases hb'
          cases hb
          refine ⟨hok', hmk', huns'.trans ?_⟩
          have h8 : ¬ M < a.cluster := by rw [← hsame.2.2.2, hcl]; omega
          simp [h8]
      · rintro m σ h₁ tk hTmp
        refine hide fun gX gk => ?_
        obtain ⟨infs', hmov, rfl, hall, hm⟩ := hTmp
        refine gk ?_
        clear gk gX
        rintro F₁ N₁
        (repeat' ((fail_if_success (with_reducible show LCg.CompSrc _ _ _ _ _ _ _ _ _ _ _ _ _ _)); (fail_if_success (with_reducible show wpAny _ _ (pyIter (Value.ref _)) _ _ _)); (fail_if_success (with_reducible show wpAny _ _ (exec (Stmt.While _ _ _ _) _) _ _ _)); (fail_if_success (with_reducible show wpAny _ _ (compareOp _ (Value.ref _) (Value.ref _)) _ _ _)); first | walk1 | (dsimp only; walk1)))
        walk_at "my_ret"
        case N => exact (News.sub N₁ (fun p hp => .tail _ hp) : News _ _ _ (infs'.map Inf.dict))
        rw [hz, show lo + (hi - lo) = hi by omega] at hall
        exact ⟨infs', hmov, rfl, hall⟩
end
section
theorem calm_10 : True := by w_top off; exact True.intro
local macro_rules | `(tactic| walk_at "my_idle") => `(tactic| skip)
section
variable {prog : Program} {w : World} {K : Type} [DecidableEq K] {knd : KeyKind prog w K} {A : Around} {E : Value → Shared → Prop} {s : Shared} {d : Addr} {o : Obj} {kvs : List (K × Value)} {k : K} {key dflt : Value}
theorem gdict_method {pl : Sem Bool} {Q : Value × List Value → Shared → Prop} (hp : s.heap.get? d = some o) (hd : o.IsDictOf knd kvs) (h : Q (.builtin "dict.get", [.ref d]) s) : wpAny (model prog w) A (getMethod (.ref d) "get" pl) Q E s :=
  have hD : s.heap.DictOf knd d kvs := Heap.dictOf_iff.mpr ⟨o, hp, hd⟩
  getMethod_builtin hD.typeIs PySem.F.plainAttrs_dict PySem.F.slot_dict_get PySem.F.type_dict_get hD.mapOf.noDict h
theorem gdict_get2 {Q : Value → Shared → Prop} (hp : s.heap.get? d = some o) (hd : o.IsDictOf knd kvs) (lo : (d == sysModules) = false) (hkey : knd.is k key = true) (h : Q ((valueAt kvs k).getD dflt) { s with toks := s.toks + 1 }) :
    wpAny (model prog w) A (call (.builtin "dict.get") [.ref d, key, dflt]) Q E s :=
  have hD : s.heap.DictOf knd d kvs := Heap.dictOf_iff.mpr ⟨o, hp, hd⟩
  call_meetsIn PySem.F.slot_dict_get hD.typeIs PySem.F.entry_dict_get (PySem.F.args_dict_get_3 _ _ _) (meets_dict_get_default knd d hkey lo dflt) ⟨_, hD.mapOf, h⟩
end
def mget (kvs : List (Str × Value)) (k : Str) : Int := match valueAt kvs k with
  | some (.int n _) => n
  | _ => 0
def clAt (infs : List Inf) (i : Nat) : Int := (infs.map (·.cluster)).getD i 0
def unsAny (infs : List Inf) (ps : List (Nat × Nat)) (j : Nat) (c : Int) : Bool := ps.any fun p => decide (p.1 ≤ j) && decide (j < p.2 + 1) && decide (clAt infs p.1 < c)
theorem mget_getD {kvs : List (Str × Value)} (hval : ∀ k v, valueAt kvs k = some v → ∃ (n : Int) (t : Tok), v = .int n t) (k : Str) (t : Tok) : ∃ tg, (valueAt kvs k).getD (.int 0 t) = .int (mget kvs k) tg := by
  unfold mget
  cases e : valueAt kvs k with
  | none => exact ⟨t, rfl⟩
  | some v => obtain ⟨n, t', rfl⟩ := hval _ _ e; exact ⟨t', rfl⟩
theorem Moved.rising {l' l : List Inf} (h : Moved l' l) (k : Rising l) : Rising l' := fun i j a b ha hb hij => by
  have hi : i < l.length := by rw [← h.1]; exact (List.getElem?_eq_some_iff.mp ha).1
  have hj : j < l.length := by rw [← h.1]; exact (List.getElem?_eq_some_iff.mp hb).1
  have e1 : l[i]? = some l[i] := by simp [hi]
  have e2 : l[j]? = some l[j] := by simp [hj]
  rw [(h.2 _ _ _ ha e1).2.2.2, (h.2 _ _ _ hb e2).2.2.2]
  exact k i j _ _ e1 e2 hij
theorem Moved.all {l' l : List Inf} {P : Nat → Inf → Inf → Prop} (h : Moved l' l) (k : ∀ (j : Nat) (a' a : Inf), l'[j]? = some a' → l[j]? = some a → P j a' a) : ∀ i ∈ l', ∃ j a, l[j]? = some a ∧ P j i a := fun i hi => by
  have hTmp := List.getElem_of_mem hi
  refine hide fun gX gk => ?_
  obtain ⟨j, hj, rfl⟩ := hTmp
  refine gk ?_
  clear gk gX
  have hj' : j < l.length := by rw [← h.1]; exact hj
  exact ⟨j, l[j], by simp [hj'], k j _ _ (by simp [hj]) (by simp [hj'])⟩
theorem clAt_of {l : List Inf} {i : Nat} {a : Inf} (h : l[i]? = some a) : clAt l i = a.cluster := by
  unfold clAt
  rw [List.getD_eq_getElem?_getD, List.getElem?_map, h]; rfl
theorem join_ok (w : World) {h : Heap} {b dm : Addr} {odm : Obj} {infs : List Inf} {kvs : List (Str × Value)} {ts : List Str}
    (hb : BufAt (HOut h ((infs.map Inf.dict).map (·.1))) b infs) (hok : ∀ i ∈ infs, i.ok) (hnd : (infs.map (·.dx)).Nodup) (hlen : infs.length ≤ 1000)
    (hup : Rising infs) (hdm : HOut h ((infs.map Inf.dict).map (·.1)) dm odm) (hod : odm.IsDictOf (PySem.strKind PySem.Challenge.rw_nu0160_01.row.prog w) kvs) (hms : (dm == sysModules) = false)
    (hval : ∀ k v, valueAt kvs k = some v → ∃ (n : Int) (t : Tok), v = .int n t) (hts : ts = infs.map fun i => jt i.code) :
    SpecW w 187 [.ref b, .ref dm] (infs.map Inf.dict) 10 30 h (fun h' v news' => ∃ infs', Moved infs' infs ∧ news' = infs'.map Inf.dict ∧
      ∀ (j : Nat) (a' a : Inf), infs'[j]? = some a' → infs[j]? = some a → a'.ok ∧ a'.mask = Builtin.bitOr a.mask (mget kvs (formAt ts j)) ∧ a'.uns = (a.uns || unsAny infs (jp ts) j a.cluster)) := by
  (( unfold SpecW; k_fill; refine' Spec.plain (ho := ?ho) (hcd := ?hcd) (hbind := ?hbind) (hloc := ?hloc) (hcell := ?hcell) (hco := ?hco) (hgen := ?hgen) (hk := ?hk) (hb := ?hbEnter); (case ho => k_is); (case hcd => k_is); (case hbind => intro s hX; first | exact BindsTo.of_eq rfl); (case hloc => exact locs rfl); (case hcell => decide); (case hco => exact rfl); (case hgen => exact rfl); (case hk => exact rfl)))
  intro g L dp un gd outer A₀ base p loose mean mg mb s hg F N B X T hd hu
  replace hb := hb.mono (P' := fun a o => g.get? a = some o ∧ a ∉ (infs.map Inf.dict).map (·.1)) (fun a o e => ⟨hg a o e.1 e.2, e.2⟩)
  have hb0 := hb
  replace hb := hb.mono (P' := HAt g) (fun a o e => e.1)
  replace hdm := hg _ _ hdm.1 hdm.2
  refine hide fun gX gk => ?_
  obtain ⟨⟨db, bes, bn, r, k, hb1, hb2, hb3, hb4⟩, hrow⟩ := hb
  refine gk ?_
  clear gk gX
  have hlb : g.IsList r (infs.map fun i => Value.ref i.x).toArray := ⟨_, hb4, rfl, _, rfl⟩
  (repeat' ((fail_if_success (with_reducible show LCg.CompSrc _ _ _ _ _ _ _ _ _ _ _ _ _ _)); (fail_if_success (with_reducible show wpAny _ _ (pyIter (Value.ref _)) _ _ _)); (fail_if_success (with_reducible show wpAny _ _ (exec (Stmt.While _ _ _ _) _) _ _ _)); (fail_if_success (with_reducible show wpAny _ _ (compareOp _ (Value.ref _) (Value.ref _)) _ _ _)); first | walk1 | (dsimp only; walk1)))
  have hz : (infs.map fun i => Value.ref i.x).length = infs.length := by simp
  refine LCg.CompSrc.base rfl (by assumption) (by assumption) hlb (by rw [sizeLine_eq, List.size_toArray, hz]; omega) ?_
  intro g1
  refine comp_gen (fun i ys σ => σ = infs.map Inf.dict ∧ IntsAre ys ((infs.map (·.code)).take i)) ⟨rfl, .nil⟩ ?_ ?_
  · rintro i v ys σ I oI C oC D2 m₂ h tk E' hi' hv ⟨rfl, hys⟩ hC hx F N off ne
    rw [List.size_toArray, hz] at hi'
    have ha : infs[i]? = some infs[i] := by simp [hi']
    generalize infs[i] = a at ha
    obtain rfl : v = Value.ref a.x := by
      have : (infs.map fun i => Value.ref i.x)[i]? = some v := by simpa using hv
      rw [List.getElem?_map, ha] at this; exact (Option.some.inj this).symm
    have ham := List.mem_of_getElem? ha
    have hax := hrow a ham
    have had : (a.dx, dictOf a.es a.n) ∈ infs.map Inf.dict := List.mem_map.mpr ⟨a, ham, rfl⟩
    obtain ⟨t3, h3⟩ := (hok a ham).code
    (repeat' ((fail_if_success (with_reducible show LCg.CompSrc _ _ _ _ _ _ _ _ _ _ _ _ _ _)); (fail_if_success (with_reducible show wpAny _ _ (pyIter (Value.ref _)) _ _ _)); (fail_if_success (with_reducible show wpAny _ _ (exec (Stmt.While _ _ _ _) _) _ _ _)); (fail_if_success (with_reducible show wpAny _ _ (compareOp _ (Value.ref _) (Value.ref _)) _ _ _)); first | walk1 | (dsimp only; walk1)))
    walk_at "my_cend"
    case σ => exact infs.map Inf.dict
    case sub => exact fun p hp => hp
    case off => exact off
    case hS => exact .inl hlb
    refine ⟨rfl, ?_⟩
    rw [List.take_add_one, List.getElem?_map, ha]
    exact IntsAre.append hys (.cons _ _ .nil)
  · rintro ys σ ⟨rfl, hys⟩
    rw [List.size_toArray, hz, List.take_of_length_le (by simp)] at hys
    (repeat' ((fail_if_success (with_reducible show LCg.CompSrc _ _ _ _ _ _ _ _ _ _ _ _ _ _)); (fail_if_success (with_reducible show wpAny _ _ (pyIter (Value.ref _)) _ _ _)); (fail_if_success (with_reducible show wpAny _ _ (exec (Stmt.While _ _ _ _) _) _ _ _)); (fail_if_success (with_reducible show wpAny _ _ (compareOp _ (Value.ref _) (Value.ref _)) _ _ _)); first | walk1 | (dsimp only; walk1)))
    rename_i D1 h1 tk1 F1 N1 od1
    have hcs : (infs.map (·.code)).map jt = ts := by rw [hts, List.map_map]; rfl
    refine' Spec.call0 (types_of_ok _ (cs := infs.map (·.code)) ?hp ?len) ?B ?F ?X ?T ?N ?hk ?hd ?hu ?_
    case hp => exact LR.listI (vs := ys) (N1 _ (.head _)).1 (LRs.ofInts hys)
    case len => simpa using hlen
    walk_at "my_args"
    rintro v h2 tk2 pl1 F2 N2 K2 off2 hTmp
    refine hide fun gX gk => ?_
    obtain ⟨a1, k1, vs1, rfl, hm1, hs1⟩ := hTmp
    refine gk ?_
    clear gk gX
    rw [hcs] at hs1
    have od1' : ∀ p ∈ infs.map Inf.dict, p.1 ≠ a1 := fun p hp => off2 _ hm1 _ (.tail _ hp)
    replace N2 : News g L h2 ((a1, W.listOf vs1 k1) :: infs.map Inf.dict) := News.sub N2 fun p hp => by
      rcases List.mem_cons.mp hp with rfl | hp
      · exact List.mem_append_left _ hm1
      · exact List.mem_append_right _ (.tail _ hp)
    have htl : ts.length = infs.length := by rw [hts]; simp
    (repeat' ((fail_if_success (with_reducible show LCg.CompSrc _ _ _ _ _ _ _ _ _ _ _ _ _ _)); (fail_if_success (with_reducible show wpAny _ _ (pyIter (Value.ref _)) _ _ _)); (fail_if_success (with_reducible show wpAny _ _ (exec (Stmt.While _ _ _ _) _) _ _ _)); (fail_if_success (with_reducible show wpAny _ _ (compareOp _ (Value.ref _) (Value.ref _)) _ _ _)); first | walk1 | (dsimp only; walk1)))
    rename News _ _ _ _ => N2'
    refine' Spec.call0 (forms_of_ok _ (ts := ts) ?hp ?len) ?B ?F ?X ?T ?N ?hk ?hd ?hu ?_
    case hp => exact LR.listI (vs := vs1.toList) (n := k1) (by simpa [W.listOf] using (N2' _ (.head _)).1) (LRs.ofStrs hs1)
    case len => omega
    walk_at "my_args"
    rintro v h3 tk3 pl2 F3 N3 K3 off3 hTmp
    refine hide fun gX gk => ?_
    obtain ⟨a2, k2, vs2, rfl, hm2, hs2⟩ := hTmp
    refine gk ?_
    clear gk gX
    have od2' : ∀ p ∈ (a1, W.listOf vs1 k1) :: infs.map Inf.dict, p.1 ≠ a2 := fun p hp => off3 _ hm2 _ hp
    replace N3 : News g L h3 ((a2, W.listOf vs2 k2) :: (a1, W.listOf vs1 k1) :: infs.map Inf.dict) := News.sub N3 fun p hp => by
      rcases List.mem_cons.mp hp with rfl | hp
      · exact List.mem_append_left _ hm2
      · exact List.mem_append_right _ hp
    have hv2 : vs2.toList.length = infs.length := by rw [hs2.length]; simp [htl]
    have hv3 : vs2.size = infs.length := by simpa using hv2
    (repeat' ((fail_if_success (with_reducible show LCg.CompSrc _ _ _ _ _ _ _ _ _ _ _ _ _ _)); (fail_if_success (with_reducible show wpAny _ _ (pyIter (Value.ref _)) _ _ _)); (fail_if_success (with_reducible show wpAny _ _ (exec (Stmt.While _ _ _ _) _) _ _ _)); (fail_if_success (with_reducible show wpAny _ _ (compareOp _ (Value.ref _) (Value.ref _)) _ _ _)); first | walk1 | (dsimp only; walk1)))
    rename_i h5 tk5 t5 u5 v5 hr5 F5 N5 K5
    rw [hv3] at hr5
    refine iter_range0 (n := infs.length) (fun i m σ => ∃ infs', Moved infs' infs ∧ σ = (a2, W.listOf vs2 k2) :: (a1, W.listOf vs1 k1) :: infs'.map Inf.dict ∧
      (∀ (j : Nat) (a' a : Inf), infs'[j]? = some a' → infs[j]? = some a → a'.ok ∧ a'.uns = a.uns ∧ a'.mask = if j < i then Builtin.bitOr a.mask (mget kvs (formAt ts j)) else a.mask) ∧
      m (Str.ofString "types") = some (.ref a1) ∧ m (Str.ofString "forms") = some (.ref a2) ∧ m (Str.ofString "buffer") = some (.ref b) ∧ m (Str.ofString "masks") = some (.ref dm)) rfl F5 N5 hr5 rfl (by omega)
      ⟨infs, Moved.refl _, rfl, fun j a' a ha' ha => ?_, by rfl, by rfl, by rfl, by rfl⟩ ?_ ?_
    · obtain rfl : a' = a := by rw [ha] at ha'; exact (Option.some.inj ha').symm
      exact ⟨hok a' (List.mem_of_getElem? ha), rfl, by simp⟩
    · rintro i ti m σ h₁ tk I io hi' hTmp
      refine hide fun gX gk => ?_
      obtain ⟨infs', hmov, rfl, hall, hmt, hmf, hmb, hmm⟩ := hTmp
      refine gk ?_
      clear gk gX
      rintro F₁ N₁ off hic
      have hlt' : i < infs'.length := by rw [hmov.1]; exact hi'
      have ha : infs[i]? = some infs[i] := by simp [hi']
      generalize infs[i] = a at ha
      have ha' : infs'[i]? = some infs'[i] := by simp [hlt']
      generalize infs'[i] = a' at ha'
      have hsame := hmov.2 _ _ _ ha' ha
      have hTmp := hall _ _ _ ha' ha
      refine hide fun gX gk => ?_
      obtain ⟨hok', huns', hmk'⟩ := hTmp
      refine gk ?_
      clear gk gX
      rw [if_neg (Nat.lt_irrefl i)] at hmk'
      have hax := hrow a (List.mem_of_getElem? ha)
      rw [← hsame.1, ← hsame.2.1] at hax
      have hx1 : (infs.map fun i => Value.ref i.x)[(i : Int).toNat]? = some (Value.ref a'.x) := by rw [hsame.1, Int.toNat_natCast, List.getElem?_map, ha]; rfl
      obtain ⟨tf, hx2⟩ := hs2.get i (formAt ts i) (by simp [htl, hi'])
      have hx3 : vs2[(i : Int).toNat]? = some (Value.str (formAt ts i) tf) := by simpa using hx2
      have had : (a'.dx, dictOf a'.es a'.n) ∈ infs'.map Inf.dict := List.mem_map.mpr ⟨a', List.mem_of_getElem? ha', rfl⟩
      obtain ⟨t4, h4⟩ := hok'.mask
      (repeat' ((fail_if_success (with_reducible show LCg.CompSrc _ _ _ _ _ _ _ _ _ _ _ _ _ _)); (fail_if_success (with_reducible show wpAny _ _ (pyIter (Value.ref _)) _ _ _)); (fail_if_success (with_reducible show wpAny _ _ (exec (Stmt.While _ _ _ _) _) _ _ _)); (fail_if_success (with_reducible show wpAny _ _ (compareOp _ (Value.ref _) (Value.ref _)) _ _ _)); first | walk1 | (dsimp only; walk1)))
      rename Fr _ _ _ _ => Fq
      refine gdict_method (Fq.keep _ _ hdm) hod ?_
      (repeat' ((fail_if_success (with_reducible show LCg.CompSrc _ _ _ _ _ _ _ _ _ _ _ _ _ _)); (fail_if_success (with_reducible show wpAny _ _ (pyIter (Value.ref _)) _ _ _)); (fail_if_success (with_reducible show wpAny _ _ (exec (Stmt.While _ _ _ _) _) _ _ _)); (fail_if_success (with_reducible show wpAny _ _ (compareOp _ (Value.ref _) (Value.ref _)) _ _ _)); first | walk1 | (dsimp only; walk1)))
      refine gdict_get2 (Fq.keep _ _ hdm) hod hms (strKind_is _ _ _ _) ?_
      rw [(mget_getD hval _ _).choose_spec]
      (repeat' ((fail_if_success (with_reducible show LCg.CompSrc _ _ _ _ _ _ _ _ _ _ _ _ _ _)); (fail_if_success (with_reducible show wpAny _ _ (pyIter (Value.ref _)) _ _ _)); (fail_if_success (with_reducible show wpAny _ _ (exec (Stmt.While _ _ _ _) _) _ _ _)); (fail_if_success (with_reducible show wpAny _ _ (compareOp _ (Value.ref _) (Value.ref _)) _ _ _)); first | walk1 | (dsimp only; walk1)))
      rename_i N2
      have N3 := N2
      rw [show (I, io) :: (a2, W.listOf vs2 k2) :: (a1, W.listOf vs1 k1) :: infs'.map Inf.dict = [(I, io), (a2, W.listOf vs2 k2), (a1, W.listOf vs1 k1)] ++ (infs'.map Inf.dict ++ []) by simp] at N3
      have hnd' : (infs'.map (·.dx)).Nodup := by rw [hmov.dxs]; exact hnd
      have hne : ∀ p ∈ infs'.map Inf.dict, p.1 ≠ I ∧ p.1 ≠ a2 ∧ p.1 ≠ a1 := fun p hp => by
        have hTmp := List.mem_map.mp hp
        refine hide fun gX gk => ?_
        obtain ⟨q, hq, rfl⟩ := hTmp
        refine gk ?_
        clear gk gX
        have : q.dx ∈ infs.map (·.dx) := by rw [← hmov.dxs]; exact List.mem_map.mpr ⟨q, hq, rfl⟩
        have hTmp := List.mem_map.mp this
        refine hide fun gX gk => ?_
        obtain ⟨q', hq', e⟩ := hTmp
        refine gk ?_
        clear gk gX
        have e : q'.dict.1 = q.dict.1 := e
        have hm : q'.dict ∈ infs.map Inf.dict := List.mem_map.mpr ⟨q', hq', rfl⟩
        exact ⟨off _ (.tail _ (.tail _ hp)), e ▸ od2' q'.dict (.tail _ hm), e ▸ od1' q'.dict hm⟩
      refine set_info Fq X N3 (Fq.keep _ _ hax) ha' hnd' (fun p hp => ?_) (by simp) (by k_is) (by k_is) (by k_is) (by k_is) h4 hok'.len fun h7 hsh key n7 F7 N7 => ?_
      · have := hne _ had
        rcases List.mem_cons.mp hp with rfl | hp
        · exact Ne.symm this.1
        · rcases List.mem_cons.mp hp with rfl | hp
          · exact Ne.symm this.2.1
          · rw [List.mem_singleton.mp hp]; exact Ne.symm this.2.2
      obtain ⟨es7, hok7, N7⟩ : ∃ es7 : List DictEntry, InfoD es7 a'.code a'.cluster (Builtin.bitOr a'.mask (mget kvs (formAt ts i))) a'.uns ∧
          News g L h7 ([(I, io), (a2, W.listOf vs2 k2), (a1, W.listOf vs1 k1)] ++ ((infs'.set i { a' with es := es7, n := n7, mask := Builtin.bitOr a'.mask (mget kvs (formAt ts i)) }).map Inf.dict ++ [])) :=
        ⟨_, hok'.putMask _ _ _ _, N7 { a' with es := _, n := n7, mask := Builtin.bitOr a'.mask (mget kvs (formAt ts i)) } rfl rfl rfl⟩
      simp only [List.append_nil, List.cons_append, List.nil_append] at N7
      (repeat' ((fail_if_success (with_reducible show LCg.CompSrc _ _ _ _ _ _ _ _ _ _ _ _ _ _)); (fail_if_success (with_reducible show wpAny _ _ (pyIter (Value.ref _)) _ _ _)); (fail_if_success (with_reducible show wpAny _ _ (exec (Stmt.While _ _ _ _) _) _ _ _)); (fail_if_success (with_reducible show wpAny _ _ (compareOp _ (Value.ref _) (Value.ref _)) _ _ _)); first | walk1 | (dsimp only; walk1)))
      walk_at "my_turn"
      case σ => exact (a2, W.listOf vs2 k2) :: (a1, W.listOf vs1 k1) :: (infs'.set i { a' with es := es7, n := n7, mask := Builtin.bitOr a'.mask (mget kvs (formAt ts i)) }).map Inf.dict
      case sub => exact fun p hp => .tail _ hp
      case off =>
        intro p hp
        refine .inl ?_
        rcases List.mem_cons.mp hp with rfl | hp
        · exact off _ (.head _)
        · rcases List.mem_cons.mp hp with rfl | hp
          · exact off _ (.tail _ (.head _))
          · have hTmp := List.mem_map.mp hp
            refine hide fun gX gk => ?_
            obtain ⟨q, hq, rfl⟩ := hTmp
            refine gk ?_
            clear gk gX
            rcases List.mem_or_eq_of_mem_set hq with hq | rfl
            · exact (hne _ (List.mem_map.mpr ⟨q, hq, rfl⟩)).1
            · exact (hne _ had).1
      refine ⟨_, Moved.set (a' := { a' with es := es7, n := n7, mask := Builtin.bitOr a'.mask (mget kvs (formAt ts i)) }) hmov ha' ⟨rfl, rfl, rfl, rfl⟩, rfl, fun j b' b hb' hb => ?_, hmt, hmf, hmb, hmm⟩
      by_cases hj : j = i
      · subst hj
        rw [List.getElem?_set_self hlt'] at hb'
        rw [ha] at hb
        cases hb'
        cases hb
        exact ⟨hok7, huns', by rw [if_pos (Nat.lt_succ_self _), hmk']⟩
      · rw [List.getElem?_set_ne (Ne.symm hj)] at hb'
        have hTmp := hall j b' b hb' hb
        refine hide fun gX gk => ?_
        obtain ⟨q1, q2, q3⟩ := hTmp
        refine gk ?_
        clear gk gX
        refine ⟨q1, q2, q3.trans ?_⟩
        simp only [show j < i ↔ j < i + 1 by omega]
    · rintro m σ h₁ tk hTmp
      refine hide fun gX gk => ?_
      obtain ⟨infs', hmov, rfl, hall, hmt, hmf, hmb, hmm⟩ := hTmp
      refine gk ?_
      clear gk gX
      rintro F₁ N₁
      (repeat' ((fail_if_success (with_reducible show LCg.CompSrc _ _ _ _ _ _ _ _ _ _ _ _ _ _)); (fail_if_success (with_reducible show wpAny _ _ (pyIter (Value.ref _)) _ _ _)); (fail_if_success (with_reducible show wpAny _ _ (exec (Stmt.While _ _ _ _) _) _ _ _)); (fail_if_success (with_reducible show wpAny _ _ (compareOp _ (Value.ref _) (Value.ref _)) _ _ _)); first | walk1 | (dsimp only; walk1)))
      rename News _ _ _ _ => N4
      refine' Spec.call0 (joined_pairs_ok _ (ts := ts) ?hp ?len) ?B ?F ?X ?T ?N ?hk ?hd ?hu ?_
      case hp => exact LR.listI (vs := vs1.toList) (n := k1) (by simpa [W.listOf] using (N4 _ (.tail _ (.head _))).1) (LRs.ofStrs hs1)
      case len => omega
      walk_at "my_args"
      rintro v h5 tk5 pl F5 N5 K5 off5 hTmp
      refine hide fun gX gk => ?_
      obtain ⟨pa, pk, pvs, rfl, hpm, hpl⟩ := hTmp
      refine gk ?_
      clear gk gX
      have hpvl : pvs.toList.length = (jp ts).length := by simpa using hpl.length
      have off5' : ∀ p ∈ pl, p.1 ∉ infs.map (·.dx) := fun p hp hq => by
        rw [← hmov.dxs] at hq
        have hTmp := List.mem_map.mp hq
        refine hide fun gX gk => ?_
        obtain ⟨q, hq, e⟩ := hTmp
        refine gk ?_
        clear gk gX
        exact off5 p hp q.dict (.tail _ (.tail _ (List.mem_map.mpr ⟨q, hq, rfl⟩))) e
      replace N5 : News g L h5 (infs'.map Inf.dict ++ pl) := News.sub N5 fun p hp => by
        rcases List.mem_append.mp hp with hp | hp
        · exact List.mem_append_right _ (.tail _ (.tail _ hp))
        · exact List.mem_append_left _ hp
      refine iter_list (l := pa) (lo := W.listOf pvs pk) (its := pvs.toList) (k := pk) (fun i m σ => ∃ infs', Moved infs' infs ∧ σ = infs'.map Inf.dict ++ pl ∧
        (∀ (j : Nat) (a' a : Inf), infs'[j]? = some a' → infs[j]? = some a → a'.ok ∧ a'.mask = Builtin.bitOr a.mask (mget kvs (formAt ts j)) ∧ a'.uns = (a.uns || unsAny infs ((jp ts).take i) j a.cluster)) ∧
        m (Str.ofString "buffer") = some (.ref b))
        rfl F5 N5 (by simp [W.listOf]) (by rintro i m σ ⟨_, _, rfl, _⟩; exact List.mem_append_right _ hpm) ⟨infs', hmov, rfl, fun j a' a ha' ha => ?_, hmb⟩ ?_ ?_
      · have hTmp := hall j a' a ha' ha
        refine hide fun gX gk => ?_
        obtain ⟨q1, q2, q3⟩ := hTmp
        refine gk ?_
        clear gk gX
        rw [if_pos (List.getElem?_eq_some_iff.mp ha).1] at q3
        exact ⟨q1, q3, by rw [q2]; simp [unsAny]⟩
      · rintro i v m σ h₁ tk I io hv hTmp
        refine hide fun gX gk => ?_
        obtain ⟨infs2, hmov2, rfl, hall2, hmb⟩ := hTmp
        refine gk ?_
        clear gk gX
        rintro F₁ N₁ off hic
        have hTmp := hpl.at hv
        refine hide fun gX gk => ?_
        obtain ⟨dd, hd1, hd2⟩ := hTmp
        refine gk ?_
        clear gk gX
        obtain ⟨⟨lo, hi⟩, hab, rfl⟩ : ∃ q, (jp ts)[i]? = some q ∧ npD q = dd := by simpa using hd1
        have hlt := jp_lt (List.mem_of_getElem? hab)
        dsimp only at hlt
        have hTmp := prD.elim (r := ((lo : Int), (hi : Int))) hd2 fun x o e => (N₁ (x, o) (.tail _ (List.mem_append_right _ e))).1
        refine hide fun gX gk => ?_
        obtain ⟨ta, t1, t2, rfl, ht⟩ := hTmp
        refine gk ?_
        clear gk gX
        (repeat' ((fail_if_success (with_reducible show LCg.CompSrc _ _ _ _ _ _ _ _ _ _ _ _ _ _)); (fail_if_success (with_reducible show wpAny _ _ (pyIter (Value.ref _)) _ _ _)); (fail_if_success (with_reducible show wpAny _ _ (exec (Stmt.While _ _ _ _) _) _ _ _)); (fail_if_success (with_reducible show wpAny _ _ (compareOp _ (Value.ref _) (Value.ref _)) _ _ _)); first | walk1 | (dsimp only; walk1)))
        rename_i tk6 h6 F6 N6
        have hmem : ∀ (j : Nat) (a' : Inf), infs2[j]? = some a' → ∃ a, infs[j]? = some a := fun j a' ha' => by
          have : j < infs.length := by rw [← hmov2.1]; exact (List.getElem?_eq_some_iff.mp ha').1
          exact ⟨infs[j], by simp [this]⟩
        have hdx2 : (infs2.map Inf.dict).map (·.1) = (infs.map Inf.dict).map (·.1) := by
          rw [List.map_map, List.map_map]; exact hmov2.dxs
        rw [show ((hi : Int) + 1) = ((hi + 1 : Nat) : Int) by omega]
        refine' Spec.call (hang_ok (infs := infs2) (lo := lo) (hi := hi + 1) (c0 := clAt infs lo) _ ?hb ?hok ?hnd ?hlo ?hhi ?hlen ?hc0 ?hup) (rest := (I, io) :: pl) ?B ?F ?X ?T ?N ?off ?hk ?hd ?hu ?_
        case hb =>
          refine (hb0.mono (P' := HOut h6 ((infs2.map Inf.dict).map (·.1))) fun a o e => ?_).moved hmov2
          rw [hdx2]
          exact ⟨Fr.keep F6 _ _ e.1, e.2⟩
        case hok => exact fun q hq => by obtain ⟨j, a, ha, z⟩ := hmov2.all hall2 q hq; exact z.1
        case hnd => rw [hmov2.dxs]; exact hnd
        case hlo => omega
        case hhi => rw [hmov2.1]; omega
        case hlen => rw [hmov2.1]; exact hlen
        case hc0 => exact fun a' ha' => by obtain ⟨a, ha⟩ := hmem _ _ ha'; rw [clAt_of ha]; exact (hmov2.2 _ _ _ ha' ha).2.2.2
        case hup => exact hmov2.rising hup
        case N =>
          refine News.sub N6 fun p hp => ?_
          simp only [List.mem_cons, List.mem_append] at hp ⊢
          rcases hp with h | h | h <;> simp [h]
        case off =>
          intro p hp
          rw [hdx2, List.map_map]
          rcases List.mem_cons.mp hp with rfl | hp
          · intro hq
            rw [show infs.map (Prod.fst ∘ Inf.dict) = infs2.map (·.dx) from hmov2.dxs.symm] at hq
            have hTmp := List.mem_map.mp hq
            refine hide fun gX gk => ?_
            obtain ⟨q, hq, e⟩ := hTmp
            refine gk ?_
            clear gk gX
            exact off q.dict (List.mem_append_left _ (List.mem_map.mpr ⟨q, hq, rfl⟩)) e
          · exact off5' p hp
        case B => exact B
        case F => exact F6
        case X => exact X
        case T => exact T
        case hk => rfl
        case hd => omega
        case hu => omega
        rintro v' h8 tk8 news8 F8 N8 K8 off8 hTmp
        refine hide fun gX gk => ?_
        obtain ⟨infs3, hmov3, rfl, hall3⟩ := hTmp
        refine gk ?_
        clear gk gX
        (repeat' ((fail_if_success (with_reducible show LCg.CompSrc _ _ _ _ _ _ _ _ _ _ _ _ _ _)); (fail_if_success (with_reducible show wpAny _ _ (pyIter (Value.ref _)) _ _ _)); (fail_if_success (with_reducible show wpAny _ _ (exec (Stmt.While _ _ _ _) _) _ _ _)); (fail_if_success (with_reducible show wpAny _ _ (compareOp _ (Value.ref _) (Value.ref _)) _ _ _)); first | walk1 | (dsimp only; walk1)))
        have hIm : (I, io) ∈ infs3.map Inf.dict ++ (I, io) :: pl := List.mem_append_right _ (.head _)
        walk_at "my_turn"
        case σ => exact infs3.map Inf.dict ++ pl
        case sub =>
          intro p hp
          rcases List.mem_append.mp hp with hp | hp
          · exact List.mem_append_left _ hp
          · exact List.mem_append_right _ (.tail _ hp)
        case off =>
          intro p hp
          refine .inl ?_
          rcases List.mem_append.mp hp with hp | hp
          · have hTmp := List.mem_map.mp hp
            refine hide fun gX gk => ?_
            obtain ⟨q, hq, rfl⟩ := hTmp
            refine gk ?_
            clear gk gX
            have hq3 : q.dx ∈ infs2.map (·.dx) := by rw [← hmov3.dxs]; exact List.mem_map.mpr ⟨q, hq, rfl⟩
            have hTmp := List.mem_map.mp hq3
            refine hide fun gX gk => ?_
            obtain ⟨q', hq', e⟩ := hTmp
            refine gk ?_
            clear gk gX
            have e : q'.dict.1 = q.dict.1 := e
            exact e ▸ off q'.dict (List.mem_append_left _ (List.mem_map.mpr ⟨q', hq', rfl⟩))
          · exact off p (List.mem_append_right _ hp)
        refine ⟨infs3, hmov3.trans hmov2, rfl, fun j a3 a ha3 ha => ?_, by assumption⟩
        have hj2 : j < infs2.length := by rw [hmov2.1]; exact (List.getElem?_eq_some_iff.mp ha).1
        have ha2 : infs2[j]? = some infs2[j] := by simp [hj2]
        generalize infs2[j] = a2 at ha2
        have hTmp := hall3 j a3 a2 ha3 ha2
        refine hide fun gX gk => ?_
        obtain ⟨p1, p2, p3⟩ := hTmp
        refine gk ?_
        clear gk gX
        have hTmp := hall2 j a2 a ha2 ha
        refine hide fun gX gk => ?_
        obtain ⟨q1, q2, q3⟩ := hTmp
        refine gk ?_
        clear gk gX
        refine ⟨p1, p2.trans q2, ?_⟩
        rw [p3, q3, (hmov2.2 j a2 a ha2 ha).2.2.2]
        unfold unsAny
        rw [any_take_succ _ hab, Bool.or_assoc]
      · rintro m σ h₁ tk hTmp
        refine hide fun gX gk => ?_
        obtain ⟨infs2, hmov2, rfl, hall2, hmb⟩ := hTmp
        refine gk ?_
        clear gk gX
        rintro F₁ N₁
        rw [hpvl, List.take_length] at hall2
        (repeat' ((fail_if_success (with_reducible show LCg.CompSrc _ _ _ _ _ _ _ _ _ _ _ _ _ _)); (fail_if_success (with_reducible show wpAny _ _ (pyIter (Value.ref _)) _ _ _)); (fail_if_success (with_reducible show wpAny _ _ (exec (Stmt.While _ _ _ _) _) _ _ _)); (fail_if_success (with_reducible show wpAny _ _ (compareOp _ (Value.ref _) (Value.ref _)) _ _ _)); first | walk1 | (dsimp only; walk1)))
        walk_at "my_ret"
        case N => exact (News.sub N₁ (fun p hp => List.mem_append_left _ hp) : News _ _ _ (infs2.map Inf.dict))
        exact ⟨infs2, hmov2, rfl, hall2⟩
end
section
theorem calm_11 : True := by w_top off; exact True.intro
local macro_rules | `(tactic| walk_at "my_idle") => `(tactic| skip)
local macro_rules | `(tactic| walk_at "my_idle") => `(tactic| skip)
local macro_rules | `(tactic| walk_at "getMethod ref") => `(tactic| (k_dflt (refine' method_inst ?k1 ?k2 ?k3 ?k4 ?k5 ?k6 ?k7 ?_; (case k1 => k_asm); (case k2 => k_asm); (case k3 => walk_at "my_inst"); (case k4 => k_is); (case k5 => k_is); (case k6 => k_is); (case k7 => assumption))))
def toldD (c : Int) : PyData := .tuple [.int 7, .int c, .int 0, .int 0, .int 0, .int 0]
theorem info_told_ok (w : World) {h : Heap} {x dx : Addr} {es : List DictEntry} {n : Nat} {code cl mk : Int} {u : Bool} (hx : HAt h x (instObj 52 dx)) (hdx : HAt h dx (dictOf es n)) (hi : InfoD es code cl mk u) :
    SpecW w 49 [.ref x] [] 2 8 h (fun h' v news' => LR (Led news') (toldD cl) v) := by
  (( unfold SpecW; k_fill; refine' Spec.plain (ho := ?ho) (hcd := ?hcd) (hbind := ?hbind) (hloc := ?hloc) (hcell := ?hcell) (hco := ?hco) (hgen := ?hgen) (hk := ?hk) (hb := ?hbEnter); (case ho => k_is); (case hcd => k_is); (case hbind => intro s hX; first | exact BindsTo.of_eq rfl); (case hloc => exact locs rfl); (case hcell => decide); (case hco => exact rfl); (case hgen => exact rfl); (case hk => exact rfl)))
  intro g L dp un gd outer A₀ base p loose mean mg mb s hg F N B X T hd hu
  replace hx := hg _ _ hx (by simp)
  replace hdx := hg _ _ hdx (by simp)
  refine hide fun gX gk => ?_
  obtain ⟨⟨t1, h1⟩, ⟨t2, h2⟩, ⟨t3, h3⟩, ⟨t4, h4⟩, h5, ⟨t6, h6⟩, ⟨t7, h7⟩, ⟨t8, h8⟩, ⟨t9, h9⟩, h10, h11⟩ := hi
  refine gk ?_
  clear gk gX
  (repeat' ((fail_if_success (with_reducible show LCg.CompSrc _ _ _ _ _ _ _ _ _ _ _ _ _ _)); (fail_if_success (with_reducible show wpAny _ _ (pyIter (Value.ref _)) _ _ _)); (fail_if_success (with_reducible show wpAny _ _ (exec (Stmt.While _ _ _ _) _) _ _ _)); (fail_if_success (with_reducible show wpAny _ _ (compareOp _ (Value.ref _) (Value.ref _)) _ _ _)); first | walk1 | (dsimp only; walk1)))
  walk_at "my_ret"
  case N => assumption
  exact LR.tupleI (.head _) (LRs.cons (LR.intI _ _) (LRs.cons (LR.intI _ _) (LRs.cons (LR.intI _ _) (LRs.cons (LR.intI _ _) (LRs.cons (LR.intI _ _) (LRs.cons (LR.intI _ _) LRs.nil))))))
theorem buf_told_ok (w : World) {h : Heap} {b : Addr} {infs : List Inf} (hb : BufAt (HAt h) b infs) (hdd : ∀ i ∈ infs, HAt h i.dx (dictOf i.es i.n)) (hok : ∀ i ∈ infs, i.ok) (hlen : infs.length ≤ 1000) :
    SpecW w 90 [.ref b] [] 4 16 h (fun h' v news' => LR (Led news') (.tuple (infs.map fun i => toldD i.cluster)) v) := by
  (( unfold SpecW; k_fill; refine' Spec.plain (ho := ?ho) (hcd := ?hcd) (hbind := ?hbind) (hloc := ?hloc) (hcell := ?hcell) (hco := ?hco) (hgen := ?hgen) (hk := ?hk) (hb := ?hbEnter); (case ho => k_is); (case hcd => k_is); (case hbind => intro s hX; first | exact BindsTo.of_eq rfl); (case hloc => exact locs rfl); (case hcell => decide); (case hco => exact rfl); (case hgen => exact rfl); (case hk => exact rfl)))
  intro g L dp un gd outer A₀ base p loose mean mg mb s hg F N B X T hd hu
  replace hb := hb.mono (P' := HAt g) (fun a o e => hg a o e (by simp))
  refine hide fun gX gk => ?_
  obtain ⟨⟨db, bes, bn, r, k, hb1, hb2, hb3, hb4⟩, hrow⟩ := hb
  refine gk ?_
  clear gk gX
  have hlb : g.IsList r (infs.map fun i => Value.ref i.x).toArray := ⟨_, hb4, rfl, _, rfl⟩
  have hz : (infs.map fun i => Value.ref i.x).length = infs.length := by simp
  (repeat' ((fail_if_success (with_reducible show LCg.CompSrc _ _ _ _ _ _ _ _ _ _ _ _ _ _)); (fail_if_success (with_reducible show wpAny _ _ (pyIter (Value.ref _)) _ _ _)); (fail_if_success (with_reducible show wpAny _ _ (exec (Stmt.While _ _ _ _) _) _ _ _)); (fail_if_success (with_reducible show wpAny _ _ (compareOp _ (Value.ref _) (Value.ref _)) _ _ _)); first | walk1 | (dsimp only; walk1)))
  replace hdd : ∀ i ∈ infs, HAt g i.dx (dictOf i.es i.n) := fun i hi => hg _ _ (hdd i hi) (by simp)
  refine LCg.CompSrc.base rfl (by assumption) (by assumption) hlb (by rw [sizeLine_eq, List.size_toArray, hz]; omega) ?_
  intro g1
  refine comp_gen (fun i ys σ => LRs (Led σ) ((infs.take i).map fun i => toldD i.cluster) ys) LRs.nil ?_ ?_
  · rintro i v ys σ I oI C oC D2 m₂ h tk E' hi' hv hys hC hx F N off ne
    rw [List.size_toArray, hz] at hi'
    have ha : infs[i]? = some infs[i] := by simp [hi']
    generalize infs[i] = a at ha
    obtain rfl : v = Value.ref a.x := by
      have : (infs.map fun i => Value.ref i.x)[i]? = some v := by simpa using hv
      rw [List.getElem?_map, ha] at this; exact (Option.some.inj this).symm
    have ham := List.mem_of_getElem? ha
    have hax := hrow a ham
    have had := hdd a ham
    have hai := hok a ham
    have hto := hai.told
    (repeat' ((fail_if_success (with_reducible show LCg.CompSrc _ _ _ _ _ _ _ _ _ _ _ _ _ _)); (fail_if_success (with_reducible show wpAny _ _ (pyIter (Value.ref _)) _ _ _)); (fail_if_success (with_reducible show wpAny _ _ (exec (Stmt.While _ _ _ _) _) _ _ _)); (fail_if_success (with_reducible show wpAny _ _ (compareOp _ (Value.ref _) (Value.ref _)) _ _ _)); first | walk1 | (dsimp only; walk1)))
    rename Fr _ _ _ _ => F7
    refine' Spec.call0 (info_told_ok _ ?hx ?hdx hai) ?B ?F ?X ?T ?N ?hk ?hd ?hu ?_
    case hx => exact F7.keep _ _ hax
    case hdx => exact F7.keep _ _ had
    walk_at "my_args"
    rintro v h5 tk5 pl F5 N5 K5 off5 hv5
    (repeat' ((fail_if_success (with_reducible show LCg.CompSrc _ _ _ _ _ _ _ _ _ _ _ _ _ _)); (fail_if_success (with_reducible show wpAny _ _ (pyIter (Value.ref _)) _ _ _)); (fail_if_success (with_reducible show wpAny _ _ (exec (Stmt.While _ _ _ _) _) _ _ _)); (fail_if_success (with_reducible show wpAny _ _ (compareOp _ (Value.ref _) (Value.ref _)) _ _ _)); first | walk1 | (dsimp only; walk1)))
    walk_at "my_cend"
    case σ => exact pl ++ σ
    case sub => 
      intro p hp
      simp only [List.mem_cons, List.mem_append] at hp ⊢
      rcases hp with h | h | h | h | h <;> simp [h]
    case off =>
      refine LCg.Off3.of fun p hp => ?_
      rcases List.mem_append.mp hp with hp | hp
      · exact ⟨Ne.symm (off5 p hp (I, oI) (.head _)), Ne.symm (off5 p hp (C, oC) (.tail _ (.head _))), Ne.symm (off5 p hp (D2, LCg.lst ys) (.tail _ (.tail _ (.head _))))⟩
      · exact off.mem p hp
    case hS => exact .inl hlb
    rw [List.take_add_one, ha, List.map_append]
    exact LRs.snoc (hys.sub fun p hp => List.mem_append_right _ hp) (hv5.sub fun p hp => List.mem_append_left _ hp)
  · rintro ys σ hys
    rw [List.size_toArray, hz, List.take_of_length_le (by simp)] at hys
    (repeat' ((fail_if_success (with_reducible show LCg.CompSrc _ _ _ _ _ _ _ _ _ _ _ _ _ _)); (fail_if_success (with_reducible show wpAny _ _ (pyIter (Value.ref _)) _ _ _)); (fail_if_success (with_reducible show wpAny _ _ (exec (Stmt.While _ _ _ _) _) _ _ _)); (fail_if_success (with_reducible show wpAny _ _ (compareOp _ (Value.ref _) (Value.ref _)) _ _ _)); first | walk1 | (dsimp only; walk1)))
    rename Fr _ _ _ _ => F7
    rename News _ _ _ _ => N7
    refine kde_tupleOf F7 N7 (News.isList N7 (.head _)) (by have := hys.length; simp only [List.length_map] at this; show ys.toArray.size ≤ _; rw [List.size_toArray]; omega) rfl ?_
    rintro T h8 F8 N8 l8
    (repeat' ((fail_if_success (with_reducible show LCg.CompSrc _ _ _ _ _ _ _ _ _ _ _ _ _ _)); (fail_if_success (with_reducible show wpAny _ _ (pyIter (Value.ref _)) _ _ _)); (fail_if_success (with_reducible show wpAny _ _ (exec (Stmt.While _ _ _ _) _) _ _ _)); (fail_if_success (with_reducible show wpAny _ _ (compareOp _ (Value.ref _) (Value.ref _)) _ _ _)); first | walk1 | (dsimp only; walk1)))
    walk_at "my_ret"
    case N => assumption
    exact LR.tupleI (.head _) (hys.sub fun p hp => .tail _ (.tail _ hp))
end
section
theorem calm_12 : True := by w_top off; exact True.intro
/-- the end of a while's turn -/
def WEnd (g : Heap) (L : Addr) (s : Shared) (J : Nat → (Str → Option Value) → List (Addr × Obj) → Prop) (n : Nat) (Q : Flow → Shared → Prop) (f : Flow) (s₃ : Shared) : Prop :=
  match f with
  | .ret v => Q (.ret v) s₃
  | .brk => Q .next s₃
  | _ => ∃ h' tk m₂ σ n', s₃ = { s with heap := h', toks := tk } ∧ Fr g L h' m₂ ∧ News g L h' σ ∧ n' < n ∧ J n' m₂ σ
theorem WEnd.next {g : Heap} {L : Addr} {s : Shared} {J : Nat → (Str → Option Value) → List (Addr × Obj) → Prop} {n n' : Nat} {Q : Flow → Shared → Prop} {h' : Heap} {tk : Nat} {m₂ : Str → Option Value} {σ : List (Addr × Obj)}
    (F : Fr g L h' m₂) (N : News g L h' σ) (hn : n' < n) (j : J n' m₂ σ) : WEnd g L s J n Q .next { s with heap := h', toks := tk } := ⟨h', tk, m₂, σ, n', rfl, F, N, hn, j⟩
theorem WEnd.ret {g : Heap} {L : Addr} {s : Shared} {J : Nat → (Str → Option Value) → List (Addr × Obj) → Prop} {n : Nat} {Q : Flow → Shared → Prop} {s₃ : Shared} {v : Value} (h : Q (.ret v) s₃) : WEnd g L s J n Q (.ret v) s₃ := h
section
variable {prog : Program} {w : World} {A : Around} {E : Value → Shared → Prop} {Q : Flow → Shared → Prop} {s : Shared} {env : Env} {g : Heap} {L : Addr}
theorem while_gen {test : Expr} {body : List Stmt} {pos : Pos} {m : Str → Option Value} {σ : List (Addr × Obj)} (J : Nat → (Str → Option Value) → List (Addr × Obj) → Prop) {n₀ : Nat}
    (F : Fr g L s.heap m) (N : News g L s.heap σ) (hJ : J n₀ m σ)
    (turn : ∀ n m₁ σ₁ h₁ tk₁, Fr g L h₁ m₁ → News g L h₁ σ₁ → J n m₁ σ₁ →
      wpAny (model prog w) A (isTrue test env (eval test env)) (fun b s₂ => WhlIf b (wpAny (model prog w) A (execs body env) (WEnd g L s J n Q) E s₂) (Q .next s₂)) E { s with heap := h₁, toks := tk₁ })
    (hE : PassesOwn (model prog w) A env E) :
    wpAny (model prog w) A (exec (.While test body [] pos) env) Q E s := by
  refine wpAny_While (codeAny_whileLoop (fun n s' => ∃ h₁ tk₁ m₁ σ₁, s' = { s with heap := h₁, toks := tk₁ } ∧ Fr g L h₁ m₁ ∧ News g L h₁ σ₁ ∧ J n m₁ σ₁) ?_ n₀ ⟨s.heap, s.toks, m, σ, rfl, F, N, hJ⟩)
  rintro n s' hTmp
  refine hide fun gX gk => ?_
  obtain ⟨h₁, tk₁, m₁, σ₁, rfl, F₁, N₁, J₁⟩ := hTmp
  refine gk ?_
  clear gk gX
  refine wpAny_mono (turn n m₁ σ₁ h₁ tk₁ F₁ N₁ J₁) (fun b s₂ h₂ => ?_) hE
  unfold WhlIf at h₂
  cases b with
  | false =>
    rw [if_neg Bool.false_ne_true] at h₂
    simp only [Bool.false_eq_true, if_false]
    exact wpAny_execs_nil h₂
  | true =>
    rw [if_pos rfl] at h₂
    simp only [if_true]
    refine wpAny_mono h₂ (fun f s₃ h₃ => ?_) hE
    cases f with
    | ret v => exact h₃
    | brk => exact h₃
    | next =>
      refine hide fun gX gk => ?_
      obtain ⟨h', tk, m₂, σ', n', rfl, F₂, N₂, hn, J₂⟩ := h₃
      refine gk ?_
      clear gk gX
      exact ⟨n', hn, h', tk, m₂, σ', rfl, F₂, N₂, J₂⟩
    | cont =>
      refine hide fun gX gk => ?_
      obtain ⟨h', tk, m₂, σ', n', rfl, F₂, N₂, hn, J₂⟩ := h₃
      refine gk ?_
      clear gk gX
      exact ⟨n', hn, h', tk, m₂, σ', rfl, F₂, N₂, J₂⟩
end

/-- what the search for a neighbour answers: pos 1, pos 2, .. are looked at -/
def Nb (ts : List Str) (pos : Nat → Int) (r : Int) : Prop :=
  ∃ n, 1 ≤ n ∧ (∀ i, 1 ≤ i → i < n → 0 ≤ pos i ∧ pos i < ts.length ∧ tyAt ts (pos i).toNat = Str.ofString "T") ∧
    ((0 ≤ pos n ∧ pos n < ts.length ∧ tyAt ts (pos n).toNat ≠ Str.ofString "T" ∧ r = pos n) ∨ (¬ (0 ≤ pos n ∧ pos n < ts.length) ∧ r = -1))
theorem nbr_ok (w : World) {h : Heap} {l : Addr} {ts : List Str} {st : Int} {t1 t2 : Tok} {pos : Nat → Int} {M : Nat} (hp : LR (HAt h) (.list (ts.map .str)) (.ref l)) (hlen : ts.length ≤ 1000)
    (hps : ∀ n, pos (n + 1) = pos n + st) (hM : 1 ≤ M) (hout : ¬ (0 ≤ pos M ∧ pos M < ts.length)) :
    SpecW w 272 [.ref l, .int (pos 0) t1, .int st t2] [] 2 8 h (fun h' v _ => ∃ r t, v = .int r t ∧ Nb ts pos r) := by
  (( unfold SpecW; k_fill; refine' Spec.plain (ho := ?ho) (hcd := ?hcd) (hbind := ?hbind) (hloc := ?hloc) (hcell := ?hcell) (hco := ?hco) (hgen := ?hgen) (hk := ?hk) (hb := ?hbEnter); (case ho => k_is); (case hcd => k_is); (case hbind => intro s hX; first | exact BindsTo.of_eq rfl); (case hloc => exact locs rfl); (case hcell => decide); (case hco => exact rfl); (case hgen => exact rfl); (case hk => exact rfl)))
  intro g L dp un gd outer A₀ base p loose mean mg mb s hg F N B X T hd hu
  replace hp := hp.mono (P' := HAt g) (fun b o e => hg b o e (by simp))
  have hTmp := hp.isList fun _ _ e => e
  refine hide fun gX gk => ?_
  obtain ⟨vs, hl, hit⟩ := hTmp
  refine gk ?_
  clear gk gX
  have hvl : vs.length = ts.length := by simpa using hit.length
  have hat : ∀ i, i < ts.length → ∃ t, vs[i]? = some (Value.str (tyAt ts i) t) := fun i hi => by
    have hTmp := hit.get (i := i) (d := .str (tyAt ts i)) (by simp [tyAt, List.getD_eq_getElem?_getD, hi])
    refine hide fun gX gk => ?_
    obtain ⟨v, hv1, hv2⟩ := hTmp
    refine gk ?_
    clear gk gX
    obtain ⟨t, rfl⟩ := hv2.strE
    exact ⟨t, hv1⟩
  (repeat' ((fail_if_success (with_reducible show LCg.CompSrc _ _ _ _ _ _ _ _ _ _ _ _ _ _)); (fail_if_success (with_reducible show wpAny _ _ (pyIter (Value.ref _)) _ _ _)); (fail_if_success (with_reducible show wpAny _ _ (exec (Stmt.While _ _ _ _) _) _ _ _)); (fail_if_success (with_reducible show wpAny _ _ (compareOp _ (Value.ref _) (Value.ref _)) _ _ _)); first | walk1 | (dsimp only; walk1)))
  rename Fr _ _ _ _ => F1
  rename News _ _ _ _ => N1
  refine while_gen (n₀ := M - 1) (fun n m σ => ∃ i t, 1 ≤ i ∧ n = M - i ∧ (∀ k, 1 ≤ k → k < i → 0 ≤ pos k ∧ pos k < ts.length ∧ tyAt ts (pos k).toNat = Str.ofString "T") ∧ σ = [] ∧
    m (Str.ofString "at") = some (.int (pos i) t) ∧ m (Str.ofString "types") = some (.ref l) ∧ m (Str.ofString "step") = some (.int st t2)) F1 N1
    ⟨1, _, Nat.le_refl _, rfl, fun k h1 h2 => by omega, rfl, by rw [hps 0]; rfl, by rfl, by rfl⟩ ?_ PassesOwn.never
  rintro n m σ h₁ tk₁ F₁ N₁ hTmp
  refine hide fun gX gk => ?_
  obtain ⟨i, t, hi1, rfl, hbef, rfl, hma, hmt, hms⟩ := hTmp
  refine gk ?_
  clear gk gX
  (repeat' ((fail_if_success (with_reducible show LCg.CompSrc _ _ _ _ _ _ _ _ _ _ _ _ _ _)); (fail_if_success (with_reducible show wpAny _ _ (pyIter (Value.ref _)) _ _ _)); (fail_if_success (with_reducible show wpAny _ _ (exec (Stmt.While _ _ _ _) _) _ _ _)); (fail_if_success (with_reducible show wpAny _ _ (compareOp _ (Value.ref _) (Value.ref _)) _ _ _)); first | walk1 | (dsimp only; walk1)))
  · rename_i hc0
    by_cases hc1 : pos i < ts.length
    · refine WhlIf.yes (by rw [List.size_toArray, hvl]; simpa using hc1) ?_
      obtain ⟨tx, hx⟩ := hat (pos i).toNat (by omega)
      have hiM : i < M := by
        rcases Nat.lt_trichotomy i M with h1 | h1 | h1
        · exact h1
        · rw [h1] at hc0 hc1; exact absurd ⟨hc0, hc1⟩ hout
        · exact absurd ⟨(hbef M hM h1).1, (hbef M hM h1).2.1⟩ hout
      (repeat' ((fail_if_success (with_reducible show LCg.CompSrc _ _ _ _ _ _ _ _ _ _ _ _ _ _)); (fail_if_success (with_reducible show wpAny _ _ (pyIter (Value.ref _)) _ _ _)); (fail_if_success (with_reducible show wpAny _ _ (exec (Stmt.While _ _ _ _) _) _ _ _)); (fail_if_success (with_reducible show wpAny _ _ (compareOp _ (Value.ref _) (Value.ref _)) _ _ _)); first | walk1 | (dsimp only; walk1)))
      · rename_i hT
        refine WEnd.ret ?_
        walk_at "my_ret"
        case N => assumption
        refine ⟨_, _, rfl, i, hi1, hbef, .inl ⟨hc0, hc1, ?_, rfl⟩⟩
        simpa using hT
      · rename_i hT _ _ _
        rename Fr _ _ _ _ => F2
        rename News _ _ _ _ => N2
        refine WEnd.next (n' := M - (i + 1)) F2 N2 (by omega) ⟨i + 1, _, by omega, rfl, fun k h1 h2 => ?_, rfl, by rw [hps i]; rfl, hmt, hms⟩
        rcases Nat.lt_succ_iff_lt_or_eq.mp h2 with h3 | h3
        · exact hbef k h1 h3
        · subst h3
          exact ⟨hc0, hc1, by simpa using hT⟩
    · refine WhlIf.no (by rw [List.size_toArray, hvl]; simpa using hc1) ?_
      (repeat' ((fail_if_success (with_reducible show LCg.CompSrc _ _ _ _ _ _ _ _ _ _ _ _ _ _)); (fail_if_success (with_reducible show wpAny _ _ (pyIter (Value.ref _)) _ _ _)); (fail_if_success (with_reducible show wpAny _ _ (exec (Stmt.While _ _ _ _) _) _ _ _)); (fail_if_success (with_reducible show wpAny _ _ (compareOp _ (Value.ref _) (Value.ref _)) _ _ _)); first | walk1 | (dsimp only; walk1)))
      walk_at "my_ret"
      case N => assumption
      exact ⟨_, _, rfl, i, hi1, hbef, .inr ⟨fun q => hc1 q.2, rfl⟩⟩
  · rename_i hc0
    walk_at "my_ret"
    case N => assumption
    exact ⟨_, _, rfl, i, hi1, hbef, .inr ⟨fun q => hc0 q.1, rfl⟩⟩
/-- the neighbour behind -/
def NbF (ts : List Str) (a : Nat) (r : Int) : Prop :=
  (∃ j : Nat, r = j ∧ a < j ∧ j < ts.length ∧ tyAt ts j ≠ Str.ofString "T" ∧ ∀ k, a < k → k < j → tyAt ts k = Str.ofString "T") ∨
  (r = -1 ∧ ∀ k, a < k → k < ts.length → tyAt ts k = Str.ofString "T")
/-- the neighbour before -/
def NbB (ts : List Str) (a : Nat) (r : Int) : Prop :=
  (∃ j : Nat, r = j ∧ j < a ∧ tyAt ts j ≠ Str.ofString "T" ∧ ∀ k, j < k → k < a → tyAt ts k = Str.ofString "T") ∨
  (r = -1 ∧ ∀ k, k < a → tyAt ts k = Str.ofString "T")
theorem Nb.fwd {ts : List Str} {a : Nat} {r : Int} (ha : a < ts.length) (h : Nb ts (fun n => (a : Int) + n) r) : NbF ts a r := by
  refine hide fun gX gk => ?_
  obtain ⟨n, hn, hb, h⟩ := h
  refine gk ?_
  clear gk gX
  dsimp only at hb h
  have hT : ∀ k, a < k → k < a + n → tyAt ts k = Str.ofString "T" := fun k h1 h2 => by
    have := (hb (k - a) (by omega) (by omega)).2.2
    rwa [show ((a : Int) + ((k - a : Nat) : Int)).toNat = k by omega] at this
  rcases h with ⟨h1, h2, h3, rfl⟩ | ⟨h1, rfl⟩
  · refine .inl ⟨a + n, by omega, by omega, by omega, ?_, hT⟩
    rwa [show ((a : Int) + (n : Int)).toNat = a + n by omega] at h3
  · exact .inr ⟨rfl, fun k h2 h3 => hT k h2 (by omega)⟩
theorem Nb.bwd {ts : List Str} {a : Nat} {r : Int} (ha : a < ts.length) (h : Nb ts (fun n => (a : Int) - n) r) : NbB ts a r := by
  refine hide fun gX gk => ?_
  obtain ⟨n, hn, hb, h⟩ := h
  refine gk ?_
  clear gk gX
  dsimp only at hb h
  have hT : ∀ k : Nat, (a : Int) - n < (k : Int) → k < a → tyAt ts k = Str.ofString "T" := fun k h1 h2 => by
    have := (hb (a - k) (by omega) (by omega)).2.2
    rwa [show ((a : Int) - ((a - k : Nat) : Int)).toNat = k by omega] at this
  rcases h with ⟨h1, h2, h3, rfl⟩ | ⟨h1, rfl⟩
  · refine .inl ⟨a - n, by omega, by omega, ?_, fun k h4 h5 => hT k (by omega) h5⟩
    rwa [show ((a : Int) - (n : Int)).toNat = a - n by omega] at h3
  · exact .inr ⟨rfl, fun k h2 => hT k (by omega) h2⟩
theorem nbrF_ok (w : World) {h : Heap} {l : Addr} {ts : List Str} {a : Nat} {t1 t2 : Tok} (hp : LR (HAt h) (.list (ts.map .str)) (.ref l)) (hlen : ts.length ≤ 1000) (ha : a < ts.length) :
    SpecW w 272 [.ref l, .int a t1, .int 1 t2] [] 2 8 h (fun h' v _ => ∃ r t, v = .int r t ∧ NbF ts a r) := by
  have := nbr_ok w (h := h) (l := l) (ts := ts) (st := 1) (t1 := t1) (t2 := t2) (pos := fun n => (a : Int) + n) (M := ts.length + 1) hp hlen (fun n => by show (a : Int) + ((n + 1 : Nat) : Int) = (a : Int) + n + 1; omega) (by omega) (by omega)
  rw [show (a : Int) + ((0 : Nat) : Int) = (a : Int) by simp] at this
  exact this.mono fun h' v news' _ ⟨r, t, e, x⟩ => ⟨r, t, e, x.fwd ha⟩
theorem nbrB_ok (w : World) {h : Heap} {l : Addr} {ts : List Str} {a : Nat} {t1 t2 : Tok} (hp : LR (HAt h) (.list (ts.map .str)) (.ref l)) (hlen : ts.length ≤ 1000) (ha : a < ts.length) :
    SpecW w 272 [.ref l, .int a t1, .int (-1) t2] [] 2 8 h (fun h' v _ => ∃ r t, v = .int r t ∧ NbB ts a r) := by
  have := nbr_ok w (h := h) (l := l) (ts := ts) (st := -1) (t1 := t1) (t2 := t2) (pos := fun n => (a : Int) - n) (M := ts.length + 1) hp hlen (fun n => by show (a : Int) - ((n + 1 : Nat) : Int) = (a : Int) - n + -1; omega) (by omega) (by omega)
  rw [show (a : Int) - ((0 : Nat) : Int) = (a : Int) by simp] at this
  exact this.mono fun h' v news' _ ⟨r, t, e, x⟩ => ⟨r, t, e, x.bwd ha⟩
end
section
theorem calm_13 : True := by w_top off; exact True.intro
/-- a pair of letters that join -/
structure IsJ (ts : List Str) (a b : Nat) : Prop where
  lt : a < b
  on : jOn (tyAt ts a) = true
  back : jBack (tyAt ts b) = true
  between : ∀ k, a < k → k < b → tyAt ts k = Str.ofString "T"
theorem jOn_T {x : Str} (h : jOn x = true) : x ≠ Str.ofString "T" := by rintro rfl; revert h; decide
theorem jBack_T {x : Str} (h : jBack x = true) : x ≠ Str.ofString "T" := by rintro rfl; revert h; decide
theorem jpS_is (ts : List Str) : ∀ i, ((∀ p : Nat × Nat, p ∈ (jpS ts i).1 ↔ p.2 < i ∧ IsJ ts p.1 p.2) ∧ (jpS ts i).1.Pairwise fun p q => p.1 < q.1) ∧
    (match (jpS ts i).2 with
      | none => ∀ k, k < i → tyAt ts k = Str.ofString "T"
      | some l => l < i ∧ tyAt ts l ≠ Str.ofString "T" ∧ ∀ k, l < k → k < i → tyAt ts k = Str.ofString "T")
  | 0 => by simp [jpS]
  | i + 1 => by
    obtain ⟨⟨h1, h2⟩, h3⟩ := jpS_is ts i
    by_cases hT : tyAt ts i = Str.ofString "T"
    · rw [jpS_T (by simp [hT])]
      refine ⟨⟨fun p => (h1 p).trans ⟨fun q => ⟨Nat.lt_succ_of_lt q.1, q.2⟩, fun q => ⟨?_, q.2⟩⟩, h2⟩, ?_⟩
      · rcases Nat.lt_succ_iff_lt_or_eq.mp q.1 with h4 | h4
        · exact h4
        · have := jBack_T q.2.back
          rw [h4] at this
          exact absurd hT this
      · cases hj : (jpS ts i).2 with
        | none =>
          rw [hj] at h3
          dsimp only at h3 ⊢
          intro k hk
          rcases Nat.lt_succ_iff_lt_or_eq.mp hk with h4 | h4
          · exact h3 k h4
          · rw [h4]; exact hT
        | some l =>
          rw [hj] at h3
          dsimp only at h3 ⊢
          obtain ⟨q1, q2, q3⟩ := h3
          refine ⟨Nat.lt_succ_of_lt q1, q2, fun k hk1 hk => ?_⟩
          rcases Nat.lt_succ_iff_lt_or_eq.mp hk with h4 | h4
          · exact q3 k hk1 h4
          · rw [h4]; exact hT
    · have hT' : (tyAt ts i != Str.ofString "T") = true := by simpa using hT
      cases hj : (jpS ts i).2 with
      | none =>
        rw [jpS_none hT' hj]
        rw [hj] at h3
        dsimp only at h3 ⊢
        refine ⟨⟨fun p => (h1 p).trans ⟨fun q => ⟨Nat.lt_succ_of_lt q.1, q.2⟩, fun q => ⟨?_, q.2⟩⟩, h2⟩, Nat.lt_succ_self _, hT, fun k h4 h5 => by omega⟩
        rcases Nat.lt_succ_iff_lt_or_eq.mp q.1 with h4 | h4
        · exact h4
        · have h5 := h3 p.1 (by have := q.2.lt; omega)
          exact absurd h5 (jOn_T q.2.on)
      | some l =>
        rw [jpS_some hT' hj]
        rw [hj] at h3
        dsimp only at h3 ⊢
        obtain ⟨q1, q2, q3⟩ := h3
        have hlast : ∀ p : Nat × Nat, IsJ ts p.1 p.2 → p.2 = i → p.1 = l := fun p hp e => by
          have h4 := jOn_T hp.on
          have h5 := hp.lt
          rcases Nat.lt_trichotomy p.1 l with h6 | h6 | h6
          · exact absurd (hp.between l h6 (by omega)) q2
          · exact h6
          · exact absurd (q3 p.1 h6 (by omega)) h4
        refine ⟨?_, Nat.lt_succ_self _, hT, fun k h4 h5 => by omega⟩
        by_cases hc : (jOn (tyAt ts l) && jBack (tyAt ts i)) = true
        · rw [if_pos hc]
          obtain ⟨c1, c2⟩ := Bool.and_eq_true_iff.mp hc
          refine ⟨fun p => ?_, ?_⟩
          · rw [List.mem_append, h1 p, List.mem_singleton]
            constructor
            · rintro (⟨h4, h5⟩ | rfl)
              · exact ⟨Nat.lt_succ_of_lt h4, h5⟩
              · exact ⟨Nat.lt_succ_self _, q1, c1, c2, q3⟩
            · rintro ⟨h4, h5⟩
              rcases Nat.lt_succ_iff_lt_or_eq.mp h4 with h6 | h6
              · exact .inl ⟨h6, h5⟩
              · exact .inr (Prod.ext (hlast p h5 h6) h6)
          · refine List.pairwise_append.mpr ⟨h2, List.pairwise_singleton _ _, fun p hp q hq => ?_⟩
            rw [List.mem_singleton.mp hq]
            obtain ⟨h4, h5⟩ := (h1 p).mp hp
            show p.1 < l
            rcases Nat.lt_trichotomy p.2 l with h6 | h6 | h6
            · have := h5.lt; omega
            · have := h5.lt; omega
            · exact absurd (q3 p.2 h6 h4) (jBack_T h5.back)
        · rw [if_neg hc]
          refine ⟨fun p => (h1 p).trans ⟨fun q => ⟨Nat.lt_succ_of_lt q.1, q.2⟩, fun q => ⟨?_, q.2⟩⟩, h2⟩
          rcases Nat.lt_succ_iff_lt_or_eq.mp q.1 with h4 | h4
          · exact h4
          · have h5 := hlast p q.2 h4
            have h6 := q.2.on
            have h7 := q.2.back
            rw [h5] at h6
            rw [h4] at h7
            rw [h6, h7] at hc
            exact absurd rfl hc
theorem jp_mem {ts : List Str} {p : Nat × Nat} : p ∈ jp ts ↔ p.2 < ts.length ∧ IsJ ts p.1 p.2 := (jpS_is ts ts.length).1.1 p
theorem jp_asc (ts : List Str) : (jp ts).Pairwise fun p q => p.1 < q.1 := (jpS_is ts ts.length).1.2
theorem tyAt_out {ts : List Str} {i : Nat} (h : ts.length ≤ i) : tyAt ts i = Str.ofString "" := by
  unfold tyAt; rw [List.getD_eq_getElem?_getD, List.getElem?_eq_none h]; rfl

theorem before_of {ts : List Str} {a : Nat} {r : Int} (ha : a < ts.length) (hb : jBack (tyAt ts a) = true) (h : NbB ts a r) : (jp ts).any (·.2 == a) = (decide (0 ≤ r) && jOn (tyAt ts r.toNat)) := by
  apply Bool.eq_iff_iff.mpr
  rw [List.any_eq_true, Bool.and_eq_true, decide_eq_true_eq]
  rcases h with ⟨j, rfl, h1, h2, h3⟩ | ⟨rfl, h3⟩
  · rw [Int.toNat_natCast]
    constructor
    · rintro ⟨p, hp, e⟩
      have e : p.2 = a := by simpa using e
      obtain ⟨h4, h5⟩ := jp_mem.mp hp
      refine ⟨by omega, ?_⟩
      have : p.1 = j := by
        have h6 := h5.lt
        rcases Nat.lt_trichotomy p.1 j with h7 | h7 | h7
        · exact absurd (h5.between j h7 (by omega)) h2
        · exact h7
        · exact absurd (h3 p.1 h7 (by omega)) (jOn_T h5.on)
      rw [← this]; exact h5.on
    · rintro ⟨_, h4⟩
      exact ⟨(j, a), jp_mem.mpr ⟨ha, h1, h4, hb, h3⟩, by simp⟩
  · constructor
    · rintro ⟨p, hp, e⟩
      have e : p.2 = a := by simpa using e
      obtain ⟨h4, h5⟩ := jp_mem.mp hp
      have := h5.lt
      exact absurd (h3 p.1 (by omega)) (jOn_T h5.on)
    · rintro ⟨h, _⟩; omega
theorem behind_of {ts : List Str} {a : Nat} {r : Int} (h : NbF ts a r) : (jp ts).any (·.1 == a) = (jOn (tyAt ts a) && (decide (0 ≤ r) && jBack (tyAt ts r.toNat))) := by
  apply Bool.eq_iff_iff.mpr
  rw [List.any_eq_true, Bool.and_eq_true, Bool.and_eq_true, decide_eq_true_eq]
  rcases h with ⟨j, rfl, h1, h0, h2, h3⟩ | ⟨rfl, h3⟩
  · rw [Int.toNat_natCast]
    constructor
    · rintro ⟨p, hp, e⟩
      have e : p.1 = a := by simpa using e
      obtain ⟨h4, h5⟩ := jp_mem.mp hp
      refine ⟨e ▸ h5.on, by omega, ?_⟩
      have : p.2 = j := by
        have h6 := h5.lt
        rcases Nat.lt_trichotomy p.2 j with h7 | h7 | h7
        · exact absurd (h3 p.2 (by omega) h7) (jBack_T h5.back)
        · exact h7
        · exact absurd (h5.between j (by omega) h7) h2
      rw [← this]; exact h5.back
    · rintro ⟨h4, _, h5⟩
      exact ⟨(a, j), jp_mem.mpr ⟨h0, h1, h4, h5, h3⟩, by simp⟩
  · constructor
    · rintro ⟨p, hp, e⟩
      have e : p.1 = a := by simpa using e
      obtain ⟨h4, h5⟩ := jp_mem.mp hp
      have := h5.lt
      exact absurd (h3 p.2 (by omega) h4) (jBack_T h5.back)
    · rintro ⟨_, h, _⟩; omega
theorem any_DC (y : Str) : ([Str.ofString "D", Str.ofString "C"].any fun x => x == y) = jOn y := by
  simp only [List.any_cons, List.any_nil, Bool.or_false, jOn, Bool.beq_comm (a := y)]
theorem any_RDC (y : Str) : ([Str.ofString "R", Str.ofString "D", Str.ofString "C"].any fun x => x == y) = jBack y := by
  simp only [List.any_cons, List.any_nil, Bool.or_false, jBack, Bool.beq_comm (a := y)]
  cases (Str.ofString "R" == y) <;> simp
end
section
theorem calm_14 : True := by w_top off; exact True.intro
local macro_rules | `(tactic| walk_at "my_idle") => `(tactic| skip)
local macro_rules | `(tactic| walk_at "call ref") => `(tactic| ((with_reducible show wpAny _ _ (PySem.call (Value.ref 272) [_, _, Value.int 1 _]) _ _ _); refine' Spec.callP (nbrF_ok _ (ts := _) ?hp ?hlen ?ha) ?B ?F ?X ?T ?N ?hk ?hd ?hu ?_; (case hp => exact LR.mono (fun a o e => Fr.keep (by k_asm) a o e) (by assumption)); (case hlen => assumption); (case ha => assumption); walk_at "my_args"; intro v' h' tk' n' F' N' K' P'; obtain ⟨r', t', e', P'⟩ := P'; subst e'; (try dsimp only)))
local macro_rules | `(tactic| walk_at "call ref") => `(tactic| ((with_reducible show wpAny _ _ (PySem.call (Value.ref 272) [_, _, Value.int (-1) _]) _ _ _); refine' Spec.callP (nbrB_ok _ (ts := _) ?hp ?hlen ?ha) ?B ?F ?X ?T ?N ?hk ?hd ?hu ?_; (case hp => exact LR.mono (fun a o e => Fr.keep (by k_asm) a o e) (by assumption)); (case hlen => assumption); (case ha => assumption); walk_at "my_args"; intro v' h' tk' n' F' N' K' P'; obtain ⟨r', t', e', P'⟩ := P'; subst e'; (try dsimp only)))
def isBoolOf : Bool → Value → Bool
  | b, .bool c => c == b
  | _, _ => false
theorem isBoolOf_shape {b : Bool} {v : Value} (h : isBoolOf b v = true) : v = .bool b := by
  cases v <;> simp_all [isBoolOf]
def boolKind (prog : Program) (w : World) : KeyKind prog w Bool where
  is := isBoolOf
  hash := fun b => if b then 1 else 0
  inj := fun v a b ha hb => by
    rw [isBoolOf_shape ha] at hb
    have := isBoolOf_shape hb
    injection this
  byValue := fun k v h => by rw [isBoolOf_shape h]; rfl
  pyHash := fun {A E s k v Q} hv h => by
    rw [isBoolOf_shape hv]
    refine pyHash_slot (T := "bool") rfl F.slot_bool_hash entry_int_hash (args_int_hash _) (beq_builtin_none _) (.inl rfl) ?_
    cases k
    · exact (show wpAny _ _ (do ret (← mkInt 0)) _ _ s from wpAny_bind (wpAny_mkInt (wpAny_pure ⟨_, _, rfl, h⟩)))
    · exact (show wpAny _ _ (do ret (← mkInt 1)) _ _ s from wpAny_bind (wpAny_mkInt (wpAny_pure ⟨_, _, rfl, h⟩)))
  eqBool := fun {A E s a b u v Q} hu hv h => by
    rw [isBoolOf_shape hu, isBoolOf_shape hv]
    refine PySem.SeqAt.EqAt.bool_bool a b _ _ _ _ ?_
    cases a <;> cases b <;> exact h
  «strs» := fun k x t v h => by simp [isBoolOf] at h
theorem boolKind_is (prog : Program) (w : World) (b : Bool) : (boolKind prog w).is b (.bool b) = true := by show isBoolOf b (.bool b) = true; simp [isBoolOf]
theorem same_bool (a b : Bool) : PySem.Spec.same (.bool a) (.bool b) = decide (a = b) := by cases a <;> cases b <;> rfl
def isTy (x : Str) : Prop := x = Str.ofString "U" ∨ x = Str.ofString "T" ∨ x = Str.ofString "R" ∨ x = Str.ofString "D" ∨ x = Str.ofString "C"
theorem Fr.bools {g h : Heap} {L : Addr} {m : Str → Option Value} {B1 B2 : Bool} (F : Fr g L h (fun y => if y = Str.ofString "has_behind" then some (.bool B2) else if y = Str.ofString "has_before" then some (.bool B1) else m y)) :
    ∃ b1 b2, b1 = B1 ∧ b2 = B2 ∧ Fr g L h (fun y => if y = Str.ofString "has_behind" then some (.bool b2) else if y = Str.ofString "has_before" then some (.bool b1) else m y) := ⟨B1, B2, rfl, rfl, F⟩
theorem any_TU {y : Str} (k : isTy y) : ([Str.ofString "T", Str.ofString "U"].any fun x => x == y) = !jBack y := by
  rcases k with rfl | rfl | rfl | rfl | rfl <;> decide
/-- an item of a table that is no name's -/
theorem tmp_tupTab {prog : Program} {w : World} {K : Type} [DecidableEq K] {knd : KeyKind prog w K} {enc : K → PyData} {h₀ : Heap} {L d a : Addr} {news : List (Addr × Obj)} {D : List (PyData × PyData)} {ks : List K} {ok : Obj} {A : Around} {E : Value → Shared → Prop} {s : Shared}
    {value slice : Expr} {dv : PyData} {Q : Value → Shared → Prop} (henc : ∀ a b, PySem.Spec.same (enc a) (enc b) = decide (a = b)) (hu : A.units + 1 < cLine) (N : News h₀ L s.heap news) (T : TupTab knd enc news d D)
    (hka : (a, ok) ∈ news) (tk : TupKeyObj knd ks ok) (hl : PySem.Spec.lookup (encTuple enc ks) D = some dv) (h : ∀ v, PyProof.V.Flat v dv → Q v { s with toks := s.toks + (ks.length + 1) })
    (hs : subscripted slice false (.ref d) (.ref a) = operate [.ref d, .ref a] (getItem (.ref d) (.ref a)) := by with_unfolding_all rfl) :
    wpAny (model prog w) A (subscriptTail value slice (.ref d) (.ref a)) Q E s := by
  have hTmp := T.at N
  refine hide fun gX gk => ?_
  obtain ⟨lo, xs, hd, hf⟩ := hTmp
  refine gk ?_
  clear gk gX
  have hTmp := hf.of_lookup (same_encTuple henc) hl
  refine hide fun gX gk => ?_
  obtain ⟨v, hv, hfl⟩ := hTmp
  refine gk ?_
  clear gk gX
  rw [valueAt_kvsOf] at hv
  have hTmp := Option.map_eq_some_iff.mp hv
  refine hide fun gX gk => ?_
  obtain ⟨p, hp, rfl⟩ := hTmp
  refine gk ?_
  clear gk gX
  exact tail_any hd.typeIs slot_dict_getitem.lookup (wpAny_getItem_heap (tupleKind_room_in1 hu) (tk.key (N.get hka)) hd hp (h _ hfl)) hs
theorem lf_lookup (b1 b2 : Bool) : PySem.Spec.lookup (encTuple PyData.bool [b1, b2]) (putAllT [(encTuple PyData.bool [false, false], PyData.str (Str.ofString "isol")), (encTuple PyData.bool [true, false], PyData.str (Str.ofString "fina")),
    (encTuple PyData.bool [false, true], PyData.str (Str.ofString "init")), (encTuple PyData.bool [true, true], PyData.str (Str.ofString "medi"))] []) = some (.str (formS b1 b2)) := by cases b1 <;> cases b2 <;> rfl
theorem if_bool {b : Bool} {P Q : Prop} (h : b = true → P) (k : b = false → Q) : if b = true then P else Q := by
  cases b
  · rw [if_neg Bool.false_ne_true]; exact k rfl
  · rw [if_pos rfl]; exact h rfl
set_option maxHeartbeats 400000 in
theorem law_form_ok (w : World) {h : Heap} {l : Addr} {ts : List Str} {a : Nat} {t1 : Tok} (hp : LR (HAt h) (.list (ts.map .str)) (.ref l)) (hlen : ts.length ≤ 1000) (ha : a < ts.length) (hty : ∀ i, i < ts.length → isTy (tyAt ts i)) :
    SpecW w 279 [.ref l, .int a t1] [] 4 16 h (fun h' v _ => ∃ t, v = .str (formAt ts a) t) := by
  (( unfold SpecW; k_fill; refine' Spec.plain (ho := ?ho) (hcd := ?hcd) (hbind := ?hbind) (hloc := ?hloc) (hcell := ?hcell) (hco := ?hco) (hgen := ?hgen) (hk := ?hk) (hb := ?hbEnter); (case ho => k_is); (case hcd => k_is); (case hbind => intro s hX; first | exact BindsTo.of_eq rfl); (case hloc => exact locs rfl); (case hcell => decide); (case hco => exact rfl); (case hgen => exact rfl); (case hk => exact rfl)))
  intro g L dp un gd outer A₀ base p loose mean mg mb s hg F N B X T hd hu
  replace hp := hp.mono (P' := HAt g) (fun b o e => hg b o e (by simp))
  have hTmp := hp.isList fun _ _ e => e
  refine hide fun gX gk => ?_
  obtain ⟨vs, hl, hit⟩ := hTmp
  refine gk ?_
  clear gk gX
  have hvl : vs.length = ts.length := by simpa using hit.length
  have hat : ∀ i, i < ts.length → ∃ t, vs[i]? = some (Value.str (tyAt ts i) t) := fun i hi => by
    have hTmp := hit.get (i := i) (d := .str (tyAt ts i)) (by simp [tyAt, List.getD_eq_getElem?_getD, hi])
    refine hide fun gX gk => ?_
    obtain ⟨v, hv1, hv2⟩ := hTmp
    refine gk ?_
    clear gk gX
    obtain ⟨t, rfl⟩ := hv2.strE
    exact ⟨t, hv1⟩
  obtain ⟨tx, hx0⟩ := hat a ha
  have hx : vs[(a : Int).toNat]? = some (Value.str (tyAt ts a) tx) := by simpa using hx0
  have hat' : ∀ j : Nat, j < ts.length → ∃ t, vs[(j : Int).toNat]? = some (Value.str (tyAt ts j) t) := fun j hj => by simpa using hat j hj
  iterate 16 (first | walk1 | (dsimp only; walk1))
  rw [any_TU (hty a ha)]
  refine if_bool (fun hTU => ?_) (fun hTU => ?_)
  · (repeat' ((fail_if_success (with_reducible show LCg.CompSrc _ _ _ _ _ _ _ _ _ _ _ _ _ _)); (fail_if_success (with_reducible show wpAny _ _ (pyIter (Value.ref _)) _ _ _)); (fail_if_success (with_reducible show wpAny _ _ (exec (Stmt.While _ _ _ _) _) _ _ _)); (fail_if_success (with_reducible show wpAny _ _ (compareOp _ (Value.ref _) (Value.ref _)) _ _ _)); first | walk1 | (dsimp only; walk1)))
    walk_at "my_ret"
    case N => assumption
    refine ⟨_, congrArg (fun x => Value.str x _) ?_⟩
    unfold formAt
    rw [if_neg (by simpa using hTU)]
  · replace hTU : jBack (tyAt ts a) = true := by simpa using hTU
    have hform : formAt ts a = formS ((jp ts).any (·.2 == a)) ((jp ts).any (·.1 == a)) := by unfold formAt; rw [if_pos hTU]
    iterate 36 (first | walk1 | (dsimp only; walk1))
    rename NbB _ _ _ => hB
    rename NbF _ _ _ => hF
    rw [before_of ha hTU hB, behind_of hF] at hform
    rcases hB with ⟨j, rfl, hj1, hj2, hj3⟩ | ⟨rfl, hj3⟩
    · obtain ⟨tj, hxj⟩ := hat' j (by omega)
      rcases hF with ⟨k, rfl, hk1, hk2, hk3, hk4⟩ | ⟨rfl, hk4⟩
      · obtain ⟨tk, hxk⟩ := hat' k (by omega)
        (repeat' ((fail_if_success (with_reducible show wpAny _ _ (eval (Expr.Subscript (Expr.Dict _ _ _) _ _) _) _ _ _)); first | walk1 | (dsimp only; walk1)))
        all_goals (( (rename Fr _ _ _ _ => F9); (replace F9 := Fr.bools F9); (obtain ⟨b1, b2, e1, e2, F9⟩ := F9); (rename (List.any [Str.ofString "D", Str.ofString "C"] _) = _ => hA); (rw [any_DC] at hA); (try rw [any_DC] at e1); (try rw [any_DC] at e2); (try rw [any_RDC] at e2); (repeat' ((fail_if_success (with_reducible show wpAny _ _ (eval (Expr.Dict _ _ _) _) _ _ _)); (fail_if_success (with_reducible show TupStores _ _ _ _ _ _ _ _)); (fail_if_success (with_reducible show wpAny _ _ (subscriptTail _ _ (Value.ref _) (Value.ref _)) _ _ _)); first | walk1 | (dsimp only; walk1))); rename News _ _ _ _ => N9; k_dflt (refine' Dict_tup_made ?q ?F ?N ?b ?a ?l ?e ?n ?_; (case q => rfl); (case F => exact F9); (case N => exact N9); (case b => exact modules_low (Top.nolimit (by k_asm))); (case a => rfl); (case l => rfl); (case e => exact List.cons_ne_nil _ _); (case n => exact Nat.le_of_ble_eq_true rfl)); intro o1 F9 N9 lo9 hd9; (repeat' ((fail_if_success (with_reducible show wpAny _ _ (eval (Expr.Dict _ _ _) _) _ _ _)); (fail_if_success (with_reducible show TupStores _ _ _ _ _ _ _ _)); (fail_if_success (with_reducible show wpAny _ _ (subscriptTail _ _ (Value.ref _) (Value.ref _)) _ _ _)); first | walk1 | (dsimp only; walk1))); rename Fr _ _ _ _ => F9; rename News _ _ _ _ => N9; refine TupStores.intro (knd := boolKind _ _) (enc := PyData.bool) same_bool (by simp only [cLine] at *; omega) F9 N9 (TupTab.ofEmpty (by tupd_mem) lo9 hd9) (KeysIn.cons (by tupd_mem) (TupKeyObj.made (ItemsAre.cons (boolKind_is _ _ _) (ItemsAre.cons (boolKind_is _ _ _) ItemsAre.nil))) (PyProof.V.Flat.str _ _) (KeysIn.cons (by tupd_mem) (TupKeyObj.made (ItemsAre.cons (boolKind_is _ _ _) (ItemsAre.cons (boolKind_is _ _ _) ItemsAre.nil))) (PyProof.V.Flat.str _ _) (KeysIn.cons (by tupd_mem) (TupKeyObj.made (ItemsAre.cons (boolKind_is _ _ _) (ItemsAre.cons (boolKind_is _ _ _) ItemsAre.nil))) (PyProof.V.Flat.str _ _) (KeysIn.cons (by tupd_mem) (TupKeyObj.made (ItemsAre.cons (boolKind_is _ _ _) (ItemsAre.cons (boolKind_is _ _ _) ItemsAre.nil))) (PyProof.V.Flat.str _ _) KeysIn.nil)))) ?_ (Nat.le_of_ble_eq_true rfl); intro h10 news10 tk10 F10 N10 T10 keep10; clear F9 N9; (repeat' ((fail_if_success (with_reducible show wpAny _ _ (eval (Expr.Dict _ _ _) _) _ _ _)); (fail_if_success (with_reducible show TupStores _ _ _ _ _ _ _ _)); (fail_if_success (with_reducible show wpAny _ _ (subscriptTail _ _ (Value.ref _) (Value.ref _)) _ _ _)); first | walk1 | (dsimp only; walk1))); rename News _ _ _ _ => N11; refine tmp_tupTab (knd := boolKind _ _) (enc := PyData.bool) (dv := .str (formS b1 b2)) same_bool (by simp only [cLine] at *; omega) N11 (TupTab.cons T10 _) (.head _) (TupKeyObj.made (ItemsAre.cons (boolKind_is _ _ b1) (ItemsAre.cons (boolKind_is _ _ b2) ItemsAre.nil))) (lf_lookup b1 b2) ?_; intro v11 hv11; (have hv12 := hv11 h10); cases hv12; (repeat' ((fail_if_success (with_reducible show LCg.CompSrc _ _ _ _ _ _ _ _ _ _ _ _ _ _)); (fail_if_success (with_reducible show wpAny _ _ (pyIter (Value.ref _)) _ _ _)); (fail_if_success (with_reducible show wpAny _ _ (exec (Stmt.While _ _ _ _) _) _ _ _)); (fail_if_success (with_reducible show wpAny _ _ (compareOp _ (Value.ref _) (Value.ref _)) _ _ _)); first | walk1 | (dsimp only; walk1))); walk_at "my_ret"; (case N => assumption); (refine ⟨_, congrArg (fun x => Value.str x _) ?_⟩); (rename formAt _ _ = formS _ _ => hform); (rw [hform, e1, e2]); simp [hA]))
      · (repeat' ((fail_if_success (with_reducible show wpAny _ _ (eval (Expr.Subscript (Expr.Dict _ _ _) _ _) _) _ _ _)); first | walk1 | (dsimp only; walk1)))
        all_goals (( (rename Fr _ _ _ _ => F9); (replace F9 := Fr.bools F9); (obtain ⟨b1, b2, e1, e2, F9⟩ := F9); (rename (List.any [Str.ofString "D", Str.ofString "C"] _) = _ => hA); (rw [any_DC] at hA); (try rw [any_DC] at e1); (try rw [any_DC] at e2); (try rw [any_RDC] at e2); (repeat' ((fail_if_success (with_reducible show wpAny _ _ (eval (Expr.Dict _ _ _) _) _ _ _)); (fail_if_success (with_reducible show TupStores _ _ _ _ _ _ _ _)); (fail_if_success (with_reducible show wpAny _ _ (subscriptTail _ _ (Value.ref _) (Value.ref _)) _ _ _)); first | walk1 | (dsimp only; walk1))); rename News _ _ _ _ => N9; k_dflt (refine' Dict_tup_made ?q ?F ?N ?b ?a ?l ?e ?n ?_; (case q => rfl); (case F => exact F9); (case N => exact N9); (case b => exact modules_low (Top.nolimit (by k_asm))); (case a => rfl); (case l => rfl); (case e => exact List.cons_ne_nil _ _); (case n => exact Nat.le_of_ble_eq_true rfl)); intro o1 F9 N9 lo9 hd9; (repeat' ((fail_if_success (with_reducible show wpAny _ _ (eval (Expr.Dict _ _ _) _) _ _ _)); (fail_if_success (with_reducible show TupStores _ _ _ _ _ _ _ _)); (fail_if_success (with_reducible show wpAny _ _ (subscriptTail _ _ (Value.ref _) (Value.ref _)) _ _ _)); first | walk1 | (dsimp only; walk1))); rename Fr _ _ _ _ => F9; rename News _ _ _ _ => N9; refine TupStores.intro (knd := boolKind _ _) (enc := PyData.bool) same_bool (by simp only [cLine] at *; omega) F9 N9 (TupTab.ofEmpty (by tupd_mem) lo9 hd9) (KeysIn.cons (by tupd_mem) (TupKeyObj.made (ItemsAre.cons (boolKind_is _ _ _) (ItemsAre.cons (boolKind_is _ _ _) ItemsAre.nil))) (PyProof.V.Flat.str _ _) (KeysIn.cons (by tupd_mem) (TupKeyObj.made (ItemsAre.cons (boolKind_is _ _ _) (ItemsAre.cons (boolKind_is _ _ _) ItemsAre.nil))) (PyProof.V.Flat.str _ _) (KeysIn.cons (by tupd_mem) (TupKeyObj.made (ItemsAre.cons (boolKind_is _ _ _) (ItemsAre.cons (boolKind_is _ _ _) ItemsAre.nil))) (PyProof.V.Flat.str _ _) (KeysIn.cons (by tupd_mem) (TupKeyObj.made (ItemsAre.cons (boolKind_is _ _ _) (ItemsAre.cons (boolKind_is _ _ _) ItemsAre.nil))) (PyProof.V.Flat.str _ _) KeysIn.nil)))) ?_ (Nat.le_of_ble_eq_true rfl); intro h10 news10 tk10 F10 N10 T10 keep10; clear F9 N9; (repeat' ((fail_if_success (with_reducible show wpAny _ _ (eval (Expr.Dict _ _ _) _) _ _ _)); (fail_if_success (with_reducible show TupStores _ _ _ _ _ _ _ _)); (fail_if_success (with_reducible show wpAny _ _ (subscriptTail _ _ (Value.ref _) (Value.ref _)) _ _ _)); first | walk1 | (dsimp only; walk1))); rename News _ _ _ _ => N11; refine tmp_tupTab (knd := boolKind _ _) (enc := PyData.bool) (dv := .str (formS b1 b2)) same_bool (by simp only [cLine] at *; omega) N11 (TupTab.cons T10 _) (.head _) (TupKeyObj.made (ItemsAre.cons (boolKind_is _ _ b1) (ItemsAre.cons (boolKind_is _ _ b2) ItemsAre.nil))) (lf_lookup b1 b2) ?_; intro v11 hv11; (have hv12 := hv11 h10); cases hv12; (repeat' ((fail_if_success (with_reducible show LCg.CompSrc _ _ _ _ _ _ _ _ _ _ _ _ _ _)); (fail_if_success (with_reducible show wpAny _ _ (pyIter (Value.ref _)) _ _ _)); (fail_if_success (with_reducible show wpAny _ _ (exec (Stmt.While _ _ _ _) _) _ _ _)); (fail_if_success (with_reducible show wpAny _ _ (compareOp _ (Value.ref _) (Value.ref _)) _ _ _)); first | walk1 | (dsimp only; walk1))); walk_at "my_ret"; (case N => assumption); (refine ⟨_, congrArg (fun x => Value.str x _) ?_⟩); (rename formAt _ _ = formS _ _ => hform); (rw [hform, e1, e2]); simp [hA]))
    · rcases hF with ⟨k, rfl, hk1, hk2, hk3, hk4⟩ | ⟨rfl, hk4⟩
      · obtain ⟨tk, hxk⟩ := hat' k (by omega)
        (repeat' ((fail_if_success (with_reducible show wpAny _ _ (eval (Expr.Subscript (Expr.Dict _ _ _) _ _) _) _ _ _)); first | walk1 | (dsimp only; walk1)))
        all_goals (( (rename Fr _ _ _ _ => F9); (replace F9 := Fr.bools F9); (obtain ⟨b1, b2, e1, e2, F9⟩ := F9); (rename (List.any [Str.ofString "D", Str.ofString "C"] _) = _ => hA); (rw [any_DC] at hA); (try rw [any_DC] at e1); (try rw [any_DC] at e2); (try rw [any_RDC] at e2); (repeat' ((fail_if_success (with_reducible show wpAny _ _ (eval (Expr.Dict _ _ _) _) _ _ _)); (fail_if_success (with_reducible show TupStores _ _ _ _ _ _ _ _)); (fail_if_success (with_reducible show wpAny _ _ (subscriptTail _ _ (Value.ref _) (Value.ref _)) _ _ _)); first | walk1 | (dsimp only; walk1))); rename News _ _ _ _ => N9; k_dflt (refine' Dict_tup_made ?q ?F ?N ?b ?a ?l ?e ?n ?_; (case q => rfl); (case F => exact F9); (case N => exact N9); (case b => exact modules_low (Top.nolimit (by k_asm))); (case a => rfl); (case l => rfl); (case e => exact List.cons_ne_nil _ _); (case n => exact Nat.le_of_ble_eq_true rfl)); intro o1 F9 N9 lo9 hd9; (repeat' ((fail_if_success (with_reducible show wpAny _ _ (eval (Expr.Dict _ _ _) _) _ _ _)); (fail_if_success (with_reducible show TupStores _ _ _ _ _ _ _ _)); (fail_if_success (with_reducible show wpAny _ _ (subscriptTail _ _ (Value.ref _) (Value.ref _)) _ _ _)); first | walk1 | (dsimp only; walk1))); rename Fr _ _ _ _ => F9; rename News _ _ _ _ => N9; refine TupStores.intro (knd := boolKind _ _) (enc := PyData.bool) same_bool (by simp only [cLine] at *; omega) F9 N9 (TupTab.ofEmpty (by tupd_mem) lo9 hd9) (KeysIn.cons (by tupd_mem) (TupKeyObj.made (ItemsAre.cons (boolKind_is _ _ _) (ItemsAre.cons (boolKind_is _ _ _) ItemsAre.nil))) (PyProof.V.Flat.str _ _) (KeysIn.cons (by tupd_mem) (TupKeyObj.made (ItemsAre.cons (boolKind_is _ _ _) (ItemsAre.cons (boolKind_is _ _ _) ItemsAre.nil))) (PyProof.V.Flat.str _ _) (KeysIn.cons (by tupd_mem) (TupKeyObj.made (ItemsAre.cons (boolKind_is _ _ _) (ItemsAre.cons (boolKind_is _ _ _) ItemsAre.nil))) (PyProof.V.Flat.str _ _) (KeysIn.cons (by tupd_mem) (TupKeyObj.made (ItemsAre.cons (boolKind_is _ _ _) (ItemsAre.cons (boolKind_is _ _ _) ItemsAre.nil))) (PyProof.V.Flat.str _ _) KeysIn.nil)))) ?_ (Nat.le_of_ble_eq_true rfl); intro h10 news10 tk10 F10 N10 T10 keep10; clear F9 N9; (repeat' ((fail_if_success (with_reducible show wpAny _ _ (eval (Expr.Dict _ _ _) _) _ _ _)); (fail_if_success (with_reducible show TupStores _ _ _ _ _ _ _ _)); (fail_if_success (with_reducible show wpAny _ _ (subscriptTail _ _ (Value.ref _) (Value.ref _)) _ _ _)); first | walk1 | (dsimp only; walk1))); rename News _ _ _ _ => N11; refine tmp_tupTab (knd := boolKind _ _) (enc := PyData.bool) (dv := .str (formS b1 b2)) same_bool (by simp only [cLine] at *; omega) N11 (TupTab.cons T10 _) (.head _) (TupKeyObj.made (ItemsAre.cons (boolKind_is _ _ b1) (ItemsAre.cons (boolKind_is _ _ b2) ItemsAre.nil))) (lf_lookup b1 b2) ?_; intro v11 hv11; (have hv12 := hv11 h10); cases hv12; (repeat' ((fail_if_success (with_reducible show LCg.CompSrc _ _ _ _ _ _ _ _ _ _ _ _ _ _)); (fail_if_success (with_reducible show wpAny _ _ (pyIter (Value.ref _)) _ _ _)); (fail_if_success (with_reducible show wpAny _ _ (exec (Stmt.While _ _ _ _) _) _ _ _)); (fail_if_success (with_reducible show wpAny _ _ (compareOp _ (Value.ref _) (Value.ref _)) _ _ _)); first | walk1 | (dsimp only; walk1))); walk_at "my_ret"; (case N => assumption); (refine ⟨_, congrArg (fun x => Value.str x _) ?_⟩); (rename formAt _ _ = formS _ _ => hform); (rw [hform, e1, e2]); simp [hA]))
      · (repeat' ((fail_if_success (with_reducible show wpAny _ _ (eval (Expr.Subscript (Expr.Dict _ _ _) _ _) _) _ _ _)); first | walk1 | (dsimp only; walk1)))
        all_goals (( (rename Fr _ _ _ _ => F9); (replace F9 := Fr.bools F9); (obtain ⟨b1, b2, e1, e2, F9⟩ := F9); (rename (List.any [Str.ofString "D", Str.ofString "C"] _) = _ => hA); (rw [any_DC] at hA); (try rw [any_DC] at e1); (try rw [any_DC] at e2); (try rw [any_RDC] at e2); (repeat' ((fail_if_success (with_reducible show wpAny _ _ (eval (Expr.Dict _ _ _) _) _ _ _)); (fail_if_success (with_reducible show TupStores _ _ _ _ _ _ _ _)); (fail_if_success (with_reducible show wpAny _ _ (subscriptTail _ _ (Value.ref _) (Value.ref _)) _ _ _)); first | walk1 | (dsimp only; walk1))); rename News _ _ _ _ => N9; k_dflt (refine' Dict_tup_made ?q ?F ?N ?b ?a ?l ?e ?n ?_; (case q => rfl); (case F => exact F9); (case N => exact N9); (case b => exact modules_low (Top.nolimit (by k_asm))); (case a => rfl); (case l => rfl); (case e => exact List.cons_ne_nil _ _); (case n => exact Nat.le_of_ble_eq_true rfl)); intro o1 F9 N9 lo9 hd9; (repeat' ((fail_if_success (with_reducible show wpAny _ _ (eval (Expr.Dict _ _ _) _) _ _ _)); (fail_if_success (with_reducible show TupStores _ _ _ _ _ _ _ _)); (fail_if_success (with_reducible show wpAny _ _ (subscriptTail _ _ (Value.ref _) (Value.ref _)) _ _ _)); first | walk1 | (dsimp only; walk1))); rename Fr _ _ _ _ => F9; rename News _ _ _ _ => N9; refine TupStores.intro (knd := boolKind _ _) (enc := PyData.bool) same_bool (by simp only [cLine] at *; omega) F9 N9 (TupTab.ofEmpty (by tupd_mem) lo9 hd9) (KeysIn.cons (by tupd_mem) (TupKeyObj.made (ItemsAre.cons (boolKind_is _ _ _) (ItemsAre.cons (boolKind_is _ _ _) ItemsAre.nil))) (PyProof.V.Flat.str _ _) (KeysIn.cons (by tupd_mem) (TupKeyObj.made (ItemsAre.cons (boolKind_is _ _ _) (ItemsAre.cons (boolKind_is _ _ _) ItemsAre.nil))) (PyProof.V.Flat.str _ _) (KeysIn.cons (by tupd_mem) (TupKeyObj.made (ItemsAre.cons (boolKind_is _ _ _) (ItemsAre.cons (boolKind_is _ _ _) ItemsAre.nil))) (PyProof.V.Flat.str _ _) (KeysIn.cons (by tupd_mem) (TupKeyObj.made (ItemsAre.cons (boolKind_is _ _ _) (ItemsAre.cons (boolKind_is _ _ _) ItemsAre.nil))) (PyProof.V.Flat.str _ _) KeysIn.nil)))) ?_ (Nat.le_of_ble_eq_true rfl); intro h10 news10 tk10 F10 N10 T10 keep10; clear F9 N9; (repeat' ((fail_if_success (with_reducible show wpAny _ _ (eval (Expr.Dict _ _ _) _) _ _ _)); (fail_if_success (with_reducible show TupStores _ _ _ _ _ _ _ _)); (fail_if_success (with_reducible show wpAny _ _ (subscriptTail _ _ (Value.ref _) (Value.ref _)) _ _ _)); first | walk1 | (dsimp only; walk1))); rename News _ _ _ _ => N11; refine tmp_tupTab (knd := boolKind _ _) (enc := PyData.bool) (dv := .str (formS b1 b2)) same_bool (by simp only [cLine] at *; omega) N11 (TupTab.cons T10 _) (.head _) (TupKeyObj.made (ItemsAre.cons (boolKind_is _ _ b1) (ItemsAre.cons (boolKind_is _ _ b2) ItemsAre.nil))) (lf_lookup b1 b2) ?_; intro v11 hv11; (have hv12 := hv11 h10); cases hv12; (repeat' ((fail_if_success (with_reducible show LCg.CompSrc _ _ _ _ _ _ _ _ _ _ _ _ _ _)); (fail_if_success (with_reducible show wpAny _ _ (pyIter (Value.ref _)) _ _ _)); (fail_if_success (with_reducible show wpAny _ _ (exec (Stmt.While _ _ _ _) _) _ _ _)); (fail_if_success (with_reducible show wpAny _ _ (compareOp _ (Value.ref _) (Value.ref _)) _ _ _)); first | walk1 | (dsimp only; walk1))); walk_at "my_ret"; (case N => assumption); (refine ⟨_, congrArg (fun x => Value.str x _) ?_⟩); (rename formAt _ _ = formS _ _ => hform); (rw [hform, e1, e2]); simp [hA]))
end
section
theorem calm_15 : True := by w_top off; exact True.intro
/-- the pool of the draws -/
structure Pool where
  gr : Int
  st : Int
  pl : Nat
  tg : Tok
  ts : Tok
  tp : Tok
  k : Nat
abbrev Pool.obj (p : Pool) (cl : Addr) : Obj := W.listOf #[.ref cl, .int p.gr p.tg, .int p.st p.ts, .int p.pl p.tp] p.k
def Pool.ok (p : Pool) : Prop := 0 ≤ p.gr ∧ p.gr < 10 ^ 200 ∧ 0 ≤ p.st ∧ p.st < 2147483647
theorem draw_ok (w : World) {h : Heap} {P cl : Addr} {p : Pool} {vs : Array Value} {kc : Nat} {cells : List Int} {most : Int} {tm : Tok}
    (hcl : HOut h [P] cl (W.listOf vs kc)) (hc : IntsAre vs.toList cells) (hlen : cells.length ≤ 40) (hok : p.ok) (hpl : p.pl ≤ 1000) (hm : 0 < most) (hm2 : most ≤ 1000) :
    SpecW w 258 [.ref P, .int most tm] [(P, p.obj cl)] 2 8 h (fun h' v news' => ∃ (r : Int) (t : Tok) (p' : Pool), v = .int r t ∧ 0 ≤ r ∧ r < most ∧ news' = [(P, p'.obj cl)] ∧ p'.ok ∧ p'.pl = p.pl + 1) := by
  (( unfold SpecW; k_fill; refine' Spec.plain (ho := ?ho) (hcd := ?hcd) (hbind := ?hbind) (hloc := ?hloc) (hcell := ?hcell) (hco := ?hco) (hgen := ?hgen) (hk := ?hk) (hb := ?hbEnter); (case ho => k_is); (case hcd => k_is); (case hbind => intro s hX; first | exact BindsTo.of_eq rfl); (case hloc => exact locs rfl); (case hcell => decide); (case hco => exact rfl); (case hgen => exact rfl); (case hk => exact rfl)))
  intro g L dp un gd outer A₀ base pp loose mean mg mb s hg F N B X T hd hu
  replace hcl : HAt g cl (W.listOf vs kc) := hg _ _ hcl.1 hcl.2
  have hlc : g.IsList cl vs := ⟨_, hcl, rfl, _, rfl⟩
  refine hide fun gX gk => ?_
  obtain ⟨gr, st, pl, tg, ts, tp, k⟩ := p
  refine gk ?_
  clear gk gX
  refine hide fun gX gk => ?_
  obtain ⟨h1, h2, h3, h4⟩ := hok
  refine gk ?_
  clear gk gX
  dsimp only at h1 h2 h3 h4 hpl
  have hvl : vs.toList.length = cells.length := by simpa using hc.length
  (repeat' ((fail_if_success (with_reducible show LCg.CompSrc _ _ _ _ _ _ _ _ _ _ _ _ _ _)); (fail_if_success (with_reducible show wpAny _ _ (pyIter (Value.ref _)) _ _ _)); (fail_if_success (with_reducible show wpAny _ _ (exec (Stmt.While _ _ _ _) _) _ _ _)); (fail_if_success (with_reducible show wpAny _ _ (compareOp _ (Value.ref _) (Value.ref _)) _ _ _)); first | walk1 | (dsimp only; walk1)))
  · walk_at "my_ret"
    case N => assumption
    refine ⟨_, _, ⟨gr.fdiv most, st, pl + 1, _, _, _, _⟩, rfl, ?_, ?_, rfl, ⟨?_, ?_, h3, h4⟩, rfl⟩
    · exact Int.fmod_nonneg h1 (by omega)
    · exact Int.fmod_lt_of_pos _ hm
    · rw [Int.fdiv_eq_ediv_of_nonneg _ (by omega)]; exact Int.ediv_nonneg h1 (by omega)
    · rw [Int.fdiv_eq_ediv_of_nonneg _ (by omega)]; exact Int.lt_of_le_of_lt (Int.ediv_le_self _ h1) h2
  · walk_at "my_ret"
    case N => assumption
    refine ⟨_, _, ⟨gr, _, pl + 1, _, _, _, _⟩, rfl, Int.fmod_nonneg_of_pos _ hm, Int.fmod_lt_of_pos _ hm, rfl, ⟨h1, h2, ?_, ?_⟩, rfl⟩
    · exact Int.fmod_nonneg_of_pos _ (by omega)
    · exact Int.fmod_lt_of_pos _ (by omega)
  · walk_at "my_ret"
    case N => assumption
    refine ⟨_, _, ⟨gr, _, pl + 1, _, _, _, _⟩, rfl, Int.fmod_nonneg_of_pos _ hm, Int.fmod_lt_of_pos _ hm, rfl, ⟨h1, h2, ?_, ?_⟩, rfl⟩
    · exact Int.fmod_nonneg_of_pos _ (by omega)
    · exact Int.fmod_lt_of_pos _ (by omega)
end
section
theorem calm_16 : True := by w_top off; exact True.intro
local macro_rules | `(tactic| walk_at "my_idle") => `(tactic| skip)
theorem box_ok (w : World) {h : Heap} {l : Addr} {vs : List Value} {ns : List Int} (hl : h.IsList l vs.toArray) (hi : IntsAre vs ns) (hlen : ns.length ≤ 63) :
    SpecW w 251 [.ref l] [] 2 8 h (fun h' v news' => ∃ (P cl : Addr) (ws : Array Value) (kc : Nat) (cells : List Int) (p : Pool), v = .ref P ∧ (P, p.obj cl) ∈ news' ∧ (cl, W.listOf ws kc) ∈ news' ∧ IntsAre ws.toList cells ∧ cells.length ≤ 40 ∧ p.ok ∧ p.pl = 0 ∧ cl ≠ P) := by
  (( unfold SpecW; k_fill; refine' Spec.plain (ho := ?ho) (hcd := ?hcd) (hbind := ?hbind) (hloc := ?hloc) (hcell := ?hcell) (hco := ?hco) (hgen := ?hgen) (hk := ?hk) (hb := ?hbEnter); (case ho => k_is); (case hcd => k_is); (case hbind => intro s hX; first | exact BindsTo.of_eq rfl); (case hloc => exact locs rfl); (case hcell => decide); (case hco => exact rfl); (case hgen => exact rfl); (case hk => exact rfl)))
  intro g L dp un gd outer A₀ base pp loose mean mg mb s hg F N B X T hd hu
  replace hl : g.IsList l vs.toArray := hl.at fun o e => hg _ _ e (by simp)
  have hvl := hi.length
  (repeat' ((fail_if_success (with_reducible show LCg.CompSrc _ _ _ _ _ _ _ _ _ _ _ _ _ _)); (fail_if_success (with_reducible show wpAny _ _ (pyIter (Value.ref _)) _ _ _)); (fail_if_success (with_reducible show wpAny _ _ (exec (Stmt.While _ _ _ _) _) _ _ _)); (fail_if_success (with_reducible show wpAny _ _ (compareOp _ (Value.ref _) (Value.ref _)) _ _ _)); first | walk1 | (dsimp only; walk1)))
  rename_i D ws h1 F1 N1 hI hC hL l1
  obtain ⟨cs, hcs⟩ : ∃ cs, cs = ns.take 40 := ⟨_, rfl⟩
  rw [← hcs] at hI hC hL
  have hc40 : cs.length ≤ 40 := by omega
  have hwl := hI.length
  refine LCg.CompSrc.ledger rfl (by assumption) (by assumption) (.head _) (by rw [sizeLine_eq, List.size_toArray]; omega) ?_
  intro g1
  refine comp_gen (fun i ys σ => σ = [(D, W.listOf ws.toArray 0)] ∧ IntsAre ys (cs.take i)) ⟨rfl, .nil⟩ ?_ ?_
  · rintro i v ys σ I oI C oC D2 m₂ h tk E' hi' hv ⟨rfl, hys⟩ hC hx F N off ne
    rw [List.size_toArray, hwl] at hi'
    have ha : cs[i]? = some cs[i] := by simp [hi']
    generalize cs[i] = c at ha
    obtain ⟨t, hc1⟩ := hI.get i c ha
    obtain rfl : v = Value.int c t := by
      have : ws[i]? = some v := by simpa using hv
      rw [hc1] at this; exact (Option.some.inj this).symm
    (repeat' ((fail_if_success (with_reducible show LCg.CompSrc _ _ _ _ _ _ _ _ _ _ _ _ _ _)); (fail_if_success (with_reducible show wpAny _ _ (pyIter (Value.ref _)) _ _ _)); (fail_if_success (with_reducible show wpAny _ _ (exec (Stmt.While _ _ _ _) _) _ _ _)); (fail_if_success (with_reducible show wpAny _ _ (compareOp _ (Value.ref _) (Value.ref _)) _ _ _)); first | walk1 | (dsimp only; walk1)))
    walk_at "my_cend"
    case σ => exact [(D, W.listOf ws.toArray 0)]
    case sub => exact fun p hp => hp
    case off => exact off
    case hS => exact .inr ⟨_, .head _, rfl, _, rfl⟩
    refine ⟨rfl, ?_⟩
    rw [List.take_add_one, ha]
    exact IntsAre.append hys (.cons _ _ .nil)
  · rintro ys σ ⟨rfl, hys⟩
    rw [List.size_toArray, hwl, List.take_length] at hys
    (repeat' ((fail_if_success (with_reducible show LCg.CompSrc _ _ _ _ _ _ _ _ _ _ _ _ _ _)); (fail_if_success (with_reducible show wpAny _ _ (pyIter (Value.ref _)) _ _ _)); (fail_if_success (with_reducible show wpAny _ _ (exec (Stmt.While _ _ _ _) _) _ _ _)); (fail_if_success (with_reducible show wpAny _ _ (compareOp _ (Value.ref _) (Value.ref _)) _ _ _)); first | walk1 | (dsimp only; walk1)))
    all_goals (
      rename Fr _ _ _ _ => F1
      rename News _ _ _ _ => N1
      refine iter_list (k := ys.length) (its := ys) (lo := LCg.lst ys) (fun i m σ => σ = [(_, LCg.lst ys), (D, W.listOf ws.toArray 0)] ∧ ∃ gr tg st ts, 0 ≤ gr ∧ gr < 10 ^ 200 ∧ 0 ≤ st ∧ st < 2147483647 ∧ m (Str.ofString "great") = some (.int gr tg) ∧ m (Str.ofString "state") = some (.int st ts) ∧ m (Str.ofString "cells") = some (.ref _)) rfl F1 N1 rfl
        (by rintro i m σ ⟨rfl, _⟩; exact .head _) ⟨rfl, _, _, _, _, ?_, ?_, ?_, ?_, by rfl, by rfl, by rfl⟩ ?_ ?_
      · first | exact Int.le_refl _ | exact Int.fmod_nonneg_of_pos _ (by decide +kernel)
      · first | (show (0 : Int) < _; decide +kernel) | exact Int.fmod_lt_of_pos _ (by decide +kernel)
      · decide
      · decide
      · rintro i v m σ h₁ tk I io hv hTmp
        refine hide fun gX gk => ?_
        obtain ⟨hσ, gr, tg, st, ts, g1, g2, g3, g4, hm1, hm2, hm3⟩ := hTmp
        refine gk ?_
        clear gk gX
        rintro F₁ N₁ off hic
        have hTmp := hys.at i v hv
        refine hide fun gX gk => ?_
        obtain ⟨c, t, rfl, _⟩ := hTmp
        refine gk ?_
        clear gk gX
        (repeat' ((fail_if_success (with_reducible show LCg.CompSrc _ _ _ _ _ _ _ _ _ _ _ _ _ _)); (fail_if_success (with_reducible show wpAny _ _ (pyIter (Value.ref _)) _ _ _)); (fail_if_success (with_reducible show wpAny _ _ (exec (Stmt.While _ _ _ _) _) _ _ _)); (fail_if_success (with_reducible show wpAny _ _ (compareOp _ (Value.ref _) (Value.ref _)) _ _ _)); first | walk1 | (dsimp only; walk1)))
        walk_at "my_turn"
        case σ => exact σ
        case sub => exact fun p hp => .tail _ hp
        case off => exact fun p hp => .inl (off p hp)
        exact ⟨hσ, gr, tg, _, _, g1, g2, Int.fmod_nonneg_of_pos _ (by decide), Int.fmod_lt_of_pos _ (by decide), hm1, by rfl, hm3⟩
      · rintro m σ h₁ tk hTmp
        refine hide fun gX gk => ?_
        obtain ⟨rfl, gr, tg, st, ts, g1, g2, g3, g4, hm1, hm2, hm3⟩ := hTmp
        refine gk ?_
        clear gk gX
        rintro F₁ N₁
        (repeat' ((fail_if_success (with_reducible show LCg.CompSrc _ _ _ _ _ _ _ _ _ _ _ _ _ _)); (fail_if_success (with_reducible show wpAny _ _ (pyIter (Value.ref _)) _ _ _)); (fail_if_success (with_reducible show wpAny _ _ (exec (Stmt.While _ _ _ _) _) _ _ _)); (fail_if_success (with_reducible show wpAny _ _ (compareOp _ (Value.ref _) (Value.ref _)) _ _ _)); first | walk1 | (dsimp only; walk1)))
        walk_at "my_ret"
        case N => assumption
        exact ⟨_, _, ys.toArray, ys.length, cs, ⟨gr, st, 0, tg, ts, _, _⟩, rfl, .head _, .tail _ (.head _), hys, hc40, ⟨g1, g2, g3, g4⟩, rfl, by rename_i l1; exact Nat.ne_of_lt l1.1⟩)
end
section
theorem calm_17 : True := by w_top off; exact True.intro
def runsL : List (Int × String) := [(16, "U"), (11, "T"), (5, "U"), (1, "D"), (1, "U"), (4, "R"), (1, "D"), (1, "R"), (1, "D"), (1, "R"), (5, "D"), (4, "R"), (13, "D"), (1, "C"), (7, "D"), (1, "R"), (2, "D"), (21, "T"), (14, "U"), (2, "D"), (1, "T"), (3, "R"), (1, "U"), (3, "R"), (16, "D"), (18, "R"), (38, "D"), (1, "R"), (2, "D"), (9, "R"), (1, "D"), (1, "R"), (1, "D"), (1, "R"), (2, "D"), (2, "R"), (1, "U"), (1, "R"), (7, "T"), (2, "U"), (6, "T"), (2, "U"), (2, "T"), (1, "U"), (4, "T"), (2, "R"), (10, "U"), (3, "D"), (2, "U"), (1, "D")]
def runsD : PyData := .tuple (runsL.map fun r => .tuple [.int r.1, .str (Str.ofString r.2)])
theorem runs_at (w : World) {g : Heap} (X : (Mine.hd.heap_1 w.params).In g) : LR (HAt g) runsD (.ref 238) := by
  unfold runsD runsL
  simp only [List.map_cons, List.map_nil]
  have e : PySem.Challenge.rw_nu0160_01 = PySem.Challenge.rw_nu0160_01 := rfl
  revert e X
  k_fill
  intro X _
  refine' LR.tupleI (X _ _ ?h) ?r
  case h => k_is
  case r =>
    refine LRs.cons (LR.tupleI (vs := [Value.int 16 413, Value.str (Str.ofString "U") 414]) (X 188 { cls := .type "tuple", data := .seq #[Value.int 16 413, Value.str (Str.ofString "U") 414] } (by k_is)) (LRs.cons (LR.intI _ _) (LRs.cons (LR.strI _ _) LRs.nil))) ?_
    refine LRs.cons (LR.tupleI (vs := [Value.int 11 415, Value.str (Str.ofString "T") 416]) (X 189 { cls := .type "tuple", data := .seq #[Value.int 11 415, Value.str (Str.ofString "T") 416] } (by k_is)) (LRs.cons (LR.intI _ _) (LRs.cons (LR.strI _ _) LRs.nil))) ?_
    refine LRs.cons (LR.tupleI (vs := [Value.int 5 417, Value.str (Str.ofString "U") 418]) (X 190 { cls := .type "tuple", data := .seq #[Value.int 5 417, Value.str (Str.ofString "U") 418] } (by k_is)) (LRs.cons (LR.intI _ _) (LRs.cons (LR.strI _ _) LRs.nil))) ?_
    refine LRs.cons (LR.tupleI (vs := [Value.int 1 419, Value.str (Str.ofString "D") 420]) (X 191 { cls := .type "tuple", data := .seq #[Value.int 1 419, Value.str (Str.ofString "D") 420] } (by k_is)) (LRs.cons (LR.intI _ _) (LRs.cons (LR.strI _ _) LRs.nil))) ?_
    refine LRs.cons (LR.tupleI (vs := [Value.int 1 421, Value.str (Str.ofString "U") 422]) (X 192 { cls := .type "tuple", data := .seq #[Value.int 1 421, Value.str (Str.ofString "U") 422] } (by k_is)) (LRs.cons (LR.intI _ _) (LRs.cons (LR.strI _ _) LRs.nil))) ?_
    refine LRs.cons (LR.tupleI (vs := [Value.int 4 423, Value.str (Str.ofString "R") 424]) (X 193 { cls := .type "tuple", data := .seq #[Value.int 4 423, Value.str (Str.ofString "R") 424] } (by k_is)) (LRs.cons (LR.intI _ _) (LRs.cons (LR.strI _ _) LRs.nil))) ?_
    refine LRs.cons (LR.tupleI (vs := [Value.int 1 425, Value.str (Str.ofString "D") 426]) (X 194 { cls := .type "tuple", data := .seq #[Value.int 1 425, Value.str (Str.ofString "D") 426] } (by k_is)) (LRs.cons (LR.intI _ _) (LRs.cons (LR.strI _ _) LRs.nil))) ?_
    refine LRs.cons (LR.tupleI (vs := [Value.int 1 427, Value.str (Str.ofString "R") 428]) (X 195 { cls := .type "tuple", data := .seq #[Value.int 1 427, Value.str (Str.ofString "R") 428] } (by k_is)) (LRs.cons (LR.intI _ _) (LRs.cons (LR.strI _ _) LRs.nil))) ?_
    refine LRs.cons (LR.tupleI (vs := [Value.int 1 429, Value.str (Str.ofString "D") 430]) (X 196 { cls := .type "tuple", data := .seq #[Value.int 1 429, Value.str (Str.ofString "D") 430] } (by k_is)) (LRs.cons (LR.intI _ _) (LRs.cons (LR.strI _ _) LRs.nil))) ?_
    refine LRs.cons (LR.tupleI (vs := [Value.int 1 431, Value.str (Str.ofString "R") 432]) (X 197 { cls := .type "tuple", data := .seq #[Value.int 1 431, Value.str (Str.ofString "R") 432] } (by k_is)) (LRs.cons (LR.intI _ _) (LRs.cons (LR.strI _ _) LRs.nil))) ?_
    refine LRs.cons (LR.tupleI (vs := [Value.int 5 433, Value.str (Str.ofString "D") 434]) (X 198 { cls := .type "tuple", data := .seq #[Value.int 5 433, Value.str (Str.ofString "D") 434] } (by k_is)) (LRs.cons (LR.intI _ _) (LRs.cons (LR.strI _ _) LRs.nil))) ?_
    refine LRs.cons (LR.tupleI (vs := [Value.int 4 435, Value.str (Str.ofString "R") 436]) (X 199 { cls := .type "tuple", data := .seq #[Value.int 4 435, Value.str (Str.ofString "R") 436] } (by k_is)) (LRs.cons (LR.intI _ _) (LRs.cons (LR.strI _ _) LRs.nil))) ?_
    refine LRs.cons (LR.tupleI (vs := [Value.int 13 437, Value.str (Str.ofString "D") 438]) (X 200 { cls := .type "tuple", data := .seq #[Value.int 13 437, Value.str (Str.ofString "D") 438] } (by k_is)) (LRs.cons (LR.intI _ _) (LRs.cons (LR.strI _ _) LRs.nil))) ?_
    refine LRs.cons (LR.tupleI (vs := [Value.int 1 439, Value.str (Str.ofString "C") 440]) (X 201 { cls := .type "tuple", data := .seq #[Value.int 1 439, Value.str (Str.ofString "C") 440] } (by k_is)) (LRs.cons (LR.intI _ _) (LRs.cons (LR.strI _ _) LRs.nil))) ?_
    refine LRs.cons (LR.tupleI (vs := [Value.int 7 441, Value.str (Str.ofString "D") 442]) (X 202 { cls := .type "tuple", data := .seq #[Value.int 7 441, Value.str (Str.ofString "D") 442] } (by k_is)) (LRs.cons (LR.intI _ _) (LRs.cons (LR.strI _ _) LRs.nil))) ?_
    refine LRs.cons (LR.tupleI (vs := [Value.int 1 443, Value.str (Str.ofString "R") 444]) (X 203 { cls := .type "tuple", data := .seq #[Value.int 1 443, Value.str (Str.ofString "R") 444] } (by k_is)) (LRs.cons (LR.intI _ _) (LRs.cons (LR.strI _ _) LRs.nil))) ?_
    refine LRs.cons (LR.tupleI (vs := [Value.int 2 445, Value.str (Str.ofString "D") 446]) (X 204 { cls := .type "tuple", data := .seq #[Value.int 2 445, Value.str (Str.ofString "D") 446] } (by k_is)) (LRs.cons (LR.intI _ _) (LRs.cons (LR.strI _ _) LRs.nil))) ?_
    refine LRs.cons (LR.tupleI (vs := [Value.int 21 447, Value.str (Str.ofString "T") 448]) (X 205 { cls := .type "tuple", data := .seq #[Value.int 21 447, Value.str (Str.ofString "T") 448] } (by k_is)) (LRs.cons (LR.intI _ _) (LRs.cons (LR.strI _ _) LRs.nil))) ?_
    refine LRs.cons (LR.tupleI (vs := [Value.int 14 449, Value.str (Str.ofString "U") 450]) (X 206 { cls := .type "tuple", data := .seq #[Value.int 14 449, Value.str (Str.ofString "U") 450] } (by k_is)) (LRs.cons (LR.intI _ _) (LRs.cons (LR.strI _ _) LRs.nil))) ?_
    refine LRs.cons (LR.tupleI (vs := [Value.int 2 451, Value.str (Str.ofString "D") 452]) (X 207 { cls := .type "tuple", data := .seq #[Value.int 2 451, Value.str (Str.ofString "D") 452] } (by k_is)) (LRs.cons (LR.intI _ _) (LRs.cons (LR.strI _ _) LRs.nil))) ?_
    refine LRs.cons (LR.tupleI (vs := [Value.int 1 453, Value.str (Str.ofString "T") 454]) (X 208 { cls := .type "tuple", data := .seq #[Value.int 1 453, Value.str (Str.ofString "T") 454] } (by k_is)) (LRs.cons (LR.intI _ _) (LRs.cons (LR.strI _ _) LRs.nil))) ?_
    refine LRs.cons (LR.tupleI (vs := [Value.int 3 455, Value.str (Str.ofString "R") 456]) (X 209 { cls := .type "tuple", data := .seq #[Value.int 3 455, Value.str (Str.ofString "R") 456] } (by k_is)) (LRs.cons (LR.intI _ _) (LRs.cons (LR.strI _ _) LRs.nil))) ?_
    refine LRs.cons (LR.tupleI (vs := [Value.int 1 457, Value.str (Str.ofString "U") 458]) (X 210 { cls := .type "tuple", data := .seq #[Value.int 1 457, Value.str (Str.ofString "U") 458] } (by k_is)) (LRs.cons (LR.intI _ _) (LRs.cons (LR.strI _ _) LRs.nil))) ?_
    refine LRs.cons (LR.tupleI (vs := [Value.int 3 459, Value.str (Str.ofString "R") 460]) (X 211 { cls := .type "tuple", data := .seq #[Value.int 3 459, Value.str (Str.ofString "R") 460] } (by k_is)) (LRs.cons (LR.intI _ _) (LRs.cons (LR.strI _ _) LRs.nil))) ?_
    refine LRs.cons (LR.tupleI (vs := [Value.int 16 461, Value.str (Str.ofString "D") 462]) (X 212 { cls := .type "tuple", data := .seq #[Value.int 16 461, Value.str (Str.ofString "D") 462] } (by k_is)) (LRs.cons (LR.intI _ _) (LRs.cons (LR.strI _ _) LRs.nil))) ?_
    refine LRs.cons (LR.tupleI (vs := [Value.int 18 463, Value.str (Str.ofString "R") 464]) (X 213 { cls := .type "tuple", data := .seq #[Value.int 18 463, Value.str (Str.ofString "R") 464] } (by k_is)) (LRs.cons (LR.intI _ _) (LRs.cons (LR.strI _ _) LRs.nil))) ?_
    refine LRs.cons (LR.tupleI (vs := [Value.int 38 465, Value.str (Str.ofString "D") 466]) (X 214 { cls := .type "tuple", data := .seq #[Value.int 38 465, Value.str (Str.ofString "D") 466] } (by k_is)) (LRs.cons (LR.intI _ _) (LRs.cons (LR.strI _ _) LRs.nil))) ?_
    refine LRs.cons (LR.tupleI (vs := [Value.int 1 467, Value.str (Str.ofString "R") 468]) (X 215 { cls := .type "tuple", data := .seq #[Value.int 1 467, Value.str (Str.ofString "R") 468] } (by k_is)) (LRs.cons (LR.intI _ _) (LRs.cons (LR.strI _ _) LRs.nil))) ?_
    refine LRs.cons (LR.tupleI (vs := [Value.int 2 469, Value.str (Str.ofString "D") 470]) (X 216 { cls := .type "tuple", data := .seq #[Value.int 2 469, Value.str (Str.ofString "D") 470] } (by k_is)) (LRs.cons (LR.intI _ _) (LRs.cons (LR.strI _ _) LRs.nil))) ?_
    refine LRs.cons (LR.tupleI (vs := [Value.int 9 471, Value.str (Str.ofString "R") 472]) (X 217 { cls := .type "tuple", data := .seq #[Value.int 9 471, Value.str (Str.ofString "R") 472] } (by k_is)) (LRs.cons (LR.intI _ _) (LRs.cons (LR.strI _ _) LRs.nil))) ?_
    refine LRs.cons (LR.tupleI (vs := [Value.int 1 473, Value.str (Str.ofString "D") 474]) (X 218 { cls := .type "tuple", data := .seq #[Value.int 1 473, Value.str (Str.ofString "D") 474] } (by k_is)) (LRs.cons (LR.intI _ _) (LRs.cons (LR.strI _ _) LRs.nil))) ?_
    refine LRs.cons (LR.tupleI (vs := [Value.int 1 475, Value.str (Str.ofString "R") 476]) (X 219 { cls := .type "tuple", data := .seq #[Value.int 1 475, Value.str (Str.ofString "R") 476] } (by k_is)) (LRs.cons (LR.intI _ _) (LRs.cons (LR.strI _ _) LRs.nil))) ?_
    refine LRs.cons (LR.tupleI (vs := [Value.int 1 477, Value.str (Str.ofString "D") 478]) (X 220 { cls := .type "tuple", data := .seq #[Value.int 1 477, Value.str (Str.ofString "D") 478] } (by k_is)) (LRs.cons (LR.intI _ _) (LRs.cons (LR.strI _ _) LRs.nil))) ?_
    refine LRs.cons (LR.tupleI (vs := [Value.int 1 479, Value.str (Str.ofString "R") 480]) (X 221 { cls := .type "tuple", data := .seq #[Value.int 1 479, Value.str (Str.ofString "R") 480] } (by k_is)) (LRs.cons (LR.intI _ _) (LRs.cons (LR.strI _ _) LRs.nil))) ?_
    refine LRs.cons (LR.tupleI (vs := [Value.int 2 481, Value.str (Str.ofString "D") 482]) (X 222 { cls := .type "tuple", data := .seq #[Value.int 2 481, Value.str (Str.ofString "D") 482] } (by k_is)) (LRs.cons (LR.intI _ _) (LRs.cons (LR.strI _ _) LRs.nil))) ?_
    refine LRs.cons (LR.tupleI (vs := [Value.int 2 483, Value.str (Str.ofString "R") 484]) (X 223 { cls := .type "tuple", data := .seq #[Value.int 2 483, Value.str (Str.ofString "R") 484] } (by k_is)) (LRs.cons (LR.intI _ _) (LRs.cons (LR.strI _ _) LRs.nil))) ?_
    refine LRs.cons (LR.tupleI (vs := [Value.int 1 485, Value.str (Str.ofString "U") 486]) (X 224 { cls := .type "tuple", data := .seq #[Value.int 1 485, Value.str (Str.ofString "U") 486] } (by k_is)) (LRs.cons (LR.intI _ _) (LRs.cons (LR.strI _ _) LRs.nil))) ?_
    refine LRs.cons (LR.tupleI (vs := [Value.int 1 487, Value.str (Str.ofString "R") 488]) (X 225 { cls := .type "tuple", data := .seq #[Value.int 1 487, Value.str (Str.ofString "R") 488] } (by k_is)) (LRs.cons (LR.intI _ _) (LRs.cons (LR.strI _ _) LRs.nil))) ?_
    refine LRs.cons (LR.tupleI (vs := [Value.int 7 489, Value.str (Str.ofString "T") 490]) (X 226 { cls := .type "tuple", data := .seq #[Value.int 7 489, Value.str (Str.ofString "T") 490] } (by k_is)) (LRs.cons (LR.intI _ _) (LRs.cons (LR.strI _ _) LRs.nil))) ?_
    refine LRs.cons (LR.tupleI (vs := [Value.int 2 491, Value.str (Str.ofString "U") 492]) (X 227 { cls := .type "tuple", data := .seq #[Value.int 2 491, Value.str (Str.ofString "U") 492] } (by k_is)) (LRs.cons (LR.intI _ _) (LRs.cons (LR.strI _ _) LRs.nil))) ?_
    refine LRs.cons (LR.tupleI (vs := [Value.int 6 493, Value.str (Str.ofString "T") 494]) (X 228 { cls := .type "tuple", data := .seq #[Value.int 6 493, Value.str (Str.ofString "T") 494] } (by k_is)) (LRs.cons (LR.intI _ _) (LRs.cons (LR.strI _ _) LRs.nil))) ?_
    refine LRs.cons (LR.tupleI (vs := [Value.int 2 495, Value.str (Str.ofString "U") 496]) (X 229 { cls := .type "tuple", data := .seq #[Value.int 2 495, Value.str (Str.ofString "U") 496] } (by k_is)) (LRs.cons (LR.intI _ _) (LRs.cons (LR.strI _ _) LRs.nil))) ?_
    refine LRs.cons (LR.tupleI (vs := [Value.int 2 497, Value.str (Str.ofString "T") 498]) (X 230 { cls := .type "tuple", data := .seq #[Value.int 2 497, Value.str (Str.ofString "T") 498] } (by k_is)) (LRs.cons (LR.intI _ _) (LRs.cons (LR.strI _ _) LRs.nil))) ?_
    refine LRs.cons (LR.tupleI (vs := [Value.int 1 499, Value.str (Str.ofString "U") 500]) (X 231 { cls := .type "tuple", data := .seq #[Value.int 1 499, Value.str (Str.ofString "U") 500] } (by k_is)) (LRs.cons (LR.intI _ _) (LRs.cons (LR.strI _ _) LRs.nil))) ?_
    refine LRs.cons (LR.tupleI (vs := [Value.int 4 501, Value.str (Str.ofString "T") 502]) (X 232 { cls := .type "tuple", data := .seq #[Value.int 4 501, Value.str (Str.ofString "T") 502] } (by k_is)) (LRs.cons (LR.intI _ _) (LRs.cons (LR.strI _ _) LRs.nil))) ?_
    refine LRs.cons (LR.tupleI (vs := [Value.int 2 503, Value.str (Str.ofString "R") 504]) (X 233 { cls := .type "tuple", data := .seq #[Value.int 2 503, Value.str (Str.ofString "R") 504] } (by k_is)) (LRs.cons (LR.intI _ _) (LRs.cons (LR.strI _ _) LRs.nil))) ?_
    refine LRs.cons (LR.tupleI (vs := [Value.int 10 505, Value.str (Str.ofString "U") 506]) (X 234 { cls := .type "tuple", data := .seq #[Value.int 10 505, Value.str (Str.ofString "U") 506] } (by k_is)) (LRs.cons (LR.intI _ _) (LRs.cons (LR.strI _ _) LRs.nil))) ?_
    refine LRs.cons (LR.tupleI (vs := [Value.int 3 507, Value.str (Str.ofString "D") 508]) (X 235 { cls := .type "tuple", data := .seq #[Value.int 3 507, Value.str (Str.ofString "D") 508] } (by k_is)) (LRs.cons (LR.intI _ _) (LRs.cons (LR.strI _ _) LRs.nil))) ?_
    refine LRs.cons (LR.tupleI (vs := [Value.int 2 509, Value.str (Str.ofString "U") 510]) (X 236 { cls := .type "tuple", data := .seq #[Value.int 2 509, Value.str (Str.ofString "U") 510] } (by k_is)) (LRs.cons (LR.intI _ _) (LRs.cons (LR.strI _ _) LRs.nil))) ?_
    refine LRs.cons (LR.tupleI (vs := [Value.int 1 511, Value.str (Str.ofString "D") 512]) (X 237 { cls := .type "tuple", data := .seq #[Value.int 1 511, Value.str (Str.ofString "D") 512] } (by k_is)) (LRs.cons (LR.intI _ _) (LRs.cons (LR.strI _ _) LRs.nil))) ?_
    exact LRs.nil
def accT (i : Nat) : Str := (runsL.take i).foldl (fun t r => t ++ Txt.mul (Str.ofString r.2) r.1) (Str.ofString "")
def runChk : Bool := (List.range 50).all fun i => match runsL[i]? with
  | some r => decide (0 < r.1) && decide (r.1 ≤ 38) && decide ((Str.ofString r.2).length ≤ 1) && decide ((accT i).length + (Txt.mul (Str.ofString r.2) r.1).length ≤ 1000)
  | none => false
theorem runChk_ok : runChk = true := by decide +kernel
theorem run_at {i : Nat} {r : Int × String} (h : runsL[i]? = some r) : 0 < r.1 ∧ r.1 ≤ 38 ∧ (Str.ofString r.2).length ≤ 1 ∧ (accT i).length + (Txt.mul (Str.ofString r.2) r.1).length ≤ 1000 := by
  have hi : i < 50 := (List.getElem?_eq_some_iff.mp h).1
  have := List.all_eq_true.mp runChk_ok i (List.mem_range.mpr hi)
  rw [h] at this
  simp only [Bool.and_eq_true, decide_eq_true_eq] at this
  exact ⟨this.1.1.1, this.1.1.2, this.1.2, this.2⟩
theorem accT_succ {i : Nat} {r : Int × String} (h : runsL[i]? = some r) : accT (i + 1) = accT i ++ Txt.mul (Str.ofString r.2) r.1 := by
  unfold accT
  rw [List.take_add_one, h]
  simp
theorem letters_ok (w : World) {h : Heap} : SpecW w 265 [] [] 2 8 h (fun h' v news' => ∃ t, v = .str (accT 50) t) := by
  (( unfold SpecW; k_fill; refine' Spec.plain (ho := ?ho) (hcd := ?hcd) (hbind := ?hbind) (hloc := ?hloc) (hcell := ?hcell) (hco := ?hco) (hgen := ?hgen) (hk := ?hk) (hb := ?hbEnter); (case ho => k_is); (case hcd => k_is); (case hbind => intro s hX; first | exact BindsTo.of_eq rfl); (case hloc => exact locs rfl); (case hcell => decide); (case hco => exact rfl); (case hgen => exact rfl); (case hk => exact rfl)))
  intro g L dp un gd outer A₀ base pp loose mean mg mb s hg F N B X T hd hu
  have hTmp := (runs_at w X).isTup fun _ _ e => e
  refine hide fun gX gk => ?_
  obtain ⟨a0, vs, e0, ht, hit⟩ := hTmp
  refine gk ?_
  clear gk gX
  cases e0
  have hvl : vs.length = 50 := by simpa [runsL] using hit.length
  (repeat' ((fail_if_success (with_reducible show LCg.CompSrc _ _ _ _ _ _ _ _ _ _ _ _ _ _)); (fail_if_success (with_reducible show wpAny _ _ (pyIter (Value.ref _)) _ _ _)); (fail_if_success (with_reducible show wpAny _ _ (exec (Stmt.While _ _ _ _) _) _ _ _)); (fail_if_success (with_reducible show wpAny _ _ (compareOp _ (Value.ref _) (Value.ref _)) _ _ _)); first | walk1 | (dsimp only; walk1)))
  rename Fr _ _ _ _ => F1
  rename News _ _ _ _ => N1
  refine iter_tupG (its := vs) (fun i m σ => σ = [] ∧ ∃ t, m (Str.ofString "text") = some (.str (accT i) t)) rfl F1 N1 ht ⟨rfl, _, by rfl⟩ ?_ ?_
  · rintro i v m σ h₁ tk I io hv hTmp
    refine hide fun gX gk => ?_
    obtain ⟨rfl, t, hm⟩ := hTmp
    refine gk ?_
    clear gk gX
    rintro F₁ N₁ off hic
    have hTmp := hit.at hv
    refine hide fun gX gk => ?_
    obtain ⟨dd, hd1, hd2⟩ := hTmp
    refine gk ?_
    clear gk gX
    obtain ⟨⟨c, z⟩, hr, rfl⟩ : ∃ q, runsL[i]? = some q ∧ PyData.tuple [.int q.1, .str (Str.ofString q.2)] = dd := by simpa using hd1
    have hTmp := hd2.isTup fun _ _ e => e
    refine hide fun gX gk => ?_
    obtain ⟨a, ws, rfl, ht2, hq⟩ := hTmp
    refine gk ?_
    clear gk gX
    have hTmp := hq.consE
    refine hide fun gX gk => ?_
    obtain ⟨v1, r1, rfl, q1, hq⟩ := hTmp
    refine gk ?_
    clear gk gX
    have hTmp := hq.consE
    refine hide fun gX gk => ?_
    obtain ⟨v2, r2, rfl, q2, hq⟩ := hTmp
    refine gk ?_
    clear gk gX
    obtain rfl := hq.nilE
    obtain ⟨t1, rfl⟩ := q1.intE
    obtain ⟨t2, rfl⟩ := q2.strE
    have hrr := run_at hr
    have hsu := accT_succ hr
    clear hd1 hd2 q1 q2
    dsimp only at hrr hsu ht2 ⊢
    refine hide fun gX gk => ?_
    obtain ⟨c1, c2, c3, c4⟩ := hrr
    refine gk ?_
    clear gk gX
    (repeat' ((fail_if_success (with_reducible show LCg.CompSrc _ _ _ _ _ _ _ _ _ _ _ _ _ _)); (fail_if_success (with_reducible show wpAny _ _ (pyIter (Value.ref _)) _ _ _)); (fail_if_success (with_reducible show wpAny _ _ (exec (Stmt.While _ _ _ _) _) _ _ _)); (fail_if_success (with_reducible show wpAny _ _ (compareOp _ (Value.ref _) (Value.ref _)) _ _ _)); first | walk1 | (dsimp only; walk1)))
    walk_at "my_turn"
    case σ => exact []
    case sub => simp
    case off => simp
    exact ⟨rfl, _, by rw [hsu]; rfl⟩
  · rintro m σ h₁ tk hTmp
    refine hide fun gX gk => ?_
    obtain ⟨rfl, t, hm⟩ := hTmp
    refine gk ?_
    clear gk gX
    rintro F₁ N₁
    rw [hvl] at hm
    (repeat' ((fail_if_success (with_reducible show LCg.CompSrc _ _ _ _ _ _ _ _ _ _ _ _ _ _)); (fail_if_success (with_reducible show wpAny _ _ (pyIter (Value.ref _)) _ _ _)); (fail_if_success (with_reducible show wpAny _ _ (exec (Stmt.While _ _ _ _) _) _ _ _)); (fail_if_success (with_reducible show wpAny _ _ (compareOp _ (Value.ref _) (Value.ref _)) _ _ _)); first | walk1 | (dsimp only; walk1)))
    walk_at "my_ret"
    case N => assumption
    exact ⟨_, rfl⟩
end
section
theorem calm_18 : True := by w_top off; exact True.intro
def lettersN : List Nat := [85, 85, 85, 85, 85, 85, 85, 85, 85, 85, 85, 85, 85, 85, 85, 85, 84, 84, 84, 84, 84, 84, 84, 84, 84, 84, 84, 85, 85, 85, 85, 85, 68, 85, 82, 82, 82, 82, 68, 82, 68, 82, 68, 68, 68, 68, 68, 82, 82, 82, 82, 68, 68, 68, 68, 68, 68, 68, 68, 68, 68, 68, 68, 68, 67, 68, 68, 68, 68, 68, 68, 68, 82, 68, 68, 84, 84, 84, 84, 84, 84, 84, 84, 84, 84, 84, 84, 84, 84, 84, 84, 84, 84, 84, 84, 84, 85, 85, 85, 85, 85, 85, 85, 85, 85, 85, 85, 85, 85, 85, 68, 68, 84, 82, 82, 82, 85, 82, 82, 82, 68, 68, 68, 68, 68, 68, 68, 68, 68, 68, 68, 68, 68, 68, 68, 68, 82, 82, 82, 82, 82, 82, 82, 82, 82, 82, 82, 82, 82, 82, 82, 82, 82, 82, 68, 68, 68, 68, 68, 68, 68, 68, 68, 68, 68, 68, 68, 68, 68, 68, 68, 68, 68, 68, 68, 68, 68, 68, 68, 68, 68, 68, 68, 68, 68, 68, 68, 68, 68, 68, 68, 68, 82, 68, 68, 82, 82, 82, 82, 82, 82, 82, 82, 82, 68, 82, 68, 82, 68, 68, 82, 82, 85, 82, 84, 84, 84, 84, 84, 84, 84, 85, 85, 84, 84, 84, 84, 84, 84, 85, 85, 84, 84, 85, 84, 84, 84, 84, 82, 82, 85, 85, 85, 85, 85, 85, 85, 85, 85, 85, 68, 68, 68, 85, 85, 68]
theorem accT_eq : accT 50 = ⟨lettersN.toArray⟩ := by decide +kernel
theorem accT_len : (accT 50).length = 256 := by rw [accT_eq]; rfl
def lettersChk : Bool := (List.range 256).all fun n => match lettersN[n]? with
  | some c => (⟨#[c]⟩ : Str) == jt (1536 + n)
  | none => false
theorem lettersChk_ok : lettersChk = true := by decide +kernel
theorem letters_at {r : Int} (h0 : 0 ≤ r) (h1 : r < 256) : Txt.item (accT 50) r = jt (1536 + r) := by
  obtain ⟨n, rfl⟩ : ∃ n : Nat, r = n := ⟨r.toNat, by omega⟩
  have hn : n < 256 := by omega
  have h2 := List.all_eq_true.mp lettersChk_ok n (List.mem_range.mpr hn)
  have hl : lettersN.length = 256 := rfl
  rw [List.getElem?_eq_getElem (by omega)] at h2
  dsimp only at h2
  have h3 : Txt.charAt (accT 50) n = some (lettersN[n]'(by omega)) := by
    unfold Txt.charAt
    have e1 : seqIndex? (n : Int) (accT 50).length = some n := by
      rw [accT_len]
      unfold seqIndex?
      simp
      omega
    rw [e1, accT_eq]
    simp [hn, hl]
  unfold Txt.item
  rw [h3]
  simpa using h2
end
section
theorem calm_19 : True := by w_top off; exact True.intro
/-- data that compares well -/
def okD (n : Nat) (d : PyData) : Prop := d.canLay0 = true ∧ d.depth ≤ n
theorem okD.all {n : Nat} : ∀ {ds : List PyData}, (∀ d ∈ ds, okD n d) → PyData.canLayAll0 ds = true ∧ PyData.depthAll ds ≤ n
  | [], _ => by simp [PyData.canLayAll0, PyData.depthAll]
  | d :: ds, h => by
    have h1 := h d (.head _)
    have h2 := okD.all fun e he => h e (.tail _ he)
    simp only [PyData.canLayAll0, PyData.depthAll, h1.1, h2.1, Bool.and_self, true_and]
    have a1 := h1.2
    have a2 := h2.2
    omega
theorem okD.list {n : Nat} {ds : List PyData} (h : ∀ d ∈ ds, okD n d) : okD (n + 1) (.list ds) := by
  have := okD.all h
  exact ⟨by simp only [PyData.canLay0]; exact this.1, by simp only [PyData.depth]; omega⟩
theorem okD.tuple {n : Nat} {ds : List PyData} (h : ∀ d ∈ ds, okD n d) : okD (n + 1) (.tuple ds) := by
  have := okD.all h
  exact ⟨by simp only [PyData.canLay0]; exact this.1, by simp only [PyData.depth]; omega⟩
theorem okD.int (i : Int) : okD 1 (.int i) := by simp [okD, PyData.canLay0, PyData.depth]
theorem okD.bool (b : Bool) : okD 1 (.bool b) := by simp [okD, PyData.canLay0, PyData.depth]
theorem okD.str {x : Str} (h : PyData.strOk x = true) : okD 1 (.str x) := by simp [okD, PyData.canLay0, PyData.depth, h]
theorem jt_ok (c : Int) : PyData.strOk (jt c) = true := by
  unfold jt
  repeat' split
  all_goals decide +kernel
theorem jt_isTy (c : Int) : isTy (jt c) := by
  unfold jt isTy
  repeat' split
  all_goals simp
theorem formS_ok (b1 b2 : Bool) : PyData.strOk (formS b1 b2) = true := by cases b1 <;> cases b2 <;> decide +kernel
theorem formAt_ok (ts : List Str) (a : Nat) : PyData.strOk (formAt ts a) = true := by
  unfold formAt
  split
  · exact formS_ok _ _
  · decide +kernel
section
variable {prog : Program} {w : World} {A : Around} {E : Value → Shared → Prop} {s : Shared} {va vb : Value} {d : PyData} {n : Nat} {Q : Value → Shared → Prop}
theorem same_ne (ra : LR (HAt s.heap) d va) (rb : LR (HAt s.heap) d vb) (hd : okD n d) (hu : A.units + n < cLine) (h : Q (.bool false) s) : wpAny (model prog w) A (compareOp .NotEq va vb) Q E s := by
  obtain ⟨as, ra⟩ := ra.reads
  obtain ⟨bs, rb⟩ := rb.reads
  refine PySem.SeqAt.compareNe_reads ra rb hd.1 hd.1 (by have := hd.2; omega) ?_
  rw [PySem.SeqAt.eqv_refl d hd.1]
  exact h
theorem same_eq (ra : LR (HAt s.heap) d va) (rb : LR (HAt s.heap) d vb) (hd : okD n d) (hu : A.units + n < cLine) (h : Q (.bool true) s) : wpAny (model prog w) A (compareOp .Eq va vb) Q E s := by
  obtain ⟨as, ra⟩ := ra.reads
  obtain ⟨bs, rb⟩ := rb.reads
  refine PySem.SeqAt.compareEq_reads ra rb hd.1 hd.1 (by have := hd.2; omega) ?_
  rw [PySem.SeqAt.eqv_refl d hd.1]
  exact h
end
/-- a list of the ledger, told as data -/
theorem LR.ofN {g h : Heap} {L a : Addr} {σ : List (Addr × Obj)} {vs : List Value} {k : Nat} {ds : List PyData} (N : News g L h σ) (hm : (a, W.listOf vs.toArray k) ∈ σ) (r : LRs (HAt h) ds vs) : LR (HAt h) (.list ds) (.ref a) := LR.listI (N _ hm).1 r
end
section
theorem calm_20 : True := by w_top off; exact True.intro
/-- the ledger with the pool's entry turned -/
theorem draw_call {w : World} {A₀ : Around} {E : Value → Shared → Prop} {s : Shared} {h₀ base : Heap} {outer : List Env} {L : Addr} {m mg mb : Str → Option Value} {pr : Program} {loose : List Str} {mean : ExcName → Option Value}
    {dp un : Nat} {gd : Option (List Code)} {cn : Str} {cs : Scope} {a : Addr} {ccd : Value} {cel : List (Str × Addr)} {Q : Value → Shared → Prop}
    {P cl : Addr} {p : Pool} {vs : Array Value} {kc : Nat} {cells : List Int} {most : Int} {tm : Tok} {σ σ' : List (Addr × Obj)}
    (hcl : (cl, W.listOf vs kc) ∈ σ) (hne : cl ≠ P) (hc : IntsAre vs.toList cells) (hlen : cells.length ≤ 40) (hok : p.ok) (hpl : p.pl ≤ 1000) (hm : 0 < most) (hm2 : most ≤ 1000)
    (B : Below A₀ base outer h₀) (F : Fr h₀ L s.heap m) (X : (hd.heap_1 w.params).In h₀) (T : Top pr loose mean mg mb h₀) (N : News h₀ L s.heap σ) (hP : (P, p.obj cl) ∈ σ) (hr : ∀ q ∈ σ', q ∈ σ ∧ q.1 ≠ P)
    (hk : cs.kind = .function) (hd : dp + 2 < recursionLimit) (hu : un + 8 < cLine)
    (k : ∀ (r : Int) t (p' : Pool) h' tk, 0 ≤ r → r < most → Fr h₀ L h' m → News h₀ L h' ((P, p'.obj cl) :: σ') → p'.ok → p'.pl = p.pl + 1 → Q (.int r t) { s with heap := h', toks := tk }) :
    wpAny (model PySem.Challenge.rw_nu0160_01.row.prog w) (ktrTop dp un gd cn cs L a ccd cel outer) (PySem.call (.ref 258) [.ref P, .int most tm]) Q E s := by
  refine Spec.call (draw_ok w (p := p) (cl := cl) (vs := vs) (kc := kc) (cells := cells) (h := s.heap) ⟨(N _ hcl).1, by simpa using hne⟩ hc hlen hok hpl hm hm2) (rest := σ') B F X T (fun q hq => ?_) (fun q hq => ?_) hk hd hu ?_
  · rcases List.mem_cons.mp hq with rfl | hq
    · exact N _ hP
    · exact N _ (hr q hq).1
  · simpa using (hr q hq).2
  · rintro v h' tk news' F' N' K' _ hTmp
    refine hide fun gX gk => ?_
    obtain ⟨r, t, p', rfl, h1, h2, rfl, h3, h4⟩ := hTmp
    refine gk ?_
    clear gk gX
    exact k r t p' h' tk h1 h2 F' N' h3 h4

/-- what holds of a def's body as the text has it -/
def BodyC (K : Frag) (f : Addr) (Φ : Str → Scope → List Stmt → Prop) : Prop :=
  ∃ (name qual : Str) (params : Arguments) (body : List Stmt) (scope : Scope) (dV kV doc pm cdv ct oc : Value) (an od : Option Addr) (osl : Array (Option Value)),
    K.lookup f = some ⟨oc, od, .func (fnOf name qual params body scope dV kV doc pm an cdv ct), osl⟩ ∧ Φ qual scope body
theorem BodyC.elim {K : Frag} {f : Addr} {Φ : Str → Scope → List Stmt → Prop} (S : BodyC K f Φ) {name qual : Str} {params : Arguments} {body : List Stmt} {scope : Scope} {dV kV doc pm cdv ct oc : Value} {an od : Option Addr} {osl : Array (Option Value)}
    (ho : K.lookup f = some ⟨oc, od, .func (fnOf name qual params body scope dV kV doc pm an cdv ct), osl⟩) : Φ qual scope body := by
  refine hide fun gX gk => ?_
  obtain ⟨name', qual', params', body', scope', dV', kV', doc', pm', cdv', ct', oc', an', od', osl', ho', h⟩ := S
  refine gk ?_
  clear gk gX
  rw [ho] at ho'
  simp only [Option.some.injEq, Obj.mk.injEq, Data.func.injEq, FuncData.mk.injEq] at ho'
  simp_all
theorem BodyC.intro {K : Frag} {f : Addr} {Φ : Str → Scope → List Stmt → Prop} {name qual : Str} {params : Arguments} {body : List Stmt} {scope : Scope} {dV kV doc pm cdv ct oc : Value} {an od : Option Addr} {osl : Array (Option Value)}
    (ho : K.lookup f = some ⟨oc, od, .func (fnOf name qual params body scope dV kV doc pm an cdv ct), osl⟩) (h : Φ qual scope body) : BodyC K f Φ := ⟨_, _, _, _, _, _, _, _, _, _, _, _, _, _, _, ho, h⟩
/-- the word of the law's first loop -/
def J1 (P cl a1 a2 : Addr) (bs : List (Addr × Obj)) (tl : Tok) (i : Nat) (m : Str → Option Value) (σ : List (Addr × Obj)) : Prop :=
  ∃ (pp : Pool) (cs : List Int) (vs1 vs2 : List Value) (k1 k2 : Nat), σ = (P, pp.obj cl) :: (a2, W.listOf vs2.toArray k2) :: (a1, W.listOf vs1.toArray k1) :: bs ∧ pp.ok ∧ pp.pl = 1 + i ∧
    IntsAre vs1 cs ∧ StrsAre vs2 (cs.map jt) ∧ cs.length = i ∧ m (Str.ofString "codes") = some (.ref a1) ∧ m (Str.ofString "letters") = some (.str (accT 50) tl) ∧ m (Str.ofString "pool") = some (.ref P)
theorem J1.step {P cl a1 a2 : Addr} {bs : List (Addr × Obj)} {tl : Tok} {i : Nat} {g : Heap} {L : Addr} {s₁ : Shared} {I : Addr} {io : Obj} {Q : Flow → Shared → Prop} {h' : Heap} {tk : Nat} {m' : Str → Option Value}
    {pp : Pool} {cs : List Int} {c : Int} {x : Str} {t t' : Tok} {vs1 vs2 : List Value} {k1 k2 : Nat}
    (F : Fr g L h' m') (N : News g L h' ((P, pp.obj cl) :: (I, io) :: (a2, W.listOf (vs2.toArray.push (.str x t')) k2) :: (a1, W.listOf (vs1.toArray.push (.int c t)) k1) :: bs))
    (off : (@Ne Nat P I) ∧ (@Ne Nat a2 I) ∧ (@Ne Nat a1 I)) (hbs : ∀ q ∈ bs, q.1 ≠ I) (h1 : pp.ok) (h2 : pp.pl = 1 + (i + 1)) (h3 : IntsAre vs1 cs) (h4 : StrsAre vs2 (cs.map jt)) (hc : cs.length = i) (hx : x = jt c)
    (hm1 : m' (Str.ofString "codes") = some (.ref a1)) (hm2 : m' (Str.ofString "letters") = some (.str (accT 50) tl)) (hm3 : m' (Str.ofString "pool") = some (.ref P)) :
    TurnEnd g L s₁ I io (J1 P cl a1 a2 bs tl (i + 1)) Q .next { s₁ with heap := h', toks := tk } := by
  refine TurnEnd.next ((P, pp.obj cl) :: (a2, W.listOf (vs2 ++ [Value.str x t']).toArray k2) :: (a1, W.listOf (vs1 ++ [Value.int c t]).toArray k1) :: bs) F N (.tail _ (.head _)) (fun p hp => ?_) (fun p hp => .inl ?_) ⟨pp, cs ++ [c], _, _, _, _, rfl, h1, h2, IntsAre.append h3 (.cons _ _ .nil), ?_, by simp [hc], hm1, hm2, hm3⟩
  · simp only [List.push_toArray]
    rcases List.mem_cons.mp hp with rfl | hp
    · exact .head _
    · exact .tail _ (.tail _ hp)
  · rcases List.mem_cons.mp hp with rfl | hp
    · exact off.1
    · rcases List.mem_cons.mp hp with rfl | hp
      · exact off.2.1
      · rcases List.mem_cons.mp hp with rfl | hp
        · exact off.2.2
        · exact hbs p hp
  · exact StrsAre.snoc' h4 x t' (by rw [List.map_append, hx]; rfl)
end
section
theorem calm_21 : True := by w_top off; exact True.intro
local macro_rules | `(tactic| walk_at "my_idle") => `(tactic| skip)
/-- Info.__init__ -/
theorem info_init_ok (w : World) {h : Heap} {x dx : Addr} {code cl : Int} {t1 t2 t3 : Tok} (hne : @Ne Nat x dx) :
    SpecW w 35 [.ref x, .int code t1, .int 7 t2, .int cl t3] [(x, instObj 52 dx), (dx, dictOf [] 0)] 1 8 h (fun h' v news' => v = .none ∧ ∃ es n, news' = [(x, instObj 52 dx), (dx, dictOf es n)] ∧ InfoD es code cl 0 false) := by
  (( unfold SpecW; k_fill; refine' Spec.plain (ho := ?ho) (hcd := ?hcd) (hbind := ?hbind) (hloc := ?hloc) (hcell := ?hcell) (hco := ?hco) (hgen := ?hgen) (hk := ?hk) (hb := ?hbEnter); (case ho => k_is); (case hcd => k_is); (case hbind => intro s hX; first | exact BindsTo.of_eq rfl); (case hloc => exact locs rfl); (case hcell => decide); (case hco => exact rfl); (case hgen => exact rfl); (case hk => exact rfl)))
  intro g L dp un gd outer A₀ base p loose mean mg mb s hg F N B X T hd hu
  (repeat' ((fail_if_success (with_reducible show LCg.CompSrc _ _ _ _ _ _ _ _ _ _ _ _ _ _)); (fail_if_success (with_reducible show wpAny _ _ (pyIter (Value.ref _)) _ _ _)); (fail_if_success (with_reducible show wpAny _ _ (exec (Stmt.While _ _ _ _) _) _ _ _)); (fail_if_success (with_reducible show wpAny _ _ (compareOp _ (Value.ref _) (Value.ref _)) _ _ _)); first | walk1 | (dsimp only; walk1)))
  walk_at "my_ret"
  case N => assumption
  exact ⟨rfl, _, _, rfl, ⟨⟨_, rfl⟩, ⟨_, rfl⟩, ⟨_, rfl⟩, ⟨_, rfl⟩, rfl, ⟨_, rfl⟩, ⟨_, rfl⟩, ⟨_, rfl⟩, ⟨_, rfl⟩, Nat.le_of_ble_eq_true rfl, rfl⟩⟩
theorem buf_init_ok (w : World) {h : Heap} {x dx r : Addr} {bb : Bool} (hne : @Ne Nat x dx) :
    SpecW w 71 [.ref x, .ref r, .bool bb] [(x, instObj 100 dx), (dx, dictOf [] 0)] 1 8 h (fun h' v news' => v = .none ∧ ∃ es n, news' = [(x, instObj 100 dx), (dx, dictOf es n)] ∧ getL (Str.ofString "row") es = some (some (.ref r)) ∧ getL (Str.ofString "told") es = some none) := by
  (( unfold SpecW; k_fill; refine' Spec.plain (ho := ?ho) (hcd := ?hcd) (hbind := ?hbind) (hloc := ?hloc) (hcell := ?hcell) (hco := ?hco) (hgen := ?hgen) (hk := ?hk) (hb := ?hbEnter); (case ho => k_is); (case hcd => k_is); (case hbind => intro s hX; first | exact BindsTo.of_eq rfl | exact binds_K hX rfl (by k_is) rfl rfl rfl); (case hloc => exact locs rfl); (case hcell => decide); (case hco => exact rfl); (case hgen => exact rfl); (case hk => exact rfl)))
  intro g L dp un gd outer A₀ base p loose mean mg mb s hg F N B X T hd hu
  (repeat' ((fail_if_success (with_reducible show LCg.CompSrc _ _ _ _ _ _ _ _ _ _ _ _ _ _)); (fail_if_success (with_reducible show wpAny _ _ (pyIter (Value.ref _)) _ _ _)); (fail_if_success (with_reducible show wpAny _ _ (exec (Stmt.While _ _ _ _) _) _ _ _)); (fail_if_success (with_reducible show wpAny _ _ (compareOp _ (Value.ref _) (Value.ref _)) _ _ _)); first | walk1 | (dsimp only; walk1)))
  walk_at "my_ret"
  case N => assumption
  exact ⟨rfl, _, _, rfl, rfl, rfl⟩
section
variable {w : World} {A₀ : Around} {E : Value → Shared → Prop} {s : Shared} {h₀ base : Heap} {outer : List Env} {L : Addr} {m mg mb : Str → Option Value} {pr : Program} {loose : List Str} {mean : ExcName → Option Value}
    {dp un : Nat} {gd : Option (List Code)} {cn : Str} {cs : Scope} {a : Addr} {ccd : Value} {cel : List (Str × Addr)} {Q : Value → Shared → Prop} {σ : List (Addr × Obj)}
theorem make_info {code cl : Int} {t1 t2 t3 : Tok}
    (B : Below A₀ base outer h₀) (F : Fr h₀ L s.heap m) (X : (hd.heap_1 w.params).In h₀) (T : Top pr loose mean mg mb h₀) (N : News h₀ L s.heap σ)
    (hk : cs.kind = .function) (hd : dp + 2 < recursionLimit) (hu : un + 12 < cLine)
    (k : ∀ x dx es n h' tk, Fr h₀ L h' m → News h₀ L h' ((x, instObj 52 dx) :: (dx, dictOf es n) :: σ) → InfoD es code cl 0 false → (∀ p ∈ σ, p.1 < dx) → dx < x → Q (.ref x) { s with heap := h', toks := tk }) :
    wpAny (model PySem.Challenge.rw_nu0160_01.row.prog w) (ktrTop dp un gd cn cs L a ccd cel outer) (PySem.call (.ref 52) [.int code t1, .int 7 t2, .int cl t3]) Q E s := by
  refine call_cls F X N (by k_is) (by k_is) (by k_is) ?_
  intro x dx h1 F1 N1 l1 l2
  refine (info_init_ok w (x := x) (dx := dx) (h := h1) (Nat.ne_of_gt l2)) _ (envX cn cs L a ccd cel) outer A₀ base h₀ L m pr loose mean mg mb { s with heap := h1 } _ rfl B F1 X T (fun p hp => N1 p (by simp only [List.mem_cons, List.not_mem_nil, or_false] at hp ⊢; rcases hp with h | h <;> simp [h])) rfl rfl rfl hk ?_ ?_ ?_
  · show dp + 1 + 1 < _
    omega
  · show un + 1 + 8 < _
    omega
  · rintro v h2 tk2 nw F2 N2 K2 off hTmp
    refine hide fun gX gk => ?_
    obtain ⟨rfl, es, n, rfl, hi⟩ := hTmp
    refine gk ?_
    clear gk gX
    refine ⟨rfl, k x dx es n h2 tk2 F2 (fun p hp => ?_) hi l1 l2⟩
    rcases List.mem_cons.mp hp with rfl | hp
    · exact N2 _ (.head _)
    · rcases List.mem_cons.mp hp with rfl | hp
      · exact N2 _ (.tail _ (.head _))
      · have z := N1 p (.tail _ (.tail _ hp))
        refine ⟨K2 _ _ z.1 ?_, z.2⟩
        have := l1 p hp
        simp only [List.map_cons, List.map_nil, List.mem_cons, List.not_mem_nil, or_false]
        exact fun e => e.elim (fun e => Nat.ne_of_lt (Nat.lt_trans this l2) e) (fun e => Nat.ne_of_lt this e)
theorem make_buf {r : Addr} {bb : Bool}
    (B : Below A₀ base outer h₀) (F : Fr h₀ L s.heap m) (X : (hd.heap_1 w.params).In h₀) (T : Top pr loose mean mg mb h₀) (N : News h₀ L s.heap σ)
    (hk : cs.kind = .function) (hd : dp + 2 < recursionLimit) (hu : un + 12 < cLine)
    (k : ∀ x dx es n h' tk, Fr h₀ L h' m → News h₀ L h' ((x, instObj 100 dx) :: (dx, dictOf es n) :: σ) → getL (Str.ofString "row") es = some (some (.ref r)) → getL (Str.ofString "told") es = some none → (∀ p ∈ σ, p.1 < dx) → dx < x → Q (.ref x) { s with heap := h', toks := tk }) :
    wpAny (model PySem.Challenge.rw_nu0160_01.row.prog w) (ktrTop dp un gd cn cs L a ccd cel outer) (PySem.call (.ref 100) [.ref r, .bool bb]) Q E s := by
  refine call_cls F X N (by k_is) (by k_is) (by k_is) ?_
  intro x dx h1 F1 N1 l1 l2
  refine (buf_init_ok w (x := x) (dx := dx) (h := h1) (Nat.ne_of_gt l2)) _ (envX cn cs L a ccd cel) outer A₀ base h₀ L m pr loose mean mg mb { s with heap := h1 } _ rfl B F1 X T (fun p hp => N1 p (by simp only [List.mem_cons, List.not_mem_nil, or_false] at hp ⊢; rcases hp with h | h <;> simp [h])) rfl rfl rfl hk ?_ ?_ ?_
  · show dp + 1 + 1 < _
    omega
  · show un + 1 + 8 < _
    omega
  · rintro v h2 tk2 nw F2 N2 K2 off hTmp
    refine hide fun gX gk => ?_
    obtain ⟨rfl, es, n, rfl, hi, ht⟩ := hTmp
    refine gk ?_
    clear gk gX
    refine ⟨rfl, k x dx es n h2 tk2 F2 (fun p hp => ?_) hi ht l1 l2⟩
    rcases List.mem_cons.mp hp with rfl | hp
    · exact N2 _ (.head _)
    · rcases List.mem_cons.mp hp with rfl | hp
      · exact N2 _ (.tail _ (.head _))
      · have z := N1 p (.tail _ (.tail _ hp))
        refine ⟨K2 _ _ z.1 ?_, z.2⟩
        have := l1 p hp
        simp only [List.map_cons, List.map_nil, List.mem_cons, List.not_mem_nil, or_false]
        exact fun e => e.elim (fun e => Nat.ne_of_lt (Nat.lt_trans this l2) e) (fun e => Nat.ne_of_lt this e)
end
end
section
theorem calm_22 : True := by w_top off; exact True.intro
/-- two places apart (kept from omega's eyes) -/
structure Ap (a b : Addr) : Prop where ne : @Ne Nat a b
theorem Ap.en {a b : Addr} (h : Ap a b) : @Ne Nat b a := fun e => h.ne e.symm
/-- the law's statements from the k-th on do their work in a state that S tells -/
def Rest (w : World) (k : Nat) (S : Addr → (Str → Option Value) → List (Addr × Obj) → Prop) : Prop :=
  BodyC (hd.heap_1 w.params) 284 (fun name scope body =>
    ∀ (f : Addr) (cdv : Value) (g : Heap) (L : Addr) (dp un : Nat) (gd : Option (List Code)) (outer : List Env) (A₀ : Around) (base : Heap) (p : Program) (loose : List Str) (mean : ExcName → Option Value) (mg mb : Str → Option Value) (s : Shared) (Q : Flow → Shared → Prop) (m : Str → Option Value) (σ : List (Addr × Obj)),
      Fr g L s.heap m → News g L s.heap σ → S L m σ → Below A₀ base outer g → (hd.heap_1 w.params).In g → Top p loose mean mg mb g → dp + 19 < recursionLimit → un + 97 < cLine →
      (∀ h' tk m' σ, Fr g L h' m' → News g L h' σ → Q (.ret (.bool true)) { s with heap := h', toks := tk }) →
      wpAny (model PySem.Challenge.rw_nu0160_01.row.prog w) (ktrTop dp un gd name scope L f cdv (cellsFrom (L + 1) scope.names []) outer) (execs (body.drop k) (envX name scope L f cdv (cellsFrom (L + 1) scope.names []))) Q (fun _ _ => False) s)
/-- what the codes, types and forms are -/
structure Base (L : Addr) (m : Str → Option Value) (Df a2 a1 dm : Addr) (o7 o6 o5 : Obj) (ys vs2 vs1 : List Value) (cs : List Int) : Prop where
  len : cs.length ≤ 12
  v1 : IntsAre vs1 cs
  v2 : StrsAre vs2 (cs.map jt)
  vf : StrsAre ys ((List.range cs.length).map (formAt (cs.map jt)))
  d5 : o5.data = .cell (some (.ref a2))
  d6 : o6.data = .cell (some (.ref Df))
  d7 : o7.data = .cell (some (.ref dm))
  mc : m (Str.ofString "codes") = some (.ref a1)
def Ints (kvs : List (Str × Value)) : Prop := ∀ k v, valueAt kvs k = some v → ∃ (n : Int) (t : Tok), v = .int n t
/-- before the loop of the masks -/
def S1 (w : World) (L : Addr) (m : Str → Option Value) (σ : List (Addr × Obj)) : Prop :=
  ∃ (dm P Df a2 a1 cl : Addr) (om c1 o7 o6 o5 : Obj) (pp : Pool) (ys vs2 vs1 : List Value) (k2 k1 kc : Nat) (ws : Array Value) (cs cells : List Int),
    σ = [(dm, om), (P, pp.obj cl), (Df, LCg.lst ys), (a2, W.listOf vs2.toArray k2), (a1, W.listOf vs1.toArray k1), (cl, W.listOf ws kc), (L + 1 + 1 + 1 + 1, c1), (L + 1 + 1 + 1, o7), (L + 1 + 1, o6), (L + 1, o5)] ∧
    Base L m Df a2 a1 dm o7 o6 o5 ys vs2 vs1 cs ∧ IntsAre ws.toList cells ∧ cells.length ≤ 40 ∧ pp.ok ∧ pp.pl ≤ 20 ∧ om.IsDictOf (PySem.strKind PySem.Challenge.rw_nu0160_01.row.prog w) [] ∧ (dm == sysModules) = false ∧ c1.data = .cell none ∧
    m (Str.ofString "pool") = some (.ref P) ∧
    (Ap dm P ∧ Ap Df P ∧ Ap a2 P ∧ Ap a1 P ∧ Ap cl P ∧ Ap (L + 1 + 1 + 1 + 1) P ∧ Ap (L + 1 + 1 + 1) P ∧ Ap (L + 1 + 1) P ∧ Ap (L + 1) P) ∧
    (Ap dm (L + 1 + 1 + 1 + 1) ∧ Ap Df (L + 1 + 1 + 1 + 1) ∧ Ap a2 (L + 1 + 1 + 1 + 1) ∧ Ap a1 (L + 1 + 1 + 1 + 1) ∧ Ap cl (L + 1 + 1 + 1 + 1)) ∧
    (Ap Df dm ∧ Ap a2 dm ∧ Ap a1 dm ∧ Ap cl dm ∧ Ap (L + 1 + 1 + 1) dm ∧ Ap (L + 1 + 1) dm ∧ Ap (L + 1) dm)
theorem hr_of {σ σ' : List (Addr × Obj)} {P : Addr} (h : ∀ q ∈ σ', q ∈ σ) (k : OffN P σ') : ∀ q ∈ σ', q ∈ σ ∧ q.1 ≠ P := fun q hq => ⟨h q hq, k.all q hq⟩
theorem Ap.of {a b : Addr} (h : a ≠ b) : Ap a b := ⟨h⟩
theorem OffN.at {I : Addr} {l l' : List (Addr × Obj)} (h : OffN I l) (e : OffN I l = OffN I l') : ∀ p ∈ l', p.1 ≠ I := OffN.all (e ▸ h)
end
local macro_rules | `(tactic| k_ne) => `(tactic| (refine neN ?_; (try dsimp only); first | (with_reducible exact Ap.ne (by with_reducible assumption)) | (with_reducible exact Ap.en (by with_reducible assumption)) | walk_at "pkn"))
local macro_rules | `(tactic| walk_at "my_rest") => `(tactic| (
  unfold Rest; k_fill;
  refine' BodyC.intro (ho := ?ho) (h := ?hb);
  (case ho => k_is)))
section
theorem calm_23 : True := by w_top off; exact True.intro
def flatI (infs : List Inf) : List (Addr × Obj) := infs.flatMap fun i => [(i.x, instObj 52 i.dx), i.dict]
theorem flatI_snoc (infs : List Inf) (a : Inf) : flatI (infs ++ [a]) = flatI infs ++ [(a.x, instObj 52 a.dx), a.dict] := by simp [flatI]
theorem flatI_x {infs : List Inf} {a : Inf} (h : a ∈ infs) : (a.x, instObj 52 a.dx) ∈ flatI infs := List.mem_flatMap.mpr ⟨a, h, .head _⟩
theorem flatI_d {infs : List Inf} {a : Inf} (h : a ∈ infs) : a.dict ∈ flatI infs := List.mem_flatMap.mpr ⟨a, h, .tail _ (.head _)⟩
theorem flatI_of {infs : List Inf} {q : Addr × Obj} (h : q ∈ flatI infs) : ∃ a ∈ infs, q = (a.x, instObj 52 a.dx) ∨ q = a.dict := by
  have hTmp := List.mem_flatMap.mp h
  refine hide fun gX gk => ?_
  obtain ⟨a, ha, h⟩ := hTmp
  refine gk ?_
  clear gk gX
  refine ⟨a, ha, ?_⟩
  simpa using h
/-- the infos made so far -/
structure Made (infs : List Inf) (hvs : List Value) (cs : List Int) (i : Nat) (cu : Int) : Prop where
  len : infs.length = i
  codes : infs.map (·.code) = cs.take i
  masks : IntsAre hvs (infs.map (·.mask))
  ok : ∀ a ∈ infs, a.ok
  uns : ∀ a ∈ infs, a.uns = false
  rise : Rising infs
  below : ∀ a ∈ infs, a.cluster ≤ cu
  nodup : (infs.map (·.dx)).Nodup
  apart : ∀ a ∈ infs, ∀ b ∈ infs, @Ne Nat a.x b.dx
theorem Made.nil (cs : List Int) : Made [] [] cs 0 0 := ⟨rfl, by simp, .nil, by simp, by simp, fun i j a b h => by simp at h, by simp, by simp, by simp⟩
theorem Made.step {infs : List Inf} {hvs : List Value} {cs : List Int} {i : Nat} {cu cu' c k : Int} {x dx : Addr} {es : List DictEntry} {n : Nat} {t : Tok} (h : Made infs hvs cs i cu) (hc : cs[i]? = some c) (hd : InfoD es c cu k false)
    (l1 : ∀ q ∈ flatI infs, q.1 < dx) (l2 : dx < x) (hcu : cu ≤ cu') : Made (infs ++ [⟨x, dx, es, n, c, cu, k, false⟩]) (hvs ++ [.int k t]) cs (i + 1) cu' := by
  have hi := h.len
  refine ⟨by simp [hi], ?_, ?_, ?_, ?_, ?_, ?_, ?_, ?_⟩
  · rw [List.map_append, h.codes, List.take_add_one, hc]; rfl
  · rw [List.map_append]; exact IntsAre.append h.masks (.cons _ _ .nil)
  · intro a ha
    rcases List.mem_append.mp ha with ha | ha
    · exact h.ok a ha
    · rw [List.mem_singleton.mp ha]; exact hd
  · intro a ha
    rcases List.mem_append.mp ha with ha | ha
    · exact h.uns a ha
    · rw [List.mem_singleton.mp ha]
  · intro p q a b ha hb hpq
    by_cases hq : q < infs.length
    · rw [List.getElem?_append_left hq] at hb
      rw [List.getElem?_append_left (by omega)] at ha
      exact h.rise p q a b ha hb hpq
    · rw [List.getElem?_append_right (by omega)] at hb
      have hb' := List.mem_of_getElem? hb
      rw [List.mem_singleton.mp hb']
      by_cases hp : p < infs.length
      · rw [List.getElem?_append_left hp] at ha
        exact h.below a (List.mem_of_getElem? ha)
      · rw [List.getElem?_append_right (by omega)] at ha
        rw [List.mem_singleton.mp (List.mem_of_getElem? ha)]
        exact Int.le_refl _
  · intro a ha
    rcases List.mem_append.mp ha with ha | ha
    · exact Int.le_trans (h.below a ha) hcu
    · rw [List.mem_singleton.mp ha]; exact hcu
  · rw [List.map_append, List.nodup_append]
    refine ⟨h.nodup, by simp, ?_⟩
    intro a ha b hb
    have hTmp := List.mem_map.mp ha
    refine hide fun gX gk => ?_
    obtain ⟨q, hq, rfl⟩ := hTmp
    refine gk ?_
    clear gk gX
    simp only [List.map_cons, List.map_nil, List.mem_singleton] at hb
    rw [hb]
    exact Nat.ne_of_lt (l1 _ (flatI_d hq))
  · intro a ha b hb
    rcases List.mem_append.mp ha with ha | ha <;> rcases List.mem_append.mp hb with hb | hb
    · exact h.apart a ha b hb
    · rw [List.mem_singleton.mp hb]; exact Nat.ne_of_lt (l1 _ (flatI_x ha))
    · rw [List.mem_singleton.mp ha]; exact Nat.ne_of_gt (Nat.lt_trans (l1 _ (flatI_d hb)) l2)
    · rw [List.mem_singleton.mp ha, List.mem_singleton.mp hb]; exact Nat.ne_of_gt l2
theorem UpdF.upd {d : Addr} {o o' : Obj} {l : List (Addr × Obj)} {g : Obj → List (Addr × Obj)} (h : UpdF d o l g) : Upd d o o' l (g o') := by
  have hTmp := h.split
  refine hide fun gX gk => ?_
  obtain ⟨pre, post, rfl, hg, a, b⟩ := hTmp
  refine gk ?_
  clear gk gX
  rw [hg]
  exact Upd.mk a b
section
variable {w : World} {A : Around} {E : Value → Shared → Prop} {s : Shared} {h₀ : Heap} {L : Addr} {m : Str → Option Value} {σ : List (Addr × Obj)} {σ' : Obj → List (Addr × Obj)} {x dx : Addr} {es : List DictEntry} {n : Nat} {code cl mk k : Int} {u : Bool} {t : Tok}
theorem set_mask1 {Q : Unit → Shared → Prop} (F : Fr h₀ L s.heap m) (X : (hd.heap_1 w.params).In h₀) (N : News h₀ L s.heap σ) (hx : (x, instObj 52 dx) ∈ σ) (I : InfoD es code cl mk u) (hdx : (dx, dictOf es n) ∈ σ) (U : UpdF dx (dictOf es n) σ σ')
    (h : ∀ h' es' n' tm, Fr h₀ L h' m → News h₀ L h' (σ' (dictOf es' n')) → InfoD es' code cl k u → getL (Str.ofString "mask") es' = some (some (.int k tm)) → Q () { s with heap := h', toks := s.toks + 2 }) :
    wpAny (model PySem.Challenge.rw_nu0160_01.row.prog w) A (setAttr (.ref x) (Str.ofString "mask") (.int k t)) Q E s := by
  revert X
  k_fill
  intro X
  obtain ⟨tm, hm⟩ := I.mask
  have I' := I.putMask (PyData.keyHash w.params (Str.ofString "mask")) (.str (Str.ofString "mask") (s.toks + 1)) k t
  obtain ⟨tm', hm'⟩ := I'.mask
  refine set_dict (es' := putL (Str.ofString "mask") (PyData.keyHash w.params (Str.ofString "mask")) (.str (Str.ofString "mask") (s.toks + 1)) (.int k t) es) (n' := putN (Str.ofString "mask") es n) F X N (inst_of (C := 52) (N.get hx) (N.get hdx)) rfl (by k_is) (by k_is) (by k_is) (by k_is) (by rw [hm]; rfl) rfl (UpdF.upd U) (Nat.le_trans I'.len (by omega)) fun h' F' N' => h h' _ _ tm' F' N' I' hm'
theorem pick4 {value slice : Expr} {l : Addr} {r a0 a1 a2 a3 : Int} {u t0 t1 t2 t3 : Tok} {Q : Value → Shared → Prop}
    (hl : s.heap.IsList l #[.int a0 t0, .int a1 t1, .int a2 t2, .int a3 t3]) (h0 : 0 ≤ r) (h1 : r < 4) (h : ∀ k t, Q (.int k t) s)
    (hs : subscripted slice false (.ref l) (.int r u) = operate [.ref l, .int r u] (getItem (.ref l) (.int r u)) := by with_unfolding_all rfl) :
    wpAny (model PySem.Challenge.rw_nu0160_01.row.prog w) A (subscriptTail value slice (.ref l) (.int r u)) Q E s := by
  have : r = 0 ∨ r = 1 ∨ r = 2 ∨ r = 3 := by omega
  rcases this with rfl | rfl | rfl | rfl
  all_goals exact item_arr hl (by omega) (by omega) (by rfl) (h _ _) hs
end
/-- before the buffer is made -/
def S2 (w : World) (L : Addr) (m : Str → Option Value) (σ : List (Addr × Obj)) : Prop :=
  ∃ (H A dm Df a2 a1 : Addr) (om c1 o7 o6 o5 : Obj) (ys vs2 vs1 hvs : List Value) (k2 k1 kA kH : Nat) (cs : List Int) (kvs : List (Str × Value)) (infs : List Inf) (cu : Int),
    σ = (H, W.listOf hvs.toArray kH) :: (A, W.listOf (infs.map fun i => Value.ref i.x).toArray kA) :: (dm, om) :: (Df, LCg.lst ys) :: (a2, W.listOf vs2.toArray k2) :: (a1, W.listOf vs1.toArray k1) :: (L + 1 + 1 + 1 + 1, c1) :: (L + 1 + 1 + 1, o7) :: (L + 1 + 1, o6) :: (L + 1, o5) :: flatI infs ∧
    Base L m Df a2 a1 dm o7 o6 o5 ys vs2 vs1 cs ∧ om.IsDictOf (PySem.strKind PySem.Challenge.rw_nu0160_01.row.prog w) kvs ∧ Ints kvs ∧ (dm == sysModules) = false ∧ c1.data = .cell (some (.ref H)) ∧ m (Str.ofString "infos") = some (.ref A) ∧
    Made infs hvs cs cs.length cu ∧ (∀ q ∈ flatI infs, H < q.1) ∧ (@LT.lt Nat _ A H ∧ @LT.lt Nat _ dm H ∧ @LT.lt Nat _ Df H ∧ @LT.lt Nat _ a2 H ∧ @LT.lt Nat _ a1 H ∧ @LT.lt Nat _ (L + 1 + 1 + 1 + 1) H)
end
section
theorem calm_24 : True := by w_top off; exact True.intro
local macro_rules | `(tactic| walk_at "my_idle") => `(tactic| skip)
local macro_rules | `(tactic| walk_at "setItem ref str") => `(tactic| ((with_reducible show wpAny _ _ (setItem (Value.ref _) (Value.str _ _) (Value.int _ _)) _ _ _); k_dflt (refine' kda_set (knd := PySem.strKind _ _) ?F ?N ?U ?d (strKind_is _ _ _ _) ?z ?_; (case F => k_asm); (case N => k_asm); (case U => k_updF); (case d => k_asm); (case z => rw [sizeLine_eq]; omega)); intro h' o' F' N' hd'; (try dsimp only at N')))
theorem Ints.put {kvs : List (Str × Value)} (h : Ints kvs) (k : Str) (n : Int) (t : Tok) : Ints (stored kvs k (.int n t)) := fun c v e => by
  rw [valueAt_stored] at e
  split at e
  · exact ⟨n, t, (Option.some.inj e).symm⟩
  · exact h c v e
theorem rest1 (w : World) (hR : Rest w 16 (S2 w)) : Rest w 11 (S1 w) := by
  have e : PySem.Challenge.rw_nu0160_01 = PySem.Challenge.rw_nu0160_01 := rfl
  revert e
  unfold Rest S1
  k_fill
  intro _
  refine' BodyC.intro (ho := ?ho) (h := ?hb)
  case ho => k_is
  case hb =>
  rintro f cdv g L dp un gd outer A₀ base p loose mean mg mb s Q m σ F N hTmp
  refine hide fun gX gk => ?_
  obtain ⟨dm, P, Df, a2, a1, cl, om, c1, o7, o6, o5, pp, ys, vs2, vs1, k2, k1, kc, ws, cs, cells, rfl, hB, hws, hcs40, hpok, hpl, hod, hms, hc1, hmp, ⟨p1, p2, p3, p4, p5, p6, p7, p8, p9⟩, ⟨q1, q2, q3, q4, q5⟩, r1, r2, r3, r4, r5, r6, r7⟩ := hTmp
  refine gk ?_
  clear gk gX
  rintro B X T hd hu hQ
  simp only [List.drop_succ_cons, List.drop_zero]
  refine hide fun gX gk => ?_
  obtain ⟨hlen, hv1, hv2, hvf, hd5, hd6, hd7, hmc⟩ := hB
  refine gk ?_
  clear gk gX
  (repeat' ((fail_if_success (with_reducible show LCg.CompSrc _ _ _ _ _ _ _ _ _ _ _ _ _ _)); (fail_if_success (with_reducible show wpAny _ _ (pyIter (Value.ref _)) _ _ _)); (fail_if_success (with_reducible show wpAny _ _ (exec (Stmt.While _ _ _ _) _) _ _ _)); (fail_if_success (with_reducible show wpAny _ _ (compareOp _ (Value.ref _) (Value.ref _)) _ _ _)); first | walk1 | (dsimp only; walk1)))
  rename_i h2 tk2 t2 u2 v2 hr2 F2 N2 K2
  refine iter_range0 (n := 4) (fun i m' σ => ∃ (pp : Pool) (om : Obj) (kvs : List (Str × Value)), σ = [(dm, om), (P, pp.obj cl), (Df, LCg.lst ys), (a2, W.listOf vs2.toArray k2), (a1, W.listOf vs1.toArray k1), (cl, W.listOf ws kc), (L + 1 + 1 + 1 + 1, c1), (L + 1 + 1 + 1, o7), (L + 1 + 1, o6), (L + 1, o5)] ∧ pp.ok ∧ pp.pl ≤ 20 + i ∧
      om.IsDictOf (PySem.strKind PySem.Challenge.rw_nu0160_01.row.prog w) kvs ∧ Ints kvs ∧ kvs.length ≤ i ∧ m' (Str.ofString "pool") = some (.ref P) ∧ m' (Str.ofString "codes") = some (.ref a1)) rfl F2 N2 hr2 rfl (by omega)
    ⟨pp, om, [], rfl, hpok, by omega, hod, fun k v h => by simp [valueAt] at h, Nat.le_refl _, hmp, hmc⟩ ?_ ?_
  · rintro i ti m' σ h₁ tk I io hi' hTmp
    refine hide fun gX gk => ?_
    obtain ⟨pp3, om3, kvs, rfl, hp3, hpl3, hom, hval, hkl, hmp', hmc'⟩ := hTmp
    refine gk ?_
    clear gk gX
    rintro F₁ N₁ off hic
    have offs := offN_of off
    replace off := offs
    simp only [OffN, and_true] at off
    refine hide fun gX gk => ?_
    obtain ⟨o1, o2, -⟩ := off
    refine gk ?_
    clear gk gX
    replace o1 : Ap dm I := ⟨o1⟩
    replace o2 : Ap P I := ⟨o2⟩
    (repeat' ((fail_if_success (with_reducible show LCg.CompSrc _ _ _ _ _ _ _ _ _ _ _ _ _ _)); (fail_if_success (with_reducible show wpAny _ _ (pyIter (Value.ref _)) _ _ _)); (fail_if_success (with_reducible show wpAny _ _ (exec (Stmt.While _ _ _ _) _) _ _ _)); (fail_if_success (with_reducible show wpAny _ _ (compareOp _ (Value.ref _) (Value.ref _)) _ _ _)); first | walk1 | (dsimp only; walk1)))
    rename Fr _ _ _ _ => F22
    rename News _ _ _ _ => N22
    refine draw_call (σ' := [(I, io), (dm, om3), (Df, LCg.lst ys), (a2, W.listOf vs2.toArray k2), (a1, W.listOf vs1.toArray k1), (cl, W.listOf ws kc), (L + 1 + 1 + 1 + 1, c1), (L + 1 + 1 + 1, o7), (L + 1 + 1, o6), (L + 1, o5)]) (by k_mem) p5.ne hws hcs40 hp3 (by omega) (by omega) (by omega) B F22 X T N22 (by k_mem) (hr_of (by ((repeat' (first | exact fun q hq => absurd hq List.not_mem_nil | refine List.forall_mem_cons.mpr ⟨by k_mem, ?_⟩ | (intro q hq; (repeat' (first | exact hq | refine List.Mem.tail _ ?_))))))) (by ((simp only [OffN, and_true]; (try dsimp only); (repeat' (refine And.intro ?_ ?_)); all_goals (first | assumption | k_ne))))) rfl (by omega) (by omega) ?_
    intro r4 t4 p4 h24 tk24 hr40 hr41 F24 N24 hp4 hpl4
    (repeat' ((fail_if_success (with_reducible show LCg.CompSrc _ _ _ _ _ _ _ _ _ _ _ _ _ _)); (fail_if_success (with_reducible show wpAny _ _ (pyIter (Value.ref _)) _ _ _)); (fail_if_success (with_reducible show wpAny _ _ (exec (Stmt.While _ _ _ _) _) _ _ _)); (fail_if_success (with_reducible show wpAny _ _ (compareOp _ (Value.ref _) (Value.ref _)) _ _ _)); first | walk1 | (dsimp only; walk1)))
    all_goals (
      rename Fr _ _ _ _ => F25
      rename News _ _ _ _ => N25
      first
        | (rename Obj.IsDictOf _ _ _ => hom5
           refine TurnEnd.next [(dm, _), (P, p4.obj cl), (Df, LCg.lst ys), (a2, W.listOf vs2.toArray k2), (a1, W.listOf vs1.toArray k1), (cl, W.listOf ws kc), (L + 1 + 1 + 1 + 1, c1), (L + 1 + 1 + 1, o7), (L + 1 + 1, o6), (L + 1, o5)] F25 N25 (by k_mem) (by ((repeat' (first | exact fun q hq => absurd hq List.not_mem_nil | refine List.forall_mem_cons.mpr ⟨by k_mem, ?_⟩ | (intro q hq; (repeat' (first | exact hq | refine List.Mem.tail _ ?_)))))))
              (fun q hq => .inl (OffN.at offs (by rfl) q hq)) ⟨p4, _, _, rfl, hp4, by omega, hom5, hval.put _ _ _, Nat.le_trans (stored_length_le _ _ _) (by omega), hmp', hmc'⟩)
        | refine TurnEnd.next [(dm, om3), (P, p4.obj cl), (Df, LCg.lst ys), (a2, W.listOf vs2.toArray k2), (a1, W.listOf vs1.toArray k1), (cl, W.listOf ws kc), (L + 1 + 1 + 1 + 1, c1), (L + 1 + 1 + 1, o7), (L + 1 + 1, o6), (L + 1, o5)] F25 N25 (by k_mem) (by ((repeat' (first | exact fun q hq => absurd hq List.not_mem_nil | refine List.forall_mem_cons.mpr ⟨by k_mem, ?_⟩ | (intro q hq; (repeat' (first | exact hq | refine List.Mem.tail _ ?_)))))))
              (fun q hq => .inl (OffN.at offs (by rfl) q hq)) ⟨p4, _, _, rfl, hp4, by omega, hom, hval, by omega, hmp', hmc'⟩)
  · rintro m' σ h₁ tk hTmp
    refine hide fun gX gk => ?_
    obtain ⟨pp3, om3, kvs, rfl, hp3, hpl3, hom, hval, hkl, hmp', hmc'⟩ := hTmp
    refine gk ?_
    clear gk gX
    rintro F₁ N₁
    clear F2 N2 hr2 K2 hod hmp hmc hpok hpl
    (repeat' ((fail_if_success (with_reducible show LCg.CompSrc _ _ _ _ _ _ _ _ _ _ _ _ _ _)); (fail_if_success (with_reducible show wpAny _ _ (pyIter (Value.ref _)) _ _ _)); (fail_if_success (with_reducible show wpAny _ _ (exec (Stmt.While _ _ _ _) _) _ _ _)); (fail_if_success (with_reducible show wpAny _ _ (compareOp _ (Value.ref _) (Value.ref _)) _ _ _)); first | walk1 | (dsimp only; walk1)))
    rename_i A _ _ _ l1a _ _ _ H _ l1b _ c1' F3 N3 hd1
    have hl1 := hv1.length
    have hHs : A < H ∧ dm < H ∧ P < H ∧ Df < H ∧ a2 < H ∧ a1 < H ∧ cl < H ∧ L + 1 + 1 + 1 + 1 < H ∧ L + 1 + 1 + 1 < H ∧ L + 1 + 1 < H ∧ L + 1 < H := by simpa using l1b
    have aA : Ap H A := ⟨Nat.ne_of_gt hHs.1⟩
    have aP : Ap H P := ⟨Nat.ne_of_gt hHs.2.2.1⟩
    have hAs : A > dm ∧ A > P ∧ A > Df ∧ A > a2 ∧ A > a1 ∧ A > cl ∧ A > L + 1 + 1 + 1 + 1 ∧ A > L + 1 + 1 + 1 ∧ A > L + 1 + 1 ∧ A > L + 1 := by simpa using l1a
    have aPA : Ap A P := ⟨Nat.ne_of_gt hAs.2.1⟩
    refine iter_list (l := a1) (its := vs1) (k := k1) (fun i m' σ => ∃ (pp : Pool) (infs : List Inf) (hvs : List Value) (kA kH : Nat) (cu : Int) (tc : Tok),
        σ = (H, W.listOf hvs.toArray kH) :: (A, W.listOf (infs.map fun i => Value.ref i.x).toArray kA) :: (dm, om3) :: (P, pp.obj cl) :: (Df, LCg.lst ys) :: (a2, W.listOf vs2.toArray k2) :: (a1, W.listOf vs1.toArray k1) :: (cl, W.listOf ws kc) :: (L + 1 + 1 + 1 + 1, c1') :: (L + 1 + 1 + 1, o7) :: (L + 1 + 1, o6) :: (L + 1, o5) :: flatI infs ∧
        pp.ok ∧ pp.pl ≤ 24 + 2 * i ∧ Made infs hvs cs i cu ∧ (∀ q ∈ flatI infs, H < q.1) ∧ m' (Str.ofString "cluster") = some (.int cu tc) ∧ m' (Str.ofString "pool") = some (.ref P) ∧ m' (Str.ofString "codes") = some (.ref a1) ∧ m' (Str.ofString "infos") = some (.ref A)) rfl F3 N3 rfl ?_
      ⟨pp3, [], [], _, _, 0, _, rfl, hp3, by omega, Made.nil cs, (by simp [flatI]), by rfl, hmp', hmc', by rfl⟩ ?_ ?_
    · rintro i m' σ hTmp
      refine hide fun gX gk => ?_
      obtain ⟨pp, infs, hvs, kA, kH, cu, tc, rfl, _⟩ := hTmp
      refine gk ?_
      clear gk gX
      exact .tail _ (.tail _ (.tail _ (.tail _ (.tail _ (.tail _ (.head _))))))
    · clear F3 N3 hmp' hmc' hp3 hpl3
      rintro i v m' σ h₁ tk I io hi hTmp
      refine hide fun gX gk => ?_
      obtain ⟨pp5, infs, hvs, kA, kH, cu, tc, rfl, hp5, hpl5, hM, hup, hmcl, hmp', hmc', hmi'⟩ := hTmp
      refine gk ?_
      clear gk gX
      rintro F₁ N₁ off hic
      obtain ⟨c, hcc, tcc, rfl⟩ : ∃ c, cs[i]? = some c ∧ ∃ t, v = Value.int c t := by
        have hi2 : i < vs1.length := (List.getElem?_eq_some_iff.mp hi).1
        have hc : cs[i]? = some cs[i] := by simp [hl1 ▸ hi2]
        obtain ⟨t, ht⟩ := hv1.get i _ hc
        exact ⟨_, hc, t, Option.some.inj (hi.symm.trans ht)⟩
      have hi2 : i < cs.length := (List.getElem?_eq_some_iff.mp hcc).1
      have o1 : Ap H I := ⟨off _ (.head _)⟩
      have o2 : Ap A I := ⟨off _ (.tail _ (.head _))⟩
      have o3 : Ap P I := ⟨off _ (.tail _ (.tail _ (.tail _ (.head _))))⟩
      have hil := hM.len
      have hhl := hM.masks.length
      rw [List.length_map] at hhl
      (repeat' ((fail_if_success (with_reducible show LCg.CompSrc _ _ _ _ _ _ _ _ _ _ _ _ _ _)); (fail_if_success (with_reducible show wpAny _ _ (PySem.call (Value.ref 52) _) _ _ _)); (fail_if_success (with_reducible show wpAny _ _ (setAttr _ _ _) _ _ _)); (fail_if_success (with_reducible show wpAny _ _ (pyIter (Value.ref _)) _ _ _)); (fail_if_success (with_reducible show wpAny _ _ (subscriptTail _ _ _ _) _ _ _)); (fail_if_success (with_reducible show wpAny _ _ (PySem.call (Value.ref 258) _) _ _ _)); (fail_if_success (with_reducible show wpAny _ _ (PySem.call (Value.builtin "list.append") _) _ _ _)); first | walk1 | (dsimp only; walk1)))
      rename Fr _ _ _ _ => F4
      rename News _ _ _ _ => N4
      refine make_info B F4 X T N4 rfl (by omega) (by omega) ?_
      intro x dx es n h5 tk5 F5 N5 hin l1 l2
      have lf : ∀ q ∈ flatI infs, q.1 < dx := fun q hq => l1 q (by simp only [List.mem_cons]; simp [hq])
      have lfn : ∀ q ∈ flatI infs, q.1 ≠ dx := fun q hq => Nat.ne_of_lt (lf q hq)
      have lI : I < dx := l1 _ (.head _)
      have lH : H < dx := l1 _ (.tail _ (.head _))
      have lA : A < dx := l1 _ (.tail _ (.tail _ (.head _)))
      have lP : P < dx := l1 _ (.tail _ (.tail _ (.tail _ (.tail _ (.head _)))))
      k_lt l1
      have x1 : Ap x dx := ⟨Nat.ne_of_gt l2⟩
      have x2 : Ap I dx := ⟨Nat.ne_of_lt lI⟩
      have x3 : Ap H dx := ⟨Nat.ne_of_lt lH⟩
      have x4 : Ap A dx := ⟨Nat.ne_of_lt lA⟩
      have x5 : Ap P dx := ⟨Nat.ne_of_lt lP⟩
      have x6 : Ap P x := ⟨Nat.ne_of_lt (Nat.lt_trans lP l2)⟩
      have x7 : Ap H x := ⟨Nat.ne_of_lt (Nat.lt_trans lH l2)⟩
      have x8 : Ap A x := ⟨Nat.ne_of_lt (Nat.lt_trans lA l2)⟩
      have hfP : OffN P (flatI infs) := offN_of fun q hq => Nat.ne_of_gt (Nat.lt_trans hHs.2.2.1 (hup q hq))
      have hfA : ∀ q ∈ flatI infs, q.1 ≠ A := fun q hq => Nat.ne_of_gt (Nat.lt_trans hHs.1 (hup q hq))
      have hfH : ∀ q ∈ flatI infs, q.1 ≠ H := fun q hq => Nat.ne_of_gt (hup q hq)
      (repeat' ((fail_if_success (with_reducible show LCg.CompSrc _ _ _ _ _ _ _ _ _ _ _ _ _ _)); (fail_if_success (with_reducible show wpAny _ _ (PySem.call (Value.ref 52) _) _ _ _)); (fail_if_success (with_reducible show wpAny _ _ (setAttr _ _ _) _ _ _)); (fail_if_success (with_reducible show wpAny _ _ (pyIter (Value.ref _)) _ _ _)); (fail_if_success (with_reducible show wpAny _ _ (subscriptTail _ _ _ _) _ _ _)); (fail_if_success (with_reducible show wpAny _ _ (PySem.call (Value.ref 258) _) _ _ _)); (fail_if_success (with_reducible show wpAny _ _ (PySem.call (Value.builtin "list.append") _) _ _ _)); first | walk1 | (dsimp only; walk1)))
      rename_i lt _ F6 N6 l6
      refine draw_call (σ' := (lt, _) :: (x, instObj 52 dx) :: (dx, dictOf es n) :: (I, io) :: (H, W.listOf hvs.toArray kH) :: (A, W.listOf (infs.map fun i => Value.ref i.x).toArray kA) :: (dm, om3) :: (Df, LCg.lst ys) :: (a2, W.listOf vs2.toArray k2) :: (a1, W.listOf vs1.toArray k1) :: (cl, W.listOf ws kc) :: (L + 1 + 1 + 1 + 1, c1') :: (L + 1 + 1 + 1, o7) :: (L + 1 + 1, o6) :: (L + 1, o5) :: flatI infs) (by k_mem) p5.ne hws hcs40 hp5 (by omega) (by omega) (by omega) B F6 X T N6 (by k_mem) (hr_of (by ((repeat' (first | exact fun q hq => absurd hq List.not_mem_nil | refine List.forall_mem_cons.mpr ⟨by k_mem, ?_⟩ | (intro q hq; (repeat' (first | exact hq | refine List.Mem.tail _ ?_))))))) (by ((simp only [OffN, and_true]; (try dsimp only); (repeat' (refine And.intro ?_ ?_)); all_goals (first | assumption | k_ne))))) rfl (by omega) (by omega) ?_
      intro r4 t4 p6 h7 tk7 hr40 hr41 F7 N7 hp6 hpl6
      (repeat' ((fail_if_success (with_reducible show LCg.CompSrc _ _ _ _ _ _ _ _ _ _ _ _ _ _)); (fail_if_success (with_reducible show wpAny _ _ (PySem.call (Value.ref 52) _) _ _ _)); (fail_if_success (with_reducible show wpAny _ _ (setAttr _ _ _) _ _ _)); (fail_if_success (with_reducible show wpAny _ _ (pyIter (Value.ref _)) _ _ _)); (fail_if_success (with_reducible show wpAny _ _ (subscriptTail _ _ _ _) _ _ _)); (fail_if_success (with_reducible show wpAny _ _ (PySem.call (Value.ref 258) _) _ _ _)); (fail_if_success (with_reducible show wpAny _ _ (PySem.call (Value.builtin "list.append") _) _ _ _)); first | walk1 | (dsimp only; walk1)))
      refine pick4 (by walk_at "my_list") hr40 hr41 ?_
      intro k tk0
      (repeat' ((fail_if_success (with_reducible show LCg.CompSrc _ _ _ _ _ _ _ _ _ _ _ _ _ _)); (fail_if_success (with_reducible show wpAny _ _ (PySem.call (Value.ref 52) _) _ _ _)); (fail_if_success (with_reducible show wpAny _ _ (setAttr _ _ _) _ _ _)); (fail_if_success (with_reducible show wpAny _ _ (pyIter (Value.ref _)) _ _ _)); (fail_if_success (with_reducible show wpAny _ _ (subscriptTail _ _ _ _) _ _ _)); (fail_if_success (with_reducible show wpAny _ _ (PySem.call (Value.ref 258) _) _ _ _)); (fail_if_success (with_reducible show wpAny _ _ (PySem.call (Value.builtin "list.append") _) _ _ _)); first | walk1 | (dsimp only; walk1)))
      refine set_mask1 (by k_asm) X (by k_asm) (by k_mem) hin (by k_mem) (by k_updF) ?_
      intro h8 es8 n8 tm8 F8 N8 hin8 hgm8
      (try dsimp only at N8)
      (repeat' ((fail_if_success (with_reducible show LCg.CompSrc _ _ _ _ _ _ _ _ _ _ _ _ _ _)); (fail_if_success (with_reducible show wpAny _ _ (PySem.call (Value.ref 52) _) _ _ _)); (fail_if_success (with_reducible show wpAny _ _ (setAttr _ _ _) _ _ _)); (fail_if_success (with_reducible show wpAny _ _ (pyIter (Value.ref _)) _ _ _)); (fail_if_success (with_reducible show wpAny _ _ (subscriptTail _ _ _ _) _ _ _)); (fail_if_success (with_reducible show wpAny _ _ (PySem.call (Value.ref 258) _) _ _ _)); (fail_if_success (with_reducible show wpAny _ _ (PySem.call (Value.builtin "list.append") _) _ _ _)); first | walk1 | (dsimp only; walk1)))
      refine append_K (by k_asm) (by k_asm) (by k_upd) ?_ (by rw [sizeLine_eq, List.size_toArray]; omega)
      intro h9 F9 N9
      (repeat' ((fail_if_success (with_reducible show LCg.CompSrc _ _ _ _ _ _ _ _ _ _ _ _ _ _)); (fail_if_success (with_reducible show wpAny _ _ (PySem.call (Value.ref 52) _) _ _ _)); (fail_if_success (with_reducible show wpAny _ _ (setAttr _ _ _) _ _ _)); (fail_if_success (with_reducible show wpAny _ _ (pyIter (Value.ref _)) _ _ _)); (fail_if_success (with_reducible show wpAny _ _ (subscriptTail _ _ _ _) _ _ _)); (fail_if_success (with_reducible show wpAny _ _ (PySem.call (Value.ref 258) _) _ _ _)); (fail_if_success (with_reducible show wpAny _ _ (PySem.call (Value.builtin "list.append") _) _ _ _)); first | walk1 | (dsimp only; walk1)))
      refine append_K (by k_asm) (by k_asm) (by k_upd) ?_ (by rw [sizeLine_eq, List.size_toArray, List.length_map]; omega)
      intro h10 F10 N10
      (repeat' ((fail_if_success (with_reducible show LCg.CompSrc _ _ _ _ _ _ _ _ _ _ _ _ _ _)); (fail_if_success (with_reducible show wpAny _ _ (PySem.call (Value.ref 52) _) _ _ _)); (fail_if_success (with_reducible show wpAny _ _ (setAttr _ _ _) _ _ _)); (fail_if_success (with_reducible show wpAny _ _ (pyIter (Value.ref _)) _ _ _)); (fail_if_success (with_reducible show wpAny _ _ (subscriptTail _ _ _ _) _ _ _)); (fail_if_success (with_reducible show wpAny _ _ (PySem.call (Value.ref 258) _) _ _ _)); (fail_if_success (with_reducible show wpAny _ _ (PySem.call (Value.builtin "list.append") _) _ _ _)); first | walk1 | (dsimp only; walk1)))
      rename Fr _ _ _ _ => F11
      rename News _ _ _ _ => N11
      refine draw_call (σ' := (x, instObj 52 dx) :: (dx, dictOf es8 n8) :: (I, io) :: (H, W.listOf (hvs.toArray.push (.int k tm8)) (kH + 1)) :: (A, W.listOf ((infs.map fun i => Value.ref i.x).toArray.push (.ref x)) (kA + 1)) :: (dm, om3) :: (Df, LCg.lst ys) :: (a2, W.listOf vs2.toArray k2) :: (a1, W.listOf vs1.toArray k1) :: (cl, W.listOf ws kc) :: (L + 1 + 1 + 1 + 1, c1') :: (L + 1 + 1 + 1, o7) :: (L + 1 + 1, o6) :: (L + 1, o5) :: flatI infs) (by k_mem) p5.ne hws hcs40 hp6 (by omega) (by omega) (by omega) B F11 X T N11 (by k_mem) (hr_of (by ((repeat' (first | exact fun q hq => absurd hq List.not_mem_nil | refine List.forall_mem_cons.mpr ⟨by k_mem, ?_⟩ | (intro q hq; (repeat' (first | exact hq | refine List.Mem.tail _ ?_))))))) (by ((simp only [OffN, and_true]; (try dsimp only); (repeat' (refine And.intro ?_ ?_)); all_goals (first | assumption | k_ne))))) rfl (by omega) (by omega) ?_
      intro r5 t5 p7 h12 tk12 hr50 hr51 F12 N12 hp7 hpl7
      (repeat' ((fail_if_success (with_reducible show LCg.CompSrc _ _ _ _ _ _ _ _ _ _ _ _ _ _)); (fail_if_success (with_reducible show wpAny _ _ (PySem.call (Value.ref 52) _) _ _ _)); (fail_if_success (with_reducible show wpAny _ _ (setAttr _ _ _) _ _ _)); (fail_if_success (with_reducible show wpAny _ _ (pyIter (Value.ref _)) _ _ _)); (fail_if_success (with_reducible show wpAny _ _ (subscriptTail _ _ _ _) _ _ _)); (fail_if_success (with_reducible show wpAny _ _ (PySem.call (Value.ref 258) _) _ _ _)); (fail_if_success (with_reducible show wpAny _ _ (PySem.call (Value.builtin "list.append") _) _ _ _)); first | walk1 | (dsimp only; walk1)))
      rename Fr _ _ _ _ => F13
      rename News _ _ _ _ => N13
      simp only [List.push_toArray] at N13
      have hM' := hM.step (x := x) (dx := dx) (n := n8) (t := tm8) (cu' := cu + r5) hcc hin8 lf l2 (by omega)
      have e1 : flatI (infs ++ [Inf.mk x dx es8 n8 c cu k false]) = flatI infs ++ [(x, instObj 52 dx), (dx, dictOf es8 n8)] := flatI_snoc _ _
      refine TurnEnd.next ((H, W.listOf (hvs ++ [Value.int k tm8]).toArray (kH + 1)) :: (A, W.listOf ((infs ++ [Inf.mk x dx es8 n8 c cu k false]).map fun i => Value.ref i.x).toArray (kA + 1)) :: (dm, om3) :: (P, p7.obj cl) :: (Df, LCg.lst ys) :: (a2, W.listOf vs2.toArray k2) :: (a1, W.listOf vs1.toArray k1) :: (cl, W.listOf ws kc) :: (L + 1 + 1 + 1 + 1, c1') :: (L + 1 + 1 + 1, o7) :: (L + 1 + 1, o6) :: (L + 1, o5) :: flatI (infs ++ [Inf.mk x dx es8 n8 c cu k false])) F13 N13 (by k_mem) ?_ ?_
        ⟨p7, infs ++ [Inf.mk x dx es8 n8 c cu k false], hvs ++ [Value.int k tm8], _, _, cu + r5, _, rfl, hp7, by omega, hM', ?_, by rfl, hmp', hmc', hmi'⟩
      · rw [e1, List.map_append]
        refine List.forall_mem_cons.mpr ⟨by k_mem, ?_⟩
        refine List.forall_mem_cons.mpr ⟨by k_mem, ?_⟩
        (repeat (refine List.forall_mem_cons.mpr ⟨by k_mem, ?_⟩))
        intro q hq
        rcases List.mem_append.mp hq with hq | hq
        · repeat' (first | exact hq | refine List.Mem.tail _ ?_)
        · simp only [List.mem_cons, List.not_mem_nil, or_false] at hq
          rcases hq with rfl | rfl
          · exact .tail _ (.head _)
          · exact .tail _ (.tail _ (.head _))
      · rw [e1]
        refine List.forall_mem_cons.mpr ⟨.inl o1.ne, ?_⟩
        refine List.forall_mem_cons.mpr ⟨.inl o2.ne, ?_⟩
        refine List.forall_mem_cons.mpr ⟨.inl (off _ (by k_mem)), ?_⟩
        refine List.forall_mem_cons.mpr ⟨.inl o3.ne, ?_⟩
        (repeat (refine List.forall_mem_cons.mpr ⟨.inl (off _ (by k_mem)), ?_⟩))
        intro q hq
        left
        rcases List.mem_append.mp hq with hq | hq
        · refine off q ?_
          repeat' (first | exact hq | refine List.Mem.tail _ ?_)
        · simp only [List.mem_cons, List.not_mem_nil, or_false] at hq
          rcases hq with rfl | rfl
          · exact Nat.ne_of_gt (Nat.lt_trans lI l2)
          · exact Nat.ne_of_gt lI
      · rw [e1]
        intro q hq
        rcases List.mem_append.mp hq with hq | hq
        · exact hup q hq
        · simp only [List.mem_cons, List.not_mem_nil, or_false] at hq
          rcases hq with rfl | rfl
          · exact Nat.lt_trans lH l2
          · exact lH
    · rintro m' σ h₁ tk hTmp
      refine hide fun gX gk => ?_
      obtain ⟨pp5, infs, hvs, kA, kH, cu, tc, rfl, hp5, hpl5, hM, hup, hmcl, hmp', hmc', hmi'⟩ := hTmp
      refine gk ?_
      clear gk gX
      rintro F₁ N₁
      rw [hl1] at hM
      have hS : S2 w L m' ((H, W.listOf hvs.toArray kH) :: (A, W.listOf (infs.map fun i => Value.ref i.x).toArray kA) :: (dm, om3) :: (Df, LCg.lst ys) :: (a2, W.listOf vs2.toArray k2) :: (a1, W.listOf vs1.toArray k1) :: (L + 1 + 1 + 1 + 1, c1') :: (L + 1 + 1 + 1, o7) :: (L + 1 + 1, o6) :: (L + 1, o5) :: flatI infs) :=
        ⟨H, A, dm, Df, a2, a1, om3, c1', o7, o6, o5, ys, vs2, vs1, hvs, k2, k1, kA, kH, cs, kvs, infs, cu, rfl, ⟨hlen, hv1, hv2, hvf, hd5, hd6, hd7, hmc'⟩, hom, hval, hms, hd1, hmi', hM, hup, by omega, by omega, by omega, by omega, by omega, by omega⟩
      have N₂ := News.sub N₁ (σ' := (H, W.listOf hvs.toArray kH) :: (A, W.listOf (infs.map fun i => Value.ref i.x).toArray kA) :: (dm, om3) :: (Df, LCg.lst ys) :: (a2, W.listOf vs2.toArray k2) :: (a1, W.listOf vs1.toArray k1) :: (L + 1 + 1 + 1 + 1, c1') :: (L + 1 + 1 + 1, o7) :: (L + 1 + 1, o6) :: (L + 1, o5) :: flatI infs) (by ((repeat' (first | exact fun q hq => absurd hq List.not_mem_nil | refine List.forall_mem_cons.mpr ⟨by k_mem, ?_⟩ | (intro q hq; (repeat' (first | exact hq | refine List.Mem.tail _ ?_)))))))
      have hQ' : ∀ h' tk' m' σ, Fr g L h' m' → News g L h' σ → Q (.ret (.bool true)) { ({ s with heap := h₁, toks := tk } : Shared) with heap := h', toks := tk' } := fun h' tk' m' σ F' N' => hQ h' tk' m' σ F' N'
      with_unfolding_all exact BodyC.elim hR (by k_is) f cdv g L dp un gd outer A₀ base p loose mean mg mb { s with heap := h₁, toks := tk } Q m' _ F₁ N₂ hS B X T hd hu hQ'
end
section
theorem calm_25 : True := by w_top off; exact True.intro
/-- what join has left -/
structure Joined (is : List Inf) (hvs : List Value) (kvs : List (Str × Value)) (cs : List Int) : Prop where
  len : is.length = cs.length
  ok : ∀ a ∈ is, a.ok
  codes : is.map (·.code) = cs
  rise : Rising is
  masks : ∃ ms, IntsAre hvs ms ∧ ms.length = cs.length ∧ ∀ (j : Nat) (a : Inf), is[j]? = some a → a.mask = Builtin.bitOr (ms.getD j 0) (mget kvs (formAt (cs.map jt) j))
  uns : ∀ (j : Nat) (a : Inf), is[j]? = some a → a.uns = unsAny is (jp (cs.map jt)) j a.cluster
/-- after the join and the empty lists -/
def S3 (w : World) (L : Addr) (m : Str → Option Value) (σ : List (Addr × Obj)) : Prop :=
  ∃ (Pr U b db H A dm Df a2 a1 : Addr) (om c1 o7 o6 o5 : Obj) (bes : List DictEntry) (bn : Nat) (ys vs2 vs1 hvs : List Value) (k2 k1 kA kH kU kP : Nat) (cs : List Int) (kvs : List (Str × Value)) (infs : List Inf) (tl : List (Addr × Obj)) (vb : Value),
    σ = (Pr, W.listOf #[] kP) :: (U, W.listOf (bArr cs.length fun _ => false) kU) :: (b, instObj 100 db) :: (db, dictOf bes bn) :: (H, W.listOf hvs.toArray kH) :: (A, W.listOf (infs.map fun i => Value.ref i.x).toArray kA) :: (dm, om) :: (Df, LCg.lst ys) :: (a2, W.listOf vs2.toArray k2) :: (a1, W.listOf vs1.toArray k1) :: (L + 1 + 1 + 1 + 1, c1) :: (L + 1 + 1 + 1, o7) :: (L + 1 + 1, o6) :: (L + 1, o5) :: tl ∧
    Base L m Df a2 a1 dm o7 o6 o5 ys vs2 vs1 cs ∧ om.IsDictOf (PySem.strKind PySem.Challenge.rw_nu0160_01.row.prog w) kvs ∧ Ints kvs ∧ (dm == sysModules) = false ∧ c1.data = .cell (some (.ref H)) ∧
    (m (Str.ofString "infos") = some (.ref A) ∧ m (Str.ofString "buffer") = some (.ref b) ∧ m (Str.ofString "before") = some vb ∧ m (Str.ofString "unsafe") = some (.ref U) ∧ m (Str.ofString "pairs") = some (.ref Pr)) ∧
    Joined infs hvs kvs cs ∧ (∀ a ∈ infs, (a.x, instObj 52 a.dx) ∈ tl ∧ a.dict ∈ tl) ∧ LR (Led tl) (.tuple (infs.map fun i => toldD i.cluster)) vb ∧ getL (Str.ofString "row") bes = some (some (.ref A)) ∧ getL (Str.ofString "told") bes = some none ∧
    OffN U ((b, instObj 100 db) :: (db, dictOf bes bn) :: (H, W.listOf hvs.toArray kH) :: (A, W.listOf (infs.map fun i => Value.ref i.x).toArray kA) :: (dm, om) :: (Df, LCg.lst ys) :: (a2, W.listOf vs2.toArray k2) :: (a1, W.listOf vs1.toArray k1) :: (L + 1 + 1 + 1 + 1, c1) :: (L + 1 + 1 + 1, o7) :: (L + 1 + 1, o6) :: (L + 1, o5) :: tl) ∧ OffN Pr ((U, W.listOf (bArr cs.length fun _ => false) kU) :: (b, instObj 100 db) :: (db, dictOf bes bn) :: (H, W.listOf hvs.toArray kH) :: (A, W.listOf (infs.map fun i => Value.ref i.x).toArray kA) :: (dm, om) :: (Df, LCg.lst ys) :: (a2, W.listOf vs2.toArray k2) :: (a1, W.listOf vs1.toArray k1) :: (L + 1 + 1 + 1 + 1, c1) :: (L + 1 + 1 + 1, o7) :: (L + 1 + 1, o6) :: (L + 1, o5) :: tl)
theorem Joined.of {infs' infs : List Inf} {hvs : List Value} {kvs : List (Str × Value)} {cs : List Int} {cu : Int} (M : Made infs hvs cs cs.length cu) (hm : Moved infs' infs)
    (h : ∀ (j : Nat) (a' a : Inf), infs'[j]? = some a' → infs[j]? = some a → a'.ok ∧ a'.mask = Builtin.bitOr a.mask (mget kvs (formAt (cs.map jt) j)) ∧ a'.uns = (a.uns || unsAny infs (jp (cs.map jt)) j a.cluster)) : Joined infs' hvs kvs cs := by
  have hl : infs'.length = cs.length := hm.1.trans M.len
  have hlr := M.len
  have hcl : infs'.map (·.cluster) = infs.map (·.cluster) := by
    apply List.ext_getElem
    · simp [hm.1]
    · intro i h1 h2
      simp only [List.length_map] at h1 h2
      simp only [List.getElem_map]
      exact (hm.2 i _ _ (by simp [h1]) (by simp [h2])).2.2.2
  have hco : infs'.map (·.code) = infs.map (·.code) := by
    apply List.ext_getElem
    · simp [hm.1]
    · intro i h1 h2
      simp only [List.length_map] at h1 h2
      simp only [List.getElem_map]
      exact (hm.2 i _ _ (by simp [h1]) (by simp [h2])).2.2.1
  refine ⟨hl, fun a ha => ?_, ?_, hm.rising M.rise, ⟨infs.map (·.mask), M.masks, by simp [hlr], fun j a hj => ?_⟩, fun j a hj => ?_⟩
  · have hTmp := List.getElem_of_mem ha
    refine hide fun gX gk => ?_
    obtain ⟨j, hj, rfl⟩ := hTmp
    refine gk ?_
    clear gk gX
    exact (h j _ infs[j] (by simp [hj]) (by have : j < infs.length := by omega
                                            simp [this])).1
  · rw [hco, M.codes, List.take_length]
  · have hj' : j < infs.length := by have := (List.getElem?_eq_some_iff.mp hj).1; omega
    rw [(h j a infs[j] hj (by simp [hj'])).2.1, List.getD_eq_getElem?_getD, List.getElem?_map, List.getElem?_eq_getElem hj']
    rfl
  · have hj' : j < infs.length := by have := (List.getElem?_eq_some_iff.mp hj).1; omega
    rw [(h j a infs[j] hj (by simp [hj'])).2.2, M.uns _ (List.getElem_mem hj'), Bool.false_or]
    unfold unsAny clAt
    rw [hcl, (hm.2 j a infs[j] hj (by simp [hj'])).2.2.2]
theorem OffN.ofOff1 {I : Addr} : ∀ {l : List (Addr × Obj)}, LCg.Off1 I l → OffN I l
  | [], _ => trivial
  | _ :: _, h => ⟨h.1, OffN.ofOff1 h.2⟩
theorem OffN.ofLt {I : Addr} : ∀ {l : List (Addr × Obj)}, AllLt I l → OffN I l
  | [], _ => trivial
  | _ :: _, h => ⟨Nat.ne_of_lt h.1, OffN.ofLt h.2⟩
end
section
theorem calm_26 : True := by w_top off; exact True.intro
local macro_rules | `(tactic| walk_at "my_idle") => `(tactic| skip)
local macro_rules | `(tactic| walk_at "my_idle") => `(tactic| skip)
local macro_rules | `(tactic| walk_at "my_idle") => `(tactic| skip)
local macro_rules | `(tactic| walk_at "getMethod ref") => `(tactic| (k_dflt (refine' method_inst ?k1 ?k2 ?k3 ?k4 ?k5 ?k6 ?k7 ?_; (case k1 => k_asm); (case k2 => k_asm); (case k3 => walk_at "my_inst"); (case k4 => k_is); (case k5 => k_is); (case k6 => k_is); (case k7 => assumption))))
def instI (infs : List Inf) : List (Addr × Obj) := infs.map fun a => (a.x, instObj 52 a.dx)
theorem not_dict {infs : List Inf} {q : Addr} (h : ∀ a ∈ infs, @Ne Nat q a.dx) : q ∉ (infs.map Inf.dict).map (·.1) := fun hq => by
  rw [List.map_map] at hq
  have hTmp := List.mem_map.mp hq
  refine hide fun gX gk => ?_
  obtain ⟨a, ha, rfl⟩ := hTmp
  refine gk ?_
  clear gk gX
  exact h a ha rfl
theorem rest2 (w : World) (hR : Rest w 21 (S3 w)) : Rest w 16 (S2 w) := by
  have e : PySem.Challenge.rw_nu0160_01 = PySem.Challenge.rw_nu0160_01 := rfl
  revert e
  unfold Rest S2
  k_fill
  intro _
  refine' BodyC.intro (ho := ?ho) (h := ?hb)
  case ho => k_is
  case hb =>
  rintro f cdv g L dp un gd outer A₀ base p loose mean mg mb s Q m σ F N hTmp
  refine hide fun gX gk => ?_
  obtain ⟨H, A, dm, Df, a2, a1, om, c1, o7, o6, o5, ys, vs2, vs1, hvs, k2, k1, kA, kH, cs, kvs, infs0, cu, rfl, hB, hod, hval, hms, hc1, hmi, hM, hup, r1, r2, r3, r4, r5, r6⟩ := hTmp
  refine gk ?_
  clear gk gX
  rintro B X T hd hu hQ
  simp only [List.drop_succ_cons, List.drop_zero]
  refine hide fun gX gk => ?_
  obtain ⟨hlen, hv1, hv2, hvf, hd5, hd6, hd7, hmc⟩ := hB
  refine gk ?_
  clear gk gX
  have hlr := hM.len
  have hl1 := hv1.length
  (repeat' ((fail_if_success (with_reducible show LCg.CompSrc _ _ _ _ _ _ _ _ _ _ _ _ _ _)); (fail_if_success (with_reducible show wpAny _ _ (PySem.call (Value.ref 100) _) _ _ _)); (fail_if_success (with_reducible show wpAny _ _ (PySem.call (Value.ref 90) _) _ _ _)); (fail_if_success (with_reducible show wpAny _ _ (PySem.call (Value.ref 187) _) _ _ _)); (fail_if_success (with_reducible show wpAny _ _ (execs (Stmt.For _ _ _ _ _ :: _) _) _ _ _)); first | walk1 | (dsimp only; walk1)))
  refine make_buf (by assumption) (by assumption) X T (by assumption) rfl (by omega) (by omega) ?_
  intro b db bes bn h3 tk3 F3 N3 hbr hbt l1 l2
  (repeat' ((fail_if_success (with_reducible show LCg.CompSrc _ _ _ _ _ _ _ _ _ _ _ _ _ _)); (fail_if_success (with_reducible show wpAny _ _ (PySem.call (Value.ref 100) _) _ _ _)); (fail_if_success (with_reducible show wpAny _ _ (PySem.call (Value.ref 90) _) _ _ _)); (fail_if_success (with_reducible show wpAny _ _ (PySem.call (Value.ref 187) _) _ _ _)); (fail_if_success (with_reducible show wpAny _ _ (execs (Stmt.For _ _ _ _ _ :: _) _) _ _ _)); first | walk1 | (dsimp only; walk1)))
  rename Fr _ _ _ _ => F4
  rename News _ _ _ _ => N4
  rename_i h4
  have hbuf : BufAt (HAt h4) b infs0 := ⟨⟨db, bes, bn, A, kA, (N4 _ (.head _)).1, (N4 _ (.tail _ (.head _))).1, hbr, (N4 _ (.tail _ (.tail _ (.tail _ (.head _))))).1⟩, fun a ha => (N4 (a.x, instObj 52 a.dx) (by have := flatI_x ha; repeat' (first | exact this | refine List.Mem.tail _ ?_))).1⟩
  have hdd : ∀ a ∈ infs0, HAt h4 a.dx (dictOf a.es a.n) := fun a ha => (N4 (a.dx, dictOf a.es a.n) (by have := flatI_d ha; repeat' (first | exact this | refine List.Mem.tail _ ?_))).1
  dsimp only [List.append_nil]
  refine' Spec.call0 (buf_told_ok _ hbuf hdd hM.ok (by omega)) ?B ?F ?X ?T ?N ?hk ?hd ?hu ?_
  walk_at "my_args"
  rintro vb h5 tk5 pl F5 N5 K5 off5 hvb
  clear hbuf hdd K5 F4 N4
  (repeat' ((fail_if_success (with_reducible show LCg.CompSrc _ _ _ _ _ _ _ _ _ _ _ _ _ _)); (fail_if_success (with_reducible show wpAny _ _ (PySem.call (Value.ref 100) _) _ _ _)); (fail_if_success (with_reducible show wpAny _ _ (PySem.call (Value.ref 90) _) _ _ _)); (fail_if_success (with_reducible show wpAny _ _ (PySem.call (Value.ref 187) _) _ _ _)); (fail_if_success (with_reducible show wpAny _ _ (execs (Stmt.For _ _ _ _ _ :: _) _) _ _ _)); first | walk1 | (dsimp only; walk1)))
  rename Fr _ _ _ _ => F6
  rename News _ _ _ _ => N6
  rename_i h6
  have ldx : ∀ a ∈ infs0, H < a.dx := fun a ha => hup _ (flatI_d ha)
  have lx : ∀ a ∈ infs0, H < a.x := fun a ha => hup _ (flatI_x ha)
  have udx : ∀ a ∈ infs0, a.dx < db := fun a ha => l1 (a.dx, dictOf a.es a.n) (by have := flatI_d ha; repeat' (first | exact this | refine List.Mem.tail _ ?_))
  have fH : ∀ {q : Nat}, q ≤ H → (q : Addr) ∉ (infs0.map Inf.dict).map (·.1) := fun {q} hq => not_dict fun a ha => Nat.ne_of_lt (Nat.lt_of_le_of_lt hq (ldx a ha))
  have fb : b ∉ (infs0.map Inf.dict).map (·.1) := not_dict fun a ha => Nat.ne_of_gt (Nat.lt_trans (udx a ha) l2)
  have fdb : db ∉ (infs0.map Inf.dict).map (·.1) := not_dict fun a ha => Nat.ne_of_gt (udx a ha)
  have hb : BufAt (HOut h6 ((infs0.map Inf.dict).map (·.1))) b infs0 := by
    refine ⟨⟨db, bes, bn, A, kA, ⟨(N6 (b, instObj 100 db) ?_).1, fb⟩, ⟨(N6 (db, dictOf bes bn) ?_).1, fdb⟩, hbr, ⟨(N6 (A, W.listOf (infs0.map fun i => Value.ref i.x).toArray kA) ?_).1, fH (Nat.le_of_lt r1)⟩⟩, fun a ha => ⟨(N6 (a.x, instObj 52 a.dx) ?_).1, not_dict (hM.apart a ha)⟩⟩
    · exact List.mem_append_right _ (.head _)
    · exact List.mem_append_right _ (.tail _ (.head _))
    · exact List.mem_append_right _ (.tail _ (.tail _ (.tail _ (.head _))))
    · refine List.mem_append_right _ ?_
      have := flatI_x ha
      repeat' (first | exact this | refine List.Mem.tail _ ?_)
  have hsub2 : ∀ q ∈ ((b, instObj 100 db) :: (db, dictOf bes bn) :: (H, W.listOf hvs.toArray kH) :: (A, W.listOf (infs0.map fun i => Value.ref i.x).toArray kA) :: (dm, om) :: (Df, LCg.lst ys) :: (a2, W.listOf vs2.toArray k2) :: (a1, W.listOf vs1.toArray k1) :: (L + 1 + 1 + 1 + 1, c1) :: (L + 1 + 1 + 1, o7) :: (L + 1 + 1, o6) :: (L + 1, o5) :: (instI infs0 ++ pl)), q ∈ pl ++ ((b, instObj 100 db) :: (db, dictOf bes bn) :: (H, W.listOf hvs.toArray kH) :: (A, W.listOf (infs0.map fun i => Value.ref i.x).toArray kA) :: (dm, om) :: (Df, LCg.lst ys) :: (a2, W.listOf vs2.toArray k2) :: (a1, W.listOf vs1.toArray k1) :: (L + 1 + 1 + 1 + 1, c1) :: (L + 1 + 1 + 1, o7) :: (L + 1 + 1, o6) :: (L + 1, o5) :: flatI infs0) := by
    (repeat (refine List.forall_mem_cons.mpr ⟨List.mem_append_right _ (by k_mem), ?_⟩))
    intro q hq
    rcases List.mem_append.mp hq with hq | hq
    · have hTmp := List.mem_map.mp hq
      refine hide fun gX gk => ?_
      obtain ⟨a, ha, rfl⟩ := hTmp
      refine gk ?_
      clear gk gX
      refine List.mem_append_right _ ?_
      have := flatI_x ha
      repeat' (first | exact this | refine List.Mem.tail _ ?_)
    · exact List.mem_append_left _ hq
  have hsub : ∀ q ∈ infs0.map Inf.dict ++ ((b, instObj 100 db) :: (db, dictOf bes bn) :: (H, W.listOf hvs.toArray kH) :: (A, W.listOf (infs0.map fun i => Value.ref i.x).toArray kA) :: (dm, om) :: (Df, LCg.lst ys) :: (a2, W.listOf vs2.toArray k2) :: (a1, W.listOf vs1.toArray k1) :: (L + 1 + 1 + 1 + 1, c1) :: (L + 1 + 1 + 1, o7) :: (L + 1 + 1, o6) :: (L + 1, o5) :: (instI infs0 ++ pl)), q ∈ pl ++ ((b, instObj 100 db) :: (db, dictOf bes bn) :: (H, W.listOf hvs.toArray kH) :: (A, W.listOf (infs0.map fun i => Value.ref i.x).toArray kA) :: (dm, om) :: (Df, LCg.lst ys) :: (a2, W.listOf vs2.toArray k2) :: (a1, W.listOf vs1.toArray k1) :: (L + 1 + 1 + 1 + 1, c1) :: (L + 1 + 1 + 1, o7) :: (L + 1 + 1, o6) :: (L + 1, o5) :: flatI infs0) := by
    intro q hq
    rcases List.mem_append.mp hq with hq | hq
    · have hTmp := List.mem_map.mp hq
      refine hide fun gX gk => ?_
      obtain ⟨a, ha, rfl⟩ := hTmp
      refine gk ?_
      clear gk gX
      refine List.mem_append_right _ ?_
      have := flatI_d ha
      repeat' (first | exact this | refine List.Mem.tail _ ?_)
    · exact hsub2 q hq
  have hoff : ∀ q ∈ ((b, instObj 100 db) :: (db, dictOf bes bn) :: (H, W.listOf hvs.toArray kH) :: (A, W.listOf (infs0.map fun i => Value.ref i.x).toArray kA) :: (dm, om) :: (Df, LCg.lst ys) :: (a2, W.listOf vs2.toArray k2) :: (a1, W.listOf vs1.toArray k1) :: (L + 1 + 1 + 1 + 1, c1) :: (L + 1 + 1 + 1, o7) :: (L + 1 + 1, o6) :: (L + 1, o5) :: (instI infs0 ++ pl)), q.1 ∉ (infs0.map Inf.dict).map (·.1) := by
    refine List.forall_mem_cons.mpr ⟨fb, ?_⟩
    refine List.forall_mem_cons.mpr ⟨fdb, ?_⟩
    (repeat (refine List.forall_mem_cons.mpr ⟨fH (by omega), ?_⟩))
    intro q hq
    rcases List.mem_append.mp hq with hq | hq
    · have hTmp := List.mem_map.mp hq
      refine hide fun gX gk => ?_
      obtain ⟨a, ha, rfl⟩ := hTmp
      refine gk ?_
      clear gk gX
      exact not_dict (hM.apart a ha)
    · exact not_dict fun a ha => Ne.symm (off5 q hq (a.dx, dictOf a.es a.n) (by have := flatI_d ha; repeat' (first | exact this | refine List.Mem.tail _ ?_)))
  have N7 := News.sub N6 hsub
  refine' Spec.call (join_ok w (h := h6) (ts := cs.map jt) hb hM.ok hM.nodup (by omega) hM.rise ⟨(N6 (dm, om) (List.mem_append_right _ (by k_mem))).1, fH (Nat.le_of_lt r2)⟩ hod hms hval ?hts) ?B ?F ?X ?T ?N hoff ?hk ?hd ?hu ?_
  case hts => 
    have := congrArg (List.map jt) hM.codes
    rw [List.take_length, List.map_map] at this
    exact this.symm
  walk_at "my_args"
  rintro v7 h7 tk7 nw7 F7 N8 K7 off7 hTmp
  refine hide fun gX gk => ?_
  obtain ⟨infs, hmv, rfl, hj⟩ := hTmp
  refine gk ?_
  clear gk gX
  have hJ := Joined.of hM hmv hj
  have ex : (infs0.map fun i => Value.ref i.x) = infs.map fun i => Value.ref i.x := by
    have := congrArg (List.map Value.ref) hmv.xs
    rw [List.map_map, List.map_map] at this
    exact this.symm
  have ec : (infs0.map fun i => toldD i.cluster) = infs.map fun i => toldD i.cluster := by
    apply List.ext_getElem
    · simp [hmv.1]
    · intro i h1 h2
      simp only [List.length_map] at h1 h2
      simp only [List.getElem_map]
      rw [(hmv.2 i infs[i] infs0[i] (by simp [h2]) (by simp [h1])).2.2.2]
  rw [ex] at N8
  rw [ec] at hvb
  have hme : ∀ a ∈ infs, (a.x, instObj 52 a.dx) ∈ instI infs0 := fun a ha => by
    have hTmp := List.getElem_of_mem ha
    refine hide fun gX gk => ?_
    obtain ⟨j, hj1, rfl⟩ := hTmp
    refine gk ?_
    clear gk gX
    have hj' : j < infs0.length := by rw [← hmv.1]; exact hj1
    have sm := hmv.2 j _ _ (by simp [hj1] : infs[j]? = some infs[j]) (by simp [hj'] : infs0[j]? = some infs0[j])
    rw [sm.1, sm.2.1]
    exact List.mem_map.mpr ⟨_, List.getElem_mem hj', rfl⟩
  obtain ⟨tl, N9, htl, hvb9⟩ : ∃ tl, News g L h7 ((b, instObj 100 db) :: (db, dictOf bes bn) :: (H, W.listOf hvs.toArray kH) :: (A, W.listOf (infs.map fun i => Value.ref i.x).toArray kA) :: (dm, om) :: (Df, LCg.lst ys) :: (a2, W.listOf vs2.toArray k2) :: (a1, W.listOf vs1.toArray k1) :: (L + 1 + 1 + 1 + 1, c1) :: (L + 1 + 1 + 1, o7) :: (L + 1 + 1, o6) :: (L + 1, o5) :: tl) ∧ (∀ a ∈ infs, (a.x, instObj 52 a.dx) ∈ tl ∧ a.dict ∈ tl) ∧ LR (Led tl) (.tuple (infs.map fun i => toldD i.cluster)) vb := by
    refine ⟨(instI infs0 ++ pl) ++ infs.map Inf.dict, News.sub N8 ?_, fun a ha => ⟨List.mem_append_left _ (List.mem_append_left _ (hme a ha)), List.mem_append_right _ (List.mem_map.mpr ⟨a, ha, rfl⟩)⟩, hvb.sub fun q hq => List.mem_append_left _ (List.mem_append_right _ hq)⟩
    (repeat (refine List.forall_mem_cons.mpr ⟨List.mem_append_right _ (by k_mem), ?_⟩))
    intro q hq
    rcases List.mem_append.mp hq with hq | hq
    · refine List.mem_append_right _ ?_
      repeat' (first | exact hq | refine List.Mem.tail _ ?_)
    · exact List.mem_append_left _ hq
  clear F6 N8 hme ex ec hvb hj hmv K7 off7 hoff N7 hsub hsub2 hb fb fdb fH udx lx ldx hM hup off5 N6
  (repeat' ((fail_if_success (with_reducible show LCg.CompSrc _ _ _ _ _ _ _ _ _ _ _ _ _ _)); (fail_if_success (with_reducible show wpAny _ _ (PySem.call (Value.ref 100) _) _ _ _)); (fail_if_success (with_reducible show wpAny _ _ (PySem.call (Value.ref 90) _) _ _ _)); (fail_if_success (with_reducible show wpAny _ _ (PySem.call (Value.ref 187) _) _ _ _)); (fail_if_success (with_reducible show wpAny _ _ (execs (Stmt.For _ _ _ _ _ :: _) _) _ _ _)); first | walk1 | (dsimp only; walk1)))
  refine LCg.CompSrc.ledger rfl (by assumption) (by assumption) (show (a1, W.listOf vs1.toArray k1) ∈ (b, instObj 100 db) :: (db, dictOf bes bn) :: (H, W.listOf hvs.toArray kH) :: (A, W.listOf (infs.map fun i => Value.ref i.x).toArray kA) :: (dm, om) :: (Df, LCg.lst ys) :: (a2, W.listOf vs2.toArray k2) :: (a1, W.listOf vs1.toArray k1) :: (L + 1 + 1 + 1 + 1, c1) :: (L + 1 + 1 + 1, o7) :: (L + 1 + 1, o6) :: (L + 1, o5) :: tl by k_mem) (by rw [sizeLine_eq, List.size_toArray]; omega) ?_
  intro g1
  refine comp_gen (fun i zs σ => σ = (b, instObj 100 db) :: (db, dictOf bes bn) :: (H, W.listOf hvs.toArray kH) :: (A, W.listOf (infs.map fun i => Value.ref i.x).toArray kA) :: (dm, om) :: (Df, LCg.lst ys) :: (a2, W.listOf vs2.toArray k2) :: (a1, W.listOf vs1.toArray k1) :: (L + 1 + 1 + 1 + 1, c1) :: (L + 1 + 1 + 1, o7) :: (L + 1 + 1, o6) :: (L + 1, o5) :: tl ∧ zs = List.replicate i (Value.bool false)) ⟨rfl, rfl⟩ ?_ ?_
  · rintro i v zs σ I oI C oC D m₂ h tk E' hi hv ⟨rfl, rfl⟩ hC hx F N off ne
    (repeat' ((fail_if_success (with_reducible show LCg.CompSrc _ _ _ _ _ _ _ _ _ _ _ _ _ _)); (fail_if_success (with_reducible show wpAny _ _ (pyIter (Value.ref _)) _ _ _)); (fail_if_success (with_reducible show wpAny _ _ (exec (Stmt.While _ _ _ _) _) _ _ _)); (fail_if_success (with_reducible show wpAny _ _ (compareOp _ (Value.ref _) (Value.ref _)) _ _ _)); first | walk1 | (dsimp only; walk1)))
    walk_at "my_cend"
    case σ => exact (b, instObj 100 db) :: (db, dictOf bes bn) :: (H, W.listOf hvs.toArray kH) :: (A, W.listOf (infs.map fun i => Value.ref i.x).toArray kA) :: (dm, om) :: (Df, LCg.lst ys) :: (a2, W.listOf vs2.toArray k2) :: (a1, W.listOf vs1.toArray k1) :: (L + 1 + 1 + 1 + 1, c1) :: (L + 1 + 1 + 1, o7) :: (L + 1 + 1, o6) :: (L + 1, o5) :: tl
    case sub => exact fun p hp => hp
    case off => exact off
    case hS => exact .inr ⟨_, by k_mem, rfl, _, rfl⟩
    exact ⟨rfl, by rw [List.replicate_succ']⟩
  rintro zs σ ⟨rfl, rfl⟩
  (repeat' ((fail_if_success (with_reducible show LCg.CompSrc _ _ _ _ _ _ _ _ _ _ _ _ _ _)); (fail_if_success (with_reducible show wpAny _ _ (PySem.call (Value.ref 100) _) _ _ _)); (fail_if_success (with_reducible show wpAny _ _ (PySem.call (Value.ref 90) _) _ _ _)); (fail_if_success (with_reducible show wpAny _ _ (PySem.call (Value.ref 187) _) _ _ _)); (fail_if_success (with_reducible show wpAny _ _ (execs (Stmt.For _ _ _ _ _ :: _) _) _ _ _)); first | walk1 | (dsimp only; walk1)))
  rename_i U _ _ o1 Pr _ l1' h10 F10 N10
  have hrep : (List.replicate vs1.toArray.size (Value.bool false)).toArray = bArr cs.length fun _ => false := by
    unfold bArr; rw [List.size_toArray, hl1]; congr 1; simp [List.map_const']
  have hlst : LCg.lst (List.replicate vs1.toArray.size (Value.bool false)) = W.listOf (bArr cs.length fun _ => false) cs.length := by
    show ({ cls := Value.type "list", data := .seq (List.replicate vs1.toArray.size (Value.bool false)).toArray (List.replicate vs1.toArray.size (Value.bool false)).length } : Obj) = _
    rw [hrep, List.length_replicate, List.size_toArray, hl1]
  rw [hlst] at N10
  have q1 : OffN U ((b, instObj 100 db) :: (db, dictOf bes bn) :: (H, W.listOf hvs.toArray kH) :: (A, W.listOf (infs.map fun i => Value.ref i.x).toArray kA) :: (dm, om) :: (Df, LCg.lst ys) :: (a2, W.listOf vs2.toArray k2) :: (a1, W.listOf vs1.toArray k1) :: (L + 1 + 1 + 1 + 1, c1) :: (L + 1 + 1 + 1, o7) :: (L + 1 + 1, o6) :: (L + 1, o5) :: tl) := OffN.ofOff1 (show LCg.Off1 U ((b, instObj 100 db) :: (db, dictOf bes bn) :: (H, W.listOf hvs.toArray kH) :: (A, W.listOf (infs.map fun i => Value.ref i.x).toArray kA) :: (dm, om) :: (Df, LCg.lst ys) :: (a2, W.listOf vs2.toArray k2) :: (a1, W.listOf vs1.toArray k1) :: (L + 1 + 1 + 1 + 1, c1) :: (L + 1 + 1 + 1, o7) :: (L + 1 + 1, o6) :: (L + 1, o5) :: tl) from o1)
  have q2 : OffN Pr ((U, W.listOf (bArr cs.length fun _ => false) cs.length) :: (b, instObj 100 db) :: (db, dictOf bes bn) :: (H, W.listOf hvs.toArray kH) :: (A, W.listOf (infs.map fun i => Value.ref i.x).toArray kA) :: (dm, om) :: (Df, LCg.lst ys) :: (a2, W.listOf vs2.toArray k2) :: (a1, W.listOf vs1.toArray k1) :: (L + 1 + 1 + 1 + 1, c1) :: (L + 1 + 1 + 1, o7) :: (L + 1 + 1, o6) :: (L + 1, o5) :: tl) := OffN.ofLt (show AllLt Pr ((U, W.listOf (bArr cs.length fun _ => false) cs.length) :: (b, instObj 100 db) :: (db, dictOf bes bn) :: (H, W.listOf hvs.toArray kH) :: (A, W.listOf (infs.map fun i => Value.ref i.x).toArray kA) :: (dm, om) :: (Df, LCg.lst ys) :: (a2, W.listOf vs2.toArray k2) :: (a1, W.listOf vs1.toArray k1) :: (L + 1 + 1 + 1 + 1, c1) :: (L + 1 + 1 + 1, o7) :: (L + 1 + 1, o6) :: (L + 1, o5) :: tl) from l1')
  with_unfolding_all refine BodyC.elim hR (by k_is) f cdv g L dp un gd outer A₀ base p loose mean mg mb { s with heap := h10, toks := _ } Q _ _ F10 N10 ?hS B X T hd hu ?hQ
  case hQ => exact fun h' tk' m' σ F' N' => hQ h' tk' m' σ F' N'
  case hS => exact ⟨Pr, U, b, db, H, A, dm, Df, a2, a1, om, c1, o7, o6, o5, bes, bn, ys, vs2, vs1, hvs, k2, k1, kA, kH, cs.length, 0, cs, kvs, infs, tl, vb, rfl, ⟨hlen, hv1, hv2, hvf, hd5, hd6, hd7, hmc⟩, hod, hval, hms, hc1, ⟨hmi, by rfl, by rfl, by rfl, by rfl⟩, hJ, htl, hvb9, hbr, hbt, q1, q2⟩
end
section
theorem calm_27 : True := by w_top off; exact True.intro
/-- after the loop of the pairs -/
def S4 (w : World) (L : Addr) (m : Str → Option Value) (σ : List (Addr × Obj)) : Prop :=
  ∃ (Pr U b db H A dm Df a2 a1 : Addr) (om c1 o7 o6 o5 : Obj) (bes : List DictEntry) (bn : Nat) (ys vs2 vs1 hvs pvs : List Value) (k2 k1 kA kH kU kP : Nat) (cs : List Int) (kvs : List (Str × Value)) (infs : List Inf) (tl : List (Addr × Obj)) (vb : Value),
    σ = (Pr, W.listOf pvs.toArray kP) :: (U, W.listOf (bArr cs.length fun q => unsAny infs (jp (cs.map jt)) q (clAt infs q)) kU) :: (b, instObj 100 db) :: (db, dictOf bes bn) :: (H, W.listOf hvs.toArray kH) :: (A, W.listOf (infs.map fun i => Value.ref i.x).toArray kA) :: (dm, om) :: (Df, LCg.lst ys) :: (a2, W.listOf vs2.toArray k2) :: (a1, W.listOf vs1.toArray k1) :: (L + 1 + 1 + 1 + 1, c1) :: (L + 1 + 1 + 1, o7) :: (L + 1 + 1, o6) :: (L + 1, o5) :: tl ∧
    Base L m Df a2 a1 dm o7 o6 o5 ys vs2 vs1 cs ∧ om.IsDictOf (PySem.strKind PySem.Challenge.rw_nu0160_01.row.prog w) kvs ∧ Ints kvs ∧ (dm == sysModules) = false ∧ c1.data = .cell (some (.ref H)) ∧
    (m (Str.ofString "infos") = some (.ref A) ∧ m (Str.ofString "buffer") = some (.ref b) ∧ m (Str.ofString "before") = some vb ∧ m (Str.ofString "unsafe") = some (.ref U) ∧ m (Str.ofString "pairs") = some (.ref Pr)) ∧
    Joined infs hvs kvs cs ∧ (∀ a ∈ infs, (a.x, instObj 52 a.dx) ∈ tl ∧ a.dict ∈ tl) ∧ LR (Led tl) (.tuple (infs.map fun i => toldD i.cluster)) vb ∧ getL (Str.ofString "row") bes = some (some (.ref A)) ∧ getL (Str.ofString "told") bes = some none ∧
    LRs (Led tl) ((jp (cs.map jt)).map npD) pvs
/-- the pairs found so far -/
def PS (ts : List Str) (i : Nat) (ps : List (Nat × Nat)) : Prop := (∀ p, p ∈ ps ↔ p.1 < i ∧ p ∈ jp ts) ∧ ps.Pairwise fun p q => p.1 < q.1
theorem PS.nil (ts : List Str) : PS ts 0 [] := ⟨fun p => by simp, .nil⟩
theorem asc_inj : ∀ {l : List (Nat × Nat)}, l.Pairwise (fun p q => p.1 < q.1) → ∀ p ∈ l, ∀ q ∈ l, p.1 = q.1 → p = q
  | [], _, _, h, _, _, _ => nomatch h
  | x :: r, h, p, hp, q, hq, e => by
    rw [List.pairwise_cons] at h
    rcases List.mem_cons.mp hp with e1 | hp' <;> rcases List.mem_cons.mp hq with e2 | hq'
    · rw [e1, e2]
    · have := h.1 q hq'; rw [e1] at e; omega
    · have := h.1 p hp'; rw [e2] at e; omega
    · exact asc_inj h.2 p hp' q hq' e
theorem asc_eq : ∀ {l k : List (Nat × Nat)}, l.Pairwise (fun p q => p.1 < q.1) → k.Pairwise (fun p q => p.1 < q.1) → (∀ p, p ∈ l ↔ p ∈ k) → l = k
  | [], [], _, _, _ => rfl
  | [], y :: _, _, _, h => absurd ((h y).mpr (.head _)) List.not_mem_nil
  | x :: _, [], _, _, h => absurd ((h x).mp (.head _)) List.not_mem_nil
  | x :: r, y :: t, h1, h2, h => by
    have hx := (h x).mp (.head _)
    have hy := (h y).mpr (.head _)
    rw [List.pairwise_cons] at h1 h2
    have exy : x = y := by
      rcases List.mem_cons.mp hx with e | hx
      · exact e
      · rcases List.mem_cons.mp hy with e | hy
        · exact e.symm
        · have := h2.1 x hx
          have := h1.1 y hy
          omega
    subst exy
    rw [asc_eq h1.2 h2.2 fun p => ⟨fun hp => ?_, fun hp => ?_⟩]
    · rcases List.mem_cons.mp ((h p).mp (.tail _ hp)) with rfl | q
      · have := h1.1 p hp; omega
      · exact q
    · rcases List.mem_cons.mp ((h p).mpr (.tail _ hp)) with rfl | q
      · have := h2.1 p hp; omega
      · exact q
theorem PS.skip {ts : List Str} {i : Nat} {ps : List (Nat × Nat)} (h : PS ts i ps) (k : (jp ts).any (·.1 == i) = false) : PS ts (i + 1) ps := by
  refine ⟨fun p => (h.1 p).trans ⟨fun q => ⟨by omega, q.2⟩, fun q => ⟨?_, q.2⟩⟩, h.2⟩
  have : ¬ p.1 = i := fun e => by
    have := List.any_eq_false.mp k p q.2
    simp [e] at this
  omega
theorem PS.add {ts : List Str} {i j : Nat} {ps : List (Nat × Nat)} (h : PS ts i ps) (k : (i, j) ∈ jp ts) : PS ts (i + 1) (ps ++ [(i, j)]) := by
  refine ⟨fun p => ?_, ?_⟩
  · rw [List.mem_append, List.mem_singleton, h.1 p]
    constructor
    · rintro (q | rfl)
      · exact ⟨by omega, q.2⟩
      · exact ⟨Nat.lt_succ_self _, k⟩
    · rintro ⟨q1, q2⟩
      by_cases e : p.1 = i
      · exact .inr (asc_inj (jp_asc ts) p q2 _ k e)
      · exact .inl ⟨by omega, q2⟩
  · rw [List.pairwise_append]
    refine ⟨h.2, List.pairwise_singleton _ _, fun a ha b hb => ?_⟩
    rw [List.mem_singleton.mp hb]
    exact ((h.1 a).mp ha).1
theorem PS.done {ts : List Str} {ps : List (Nat × Nat)} (h : PS ts ts.length ps) : ps = jp ts :=
  asc_eq h.2 (jp_asc ts) fun p => (h.1 p).trans ⟨fun q => q.2, fun q => ⟨by
    have := jp_mem.mp q
    have := this.2.lt
    omega, q⟩⟩
theorem bArr_congr {n : Nat} {f g : Nat → Bool} (h : ∀ a, a < n → f a = g a) : bArr n f = bArr n g := by
  unfold bArr
  congr 1
  exact List.map_congr_left fun a ha => by rw [h a (List.mem_range.mp ha)]
theorem unsAny_snoc (infs : List Inf) (ps : List (Nat × Nat)) (i j q : Nat) (c : Int) : unsAny infs (ps ++ [(i, j)]) q c = (unsAny infs ps q c || (decide (i ≤ q) && decide (q < j + 1) && decide (clAt infs i < c))) := by
  simp [unsAny]
/-- the flags in the middle of a pair -/
def midU (infs : List Inf) (ps : List (Nat × Nat)) (i k q : Nat) : Bool := unsAny infs ps q (clAt infs q) || (decide (i ≤ q) && decide (q < i + k) && decide (clAt infs i < clAt infs q))
theorem midU_zero (infs : List Inf) (ps : List (Nat × Nat)) (i q : Nat) : unsAny infs ps q (clAt infs q) = midU infs ps i 0 q := by
  unfold midU
  rcases Nat.lt_or_ge q i with h | h
  · have e : decide (i ≤ q) = false := by simpa using h
    rw [e, Bool.false_and, Bool.false_and, Bool.or_false]
  · have e : decide (q < i + 0) = false := by simpa using h
    rw [e, Bool.and_false, Bool.false_and, Bool.or_false]
theorem midU_done (infs : List Inf) (ps : List (Nat × Nat)) (i j q : Nat) (h : i ≤ j) : midU infs ps i (j + 1 - i) q = unsAny infs (ps ++ [(i, j)]) q (clAt infs q) := by
  unfold midU
  rw [unsAny_snoc, show i + (j + 1 - i) = j + 1 by omega]
theorem midU_set (infs : List Inf) (ps : List (Nat × Nat)) (i k q : Nat) (h : clAt infs i < clAt infs (i + k)) : (midU infs ps i k q || i + k == q) = midU infs ps i (k + 1) q := by
  unfold midU
  by_cases e : i + k = q
  · subst e
    simp [h]
  · have e1 : (i + k == q) = false := by simpa using e
    have e2 : decide (q < i + (k + 1)) = decide (q < i + k) := by
      by_cases h3 : q < i + k
      · simp [h3]; omega
      · simp [h3]; omega
    rw [e1, e2, Bool.or_false]
theorem midU_skip (infs : List Inf) (ps : List (Nat × Nat)) (i k q : Nat) (h : ¬ clAt infs i < clAt infs (i + k)) : midU infs ps i k q = midU infs ps i (k + 1) q := by
  unfold midU
  by_cases e : i + k = q
  · subst e
    simp [h]
  · have e2 : decide (q < i + (k + 1)) = decide (q < i + k) := by
      by_cases h3 : q < i + k
      · simp [h3]; omega
      · simp [h3]; omega
    rw [e2]
end
section
theorem calm_28 : True := by w_top off; exact True.intro
theorem rest3 (w : World) (hR : Rest w 22 (S4 w)) : Rest w 21 (S3 w) := by
  have e : PySem.Challenge.rw_nu0160_01 = PySem.Challenge.rw_nu0160_01 := rfl
  revert e
  unfold Rest S3
  k_fill
  intro _
  refine' BodyC.intro (ho := ?ho) (h := ?hb)
  case ho => k_is
  case hb =>
  rintro f cdv g L dp un gd outer A₀ base p loose mean mg mb s Q m σ F N hTmp
  refine hide fun gX gk => ?_
  obtain ⟨Pr, U, b, db, H, A, dm, Df, a2, a1, om, c1, o7, o6, o5, bes, bn, ys, vs2, vs1, hvs, k2, k1, kA, kH, kU, kP, cs, kvs, infs, tl0, vb, rfl, hB, hod, hval, hms, hc1, ⟨hmi, hmb, hmv, hmu, hmp⟩, hJ, htl0, hvb, hbr, hbt, hU, hPr⟩ := hTmp
  refine gk ?_
  clear gk gX
  rintro B X T hd hu hQ
  simp only [List.drop_succ_cons, List.drop_zero]
  have hB0 := hB
  refine hide fun gX gk => ?_
  obtain ⟨hlen, hv1, hv2, hvf, hd5, hd6, hd7, hmc⟩ := hB
  refine gk ?_
  clear gk gX
  have hl2 := hv2.length
  rw [List.length_map] at hl2
  simp only [OffN] at hU hPr
  refine hide fun gX gk => ?_
  obtain ⟨u1, u2, u3, u4, u5, u6, u7, u8, u9, u10, u11, u12, hU⟩ := hU
  refine gk ?_
  clear gk gX
  refine hide fun gX gk => ?_
  obtain ⟨w0, w1, w2, w3, w4, w5, w6, w7, w8, w9, w10, w11, w12, hPr⟩ := hPr
  refine gk ?_
  clear gk gX
  replace u1 := Ap.of u1
  replace u2 := Ap.of u2
  replace u3 := Ap.of u3
  replace u4 := Ap.of u4
  replace u5 := Ap.of u5
  replace u6 := Ap.of u6
  replace u7 := Ap.of u7
  replace u8 := Ap.of u8
  replace u9 := Ap.of u9
  replace u10 := Ap.of u10
  replace u11 := Ap.of u11
  replace u12 := Ap.of u12
  replace w0 := Ap.of w0
  replace w1 := Ap.of w1
  replace w2 := Ap.of w2
  replace w3 := Ap.of w3
  replace w4 := Ap.of w4
  replace w5 := Ap.of w5
  replace w6 := Ap.of w6
  replace w7 := Ap.of w7
  replace w8 := Ap.of w8
  replace w9 := Ap.of w9
  replace w10 := Ap.of w10
  replace w11 := Ap.of w11
  replace w12 := Ap.of w12
  (repeat' ((fail_if_success (with_reducible show LCg.CompSrc _ _ _ _ _ _ _ _ _ _ _ _ _ _)); (fail_if_success (with_reducible show wpAny _ _ (PySem.call (Value.ref 272) _) _ _ _)); (fail_if_success (with_reducible show wpAny _ _ (pyIter (Value.ref _)) _ _ _)); (fail_if_success (with_reducible show wpAny _ _ (PySem.call (Value.builtin "list.append") _) _ _ _)); (fail_if_success (with_reducible show TurnEnd _ _ _ _ _ _ _ _ _)); first | walk1 | (dsimp only; walk1)))
  rename_i h2 tk2 t2 u2' v2 hr2 F2 N2 K2
  clear K2
  have htl : (cs.map jt).length = cs.length := by simp
  have hat : ∀ j : Nat, j < cs.length → ∃ t, vs2[(j : Int).toNat]? = some (Value.str (tyAt (cs.map jt) j) t) := fun j hj => by
    have hj2 : j < (cs.map jt).length := by omega
    obtain ⟨t, ht⟩ := hv2.get j (tyAt (cs.map jt) j) (by unfold tyAt; rw [List.getD_eq_getElem?_getD, List.getElem?_eq_getElem hj2]; rfl)
    exact ⟨t, by simpa using ht⟩
  have hz : (fun _ => false : Nat → Bool) = fun q => unsAny infs [] q (clAt infs q) := by funext q; simp [unsAny]
  rw [hz] at N2
  refine iter_range0 (n := cs.length) (fun i m' σ => ∃ (pvs : List Value) (kP kU : Nat) (tl : List (Addr × Obj)) (ps : List (Nat × Nat)),
      σ = (Pr, W.listOf pvs.toArray kP) :: (U, W.listOf (bArr cs.length fun q => unsAny infs ps q (clAt infs q)) kU) :: (b, instObj 100 db) :: (db, dictOf bes bn) :: (H, W.listOf hvs.toArray kH) :: (A, W.listOf (infs.map fun i => Value.ref i.x).toArray kA) :: (dm, om) :: (Df, LCg.lst ys) :: (a2, W.listOf vs2.toArray k2) :: (a1, W.listOf vs1.toArray k1) :: (L + 1 + 1 + 1 + 1, c1) :: (L + 1 + 1 + 1, o7) :: (L + 1 + 1, o6) :: (L + 1, o5) :: tl ∧ (∀ q ∈ tl0, q ∈ tl) ∧ OffN U tl ∧ OffN Pr tl ∧ LRs (Led tl) (ps.map npD) pvs ∧ PS (cs.map jt) i ps ∧ pvs.length ≤ i ∧
      (m' (Str.ofString "infos") = some (.ref A) ∧ m' (Str.ofString "buffer") = some (.ref b) ∧ m' (Str.ofString "before") = some vb ∧ m' (Str.ofString "unsafe") = some (.ref U) ∧ m' (Str.ofString "pairs") = some (.ref Pr) ∧ m' (Str.ofString "codes") = some (.ref a1))) rfl F2 N2 hr2 (by rw [hl2]) (by omega)
    ⟨[], kP, kU, tl0, [], rfl, fun q hq => hq, hU, hPr, LRs.nil, PS.nil _, Nat.le_refl _, hmi, hmb, hmv, hmu, hmp, hmc⟩ ?_ ?_
  · clear F2 N2 hz hr2 hU hPr hmi hmb hmv hmu hmp hmc
    rintro i ti m' σ h₁ tk I io hi hTmp
    refine hide fun gX gk => ?_
    obtain ⟨pvs, kP, kU, tl, ps, rfl, hsub, hU, hPr, hpv, hps, hpl, hmi, hmb, hmv, hmu, hmp, hmc⟩ := hTmp
    refine gk ?_
    clear gk gX
    rintro F₁ N₁ off hic
    have o1 : Ap Pr I := ⟨off _ (.head _)⟩
    have o2 : Ap U I := ⟨off _ (.tail _ (.head _))⟩
    obtain ⟨tx, hx⟩ := hat i hi
    (repeat' ((fail_if_success (with_reducible show LCg.CompSrc _ _ _ _ _ _ _ _ _ _ _ _ _ _)); (fail_if_success (with_reducible show wpAny _ _ (PySem.call (Value.ref 272) _) _ _ _)); (fail_if_success (with_reducible show wpAny _ _ (pyIter (Value.ref _)) _ _ _)); (fail_if_success (with_reducible show wpAny _ _ (PySem.call (Value.builtin "list.append") _) _ _ _)); (fail_if_success (with_reducible show TurnEnd _ _ _ _ _ _ _ _ _)); first | walk1 | (dsimp only; walk1)))
    rename Fr _ _ _ _ => F3
    rename News _ _ _ _ => N3
    refine' Spec.callP (nbrF_ok _ (ts := cs.map jt) (a := i) ?hp ?hlen ?ha) ?B ?F ?X ?T ?N ?hk ?hd ?hu ?_
    case hp => exact LR.ofN N3 (by k_mem) (LRs.ofStrs hv2)
    case hlen => omega
    case ha => omega
    walk_at "my_args"
    rintro v h4 tk4 nw4 F4 N4 K4 hTmp
    refine hide fun gX gk => ?_
    obtain ⟨r, tr, rfl, hF⟩ := hTmp
    refine gk ?_
    clear gk gX
    have hbe := behind_of hF
    have hF0 := hF
    rcases hF with ⟨j, rfl, hj1, hj2, hj3, hj4⟩ | ⟨rfl, hj4⟩
    · obtain ⟨tj, hxj⟩ := hat j (by omega)
      (repeat' ((fail_if_success (with_reducible show LCg.CompSrc _ _ _ _ _ _ _ _ _ _ _ _ _ _)); (fail_if_success (with_reducible show wpAny _ _ (PySem.call (Value.ref 272) _) _ _ _)); (fail_if_success (with_reducible show wpAny _ _ (pyIter (Value.ref _)) _ _ _)); (fail_if_success (with_reducible show wpAny _ _ (PySem.call (Value.builtin "list.append") _) _ _ _)); (fail_if_success (with_reducible show TurnEnd _ _ _ _ _ _ _ _ _)); first | walk1 | (dsimp only; walk1)))
      · rename Fr _ _ _ _ => F5
        rename News _ _ _ _ => N5
        rename (List.any [_, _, _] _ = true) => qb
        rename (List.any [_, _] _ = true) => qa
        rename_i D1 _ l1 D2 _ l2 tu _ l3
        rw [any_DC] at qa
        rw [any_RDC] at qb
        have hij : (i, j) ∈ jp (cs.map jt) := jp_mem.mpr ⟨by omega, hj1, qa, qb, hj4⟩
        have hUa := hU.all
        have hPa := hPr.all
        refine append_K (by k_asm) (by k_asm) (by k_upd) ?_ (by rw [sizeLine_eq, List.size_toArray]; omega)
        intro h6 F6 N6
        rw [List.push_toArray] at N6
        (repeat' ((fail_if_success (with_reducible show LCg.CompSrc _ _ _ _ _ _ _ _ _ _ _ _ _ _)); (fail_if_success (with_reducible show wpAny _ _ (PySem.call (Value.ref 272) _) _ _ _)); (fail_if_success (with_reducible show wpAny _ _ (pyIter (Value.ref _)) _ _ _)); (fail_if_success (with_reducible show wpAny _ _ (PySem.call (Value.builtin "list.append") _) _ _ _)); (fail_if_success (with_reducible show TurnEnd _ _ _ _ _ _ _ _ _)); first | walk1 | (dsimp only; walk1)))
        rename_i h7 tk7 t7 u7 v7 hr7 F7 N7 K7
        clear K7
        have hps' := hps.add hij
        have hItu : @LT.lt Nat _ I tu := l3.2.2.1
        have hPtu : @LT.lt Nat _ Pr tu := l3.2.2.2.1
        have hUtu : @LT.lt Nat _ U tu := l3.2.2.2.2.1
        have offI : ∀ q ∈ tl, q.1 ≠ I := fun q hq => off q (by repeat' (first | exact hq | refine List.Mem.tail _ ?_))
        have hoffR : ∀ q ∈ (U, W.listOf (bArr cs.length fun q => unsAny infs ps q (clAt infs q)) kU) :: (b, instObj 100 db) :: (db, dictOf bes bn) :: (H, W.listOf hvs.toArray kH) :: (A, W.listOf (infs.map fun i => Value.ref i.x).toArray kA) :: (dm, om) :: (Df, LCg.lst ys) :: (a2, W.listOf vs2.toArray k2) :: (a1, W.listOf vs1.toArray k1) :: (L + 1 + 1 + 1 + 1, c1) :: (L + 1 + 1 + 1, o7) :: (L + 1 + 1, o6) :: (L + 1, o5) :: tl, q.1 ≠ I := fun q hq => off q (.tail _ hq)
        obtain ⟨tl, N8, hsub, hU, hPr, hpv, hOI⟩ : ∃ tl, News g L h7 ((Pr, W.listOf (pvs ++ [Value.ref tu]).toArray (kP + 1)) :: (U, W.listOf (bArr cs.length fun q => unsAny infs ps q (clAt infs q)) kU) :: (I, io) :: (b, instObj 100 db) :: (db, dictOf bes bn) :: (H, W.listOf hvs.toArray kH) :: (A, W.listOf (infs.map fun i => Value.ref i.x).toArray kA) :: (dm, om) :: (Df, LCg.lst ys) :: (a2, W.listOf vs2.toArray k2) :: (a1, W.listOf vs1.toArray k1) :: (L + 1 + 1 + 1 + 1, c1) :: (L + 1 + 1 + 1, o7) :: (L + 1 + 1, o6) :: (L + 1, o5) :: tl) ∧ (∀ q ∈ tl0, q ∈ tl) ∧ OffN U tl ∧ OffN Pr tl ∧ LRs (Led tl) ((ps ++ [(i, j)]).map npD) (pvs ++ [.ref tu]) ∧ (∀ q ∈ (U, W.listOf (bArr cs.length fun q => unsAny infs ps q (clAt infs q)) kU) :: (b, instObj 100 db) :: (db, dictOf bes bn) :: (H, W.listOf hvs.toArray kH) :: (A, W.listOf (infs.map fun i => Value.ref i.x).toArray kA) :: (dm, om) :: (Df, LCg.lst ys) :: (a2, W.listOf vs2.toArray k2) :: (a1, W.listOf vs1.toArray k1) :: (L + 1 + 1 + 1 + 1, c1) :: (L + 1 + 1 + 1, o7) :: (L + 1 + 1, o6) :: (L + 1, o5) :: tl, q.1 ≠ I) := by
          refine ⟨(tu, _) :: tl, News.sub N7 (by ((repeat' (first | exact fun q hq => absurd hq List.not_mem_nil | refine List.forall_mem_cons.mpr ⟨by k_mem, ?_⟩ | (intro q hq; (repeat' (first | exact hq | refine List.Mem.tail _ ?_))))))), fun q hq => .tail _ (hsub q hq), ⟨by k_ne, hU⟩, ⟨by k_ne, hPr⟩, ?_, ?_⟩
          · rw [List.map_append]
            exact LRs.snoc (hpv.sub fun q hq => .tail _ hq) (LR.tupleI (.head _) (LRs.cons (LR.intI _ _) (LRs.cons (LR.intI _ _) LRs.nil)))
          · (repeat (refine List.forall_mem_cons.mpr ⟨hoffR _ (by k_mem), ?_⟩))
            refine List.forall_mem_cons.mpr ⟨Nat.ne_of_gt hItu, offI⟩
        clear N7 l1 l2 l3 hItu hPtu hUtu offI hoffR off hUa hPa
        rw [show (fun q => unsAny infs ps q (clAt infs q)) = fun q => midU infs ps i 0 q from funext fun q => midU_zero infs ps i q] at N8
        refine iter_range (a := (i : Int)) (b := (j : Int) + 1) (n := j + 1 - i) (fun k m'' σ => ∃ kU, σ = (Pr, W.listOf (pvs ++ [Value.ref tu]).toArray (kP + 1)) :: (U, W.listOf (bArr cs.length fun q => midU infs ps i k q) kU) :: (I, io) :: (b, instObj 100 db) :: (db, dictOf bes bn) :: (H, W.listOf hvs.toArray kH) :: (A, W.listOf (infs.map fun i => Value.ref i.x).toArray kA) :: (dm, om) :: (Df, LCg.lst ys) :: (a2, W.listOf vs2.toArray k2) :: (a1, W.listOf vs1.toArray k1) :: (L + 1 + 1 + 1 + 1, c1) :: (L + 1 + 1 + 1, o7) :: (L + 1 + 1, o6) :: (L + 1, o5) :: tl ∧
            (m'' (Str.ofString "at") = some (.int (i : Int) ti) ∧ m'' (Str.ofString "infos") = some (.ref A) ∧ m'' (Str.ofString "buffer") = some (.ref b) ∧ m'' (Str.ofString "before") = some vb ∧ m'' (Str.ofString "unsafe") = some (.ref U) ∧ m'' (Str.ofString "pairs") = some (.ref Pr) ∧ m'' (Str.ofString "codes") = some (.ref a1))) rfl F7 N8 hr7 (small_one (by omega) (by omega) (by omega) (by omega)) (by rw [rangeSize_one]; split <;> omega)
          ⟨kU, rfl, by rfl, hmi, hmb, hmv, hmu, hmp, hmc⟩ ?_ ?_
        · clear F7 N8 hr7 hmi hmb hmv hmu hmp hmc
          rintro k tk0 m'' σ h₈ tk8 I2 io2 hk hTmp
          refine hide fun gX gk => ?_
          obtain ⟨kU2, rfl, hma, hmi, hmb, hmv, hmu, hmp, hmc⟩ := hTmp
          refine gk ?_
          clear gk gX
          rintro F₈ N₈ off2 hic2
          have hlJ := hJ.len
          have p1 : Ap U I2 := ⟨off2 _ (.tail _ (.head _))⟩
          have p2 : Ap U I := ⟨o2.ne⟩
          have hUa := hU.all
          have hik : i + k < infs.length := by omega
          have hii : i < infs.length := by omega
          have ha : infs[i + k]? = some infs[i + k] := by simp [hik]
          have ha0 : infs[i]? = some infs[i] := by simp [hii]
          generalize infs[i + k] = a at ha
          generalize infs[i] = a0 at ha0
          have hm := List.mem_of_getElem? ha
          have hm0 := List.mem_of_getElem? ha0
          obtain ⟨x1, x2⟩ := htl0 a hm
          obtain ⟨x3, x4⟩ := htl0 a0 hm0
          replace x1 := hsub _ x1
          replace x2 := hsub _ x2
          replace x3 := hsub _ x3
          replace x4 := hsub _ x4
          obtain ⟨tc, hcl⟩ := (hJ.ok a hm).cluster
          obtain ⟨tc0, hcl0⟩ := (hJ.ok a0 hm0).cluster
          have hca := clAt_of ha
          have hca0 := clAt_of ha0
          have r1 : (infs.map fun i => Value.ref i.x)[((i : Int) + (k : Int)).toNat]? = some (.ref a.x) := by
            rw [show ((i : Int) + (k : Int)).toNat = i + k by omega, List.getElem?_map, ha]; rfl
          have r2 : (infs.map fun i => Value.ref i.x)[((i : Int)).toNat]? = some (.ref a0.x) := by
            rw [Int.toNat_natCast, List.getElem?_map, ha0]; rfl
          have ei : ((i : Int) + (k : Int)).toNat = i + k := by omega
          have hoff2 : ∀ X : Obj, ∀ q ∈ (Pr, W.listOf (pvs ++ [Value.ref tu]).toArray (kP + 1)) :: (U, X) :: (I, io) :: (b, instObj 100 db) :: (db, dictOf bes bn) :: (H, W.listOf hvs.toArray kH) :: (A, W.listOf (infs.map fun i => Value.ref i.x).toArray kA) :: (dm, om) :: (Df, LCg.lst ys) :: (a2, W.listOf vs2.toArray k2) :: (a1, W.listOf vs1.toArray k1) :: (L + 1 + 1 + 1 + 1, c1) :: (L + 1 + 1 + 1, o7) :: (L + 1 + 1, o6) :: (L + 1, o5) :: tl, q.1 ≠ I2 := fun X => List.forall_mem_cons.mpr ⟨off2 _ (.head _), List.forall_mem_cons.mpr ⟨p1.ne, fun q hq => off2 q (.tail _ (.tail _ hq))⟩⟩
          (repeat' ((fail_if_success (with_reducible show LCg.CompSrc _ _ _ _ _ _ _ _ _ _ _ _ _ _)); (fail_if_success (with_reducible show wpAny _ _ (PySem.call (Value.ref 272) _) _ _ _)); (fail_if_success (with_reducible show wpAny _ _ (pyIter (Value.ref _)) _ _ _)); (fail_if_success (with_reducible show wpAny _ _ (PySem.call (Value.builtin "list.append") _) _ _ _)); (fail_if_success (with_reducible show TurnEnd _ _ _ _ _ _ _ _ _)); first | walk1 | (dsimp only; walk1)))
          · rename Fr _ _ _ _ => F9
            rename News _ _ _ _ => N9
            rename _ < _ => hlt
            rw [ei, show (fun q => midU infs ps i k q || i + k == q) = fun q => midU infs ps i (k + 1) q from funext fun q => midU_set infs ps i k q (by rw [hca, hca0]; exact hlt)] at N9
            exact TurnEnd.next ((Pr, W.listOf (pvs ++ [Value.ref tu]).toArray (kP + 1)) :: (U, W.listOf (bArr cs.length fun q => midU infs ps i (k + 1) q) kU2) :: (I, io) :: (b, instObj 100 db) :: (db, dictOf bes bn) :: (H, W.listOf hvs.toArray kH) :: (A, W.listOf (infs.map fun i => Value.ref i.x).toArray kA) :: (dm, om) :: (Df, LCg.lst ys) :: (a2, W.listOf vs2.toArray k2) :: (a1, W.listOf vs1.toArray k1) :: (L + 1 + 1 + 1 + 1, c1) :: (L + 1 + 1 + 1, o7) :: (L + 1 + 1, o6) :: (L + 1, o5) :: tl) F9 N9 (by k_mem) (by ((repeat' (first | exact fun q hq => absurd hq List.not_mem_nil | refine List.forall_mem_cons.mpr ⟨by k_mem, ?_⟩ | (intro q hq; (repeat' (first | exact hq | refine List.Mem.tail _ ?_))))))) (fun q hq => .inl (hoff2 _ q hq)) ⟨kU2, rfl, hma, hmi, hmb, hmv, hmu, hmp, hmc⟩
          · rename Fr _ _ _ _ => F9
            rename News _ _ _ _ => N9
            rename ¬ _ => hlt
            rw [show (fun q => midU infs ps i k q) = fun q => midU infs ps i (k + 1) q from funext fun q => midU_skip infs ps i k q (by rw [hca, hca0]; exact hlt)] at N9
            exact TurnEnd.next ((Pr, W.listOf (pvs ++ [Value.ref tu]).toArray (kP + 1)) :: (U, W.listOf (bArr cs.length fun q => midU infs ps i (k + 1) q) kU2) :: (I, io) :: (b, instObj 100 db) :: (db, dictOf bes bn) :: (H, W.listOf hvs.toArray kH) :: (A, W.listOf (infs.map fun i => Value.ref i.x).toArray kA) :: (dm, om) :: (Df, LCg.lst ys) :: (a2, W.listOf vs2.toArray k2) :: (a1, W.listOf vs1.toArray k1) :: (L + 1 + 1 + 1 + 1, c1) :: (L + 1 + 1 + 1, o7) :: (L + 1 + 1, o6) :: (L + 1, o5) :: tl) F9 N9 (by k_mem) (by ((repeat' (first | exact fun q hq => absurd hq List.not_mem_nil | refine List.forall_mem_cons.mpr ⟨by k_mem, ?_⟩ | (intro q hq; (repeat' (first | exact hq | refine List.Mem.tail _ ?_))))))) (fun q hq => .inl (hoff2 _ q hq)) ⟨kU2, rfl, hma, hmi, hmb, hmv, hmu, hmp, hmc⟩
        · clear F7 N8 hr7 hmi hmb hmv hmu hmp hmc
          rintro m'' σ h₈ tk8 hTmp
          refine hide fun gX gk => ?_
          obtain ⟨kU2, rfl, hma, hmi, hmb, hmv, hmu, hmp, hmc⟩ := hTmp
          refine gk ?_
          clear gk gX
          rintro F₈ N₈
          rw [show (fun q => midU infs ps i (j + 1 - i) q) = fun q => unsAny infs (ps ++ [(i, j)]) q (clAt infs q) from funext fun q => midU_done infs ps i j q (by omega)] at N₈
          (repeat' ((fail_if_success (with_reducible show LCg.CompSrc _ _ _ _ _ _ _ _ _ _ _ _ _ _)); (fail_if_success (with_reducible show wpAny _ _ (PySem.call (Value.ref 272) _) _ _ _)); (fail_if_success (with_reducible show wpAny _ _ (pyIter (Value.ref _)) _ _ _)); (fail_if_success (with_reducible show wpAny _ _ (PySem.call (Value.builtin "list.append") _) _ _ _)); (fail_if_success (with_reducible show TurnEnd _ _ _ _ _ _ _ _ _)); first | walk1 | (dsimp only; walk1)))
          rename Fr _ _ _ _ => F9
          rename News _ _ _ _ => N9
          exact TurnEnd.next ((Pr, W.listOf (pvs ++ [Value.ref tu]).toArray (kP + 1)) :: (U, W.listOf (bArr cs.length fun q => unsAny infs (ps ++ [(i, j)]) q (clAt infs q)) kU2) :: (b, instObj 100 db) :: (db, dictOf bes bn) :: (H, W.listOf hvs.toArray kH) :: (A, W.listOf (infs.map fun i => Value.ref i.x).toArray kA) :: (dm, om) :: (Df, LCg.lst ys) :: (a2, W.listOf vs2.toArray k2) :: (a1, W.listOf vs1.toArray k1) :: (L + 1 + 1 + 1 + 1, c1) :: (L + 1 + 1 + 1, o7) :: (L + 1 + 1, o6) :: (L + 1, o5) :: tl) F9 N9 (by k_mem) (by ((repeat' (first | exact fun q hq => absurd hq List.not_mem_nil | refine List.forall_mem_cons.mpr ⟨by k_mem, ?_⟩ | (intro q hq; (repeat' (first | exact hq | refine List.Mem.tail _ ?_))))))) (fun q hq => .inl ((List.forall_mem_cons.mpr ⟨o1.ne, List.forall_mem_cons.mpr ⟨o2.ne, fun q hq => hOI q (.tail _ hq)⟩⟩ : ∀ q ∈ (Pr, W.listOf (pvs ++ [Value.ref tu]).toArray (kP + 1)) :: (U, W.listOf (bArr cs.length fun q => unsAny infs (ps ++ [(i, j)]) q (clAt infs q)) kU2) :: (b, instObj 100 db) :: (db, dictOf bes bn) :: (H, W.listOf hvs.toArray kH) :: (A, W.listOf (infs.map fun i => Value.ref i.x).toArray kA) :: (dm, om) :: (Df, LCg.lst ys) :: (a2, W.listOf vs2.toArray k2) :: (a1, W.listOf vs1.toArray k1) :: (L + 1 + 1 + 1 + 1, c1) :: (L + 1 + 1 + 1, o7) :: (L + 1 + 1, o6) :: (L + 1, o5) :: tl, q.1 ≠ I) q hq))
            ⟨pvs ++ [Value.ref tu], kP + 1, kU2, tl, ps ++ [(i, j)], rfl, hsub, hU, hPr, hpv, hps', by simp; omega, hmi, hmb, hmv, hmu, hmp, hmc⟩
      all_goals (
        rename Fr _ _ _ _ => F5
        rename News _ _ _ _ => N5
        refine TurnEnd.next ((Pr, W.listOf pvs.toArray kP) :: (U, W.listOf (bArr cs.length fun q => unsAny infs ps q (clAt infs q)) kU) :: (b, instObj 100 db) :: (db, dictOf bes bn) :: (H, W.listOf hvs.toArray kH) :: (A, W.listOf (infs.map fun i => Value.ref i.x).toArray kA) :: (dm, om) :: (Df, LCg.lst ys) :: (a2, W.listOf vs2.toArray k2) :: (a1, W.listOf vs1.toArray k1) :: (L + 1 + 1 + 1 + 1, c1) :: (L + 1 + 1 + 1, o7) :: (L + 1 + 1, o6) :: (L + 1, o5) :: tl) F5 N5 (by k_mem) (by ((repeat' (first | exact fun q hq => absurd hq List.not_mem_nil | refine List.forall_mem_cons.mpr ⟨by k_mem, ?_⟩ | (intro q hq; (repeat' (first | exact hq | refine List.Mem.tail _ ?_))))))) (fun q hq => .inl (off q hq)) ⟨pvs, kP, kU, tl, ps, rfl, hsub, hU, hPr, hpv, hps.skip ?_, by omega, hmi, hmb, hmv, hmu, hmp, hmc⟩
        rw [hbe]
        rename (List.any _ _ = false) => qa
        first
          | (rw [any_DC] at qa; rw [qa]; rfl)
          | (rw [any_RDC] at qa; rw [Int.toNat_natCast, qa, Bool.and_false, Bool.and_false]))
    · (repeat' ((fail_if_success (with_reducible show LCg.CompSrc _ _ _ _ _ _ _ _ _ _ _ _ _ _)); (fail_if_success (with_reducible show wpAny _ _ (PySem.call (Value.ref 272) _) _ _ _)); (fail_if_success (with_reducible show wpAny _ _ (pyIter (Value.ref _)) _ _ _)); (fail_if_success (with_reducible show wpAny _ _ (PySem.call (Value.builtin "list.append") _) _ _ _)); (fail_if_success (with_reducible show TurnEnd _ _ _ _ _ _ _ _ _)); first | walk1 | (dsimp only; walk1)))
      all_goals (
        rename Fr _ _ _ _ => F5
        rename News _ _ _ _ => N5
        refine TurnEnd.next ((Pr, W.listOf pvs.toArray kP) :: (U, W.listOf (bArr cs.length fun q => unsAny infs ps q (clAt infs q)) kU) :: (b, instObj 100 db) :: (db, dictOf bes bn) :: (H, W.listOf hvs.toArray kH) :: (A, W.listOf (infs.map fun i => Value.ref i.x).toArray kA) :: (dm, om) :: (Df, LCg.lst ys) :: (a2, W.listOf vs2.toArray k2) :: (a1, W.listOf vs1.toArray k1) :: (L + 1 + 1 + 1 + 1, c1) :: (L + 1 + 1 + 1, o7) :: (L + 1 + 1, o6) :: (L + 1, o5) :: tl) F5 N5 (by k_mem) (by ((repeat' (first | exact fun q hq => absurd hq List.not_mem_nil | refine List.forall_mem_cons.mpr ⟨by k_mem, ?_⟩ | (intro q hq; (repeat' (first | exact hq | refine List.Mem.tail _ ?_))))))) (fun q hq => .inl (off q hq)) ⟨pvs, kP, kU, tl, ps, rfl, hsub, hU, hPr, hpv, hps.skip ?_, by omega, hmi, hmb, hmv, hmu, hmp, hmc⟩
        rw [hbe]
        simp)
  · clear F2 N2 hz hr2 hU hPr hmi hmb hmv hmu hmp hmc
    rintro m' σ h₁ tk hTmp
    refine hide fun gX gk => ?_
    obtain ⟨pvs, kP, kU, tl, ps, rfl, hsub, hU, hPr, hpv, hps, hpl, hmi, hmb, hmv, hmu, hmp, hmc⟩ := hTmp
    refine gk ?_
    clear gk gX
    rintro F₁ N₁
    rw [← htl] at hps
    replace hps := hps.done
    subst hps
    with_unfolding_all refine BodyC.elim hR (by k_is) f cdv g L dp un gd outer A₀ base p loose mean mg mb { s with heap := h₁, toks := tk } Q m' _ F₁ N₁ ?hS B X T hd hu ?hQ
    case hQ => exact fun h' tk' m' σ F' N' => hQ h' tk' m' σ F' N'
    case hS => exact ⟨Pr, U, b, db, H, A, dm, Df, a2, a1, om, c1, o7, o6, o5, bes, bn, ys, vs2, vs1, hvs, pvs, k2, k1, kA, kH, kU, kP, cs, kvs, infs, tl, vb, rfl, ⟨hlen, hB0.v1, hv2, hvf, hd5, hd6, hd7, hmc⟩, hod, hval, hms, hc1, ⟨hmi, hmb, hmv, hmu, hmp⟩, hJ, fun a ha => ⟨hsub _ (htl0 a ha).1, hsub _ (htl0 a ha).2⟩, hvb.sub hsub, hbr, hbt, hpv⟩
end
section
theorem calm_29 : True := by w_top off; exact True.intro
local macro_rules | `(tactic| walk_at "my_idle") => `(tactic| skip)
local macro_rules | `(tactic| walk_at "getMethod ref") => `(tactic| (k_dflt (refine' method_inst ?k1 ?k2 ?k3 ?k4 ?k5 ?k6 ?k7 ?_; (case k1 => k_asm); (case k2 => k_asm); (case k3 => walk_at "my_inst"); (case k4 => k_is); (case k5 => k_is); (case k6 => k_is); (case k7 => assumption))))
theorem LRs.bools (P : Addr → Obj → Prop) : ∀ bs : List Bool, LRs P (bs.map .bool) (bs.map .bool)
  | [] => LRs.nil
  | b :: r => LRs.cons (LR.boolI b) (LRs.bools P r)
theorem okD_npD (p : Nat × Nat) : okD 2 (npD p) := okD.tuple fun d hd => by
  simp only [List.mem_cons, List.not_mem_nil, or_false] at hd
  rcases hd with rfl | rfl <;> exact okD.int _
theorem okD_toldD (c : Int) : okD 2 (toldD c) := okD.tuple fun d hd => by
  simp only [List.mem_cons, List.not_mem_nil, or_false] at hd
  rcases hd with rfl | rfl | rfl | rfl | rfl | rfl <;> exact okD.int _
theorem Joined.unsAll {is : List Inf} {hvs : List Value} {kvs : List (Str × Value)} {cs : List Int} (h : Joined is hvs kvs cs) : is.map (·.uns) = (List.range cs.length).map fun q => unsAny is (jp (cs.map jt)) q (clAt is q) := by
  have hl := h.len
  apply List.ext_getElem
  · simp [hl]
  · intro i h1 h2
    simp only [List.length_map] at h1
    simp only [List.getElem_map, List.getElem_range]
    have ha : is[i]? = some is[i] := by simp [h1]
    rw [h.uns i _ ha, clAt_of ha]
theorem Joined.maskAll {is : List Inf} {hvs : List Value} {kvs : List (Str × Value)} {cs : List Int} (h : Joined is hvs kvs cs) :
    ∃ ms, IntsAre hvs ms ∧ ms.length = cs.length ∧ is.map (·.mask) = (List.range cs.length).map fun q => Builtin.bitOr (ms.getD q 0) (mget kvs (formAt (cs.map jt) q)) := by
  have hTmp := h.masks
  refine hide fun gX gk => ?_
  obtain ⟨ms, h1, h2, h3⟩ := hTmp
  refine gk ?_
  clear gk gX
  have hl := h.len
  refine ⟨ms, h1, h2, ?_⟩
  apply List.ext_getElem
  · simp [hl]
  · intro i k1 k2
    simp only [List.length_map] at k1
    simp only [List.getElem_map, List.getElem_range]
    exact h3 i _ (by simp [k1])
theorem rest4 (w : World) : Rest w 22 (S4 w) := by
  have e : PySem.Challenge.rw_nu0160_01 = PySem.Challenge.rw_nu0160_01 := rfl
  revert e
  unfold Rest S4
  k_fill
  intro _
  refine' BodyC.intro (ho := ?ho) (h := ?hb)
  case ho => k_is
  case hb =>
  rintro f cdv g L dp un gd outer A₀ base p loose mean mg mb s Q m σ F N hTmp
  refine hide fun gX gk => ?_
  obtain ⟨Pr, U, b, db, H, A, dm, Df, a2, a1, om, c1, o7, o6, o5, bes, bn, ys, vs2, vs1, hvs, pvs, k2, k1, kA, kH, kU, kP, cs, kvs, infs, tl, vb, rfl, hB, hod, hval, hms, hc1, ⟨hmi, hmb, hmv, hmu, hmp⟩, hJ, htl, hvb, hbr, hbt, hpv⟩ := hTmp
  refine gk ?_
  clear gk gX
  rintro B X T hd hu hQ
  simp only [List.drop_succ_cons, List.drop_zero]
  have hB0 := hB
  refine hide fun gX gk => ?_
  obtain ⟨hlen, hv1, hv2, hvf, hd5, hd6, hd7, hmc⟩ := hB
  refine gk ?_
  clear gk gX
  have hl2 := hv2.length
  rw [List.length_map] at hl2
  have hlJ := hJ.len
  have hR : ∀ q ∈ tl, q ∈ (Pr, W.listOf pvs.toArray kP) :: (U, W.listOf (bArr cs.length fun q => unsAny infs (jp (cs.map jt)) q (clAt infs q)) kU) :: (b, instObj 100 db) :: (db, dictOf bes bn) :: (H, W.listOf hvs.toArray kH) :: (A, W.listOf (infs.map fun i => Value.ref i.x).toArray kA) :: (dm, om) :: (Df, LCg.lst ys) :: (a2, W.listOf vs2.toArray k2) :: (a1, W.listOf vs1.toArray k1) :: (L + 1 + 1 + 1 + 1, c1) :: (L + 1 + 1 + 1, o7) :: (L + 1 + 1, o6) :: (L + 1, o5) :: tl := fun q hq => by repeat' (first | exact hq | refine List.Mem.tail _ ?_)
  have hz : (infs.map fun i => Value.ref i.x).length = infs.length := by simp
  (repeat' ((fail_if_success (with_reducible show LCg.CompSrc _ _ _ _ _ _ _ _ _ _ _ _ _ _)); (fail_if_success (with_reducible show wpAny _ _ (PySem.call (Value.ref 170) _) _ _ _)); (fail_if_success (with_reducible show wpAny _ _ (PySem.call (Value.ref 90) _) _ _ _)); (fail_if_success (with_reducible show wpAny _ _ (compareOp _ _ _) _ _ _)); first | walk1 | (dsimp only; walk1)))
  rename Fr _ _ _ _ => F1
  rename News _ _ _ _ => N1
  refine' Spec.call0 (joined_pairs_ok _ (ts := cs.map jt) ?hp ?len) ?B ?F ?X ?T ?N ?hk ?hd ?hu ?_
  case hp => exact LR.ofN N1 (by k_mem) (LRs.ofStrs hv2)
  case len => simp; omega
  walk_at "my_args"
  rintro v h2 tk2 pl F2 N2 K2 off2 hTmp
  refine hide fun gX gk => ?_
  obtain ⟨pa, pk, zvs, rfl, hpm, hpl⟩ := hTmp
  refine gk ?_
  clear gk gX
  (repeat' ((fail_if_success (with_reducible show LCg.CompSrc _ _ _ _ _ _ _ _ _ _ _ _ _ _)); (fail_if_success (with_reducible show wpAny _ _ (PySem.call (Value.ref 170) _) _ _ _)); (fail_if_success (with_reducible show wpAny _ _ (PySem.call (Value.ref 90) _) _ _ _)); (fail_if_success (with_reducible show wpAny _ _ (compareOp _ _ _) _ _ _)); first | walk1 | (dsimp only; walk1)))
  refine same_ne (n := 3) (d := .list ((jp (cs.map jt)).map npD)) (LR.listI (vs := zvs.toList) (n := pk) (by simpa [W.listOf] using (N2 _ (List.mem_append_left _ hpm)).1) (hpl.mono fun a o e => (N2 (a, o) (List.mem_append_left _ e)).1)) (LR.ofN N2 (List.mem_append_right _ (.head _)) (hpv.mono fun a o e => (N2 (a, o) (List.mem_append_right _ (hR _ e))).1)) (okD.list fun d hd => by
    have hTmp := List.mem_map.mp hd
    refine hide fun gX gk => ?_
    obtain ⟨x, _, rfl⟩ := hTmp
    refine gk ?_
    clear gk gX
    exact okD_npD x) (by show un + 3 < _; omega) ?_
  replace N2 : News g L h2 ((Pr, W.listOf pvs.toArray kP) :: (U, W.listOf (bArr cs.length fun q => unsAny infs (jp (cs.map jt)) q (clAt infs q)) kU) :: (b, instObj 100 db) :: (db, dictOf bes bn) :: (H, W.listOf hvs.toArray kH) :: (A, W.listOf (infs.map fun i => Value.ref i.x).toArray kA) :: (dm, om) :: (Df, LCg.lst ys) :: (a2, W.listOf vs2.toArray k2) :: (a1, W.listOf vs1.toArray k1) :: (L + 1 + 1 + 1 + 1, c1) :: (L + 1 + 1 + 1, o7) :: (L + 1 + 1, o6) :: (L + 1, o5) :: tl) := News.sub N2 fun q hq => List.mem_append_right _ hq
  clear hpl hpm K2 off2
  (repeat' ((fail_if_success (with_reducible show LCg.CompSrc _ _ _ _ _ _ _ _ _ _ _ _ _ _)); (fail_if_success (with_reducible show wpAny _ _ (PySem.call (Value.ref 170) _) _ _ _)); (fail_if_success (with_reducible show wpAny _ _ (PySem.call (Value.ref 90) _) _ _ _)); (fail_if_success (with_reducible show wpAny _ _ (compareOp _ _ _) _ _ _)); first | walk1 | (dsimp only; walk1)))
  refine LCg.CompSrc.ledger rfl (by assumption) (by assumption) (show (A, W.listOf (infs.map fun i => Value.ref i.x).toArray kA) ∈ (Pr, W.listOf pvs.toArray kP) :: (U, W.listOf (bArr cs.length fun q => unsAny infs (jp (cs.map jt)) q (clAt infs q)) kU) :: (b, instObj 100 db) :: (db, dictOf bes bn) :: (H, W.listOf hvs.toArray kH) :: (A, W.listOf (infs.map fun i => Value.ref i.x).toArray kA) :: (dm, om) :: (Df, LCg.lst ys) :: (a2, W.listOf vs2.toArray k2) :: (a1, W.listOf vs1.toArray k1) :: (L + 1 + 1 + 1 + 1, c1) :: (L + 1 + 1 + 1, o7) :: (L + 1 + 1, o6) :: (L + 1, o5) :: tl by k_mem) (by rw [sizeLine_eq, List.size_toArray, hz]; omega) ?_
  intro g3
  refine comp_gen (fun i zs σ => σ = (Pr, W.listOf pvs.toArray kP) :: (U, W.listOf (bArr cs.length fun q => unsAny infs (jp (cs.map jt)) q (clAt infs q)) kU) :: (b, instObj 100 db) :: (db, dictOf bes bn) :: (H, W.listOf hvs.toArray kH) :: (A, W.listOf (infs.map fun i => Value.ref i.x).toArray kA) :: (dm, om) :: (Df, LCg.lst ys) :: (a2, W.listOf vs2.toArray k2) :: (a1, W.listOf vs1.toArray k1) :: (L + 1 + 1 + 1 + 1, c1) :: (L + 1 + 1 + 1, o7) :: (L + 1 + 1, o6) :: (L + 1, o5) :: tl ∧ zs = ((infs.map (·.uns)).take i).map Value.bool) ⟨rfl, rfl⟩ ?_ ?_
  · rintro i v zs σ I oI C oC D m₂ h tk E' hi hv ⟨rfl, rfl⟩ hC hx F N off ne
    rw [List.size_toArray, hz] at hi
    have ha : infs[i]? = some infs[i] := by simp [hi]
    generalize infs[i] = a at ha
    obtain rfl : v = Value.ref a.x := by
      have : (infs.map fun i => Value.ref i.x)[i]? = some v := by simpa using hv
      rw [List.getElem?_map, ha] at this; exact (Option.some.inj this).symm
    have ham := List.mem_of_getElem? ha
    obtain ⟨x1, x2⟩ := htl a ham
    have hun := (hJ.ok a ham).uns
    (repeat' ((fail_if_success (with_reducible show LCg.CompSrc _ _ _ _ _ _ _ _ _ _ _ _ _ _)); (fail_if_success (with_reducible show wpAny _ _ (pyIter (Value.ref _)) _ _ _)); (fail_if_success (with_reducible show wpAny _ _ (exec (Stmt.While _ _ _ _) _) _ _ _)); (fail_if_success (with_reducible show wpAny _ _ (compareOp _ (Value.ref _) (Value.ref _)) _ _ _)); first | walk1 | (dsimp only; walk1)))
    walk_at "my_cend"
    case σ => exact (Pr, W.listOf pvs.toArray kP) :: (U, W.listOf (bArr cs.length fun q => unsAny infs (jp (cs.map jt)) q (clAt infs q)) kU) :: (b, instObj 100 db) :: (db, dictOf bes bn) :: (H, W.listOf hvs.toArray kH) :: (A, W.listOf (infs.map fun i => Value.ref i.x).toArray kA) :: (dm, om) :: (Df, LCg.lst ys) :: (a2, W.listOf vs2.toArray k2) :: (a1, W.listOf vs1.toArray k1) :: (L + 1 + 1 + 1 + 1, c1) :: (L + 1 + 1 + 1, o7) :: (L + 1 + 1, o6) :: (L + 1, o5) :: tl
    case sub => exact fun p hp => hp
    case off => exact off
    case hS => exact .inr ⟨_, by k_mem, rfl, _, rfl⟩
    refine ⟨rfl, ?_⟩
    rw [List.take_add_one, List.getElem?_map, ha]
    simp
  rintro zs σ ⟨rfl, rfl⟩
  (repeat' ((fail_if_success (with_reducible show LCg.CompSrc _ _ _ _ _ _ _ _ _ _ _ _ _ _)); (fail_if_success (with_reducible show wpAny _ _ (PySem.call (Value.ref 170) _) _ _ _)); (fail_if_success (with_reducible show wpAny _ _ (PySem.call (Value.ref 90) _) _ _ _)); (fail_if_success (with_reducible show wpAny _ _ (compareOp _ _ _) _ _ _)); first | walk1 | (dsimp only; walk1)))
  rename_i D1 h4 tk4 F4 N4 o1
  clear o1
  have hus : LRs (HAt h4) ((infs.map (·.uns)).map .bool) (((infs.map (·.uns)).take (infs.map fun i => Value.ref i.x).toArray.size).map Value.bool) := by
    rw [List.take_of_length_le (by simp)]
    exact LRs.bools _ _
  have hus2 : LRs (HAt h4) ((infs.map (·.uns)).map .bool) ((List.range cs.length).map fun q => Value.bool (unsAny infs (jp (cs.map jt)) q (clAt infs q))) := by
    have := LRs.bools (HAt h4) ((List.range cs.length).map fun q => unsAny infs (jp (cs.map jt)) q (clAt infs q))
    rw [← hJ.unsAll] at this
    have e : (infs.map (·.uns)).map Value.bool = (List.range cs.length).map fun q => Value.bool (unsAny infs (jp (cs.map jt)) q (clAt infs q)) := by rw [hJ.unsAll, List.map_map]; rfl
    rw [e] at this
    exact this
  refine same_ne (n := 2) (d := .list ((infs.map (·.uns)).map .bool)) (LR.ofN N4 (.head _) hus) (LR.ofN (vs := (List.range cs.length).map fun q => Value.bool (unsAny infs (jp (cs.map jt)) q (clAt infs q))) (k := kU) N4 (.tail _ (.tail _ (.head _))) hus2) (okD.list fun d hd => by
    have hTmp := List.mem_map.mp hd
    refine hide fun gX gk => ?_
    obtain ⟨x, _, rfl⟩ := hTmp
    refine gk ?_
    clear gk gX
    exact okD.bool x) (by show un + 2 < _; omega) ?_
  replace N4 : News g L h4 ((Pr, W.listOf pvs.toArray kP) :: (U, W.listOf (bArr cs.length fun q => unsAny infs (jp (cs.map jt)) q (clAt infs q)) kU) :: (b, instObj 100 db) :: (db, dictOf bes bn) :: (H, W.listOf hvs.toArray kH) :: (A, W.listOf (infs.map fun i => Value.ref i.x).toArray kA) :: (dm, om) :: (Df, LCg.lst ys) :: (a2, W.listOf vs2.toArray k2) :: (a1, W.listOf vs1.toArray k1) :: (L + 1 + 1 + 1 + 1, c1) :: (L + 1 + 1 + 1, o7) :: (L + 1 + 1, o6) :: (L + 1, o5) :: tl) := News.sub N4 fun q hq => .tail _ hq
  clear hus hus2
  (repeat' ((fail_if_success (with_reducible show LCg.CompSrc _ _ _ _ _ _ _ _ _ _ _ _ _ _)); (fail_if_success (with_reducible show wpAny _ _ (PySem.call (Value.ref 170) _) _ _ _)); (fail_if_success (with_reducible show wpAny _ _ (PySem.call (Value.ref 90) _) _ _ _)); (fail_if_success (with_reducible show wpAny _ _ (compareOp _ _ _) _ _ _)); first | walk1 | (dsimp only; walk1)))
  rename Fr _ _ _ _ => F5
  rename News _ _ _ _ => N5
  have hbuf : BufAt (HAt h4) b infs := ⟨⟨db, bes, bn, A, kA, (N5 (b, instObj 100 db) (by k_mem)).1, (N5 (db, dictOf bes bn) (by k_mem)).1, hbr, (N5 (A, W.listOf (infs.map fun i => Value.ref i.x).toArray kA) (by k_mem)).1⟩, fun a ha => (N5 (a.x, instObj 52 a.dx) (hR _ (htl a ha).1)).1⟩
  have hdd : ∀ a ∈ infs, HAt h4 a.dx (dictOf a.es a.n) := fun a ha => (N5 (a.dx, dictOf a.es a.n) (hR _ (htl a ha).2)).1
  dsimp only [List.append_nil]
  refine' Spec.call0 (buf_told_ok _ hbuf hdd hJ.ok (by omega)) ?B ?F ?X ?T ?N ?hk ?hd ?hu ?_
  walk_at "my_args"
  rintro v6 h6 tk6 pl6 F6 N6 K6 off6 hv6
  clear hbuf hdd off6 K6
  (repeat' ((fail_if_success (with_reducible show LCg.CompSrc _ _ _ _ _ _ _ _ _ _ _ _ _ _)); (fail_if_success (with_reducible show wpAny _ _ (PySem.call (Value.ref 170) _) _ _ _)); (fail_if_success (with_reducible show wpAny _ _ (PySem.call (Value.ref 90) _) _ _ _)); (fail_if_success (with_reducible show wpAny _ _ (compareOp _ _ _) _ _ _)); first | walk1 | (dsimp only; walk1)))
  refine same_ne (n := 3) (d := .tuple (infs.map fun i => toldD i.cluster)) (hv6.mono fun a o e => (N6 (a, o) (List.mem_append_left _ e)).1) (hvb.mono fun a o e => (N6 (a, o) (List.mem_append_right _ (hR _ e))).1) (okD.tuple fun d hd => by
    have hTmp := List.mem_map.mp hd
    refine hide fun gX gk => ?_
    obtain ⟨x, _, rfl⟩ := hTmp
    refine gk ?_
    clear gk gX
    exact okD_toldD _) (by show un + 3 < _; omega) ?_
  replace N6 : News g L h6 ((Pr, W.listOf pvs.toArray kP) :: (U, W.listOf (bArr cs.length fun q => unsAny infs (jp (cs.map jt)) q (clAt infs q)) kU) :: (b, instObj 100 db) :: (db, dictOf bes bn) :: (H, W.listOf hvs.toArray kH) :: (A, W.listOf (infs.map fun i => Value.ref i.x).toArray kA) :: (dm, om) :: (Df, LCg.lst ys) :: (a2, W.listOf vs2.toArray k2) :: (a1, W.listOf vs1.toArray k1) :: (L + 1 + 1 + 1 + 1, c1) :: (L + 1 + 1 + 1, o7) :: (L + 1 + 1, o6) :: (L + 1, o5) :: tl) := News.sub N6 fun q hq => List.mem_append_right _ hq
  clear hv6 F5 N5 F2 N2 F1 N1
  have hl1 := hB0.v1.length
  (repeat' ((fail_if_success (with_reducible show LCg.CompSrc _ _ _ _ _ _ _ _ _ _ _ _ _ _)); (fail_if_success (with_reducible show wpAny _ _ (PySem.call (Value.ref 170) _) _ _ _)); (fail_if_success (with_reducible show wpAny _ _ (PySem.call (Value.ref 90) _) _ _ _)); (fail_if_success (with_reducible show wpAny _ _ (compareOp _ _ _) _ _ _)); first | walk1 | (dsimp only; walk1)))
  rename_i h7 tk7 t7 u7 v7 hr7 F7 N7 K7
  clear K7
  have hTmp := hJ.maskAll
  refine hide fun gX gk => ?_
  obtain ⟨ms, hms1, hms2, hmall⟩ := hTmp
  refine gk ?_
  clear gk gX
  refine LCg.CompSrc.range (n := cs.length) rfl (by assumption) (by assumption) hr7 (small_one (by omega) (by omega) (by omega) (by omega)) (by rw [rangeSize_one]; split <;> omega) (by rw [sizeLine_eq]; omega) ?_
  intro g7
  refine comp_gen (fun i zs σ => σ = (Pr, W.listOf pvs.toArray kP) :: (U, W.listOf (bArr cs.length fun q => unsAny infs (jp (cs.map jt)) q (clAt infs q)) kU) :: (b, instObj 100 db) :: (db, dictOf bes bn) :: (H, W.listOf hvs.toArray kH) :: (A, W.listOf (infs.map fun i => Value.ref i.x).toArray kA) :: (dm, om) :: (Df, LCg.lst ys) :: (a2, W.listOf vs2.toArray k2) :: (a1, W.listOf vs1.toArray k1) :: (L + 1 + 1 + 1 + 1, c1) :: (L + 1 + 1 + 1, o7) :: (L + 1 + 1, o6) :: (L + 1, o5) :: tl ∧ IntsAre zs ((List.range i).map fun q => Builtin.bitOr (ms.getD q 0) (mget kvs (formAt (cs.map jt) q)))) ⟨rfl, .nil⟩ ?_ ?_
  · rintro i v zs σ I oI C oC D m₂ h tk E' hi ⟨tv, rfl⟩ ⟨rfl, hzs⟩ hC hx F N off ne
    rw [Int.zero_add] at hx
    have hi2 : i < ms.length := by omega
    obtain ⟨th, hx1⟩ := hms1.get i (ms.getD i 0) (by rw [List.getD_eq_getElem?_getD, List.getElem?_eq_getElem hi2]; rfl)
    obtain ⟨tf, hx2⟩ := hvf.get i (formAt (cs.map jt) i) (by simp [hi])
    have hx3 : hvs[(i : Int).toNat]? = some (Value.int (ms.getD i 0) th) := by simpa using hx1
    have hx4 : ys[(i : Int).toNat]? = some (Value.str (formAt (cs.map jt) i) tf) := by simpa using hx2
    (repeat' ((fail_if_success (with_reducible show LCg.CompSrc _ _ _ _ _ _ _ _ _ _ _ _ _ _)); (fail_if_success (with_reducible show wpAny _ _ (pyIter (Value.ref _)) _ _ _)); (fail_if_success (with_reducible show wpAny _ _ (exec (Stmt.While _ _ _ _) _) _ _ _)); (fail_if_success (with_reducible show wpAny _ _ (compareOp _ (Value.ref _) (Value.ref _)) _ _ _)); first | walk1 | (dsimp only; walk1)))
    rename Fr _ _ _ _ => Fq
    rename News _ _ _ _ => Nq
    refine gdict_get2 (Nq.get (show (dm, om) ∈ _ by k_mem)) hod hms (strKind_is _ _ _ _) ?_
    rw [(mget_getD hval _ _).choose_spec]
    (repeat' ((fail_if_success (with_reducible show LCg.CompSrc _ _ _ _ _ _ _ _ _ _ _ _ _ _)); (fail_if_success (with_reducible show wpAny _ _ (pyIter (Value.ref _)) _ _ _)); (fail_if_success (with_reducible show wpAny _ _ (exec (Stmt.While _ _ _ _) _) _ _ _)); (fail_if_success (with_reducible show wpAny _ _ (compareOp _ (Value.ref _) (Value.ref _)) _ _ _)); first | walk1 | (dsimp only; walk1)))
    walk_at "my_cend"
    case σ => exact (Pr, W.listOf pvs.toArray kP) :: (U, W.listOf (bArr cs.length fun q => unsAny infs (jp (cs.map jt)) q (clAt infs q)) kU) :: (b, instObj 100 db) :: (db, dictOf bes bn) :: (H, W.listOf hvs.toArray kH) :: (A, W.listOf (infs.map fun i => Value.ref i.x).toArray kA) :: (dm, om) :: (Df, LCg.lst ys) :: (a2, W.listOf vs2.toArray k2) :: (a1, W.listOf vs1.toArray k1) :: (L + 1 + 1 + 1 + 1, c1) :: (L + 1 + 1 + 1, o7) :: (L + 1 + 1, o6) :: (L + 1, o5) :: tl
    case sub => exact fun p hp => hp
    case off => exact off
    case hS => trivial
    refine ⟨rfl, ?_⟩
    rw [List.range_succ, List.map_append]
    exact IntsAre.append hzs (.cons _ _ .nil)
  rintro zs σ ⟨rfl, hzs⟩
  (repeat' ((fail_if_success (with_reducible show LCg.CompSrc _ _ _ _ _ _ _ _ _ _ _ _ _ _)); (fail_if_success (with_reducible show wpAny _ _ (PySem.call (Value.ref 170) _) _ _ _)); (fail_if_success (with_reducible show wpAny _ _ (PySem.call (Value.ref 90) _) _ _ _)); (fail_if_success (with_reducible show wpAny _ _ (compareOp _ _ _) _ _ _)); first | walk1 | (dsimp only; walk1)))
  rename_i Du h8 tk8 F8 N8 o8
  clear o8
  refine LCg.CompSrc.ledger rfl (by assumption) (by assumption) (show (A, W.listOf (infs.map fun i => Value.ref i.x).toArray kA) ∈ (Du, LCg.lst zs) :: (Pr, W.listOf pvs.toArray kP) :: (U, W.listOf (bArr cs.length fun q => unsAny infs (jp (cs.map jt)) q (clAt infs q)) kU) :: (b, instObj 100 db) :: (db, dictOf bes bn) :: (H, W.listOf hvs.toArray kH) :: (A, W.listOf (infs.map fun i => Value.ref i.x).toArray kA) :: (dm, om) :: (Df, LCg.lst ys) :: (a2, W.listOf vs2.toArray k2) :: (a1, W.listOf vs1.toArray k1) :: (L + 1 + 1 + 1 + 1, c1) :: (L + 1 + 1 + 1, o7) :: (L + 1 + 1, o6) :: (L + 1, o5) :: tl by k_mem) (by rw [sizeLine_eq, List.size_toArray, hz]; omega) ?_
  intro g9
  refine comp_gen (fun i xs σ => σ = (Du, LCg.lst zs) :: (Pr, W.listOf pvs.toArray kP) :: (U, W.listOf (bArr cs.length fun q => unsAny infs (jp (cs.map jt)) q (clAt infs q)) kU) :: (b, instObj 100 db) :: (db, dictOf bes bn) :: (H, W.listOf hvs.toArray kH) :: (A, W.listOf (infs.map fun i => Value.ref i.x).toArray kA) :: (dm, om) :: (Df, LCg.lst ys) :: (a2, W.listOf vs2.toArray k2) :: (a1, W.listOf vs1.toArray k1) :: (L + 1 + 1 + 1 + 1, c1) :: (L + 1 + 1 + 1, o7) :: (L + 1 + 1, o6) :: (L + 1, o5) :: tl ∧ IntsAre xs ((infs.map (·.mask)).take i)) ⟨rfl, .nil⟩ ?_ ?_
  · rintro i v xs σ I oI C oC D m₂ h tk E' hi hv ⟨rfl, hxs⟩ hC hx F N off ne
    rw [List.size_toArray, hz] at hi
    have ha : infs[i]? = some infs[i] := by simp [hi]
    generalize infs[i] = a at ha
    obtain rfl : v = Value.ref a.x := by
      have : (infs.map fun i => Value.ref i.x)[i]? = some v := by simpa using hv
      rw [List.getElem?_map, ha] at this; exact (Option.some.inj this).symm
    have ham := List.mem_of_getElem? ha
    obtain ⟨x1, x2⟩ := htl a ham
    obtain ⟨tq, hun⟩ := (hJ.ok a ham).mask
    (repeat' ((fail_if_success (with_reducible show LCg.CompSrc _ _ _ _ _ _ _ _ _ _ _ _ _ _)); (fail_if_success (with_reducible show wpAny _ _ (pyIter (Value.ref _)) _ _ _)); (fail_if_success (with_reducible show wpAny _ _ (exec (Stmt.While _ _ _ _) _) _ _ _)); (fail_if_success (with_reducible show wpAny _ _ (compareOp _ (Value.ref _) (Value.ref _)) _ _ _)); first | walk1 | (dsimp only; walk1)))
    walk_at "my_cend"
    case σ => exact (Du, LCg.lst zs) :: (Pr, W.listOf pvs.toArray kP) :: (U, W.listOf (bArr cs.length fun q => unsAny infs (jp (cs.map jt)) q (clAt infs q)) kU) :: (b, instObj 100 db) :: (db, dictOf bes bn) :: (H, W.listOf hvs.toArray kH) :: (A, W.listOf (infs.map fun i => Value.ref i.x).toArray kA) :: (dm, om) :: (Df, LCg.lst ys) :: (a2, W.listOf vs2.toArray k2) :: (a1, W.listOf vs1.toArray k1) :: (L + 1 + 1 + 1 + 1, c1) :: (L + 1 + 1 + 1, o7) :: (L + 1 + 1, o6) :: (L + 1, o5) :: tl
    case sub => exact fun p hp => hp
    case off => exact off
    case hS => exact .inr ⟨_, by k_mem, rfl, _, rfl⟩
    refine ⟨rfl, ?_⟩
    rw [List.take_add_one, List.getElem?_map, ha]
    exact IntsAre.append hxs (.cons _ _ .nil)
  rintro xs σ ⟨rfl, hxs⟩
  rw [List.take_of_length_le (by simp)] at hxs
  (repeat' ((fail_if_success (with_reducible show LCg.CompSrc _ _ _ _ _ _ _ _ _ _ _ _ _ _)); (fail_if_success (with_reducible show wpAny _ _ (PySem.call (Value.ref 170) _) _ _ _)); (fail_if_success (with_reducible show wpAny _ _ (PySem.call (Value.ref 90) _) _ _ _)); (fail_if_success (with_reducible show wpAny _ _ (compareOp _ _ _) _ _ _)); first | walk1 | (dsimp only; walk1)))
  rename_i Dx h9 tk9 F9 N9 o9
  clear o9
  refine same_eq (n := 2) (d := .list ((infs.map (·.mask)).map .int)) (LR.ofN N9 (.head _) (LRs.ofInts hxs)) (LR.ofN N9 (.tail _ (.head _)) (LRs.ofInts (by rw [hmall]; exact hzs))) (okD.list fun d hd => by
    have hTmp := List.mem_map.mp hd
    refine hide fun gX gk => ?_
    obtain ⟨x, _, rfl⟩ := hTmp
    refine gk ?_
    clear gk gX
    exact okD.int x) (by show un + 2 < _; omega) ?_
  replace N9 : News g L h9 ((Pr, W.listOf pvs.toArray kP) :: (U, W.listOf (bArr cs.length fun q => unsAny infs (jp (cs.map jt)) q (clAt infs q)) kU) :: (b, instObj 100 db) :: (db, dictOf bes bn) :: (H, W.listOf hvs.toArray kH) :: (A, W.listOf (infs.map fun i => Value.ref i.x).toArray kA) :: (dm, om) :: (Df, LCg.lst ys) :: (a2, W.listOf vs2.toArray k2) :: (a1, W.listOf vs1.toArray k1) :: (L + 1 + 1 + 1 + 1, c1) :: (L + 1 + 1 + 1, o7) :: (L + 1 + 1, o6) :: (L + 1, o5) :: tl) := News.sub N9 fun q hq => .tail _ (.tail _ hq)
  clear hxs F8
  (repeat' ((fail_if_success (with_reducible show LCg.CompSrc _ _ _ _ _ _ _ _ _ _ _ _ _ _)); (fail_if_success (with_reducible show wpAny _ _ (PySem.call (Value.ref 170) _) _ _ _)); (fail_if_success (with_reducible show wpAny _ _ (PySem.call (Value.ref 90) _) _ _ _)); (fail_if_success (with_reducible show wpAny _ _ (compareOp _ _ _) _ _ _)); first | walk1 | (dsimp only; walk1)))
  refine LCg.CompSrc.ledger rfl (by assumption) (by assumption) (show (A, W.listOf (infs.map fun i => Value.ref i.x).toArray kA) ∈ (Pr, W.listOf pvs.toArray kP) :: (U, W.listOf (bArr cs.length fun q => unsAny infs (jp (cs.map jt)) q (clAt infs q)) kU) :: (b, instObj 100 db) :: (db, dictOf bes bn) :: (H, W.listOf hvs.toArray kH) :: (A, W.listOf (infs.map fun i => Value.ref i.x).toArray kA) :: (dm, om) :: (Df, LCg.lst ys) :: (a2, W.listOf vs2.toArray k2) :: (a1, W.listOf vs1.toArray k1) :: (L + 1 + 1 + 1 + 1, c1) :: (L + 1 + 1 + 1, o7) :: (L + 1 + 1, o6) :: (L + 1, o5) :: tl by k_mem) (by rw [sizeLine_eq, List.size_toArray, hz]; omega) ?_
  intro g9
  refine comp_gen (fun i xs σ => σ = (Pr, W.listOf pvs.toArray kP) :: (U, W.listOf (bArr cs.length fun q => unsAny infs (jp (cs.map jt)) q (clAt infs q)) kU) :: (b, instObj 100 db) :: (db, dictOf bes bn) :: (H, W.listOf hvs.toArray kH) :: (A, W.listOf (infs.map fun i => Value.ref i.x).toArray kA) :: (dm, om) :: (Df, LCg.lst ys) :: (a2, W.listOf vs2.toArray k2) :: (a1, W.listOf vs1.toArray k1) :: (L + 1 + 1 + 1 + 1, c1) :: (L + 1 + 1 + 1, o7) :: (L + 1 + 1, o6) :: (L + 1, o5) :: tl ∧ IntsAre xs ((infs.map (·.code)).take i)) ⟨rfl, .nil⟩ ?_ ?_
  · rintro i v xs σ I oI C oC D m₂ h tk E' hi hv ⟨rfl, hxs⟩ hC hx F N off ne
    rw [List.size_toArray, hz] at hi
    have ha : infs[i]? = some infs[i] := by simp [hi]
    generalize infs[i] = a at ha
    obtain rfl : v = Value.ref a.x := by
      have : (infs.map fun i => Value.ref i.x)[i]? = some v := by simpa using hv
      rw [List.getElem?_map, ha] at this; exact (Option.some.inj this).symm
    have ham := List.mem_of_getElem? ha
    obtain ⟨x1, x2⟩ := htl a ham
    obtain ⟨tq, hun⟩ := (hJ.ok a ham).code
    (repeat' ((fail_if_success (with_reducible show LCg.CompSrc _ _ _ _ _ _ _ _ _ _ _ _ _ _)); (fail_if_success (with_reducible show wpAny _ _ (pyIter (Value.ref _)) _ _ _)); (fail_if_success (with_reducible show wpAny _ _ (exec (Stmt.While _ _ _ _) _) _ _ _)); (fail_if_success (with_reducible show wpAny _ _ (compareOp _ (Value.ref _) (Value.ref _)) _ _ _)); first | walk1 | (dsimp only; walk1)))
    walk_at "my_cend"
    case σ => exact (Pr, W.listOf pvs.toArray kP) :: (U, W.listOf (bArr cs.length fun q => unsAny infs (jp (cs.map jt)) q (clAt infs q)) kU) :: (b, instObj 100 db) :: (db, dictOf bes bn) :: (H, W.listOf hvs.toArray kH) :: (A, W.listOf (infs.map fun i => Value.ref i.x).toArray kA) :: (dm, om) :: (Df, LCg.lst ys) :: (a2, W.listOf vs2.toArray k2) :: (a1, W.listOf vs1.toArray k1) :: (L + 1 + 1 + 1 + 1, c1) :: (L + 1 + 1 + 1, o7) :: (L + 1 + 1, o6) :: (L + 1, o5) :: tl
    case sub => exact fun p hp => hp
    case off => exact off
    case hS => exact .inr ⟨_, by k_mem, rfl, _, rfl⟩
    refine ⟨rfl, ?_⟩
    rw [List.take_add_one, List.getElem?_map, ha]
    exact IntsAre.append hxs (.cons _ _ .nil)
  rintro xs σ ⟨rfl, hxs⟩
  rw [List.take_of_length_le (by simp), hJ.codes] at hxs
  (repeat' ((fail_if_success (with_reducible show LCg.CompSrc _ _ _ _ _ _ _ _ _ _ _ _ _ _)); (fail_if_success (with_reducible show wpAny _ _ (PySem.call (Value.ref 170) _) _ _ _)); (fail_if_success (with_reducible show wpAny _ _ (PySem.call (Value.ref 90) _) _ _ _)); (fail_if_success (with_reducible show wpAny _ _ (compareOp _ _ _) _ _ _)); first | walk1 | (dsimp only; walk1)))
  rename_i Dy h10 tk10 F10 N10 o10
  clear o10
  refine same_eq (n := 2) (d := .list (cs.map .int)) (LR.ofN N10 (.head _) (LRs.ofInts hxs)) (LR.ofN (vs := vs1) (k := k1) N10 (.tail _ (by k_mem)) (LRs.ofInts hB0.v1)) (okD.list fun d hd => by
    have hTmp := List.mem_map.mp hd
    refine hide fun gX gk => ?_
    obtain ⟨x, _, rfl⟩ := hTmp
    refine gk ?_
    clear gk gX
    exact okD.int x) (by show un + 2 < _; omega) ?_
  (repeat' ((fail_if_success (with_reducible show LCg.CompSrc _ _ _ _ _ _ _ _ _ _ _ _ _ _)); (fail_if_success (with_reducible show wpAny _ _ (PySem.call (Value.ref 170) _) _ _ _)); (fail_if_success (with_reducible show wpAny _ _ (PySem.call (Value.ref 90) _) _ _ _)); (fail_if_success (with_reducible show wpAny _ _ (compareOp _ _ _) _ _ _)); first | walk1 | (dsimp only; walk1)))
  exact hQ h10 tk10 _ _ F10 N10
end
section
theorem calm_30 : True := by w_top off; exact True.intro
theorem law_body (w : World) (hR : Rest w 11 (S1 w)) : BodyC (hd.heap_1 w.params) 284 (fun name scope body =>
    ∀ (f : Addr) (cdv : Value) (g : Heap) (L : Addr) (dp un : Nat) (gd : Option (List Code)) (outer : List Env) (A₀ : Around) (base : Heap) (p : Program) (loose : List Str) (mean : ExcName → Option Value) (mg mb : Str → Option Value) (s : Shared) (cells : List (Addr × Obj)) (l : Addr) (vs : List Value) (ns : List Int) (Q : Flow → Shared → Prop),
      g.IsList l vs.toArray → IntsAre vs ns → ns.length ≤ 63 →
      Fr g L s.heap (bindL (envOfC name scope L f cdv).kindOf [(Str.ofString "script", .ref l)] fun _ => none) → News g L s.heap cells →
      CellsAre (bindC (envOfC name scope L f cdv).kindOf [(Str.ofString "script", .ref l)] fun _ => none) (cellsFrom (L + 1) scope.names []) cells →
      Below A₀ base outer g → (hd.heap_1 w.params).In g → Top p loose mean mg mb g → dp + 19 < recursionLimit → un + 97 < cLine →
      (∀ h' tk m' σ, Fr g L h' m' → News g L h' σ → Q (.ret (.bool true)) { s with heap := h', toks := tk }) →
      wpAny (model PySem.Challenge.rw_nu0160_01.row.prog w) (ktrTop dp un gd name scope L f cdv (cellsFrom (L + 1) scope.names []) outer) (execs body (envX name scope L f cdv (cellsFrom (L + 1) scope.names []))) Q (fun _ _ => False) s) := by
  have e : PySem.Challenge.rw_nu0160_01 = PySem.Challenge.rw_nu0160_01 := rfl
  revert e
  k_fill
  intro _
  refine' BodyC.intro (ho := ?ho) (h := ?hb)
  case ho => k_is
  case hb =>
  have hL256 := accT_len
  intro f cdv g L dp un gd outer A₀ base p loose mean mg mb s cells l vs ns Q hl hi hlen F N Y B X T hd hu hQ
  k_cells Y
  rename_i c1 c2 c3 c4 hc1 hc2 hc3 hc4
  replace hc1 : c1.data = .cell none := hc1
  replace hc2 : c2.data = .cell none := hc2
  replace hc3 : c3.data = .cell none := hc3
  replace hc4 : c4.data = .cell none := hc4
  (repeat' ((fail_if_success (with_reducible show LCg.CompSrc _ _ _ _ _ _ _ _ _ _ _ _ _ _)); (fail_if_success (with_reducible show wpAny _ _ (pyIter (Value.ref _)) _ _ _)); (fail_if_success (with_reducible show wpAny _ _ (exec (Stmt.While _ _ _ _) _) _ _ _)); (fail_if_success (with_reducible show wpAny _ _ (compareOp _ (Value.ref _) (Value.ref _)) _ _ _)); first | walk1 | (dsimp only; walk1)))
  rename Fr _ _ _ _ => F1
  rename News _ _ _ _ => N1
  refine' Spec.call0 (box_ok _ (l := l) ?hl hi hlen) ?B ?F ?X ?T ?N ?hk ?hd ?hu ?_
  case hl => exact hl.at fun o e => F1.keep _ o e
  walk_at "my_args"
  rintro v h2 tk2 nw2 F2 N2 K2 off2 hTmp
  refine hide fun gX gk => ?_
  obtain ⟨P, cl, ws, kc, cz, pool, rfl, hP, hcl, hws, hcs40, hpok, hpl0, hne⟩ := hTmp
  refine gk ?_
  clear gk gX
  have hclP : @Ne Nat cl P := hne
  have hcP : ((@Ne Nat (L + 1 + 1 + 1 + 1) P) ∧ (@Ne Nat (L + 1 + 1 + 1) P) ∧ (@Ne Nat (L + 1 + 1) P) ∧ (@Ne Nat (L + 1) P)) := ⟨off2 _ hP (_, c1) (by simp), off2 _ hP (_, c2) (by simp), off2 _ hP (_, c3) (by simp), off2 _ hP (_, c4) (by simp)⟩
  have hcC : ((@Ne Nat (L + 1 + 1 + 1 + 1) cl) ∧ (@Ne Nat (L + 1 + 1 + 1) cl) ∧ (@Ne Nat (L + 1 + 1) cl) ∧ (@Ne Nat (L + 1) cl)) := ⟨off2 _ hcl (_, c1) (by simp), off2 _ hcl (_, c2) (by simp), off2 _ hcl (_, c3) (by simp), off2 _ hcl (_, c4) (by simp)⟩
  replace N2 : News g L h2 [(P, pool.obj cl), (cl, W.listOf ws kc), (L + 1 + 1 + 1 + 1, c1), (L + 1 + 1 + 1, c2), (L + 1 + 1, c3), (L + 1, c4)] := by
    refine News.sub N2 fun p hp => ?_
    simp only [List.mem_cons, List.mem_append, List.not_mem_nil, or_false] at hp ⊢
    rcases hp with rfl | rfl | h | h | h | h <;> simp [*]
  clear off2
  (repeat' ((fail_if_success (with_reducible show LCg.CompSrc _ _ _ _ _ _ _ _ _ _ _ _ _ _)); (fail_if_success (with_reducible show wpAny _ _ (pyIter (Value.ref _)) _ _ _)); (fail_if_success (with_reducible show wpAny _ _ (exec (Stmt.While _ _ _ _) _) _ _ _)); (fail_if_success (with_reducible show wpAny _ _ (compareOp _ (Value.ref _) (Value.ref _)) _ _ _)); first | walk1 | (dsimp only; walk1)))
  refine' Spec.callP (letters_ok _) ?B ?F ?X ?T ?N ?hk ?hd ?hu ?_
  walk_at "my_args"
  rintro v h3 tk3 nw3 F3 N3 K3 ⟨tl, rfl⟩
  (repeat' ((fail_if_success (with_reducible show LCg.CompSrc _ _ _ _ _ _ _ _ _ _ _ _ _ _)); (fail_if_success (with_reducible show wpAny _ _ (pyIter (Value.ref _)) _ _ _)); (fail_if_success (with_reducible show wpAny _ _ (exec (Stmt.While _ _ _ _) _) _ _ _)); (fail_if_success (with_reducible show wpAny _ _ (compareOp _ (Value.ref _) (Value.ref _)) _ _ _)); first | walk1 | (dsimp only; walk1)))
  rename_i a1 _ la1 _ _ a2 _ la2 _ o5 F5 N5 hd5
  refine draw_call (σ' := [(a2, W.listOf #[] 0), (a1, W.listOf #[] 0), (cl, W.listOf ws kc), (L + 1 + 1 + 1 + 1, c1), (L + 1 + 1 + 1, c2), (L + 1 + 1, c3), (L + 1, o5)]) (by k_mem) hclP hws hcs40 hpok (by omega) (by omega) (by omega) B F5 X T N5 (by k_mem) (hr_of (by ((repeat' (first | exact fun q hq => absurd hq List.not_mem_nil | refine List.forall_mem_cons.mpr ⟨by k_mem, ?_⟩ | (intro q hq; (repeat' (first | exact hq | refine List.Mem.tail _ ?_))))))) (by ((simp only [OffN, and_true]; (try dsimp only); (repeat' (refine And.intro ?_ ?_)); all_goals (first | assumption | k_ne))))) rfl (by omega) (by omega) ?_
  intro r0 t0 p0 h6 tk6 hr0 hr1 F6 N6 hp0 hpl
  (repeat' ((fail_if_success (with_reducible show LCg.CompSrc _ _ _ _ _ _ _ _ _ _ _ _ _ _)); (fail_if_success (with_reducible show wpAny _ _ (pyIter (Value.ref _)) _ _ _)); (fail_if_success (with_reducible show wpAny _ _ (exec (Stmt.While _ _ _ _) _) _ _ _)); (fail_if_success (with_reducible show wpAny _ _ (compareOp _ (Value.ref _) (Value.ref _)) _ _ _)); first | walk1 | (dsimp only; walk1)))
  rename_i h7 tk7 t7 u7 v7 hr7 F7 N7 K7
  obtain ⟨n7, hn7⟩ : ∃ n7 : Nat, 1 + r0 = (n7 : Int) := ⟨(1 + r0).toNat, by omega⟩
  rw [hn7] at hr7
  refine iter_range0 (n := n7) (J1 P cl a1 a2 [(cl, W.listOf ws kc), (L + 1 + 1 + 1 + 1, c1), (L + 1 + 1 + 1, c2), (L + 1 + 1, c3), (L + 1, o5)] tl) rfl F7 N7 hr7 rfl (by omega)
    ⟨p0, [], [], [], _, _, rfl, hp0, by omega, .nil, .nil, rfl, by rfl, by rfl, by rfl⟩ ?_ ?_
  · rintro i ti m σ h₁ tk I io hi' hTmp
    refine hide fun gX gk => ?_
    obtain ⟨pp, cs, vs1, vs2, k1, k2, rfl, hp1, hpl1, hvs1, hvs2, hcl1, hm1, hm2, hm3⟩ := hTmp
    refine gk ?_
    clear gk gX
    rintro F₁ N₁ off hic
    have off0 := off
    replace off := offN_of off
    simp only [OffN, and_true] at off
    (repeat' ((fail_if_success (with_reducible show LCg.CompSrc _ _ _ _ _ _ _ _ _ _ _ _ _ _)); (fail_if_success (with_reducible show wpAny _ _ (pyIter (Value.ref _)) _ _ _)); (fail_if_success (with_reducible show wpAny _ _ (exec (Stmt.While _ _ _ _) _) _ _ _)); (fail_if_success (with_reducible show wpAny _ _ (compareOp _ (Value.ref _) (Value.ref _)) _ _ _)); first | walk1 | (dsimp only; walk1)))
    rename Fr _ _ _ _ => F8
    rename News _ _ _ _ => N8
    refine draw_call (σ' := [(I, io), (a2, W.listOf vs2.toArray k2), (a1, W.listOf vs1.toArray k1), (cl, W.listOf ws kc), (L + 1 + 1 + 1 + 1, c1), (L + 1 + 1 + 1, c2), (L + 1 + 1, c3), (L + 1, o5)]) (by k_mem) hclP hws hcs40 hp1 (by omega) (by omega) (by omega) B F8 X T N8 (by k_mem) (hr_of (by ((repeat' (first | exact fun q hq => absurd hq List.not_mem_nil | refine List.forall_mem_cons.mpr ⟨by k_mem, ?_⟩ | (intro q hq; (repeat' (first | exact hq | refine List.Mem.tail _ ?_))))))) (by ((simp only [OffN, and_true]; (try dsimp only); (repeat' (refine And.intro ?_ ?_)); all_goals (first | assumption | k_ne))))) rfl (by omega) (by omega) ?_
    intro r1 t1 p1 h9 tk9 hr10 hr11 F9 N9 hp9 hpl9
    (repeat' ((fail_if_success (with_reducible show LCg.CompSrc _ _ _ _ _ _ _ _ _ _ _ _ _ _)); (fail_if_success (with_reducible show wpAny _ _ (pyIter (Value.ref _)) _ _ _)); (fail_if_success (with_reducible show wpAny _ _ (exec (Stmt.While _ _ _ _) _) _ _ _)); (fail_if_success (with_reducible show wpAny _ _ (compareOp _ (Value.ref _) (Value.ref _)) _ _ _)); first | walk1 | (dsimp only; walk1)))
    all_goals (
      rename Fr _ _ _ _ => F10
      rename News _ _ _ _ => N10
      refine J1.step F10 N10 ⟨by omega, by omega, by omega⟩ (fun q hq => off0 q (.tail _ (.tail _ (.tail _ hq)))) hp9 (by omega) hvs1 hvs2 hcl1 ?_ hm1 hm2 hm3
      first | exact letters_at hr10 (by assumption) | decide)
  · rintro m σ h₁ tk hTmp
    refine hide fun gX gk => ?_
    obtain ⟨pp, cs, vs1, vs2, k1, k2, rfl, hp1, hpl1, hvs1, hvs2, hcl1, hm1, hm2, hm3⟩ := hTmp
    refine gk ?_
    clear gk gX
    rintro F₁ N₁
    (repeat' ((fail_if_success (with_reducible show LCg.CompSrc _ _ _ _ _ _ _ _ _ _ _ _ _ _)); (fail_if_success (with_reducible show wpAny _ _ (pyIter (Value.ref _)) _ _ _)); (fail_if_success (with_reducible show wpAny _ _ (exec (Stmt.While _ _ _ _) _) _ _ _)); (fail_if_success (with_reducible show wpAny _ _ (compareOp _ (Value.ref _) (Value.ref _)) _ _ _)); first | walk1 | (dsimp only; walk1)))
    have hn12 : n7 ≤ 12 := by omega
    have hV1 : ∀ _ : Unit, IntsAre vs1 cs := fun _ => hvs1
    have hl1 := hvs1.length
    have hl2 := hvs2.length
    refine LCg.CompSrc.ledger rfl (by assumption) (by assumption) (.tail _ (.tail _ (.head _))) (by rw [sizeLine_eq, List.size_toArray]; omega) ?_
    intro g1
    refine comp_gen (fun i ys σ => σ = [(P, pp.obj cl), (a2, W.listOf vs2.toArray k2), (a1, W.listOf vs1.toArray k1), (cl, W.listOf ws kc), (L + 1 + 1 + 1 + 1, c1), (L + 1 + 1 + 1, c2), (L + 1 + 1, c3), (L + 1, o5)] ∧ StrsAre ys ((cs.map jt).take i)) ⟨rfl, .nil⟩ ?_ ?_
    · --B2
      rintro i v ys σ I oI C oC D2 m₂ h tk E' hi' hv ⟨rfl, hys⟩ hC hx F N off ne
      rw [List.size_toArray, hl1] at hi'
      have ha : cs[i]? = some cs[i] := by simp [hi']
      generalize cs[i] = c at ha
      obtain ⟨t, hc1'⟩ := hvs1.get i c ha
      obtain rfl : v = Value.int c t := by
        have : vs1[i]? = some v := by simpa using hv
        rw [hc1'] at this; exact (Option.some.inj this).symm
      (repeat' ((fail_if_success (with_reducible show LCg.CompSrc _ _ _ _ _ _ _ _ _ _ _ _ _ _)); (fail_if_success (with_reducible show wpAny _ _ (pyIter (Value.ref _)) _ _ _)); (fail_if_success (with_reducible show wpAny _ _ (exec (Stmt.While _ _ _ _) _) _ _ _)); (fail_if_success (with_reducible show wpAny _ _ (compareOp _ (Value.ref _) (Value.ref _)) _ _ _)); first | walk1 | (dsimp only; walk1)))
      walk_at "my_cend"
      case σ => exact [(P, pp.obj cl), (a2, W.listOf vs2.toArray k2), (a1, W.listOf vs1.toArray k1), (cl, W.listOf ws kc), (L + 1 + 1 + 1 + 1, c1), (L + 1 + 1 + 1, c2), (L + 1 + 1, c3), (L + 1, o5)]
      case sub => exact fun p hp => hp
      case off => exact off
      case hS => exact .inr ⟨_, .tail _ (.tail _ (.head _)), rfl, _, rfl⟩
      refine ⟨rfl, ?_⟩
      rw [List.take_add_one, List.getElem?_map, ha]
      exact StrsAre.snoc hys _ _
    · rintro ys σ ⟨rfl, hys⟩
      rw [List.size_toArray, hl1, List.take_of_length_le (by simp)] at hys
      (repeat' ((fail_if_success (with_reducible show LCg.CompSrc _ _ _ _ _ _ _ _ _ _ _ _ _ _)); (fail_if_success (with_reducible show wpAny _ _ (pyIter (Value.ref _)) _ _ _)); (fail_if_success (with_reducible show wpAny _ _ (exec (Stmt.While _ _ _ _) _) _ _ _)); (fail_if_success (with_reducible show wpAny _ _ (compareOp _ (Value.ref _) (Value.ref _)) _ _ _)); first | walk1 | (dsimp only; walk1)))
      rename_i D1 _ _ F10 N10 od1
      have hok2 : okD 2 (.list ((cs.map jt).map .str)) := okD.list fun d hd => by
        have hTmp := List.mem_map.mp hd
        refine hide fun gX gk => ?_
        obtain ⟨x, hx, rfl⟩ := hTmp
        refine gk ?_
        clear gk gX
        have hTmp := List.mem_map.mp hx
        refine hide fun gX gk => ?_
        obtain ⟨c, _, rfl⟩ := hTmp
        refine gk ?_
        clear gk gX
        exact okD.str (jt_ok c)
      refine same_ne (n := 2) (d := .list ((cs.map jt).map .str)) (LR.ofN N10 (.head _) (LRs.ofStrs hys)) (LR.ofN N10 (.tail _ (.tail _ (.head _))) (LRs.ofStrs hvs2)) hok2 (by show un + 2 < _; omega) ?_
      (repeat' ((fail_if_success (with_reducible show LCg.CompSrc _ _ _ _ _ _ _ _ _ _ _ _ _ _)); (fail_if_success (with_reducible show wpAny _ _ (pyIter (Value.ref _)) _ _ _)); (fail_if_success (with_reducible show wpAny _ _ (exec (Stmt.While _ _ _ _) _) _ _ _)); (fail_if_success (with_reducible show wpAny _ _ (compareOp _ (Value.ref _) (Value.ref _)) _ _ _)); first | walk1 | (dsimp only; walk1)))
      rename Fr _ _ _ _ => F11
      rename News _ _ _ _ => N11
      refine' Spec.call0 (types_of_ok _ (cs := cs) ?hp ?len) ?B ?F ?X ?T ?N ?hk ?hd ?hu ?_
      case hp => exact LR.ofN N11 (.tail _ (.tail _ (.tail _ (.head _)))) (LRs.ofInts hvs1)
      case len => omega
      walk_at "my_args"
      rintro v h12 tk12 nw12 F12 N12 K12 off12 hTmp
      refine hide fun gX gk => ?_
      obtain ⟨a3, k3, vs3, rfl, hm3', hs3⟩ := hTmp
      refine gk ?_
      clear gk gX
      (repeat' ((fail_if_success (with_reducible show LCg.CompSrc _ _ _ _ _ _ _ _ _ _ _ _ _ _)); (fail_if_success (with_reducible show wpAny _ _ (pyIter (Value.ref _)) _ _ _)); (fail_if_success (with_reducible show wpAny _ _ (exec (Stmt.While _ _ _ _) _) _ _ _)); (fail_if_success (with_reducible show wpAny _ _ (compareOp _ (Value.ref _) (Value.ref _)) _ _ _)); first | walk1 | (dsimp only; walk1)))
      refine same_ne (n := 2) (d := .list ((cs.map jt).map .str)) (LR.listI (vs := vs3.toList) (n := k3) (by simpa [W.listOf] using (N12 _ (List.mem_append_left _ hm3')).1) (LRs.ofStrs hs3)) (LR.ofN N12 (List.mem_append_right _ (.tail _ (.tail _ (.head _)))) (LRs.ofStrs hvs2)) hok2 (by show un + 2 < _; omega) ?_
      clear off12
      replace N12 : News g L h12 [(P, pp.obj cl), (a2, W.listOf vs2.toArray k2), (a1, W.listOf vs1.toArray k1), (cl, W.listOf ws kc), (L + 1 + 1 + 1 + 1, c1), (L + 1 + 1 + 1, c2), (L + 1 + 1, c3), (L + 1, o5)] := News.sub N12 fun p hp => List.mem_append_right _ (.tail _ hp)
      clear hm3' hs3 K12
      (repeat' ((fail_if_success (with_reducible show LCg.CompSrc _ _ _ _ _ _ _ _ _ _ _ _ _ _)); (fail_if_success (with_reducible show wpAny _ _ (pyIter (Value.ref _)) _ _ _)); (fail_if_success (with_reducible show wpAny _ _ (exec (Stmt.While _ _ _ _) _) _ _ _)); (fail_if_success (with_reducible show wpAny _ _ (compareOp _ (Value.ref _) (Value.ref _)) _ _ _)); first | walk1 | (dsimp only; walk1)))
      rename Fr _ _ _ _ => F13
      rename News _ _ _ _ => N13
      refine draw_call (σ' := [(a2, W.listOf vs2.toArray k2), (a1, W.listOf vs1.toArray k1), (cl, W.listOf ws kc), (L + 1 + 1 + 1 + 1, c1), (L + 1 + 1 + 1, c2), (L + 1 + 1, c3), (L + 1, o5)]) (by k_mem) hclP hws hcs40 hp1 (by omega) (by omega) (by omega) B F13 X T N13 (by k_mem) (hr_of (by ((repeat' (first | exact fun q hq => absurd hq List.not_mem_nil | refine List.forall_mem_cons.mpr ⟨by k_mem, ?_⟩ | (intro q hq; (repeat' (first | exact hq | refine List.Mem.tail _ ?_))))))) (by ((simp only [OffN, and_true]; (try dsimp only); (repeat' (refine And.intro ?_ ?_)); all_goals (first | assumption | k_ne))))) rfl (by omega) (by omega) ?_
      intro r2 t2 p2 h14 tk14 hr20 hr21 F14 N14 hp2 hpl2
      have hlet := letters_at hr20 hr21
      (repeat' ((fail_if_success (with_reducible show LCg.CompSrc _ _ _ _ _ _ _ _ _ _ _ _ _ _)); (fail_if_success (with_reducible show wpAny _ _ (pyIter (Value.ref _)) _ _ _)); (fail_if_success (with_reducible show wpAny _ _ (exec (Stmt.While _ _ _ _) _) _ _ _)); (fail_if_success (with_reducible show wpAny _ _ (compareOp _ (Value.ref _) (Value.ref _)) _ _ _)); first | walk1 | (dsimp only; walk1)))
      · rename (_ != _) = true => hne'
        rw [hlet] at hne'
        simp at hne'
      rename_i h15 tk15 t15 u15 v15 hr15 F15 N15 K15
      have hl3 : vs2.length = cs.length := by rw [hl2]; simp
      obtain ⟨tys, htys⟩ : ∃ tys, tys = cs.map jt := ⟨_, rfl⟩
      have htl : tys.length = cs.length := by rw [htys]; simp
      have htyAt : ∀ i, i < tys.length → isTy (tyAt tys i) := fun i hi => by
        have hi' : i < cs.length := by omega
        rw [htys]
        unfold tyAt
        rw [List.getD_eq_getElem?_getD, List.getElem?_map, List.getElem?_eq_getElem hi']
        exact jt_isTy _
      rw [← htys] at hvs2 hok2
      refine LCg.CompSrc.range (n := vs2.length) rfl (by assumption) (by assumption) hr15 (small_one (by omega) (by omega) (by omega) (by omega)) (by rw [rangeSize_one]; split <;> omega) (by rw [sizeLine_eq]; omega) ?_
      intro g3
      refine comp_gen (fun i ys σ => σ = [(P, p2.obj cl), (a2, W.listOf vs2.toArray k2), (a1, W.listOf vs1.toArray k1), (cl, W.listOf ws kc), (L + 1 + 1 + 1 + 1, c1), (L + 1 + 1 + 1, c2), (L + 1 + 1, c3), (L + 1, o5)] ∧ StrsAre ys ((List.range i).map (formAt tys))) ⟨rfl, StrsAre.nil⟩ ?_ ?_
      · --B3
        rintro i v ys σ I oI C oC D m₂ h tk E' hi ⟨tv, rfl⟩ ⟨rfl, hys⟩ hC hx F N off ne
        rw [Int.zero_add] at hx
        (repeat' ((fail_if_success (with_reducible show LCg.CompSrc _ _ _ _ _ _ _ _ _ _ _ _ _ _)); (fail_if_success (with_reducible show wpAny _ _ (pyIter (Value.ref _)) _ _ _)); (fail_if_success (with_reducible show wpAny _ _ (exec (Stmt.While _ _ _ _) _) _ _ _)); (fail_if_success (with_reducible show wpAny _ _ (compareOp _ (Value.ref _) (Value.ref _)) _ _ _)); first | walk1 | (dsimp only; walk1)))
        rename Fr _ _ _ _ => F16
        rename News _ _ _ _ => N16
        refine' Spec.callP (law_form_ok _ (ts := tys) (a := i) ?hp ?len ?ha htyAt) ?B ?F ?X ?T ?N ?hk ?hd ?hu ?_
        case hp => exact LR.ofN N16 (.tail _ (.tail _ (.tail _ (.tail _ (.head _))))) (LRs.ofStrs hvs2)
        case len => omega
        case ha => omega
        walk_at "my_args"
        rintro v h17 tk17 nw17 F17 N17 K17 ⟨tf, rfl⟩
        (repeat' ((fail_if_success (with_reducible show LCg.CompSrc _ _ _ _ _ _ _ _ _ _ _ _ _ _)); (fail_if_success (with_reducible show wpAny _ _ (pyIter (Value.ref _)) _ _ _)); (fail_if_success (with_reducible show wpAny _ _ (exec (Stmt.While _ _ _ _) _) _ _ _)); (fail_if_success (with_reducible show wpAny _ _ (compareOp _ (Value.ref _) (Value.ref _)) _ _ _)); first | walk1 | (dsimp only; walk1)))
        walk_at "my_cend"
        case σ => exact [(P, p2.obj cl), (a2, W.listOf vs2.toArray k2), (a1, W.listOf vs1.toArray k1), (cl, W.listOf ws kc), (L + 1 + 1 + 1 + 1, c1), (L + 1 + 1 + 1, c2), (L + 1 + 1, c3), (L + 1, o5)]
        case sub => exact fun p hp => hp
        case off => exact off
        case hS => trivial
        exact ⟨rfl, StrsAre.snoc' hys _ _ (by rw [List.range_succ, List.map_append]; rfl)⟩
      · rintro ys σ ⟨rfl, hys⟩
        rw [hl3, ← htl] at hys
        (repeat' ((fail_if_success (with_reducible show LCg.CompSrc _ _ _ _ _ _ _ _ _ _ _ _ _ _)); (fail_if_success (with_reducible show wpAny _ _ (pyIter (Value.ref _)) _ _ _)); (fail_if_success (with_reducible show wpAny _ _ (exec (Stmt.While _ _ _ _) _) _ _ _)); (fail_if_success (with_reducible show wpAny _ _ (compareOp _ (Value.ref _) (Value.ref _)) _ _ _)); first | walk1 | (dsimp only; walk1)))
        rename_i Df _ _ odf _ o6 F18 N18 hd6
        refine' Spec.call0 (forms_of_ok _ (ts := tys) ?hp ?len) ?B ?F ?X ?T ?N ?hk ?hd ?hu ?_
        case hp => exact LR.ofN N18 (.tail _ (.tail _ (.head _))) (LRs.ofStrs hvs2)
        case len => omega
        walk_at "my_args"
        rintro v h19 tk19 nw19 F19 N19 K19 off19 hTmp
        refine hide fun gX gk => ?_
        obtain ⟨a4, k4, vs4, rfl, hm4', hs4⟩ := hTmp
        refine gk ?_
        clear gk gX
        have hok3 : okD 2 (.list (((List.range tys.length).map (formAt tys)).map .str)) := okD.list fun d hd => by
          have hTmp := List.mem_map.mp hd
          refine hide fun gX gk => ?_
          obtain ⟨x, hx, rfl⟩ := hTmp
          refine gk ?_
          clear gk gX
          have hTmp := List.mem_map.mp hx
          refine hide fun gX gk => ?_
          obtain ⟨c, _, rfl⟩ := hTmp
          refine gk ?_
          clear gk gX
          exact okD.str (formAt_ok _ _)
        (repeat' ((fail_if_success (with_reducible show LCg.CompSrc _ _ _ _ _ _ _ _ _ _ _ _ _ _)); (fail_if_success (with_reducible show wpAny _ _ (pyIter (Value.ref _)) _ _ _)); (fail_if_success (with_reducible show wpAny _ _ (exec (Stmt.While _ _ _ _) _) _ _ _)); (fail_if_success (with_reducible show wpAny _ _ (compareOp _ (Value.ref _) (Value.ref _)) _ _ _)); first | walk1 | (dsimp only; walk1)))
        refine same_ne (n := 2) (d := .list (((List.range tys.length).map (formAt tys)).map .str)) (LR.listI (vs := vs4.toList) (n := k4) (by simpa [W.listOf] using (N19 _ (List.mem_append_left _ hm4')).1) (LRs.ofStrs hs4)) (LR.ofN (vs := ys) (k := ys.length) N19 (List.mem_append_right _ (.head _)) (LRs.ofStrs hys)) hok3 (by show un + 2 < _; omega) ?_
        clear off19
        replace N19 : News g L h19 [(P, p2.obj cl), (Df, LCg.lst ys), (a2, W.listOf vs2.toArray k2), (a1, W.listOf vs1.toArray k1), (cl, W.listOf ws kc), (L + 1 + 1 + 1 + 1, c1), (L + 1 + 1 + 1, c2), (L + 1 + 1, o6), (L + 1, o5)] := News.sub N19 fun p hp => by
          refine List.mem_append_right _ ?_
          simp only [List.mem_cons, List.not_mem_nil, or_false] at hp ⊢
          rcases hp with h | h | h | h | h | h | h | h | h <;> simp [h]
        clear hm4' hs4 K19
        repeat' ((fail_if_success (with_reducible show wpAny _ _ (execs (Stmt.For _ _ _ _ _ :: _) _) _ _ _)); first | walk1 | (dsimp only; walk1))
        rename_i dm _ om lom hsm _ _ _ lm h21 o7 F21 N21 hd7
        have hcs12 : cs.length ≤ 12 := by clear hcP hcC hclP odf od1 lm; omega
        have e1 : Ap a2 P := ⟨by clear hcP hcC hclP odf od1 lm; omega⟩
        have e2 : Ap a1 P := ⟨by clear hcP hcC hclP odf od1 lm; omega⟩
        have e3 : Ap a2 (L + 1 + 1 + 1 + 1) := ⟨by clear hcP hcC hclP odf od1 lm; omega⟩
        have e4 : Ap a1 (L + 1 + 1 + 1 + 1) := ⟨by clear hcP hcC hclP odf od1 lm; omega⟩
        have e5 : @LT.lt Nat _ P dm ∧ @LT.lt Nat _ Df dm ∧ @LT.lt Nat _ a2 dm ∧ @LT.lt Nat _ a1 dm ∧ @LT.lt Nat _ cl dm ∧ @LT.lt Nat _ (L + 1 + 1 + 1 + 1) dm ∧ @LT.lt Nat _ (L + 1 + 1 + 1) dm ∧ @LT.lt Nat _ (L + 1 + 1) dm ∧ @LT.lt Nat _ (L + 1) dm := by clear hcP hcC hclP odf od1; omega
        refine hide fun gX gk => ?_
        obtain ⟨b1, b2, b3, b4, b5, b6, b7, b8, b9⟩ := e5
        refine gk ?_
        clear gk gX
        have hp2pl : p2.pl ≤ 20 := by clear hcP hcC hclP odf od1 lm; omega
        rw [htl, htys] at hys
        with_unfolding_all refine BodyC.elim hR (by k_is) f cdv g L dp un gd outer A₀ base p loose mean mg mb { s with heap := h21, toks := _ } Q _ _ F21 N21 ?hS B X T hd hu ?hQ
        case hQ => exact fun h' tk' m' σ F' N' => hQ h' tk' m' σ F' N'
        case hS => exact ⟨dm, P, Df, a2, a1, cl, om, c1, o7, o6, o5, p2, ys, vs2, vs1, k2, k1, kc, ws, cs, cz, rfl, ⟨hcs12, hV1 (), htys ▸ hvs2, hys, hd5, hd6, hd7, hm1⟩, hws, hcs40, hp2, hp2pl, hsm, lom, hc1, hm3,
          ⟨⟨Nat.ne_of_gt b1⟩, ⟨Ne.symm odf.1⟩, e1, e2, ⟨hclP⟩, ⟨hcP.1⟩, ⟨hcP.2.1⟩, ⟨hcP.2.2.1⟩, ⟨hcP.2.2.2⟩⟩,
          ⟨⟨Nat.ne_of_gt b6⟩, ⟨Ne.symm odf.2.2.2.2.1⟩, e3, e4, ⟨Ne.symm hcC.1⟩⟩,
          ⟨⟨Nat.ne_of_lt b2⟩, ⟨Nat.ne_of_lt b3⟩, ⟨Nat.ne_of_lt b4⟩, ⟨Nat.ne_of_lt b5⟩, ⟨Nat.ne_of_lt b7⟩, ⟨Nat.ne_of_lt b8⟩, ⟨Nat.ne_of_lt b9⟩⟩⟩
end
end Mine
local macro_rules | `(tactic| k_qdec) => `(tactic| decide +kernel)
theorem PySem.Challenge.cw_nu0160_01_holds : PySem.Challenge.rw_nu0160_01.Holds := by
  refine Mine.hd ?_
  w_strict (
    k_go0
    all_goals try k_fold
    refine wpAny_noRaise ?_
    rename Heap.IsList _ _ _ => hl
    rename IntsAre _ _ => hi
    rename ¬ _ => hc
    rename Fr _ _ _ _ => hF
    rename News _ _ _ _ => hN
    rename CellsAre _ _ _ => hY
    rename Below _ _ _ _ => hB
    rename Frag.In _ _ => hX
    rename Top _ _ _ _ _ _ => hT
    with_unfolding_all refine Mine.BodyC.elim (Mine.law_body _ (Mine.rest1 _ (Mine.rest2 _ (Mine.rest3 _ (Mine.rest4 _))))) (by k_is) _ _ _ _ _ _ _ _ _ _ _ _ _ _ _ _ _ _ _ _ _ hl hi ?hlen hF hN hY hB hX hT ?hd ?hu ?hQ
    case hlen => omega
    case hd => decide
    case hu => decide
    case hQ =>
      intro h' tk m' σ F' N'
      k_unfold
      (try dsimp only)
      wrow_close)

