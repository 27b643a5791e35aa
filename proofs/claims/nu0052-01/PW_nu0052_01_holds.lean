import PyProof.Rows.All
import Wide.All
import OpenK.AllK
import Wide.FinOn
import PySem.Challenge.RW_nu0052_01
open PySem PySem.W PySem.Spec PySem.Calls PyProof.Rows
set_option Elab.async false
set_option maxRecDepth 100000
set_option maxHeartbeats 8000000
set_option rowWalk.seconds 0
namespace Mine
/-- the statements of the text that the walk looks at: all but three plain assignments -/
def qv : Program := view PySem.Challenge.pw_nu0052_01 [0, 2, 3, 4, 5, 6, 7, 8, 9, 10, 11, 12, 13, 14, 16, 17, 18, 19, 20, 21, 23, 24, 25, 26, 27, 28, 29, 30, 31, 32]

theorem left_of_run {p q : Program} {loose : List Str} {Xt : Shared → Bool} {α : Type} {Yf : Shared → α} {Ya : World → α} {N : Nat} {g0 : Bool} {H₀ : Params → Heap} {gs₀ : Array GenState} {d₀ : Drawn} {k₀ : Nat}
    (open_ : ∀ w : World, (fencedOpening treeTable p w N).map (fun s => (s.heap, s.gens, s.drawn, s.toks)) = some (H₀ w.params, gs₀, d₀, k₀))
    (run : ∀ (w : World) (os : OsState), (topFrom treeTable p w N ⟨H₀ w.params, gs₀, d₀, k₀, os⟩).map (fun s => (openSeen q loose (importedModules p.main.body) Xt g0 s, Yf s)) = some (openGood q loose, Ya w)) : LeftO p q loose Xt Yf Ya N g0 := fun w => by
  obtain ⟨⟨h, gs, d, k, os⟩, e, e'⟩ := Option.map_eq_some_iff.mp (open_ w)
  obtain ⟨rfl, rfl, rfl, rfl⟩ : h = H₀ w.params ∧ gs = gs₀ ∧ d = d₀ ∧ k = k₀ := by simpa using e'
  unfold openEnds
  rw [e]
  exact run w os

theorem opened : ∀ w : World, (fencedOpening treeTable PySem.Challenge.pw_nu0052_01 w 2428).map (fun s => (s.heap, s.gens, s.drawn, s.toks)) = some (boot_heap w.params, Array.mk [], boot_drawn, boot_toks) :=
  boot_open (by kernel_rfl) (by decide +kernel) (by intro s; kernel_rfl)

theorem left_run {H : Hook} (h : ∀ (w : World) (os : OsState), (topFrom treeTable PySem.Challenge.pw_nu0052_01 w 2428 ⟨boot_heap w.params, Array.mk [], boot_drawn, boot_toks, os⟩).map (fun s => (openSeen qv [] (importedModules PySem.Challenge.pw_nu0052_01.main.body) (fun s => xlAt qv [] s && recOk (RowW.records (OpenRow.toRowW PySem.Challenge.rw_nu0052_01.row)) s) true s, Hook.obs H s)) = some (openGood qv [], Hook.val H w)) :
  LeftO PySem.Challenge.rw_nu0052_01.row.prog qv [] (fun s => xlAt qv [] s && recOk (RowW.records (OpenRow.toRowW PySem.Challenge.rw_nu0052_01.row)) s) (Hook.obs H) (Hook.val H) 2428 := left_of_run opened h

section
local macro_rules | `(tactic| o_head $H:term) => `(tactic| (
  refine holds_open (q := qv) (loose := []) (Xt := fun s => xlAt qv [] s && recOk (RowW.records (OpenRow.toRowW PySem.Challenge.rw_nu0052_01.row)) s) (XP := XL qv []) (Yf := Hook.obs $H) (Ya := Hook.val $H) (YP := Hook.says $H) (N := 2428) ?hl (Hook.of $H) (Hook.keeps $H) (fun s e => xl_of s (Bool.and_eq_true_iff.mp e).1) XL.keeps (by rfl) (by rfl) (by rfl) (fun s e => recFacts_of (Bool.and_eq_true_iff.mp e).2) (by rfl) (by first | assumption | decide +kernel) (by decide +kernel) ⟨rfl, rfl, rfl, rfl, rfl, by decide +kernel⟩ ?hw ?hc
  (case hl => refine left_run ?_; intro w os; unfold topFrom; rw [PySem.W.Fast.te14082659384304107361, PySem.W.Fast.te14364793385576792824, PySem.W.Fast.te4187177175401517315]; kernel_rfl)
  skip))
open_top hd for PySem.Challenge.rw_nu0052_01
end
def Kept (own : List (Addr × Obj)) (h h' : Heap) : Prop := ∀ b o, h.get? b = some o → (∀ p ∈ own, p.1 ≠ b) → h'.get? b = some o

def Fresh (own : List (Addr × Obj)) (h : Heap) (own' : List (Addr × Obj)) : Prop := ∀ p ∈ own', (h.get? p.1).isSome = true → ∃ q ∈ own, q.1 = p.1

def Spec (n : Nat) (w : World) (f : Addr) (vs : List Value) (own : List (Addr × Obj)) (Post : Value → List (Addr × Obj) → Prop) : Prop :=
  ∀ (mean : ExcName → Option Value) (mg mb : Str → Option Value) (dp un : Nat) (gd : Option (List Code)) (cn : Str) (cs : Scope) (a : Addr) (ccd : Value) (cl : List (Str × Addr)) (outer : List Env) (A₀ : Around) (base h₀ : Heap) (L : Addr) (m : Str → Option Value) (s : Shared) (Q E : Value → Shared → Prop),
    Below A₀ base outer h₀ → Fr h₀ L s.heap m → (hd.heap_39 w.params).In h₀ → News h₀ L s.heap own → Top qv (looseW qv []) mean mg mb h₀ → cs.kind = .function →
    dp + n < recursionLimit → un + 8 * n < cLine →
    (∀ r own' h' tk', Kept own s.heap h' → Fresh own s.heap own' → News h₀ L h' own' → Post r own' → Q r { s with heap := h', toks := tk' }) →
    wpAny (model PySem.Challenge.rw_nu0052_01.row.prog w) (ktrTop dp un gd cn cs L a ccd cl outer) (call (.ref f) vs) Q E s

def AllNe (d : Addr) : List (Addr × Obj) → Prop
  | [] => True
  | p :: r => @Ne Nat p.1 d ∧ AllNe d r
theorem allNe_of {d : Addr} : ∀ {l : List (Addr × Obj)}, (∀ p ∈ l, p.1 ≠ d) → AllNe d l
  | [], _ => trivial
  | p :: _, h => ⟨h p (.head _), allNe_of fun q hq => h q (.tail _ hq)⟩

def Leave (g : Heap) (s : Shared) (Post : Value → List (Addr × Obj) → Prop) (v : Value) (s' : Shared) : Prop :=
  ∃ L' m' own' h' tk', s' = { s with heap := h', toks := tk' } ∧ Fr g L' h' m' ∧ News g L' h' own' ∧ Post v own'

theorem enter {n : Nat} {prog : Program} {w : World} {K : Frag} {p : Program} {loose : List Str} {mean : ExcName → Option Value} {mg mb : Str → Option Value} {dp un : Nat} {gd : Option (List Code)} {cn : Str} {cs : Scope} {a : Addr} {ccd : Value} {cl : List (Str × Addr)} {outer : List Env} {A₀ : Around} {base h₀ : Heap} {L : Addr} {m : Str → Option Value} {s : Shared} {Q E : Value → Shared → Prop}
    {own : List (Addr × Obj)} {Post : Value → List (Addr × Obj) → Prop} {vs : List Value}
    {name qual : Str} {params : Arguments} {body : List Stmt} {scope : Scope} {dV kV doc pm cdv ct oc : Value} {an od : Option Addr} {osl : Array (Option Value)} {f : Addr} {binds : List (Str × Value)}
    (B : Below A₀ base outer h₀) (F : Fr h₀ L s.heap m) (X₀ : K.In h₀) (N : News h₀ L s.heap own) (T : Top p loose mean mg mb h₀) (hks : cs.kind = .function)
    (hroom : dp + n < recursionLimit)
    (ret : ∀ r own' h' tk', Kept own s.heap h' → Fresh own s.heap own' → News h₀ L h' own' → Post r own' → Q r { s with heap := h', toks := tk' })
    (ho : K.lookup f = some ⟨oc, od, .func (fnOf name qual params body scope dV kV doc pm an cdv ct), osl⟩) (hcd : codeIn K cdv qual = true)
    (hbind : BindsTo s (fnOf name qual params body scope dV kV doc pm an cdv ct) ⟨vs, []⟩ binds) (hloc : ∀ y ∈ binds, scope.names.lookup y.1 = some .local)
    (hco : scope.isCoroutine = false) (hgen : scope.isGenerator = false) (hk : scope.kind = .function)
    (hcell : ∀ x ∈ scope.names, x.2 ≠ .cell)
    (h : ∀ g L' h₁, Fr g L' h₁ (fun y => binds.reverse.lookup y) → News g L' h₁ own → Below (ktrTop dp un gd cn cs L a ccd cl outer) base (envX cn cs L a ccd cl :: outer) g → K.In g → Top p loose mean mg mb g →
      wpAny (model prog w) ((ktrTop dp un gd cn cs L a ccd cl outer).deeper (envOf qual scope L' f cdv)) (execs body (envOf qual scope L' f cdv))
        (fun fl s' => Leave g s Post (match fl with | .ret v => v | _ => .none) s') (fun _ _ => False)
        { s with heap := h₁, toks := s.toks + binds.length }) :
    wpAny (model prog w) (ktrTop dp un gd cn cs L a ccd cl outer) (call (.ref f) vs) Q E s := by
  refine wpAny_call ?_
  have X := X₀.keeps F.keep
  obtain ⟨FG, BG, st, -⟩ := groundX (R := fun _ _ => True) (A := ktrTop dp un gd cn cs L a ccd cl outer) (env := envX cn cs L a ccd cl) B F N rfl rfl hks
  refine codeAny_call_def (fd := fnOf name qual params body scope dV kV doc pm an cdv ct) (body := body) (binds := binds) (by show dp < recursionLimit; omega) (X _ _ ho) rfl (T.nolimit.keeps F.keep) (codeRec_of X hcd) rfl hbind hcell hloc (fun h₁ hns hk₁ => ?_) hco hgen hk
  refine wpAny_mono (h _ s.heap.objs.size h₁ ⟨hns, fun b o e => hk₁ b o (of_hideAll _ e), Nat.le_of_eq (hideAll_size _ _)⟩
    (fun p hp => ⟨hk₁ _ _ (N p hp).1, Nat.ne_of_lt (Heap.lt_size (N p hp).1), hideAll_none _ (List.mem_map_of_mem hp)⟩) BG (X₀.keeps st) (T.keeps st)) (fun fl s' hl => ?_) fun _ _ y => y.elim
  obtain ⟨L', m', own', h', tk', rfl, F', N', hp⟩ := hl
  have kp : Kept own s.heap h' := fun b o e hb => F'.keep b o (hideAll_get _ e fun q => by
    obtain ⟨p, hp, e⟩ := List.mem_map.mp q
    exact hb p hp e)
  have fp : Fresh own s.heap own' := fun p hp e => by
    obtain ⟨o, e⟩ := Option.isSome_iff_exists.mp e
    refine Classical.byContradiction fun c => ?_
    have h1 := (N' p hp).2.2
    rw [hideAll_get _ e fun q => by
      obtain ⟨p', hp', e'⟩ := List.mem_map.mp q
      exact c ⟨p', hp', e'⟩] at h1
    cases h1
  obtain ⟨oL, es, ep, hL, hLd, hLk, hLf⟩ := F.ns
  refine ret _ own' h' tk' kp fp (fun p hp => ⟨(N' p hp).1, fun q => ?_, ?_⟩) hp
  · have h1 := (N' p hp).2.2
    rw [q, hideAll_get _ hL fun q => by
      obtain ⟨p, hp, e⟩ := List.mem_map.mp q
      exact (N p hp).2.1 e] at h1
    cases h1
  · cases q : h₀.get? p.1 with
    | none => rfl
    | some o => have := (N' p hp).2.2; rw [st _ _ q] at this; cases this

section
variable {h₀ h h' : Heap} {L : Addr} {m : Str → Option Value} {own own' news : List (Addr × Obj)}
theorem Kept.fr (k : Kept own h h') (F : Fr h₀ L h m) (N : News h₀ L h own) : Fr h₀ L h' m := by
  obtain ⟨oL, es, ep, hL, r⟩ := F.ns
  refine ⟨⟨oL, es, ep, k L oL hL fun p hp => (N p hp).2.1, r⟩, fun b o e => k b o (F.keep b o e) fun p hp q => ?_, F.above⟩
  have := (N p hp).2.2
  rw [q, e] at this
  cases this
theorem Kept.led (k : Kept own h h') (N : News h₀ L h news) (N' : News h₀ L h' own') (hx : ∀ p ∈ news, p ∈ own' ∨ ∀ q ∈ own, q.1 ≠ p.1) : News h₀ L h' news := by
  intro p hp
  rcases hx p hp with h1 | h1
  · exact N' p h1
  · exact ⟨k _ _ (N p hp).1 h1, (N p hp).2⟩
theorem Kept.read (k : Kept own h h') (N : News h₀ L h news) (hs : ∀ p ∈ own, p ∈ news) (N' : News h₀ L h' own') (hx : ∀ p ∈ own, p ∈ own') : News h₀ L h' news := by
  refine k.led N N' fun p hp => ?_
  by_cases hq : ∀ q ∈ own, q.1 ≠ p.1
  · exact .inr hq
  · have ⟨q, hq1, hq2⟩ : ∃ q ∈ own, q.1 = p.1 := Classical.byContradiction fun c => hq fun q h1 h2 => c ⟨q, h1, h2⟩
    have e1 := (N p hp).1
    have e2 := (N q (hs q hq1)).1
    rw [hq2, e1] at e2
    have : q = p := Prod.ext hq2 (Option.some.inj e2).symm
    exact .inl (hx p (this ▸ hq1))
end

section
variable {n : Nat} {w : World} {f : Addr} {vs : List Value} {own : List (Addr × Obj)} {mean : ExcName → Option Value} {mg mb : Str → Option Value} {dp un : Nat} {gd : Option (List Code)} {cn : Str} {cs : Scope} {a : Addr} {ccd : Value} {cl : List (Str × Addr)} {outer : List Env} {A₀ : Around} {base h₀ : Heap} {L : Addr} {m : Str → Option Value} {s : Shared} {Q E : Value → Shared → Prop} {news : List (Addr × Obj)}

/-- a def that only reads: what comes back is told by P -/
theorem use_read {P : Value → Prop} (S : Spec n w f vs own (fun r own' => own' = own ∧ P r))
    (B : Below A₀ base outer h₀) (F : Fr h₀ L s.heap m) (X : (hd.heap_39 w.params).In h₀) (N : News h₀ L s.heap news) (T : Top qv (looseW qv []) mean mg mb h₀) (hk : cs.kind = .function)
    (hs : ∀ p ∈ own, p ∈ news) (hd : dp + n < recursionLimit) (hu : un + 8 * n < cLine)
    (h : ∀ r h' tk', Fr h₀ L h' m → News h₀ L h' news → P r → Q r { s with heap := h', toks := tk' }) :
    wpAny (model PySem.Challenge.rw_nu0052_01.row.prog w) (ktrTop dp un gd cn cs L a ccd cl outer) (call (.ref f) vs) Q E s := by
  have No : News h₀ L s.heap own := fun p hp => N p (hs p hp)
  refine S mean mg mb dp un gd cn cs a ccd cl outer A₀ base h₀ L m s Q E B F X No T hk hd hu ?_
  rintro r own' h' tk' k - N' ⟨rfl, hp⟩
  exact h r h' tk' (k.fr F No) (k.read N hs N' fun _ h => h) hp

/-- a def that only reads and hands back a new list -/
theorem use_list {P : List Value → Prop} (S : Spec n w f vs own (fun r own' => ∃ l us c, r = .ref l ∧ own' = (l, listOf us.toArray c) :: own ∧ (∀ q ∈ own, q.1 ≠ l) ∧ P us))
    (B : Below A₀ base outer h₀) (F : Fr h₀ L s.heap m) (X : (hd.heap_39 w.params).In h₀) (N : News h₀ L s.heap news) (T : Top qv (looseW qv []) mean mg mb h₀) (hk : cs.kind = .function)
    (hs : ∀ p ∈ own, p ∈ news) (hd : dp + n < recursionLimit) (hu : un + 8 * n < cLine)
    (h : ∀ l us c h' tk', Fr h₀ L h' m → News h₀ L h' ((l, listOf us.toArray c) :: news) → AllNe l news → P us → Q (.ref l) { s with heap := h', toks := tk' }) :
    wpAny (model PySem.Challenge.rw_nu0052_01.row.prog w) (ktrTop dp un gd cn cs L a ccd cl outer) (call (.ref f) vs) Q E s := by
  have No : News h₀ L s.heap own := fun p hp => N p (hs p hp)
  refine S mean mg mb dp un gd cn cs a ccd cl outer A₀ base h₀ L m s Q E B F X No T hk hd hu ?_
  rintro r own' h' tk' k fr N' ⟨l, us, c, rfl, rfl, hl, hp⟩
  refine h l us c h' tk' (k.fr F No) (fun p hp => ?_) (allNe_of fun p hp e => ?_) hp
  · rcases List.mem_cons.mp hp with rfl | hp
    · exact N' _ (.head _)
    · exact k.read N hs (fun p hp => N' p (.tail _ hp)) (fun _ h => h) p hp
  · obtain ⟨q, hq, e'⟩ := fr _ (.head _) (by rw [← e, (N p hp).1]; rfl)
    exact hl q hq e'
end
section -- D1
local macro_rules | `(tactic| walk_at "MINE enter") => `(tactic| (
  w_top off
  unfold Spec
  k_fill
  intro mean mg mb dp un gd cn cs a ccd cl outer A₀ base h₀ L m s Q E B F X N T hk hd hu ret
  k_dflt (refine' enter B F X N T hk hd ret ?ho ?hcd ?hb ?hl ?c2 ?c3 ?c4 ?c5 ?body; (case ho => k_is); (case hcd => k_is); (case hb => exact BindsTo.of_eq rfl); (case hl => exact locs rfl); (case c2 => exact rfl); (case c3 => exact rfl); (case c4 => exact rfl); (case c5 => decide))
  intro g' L' h' F' N' B' X' T'
  clear ret T X N F B
  (try dsimp only)
  (try k_fold)))
local macro_rules | `(tactic| walk_at "MINE end") => `(tactic| (
  (try dsimp only)
  (try k_unfold)
  (try dsimp only)
  refine ⟨_, _, _, _, _, rfl, by assumption, by assumption, ?_⟩))
theorem lt1 (a b : Nat) : ([a] < [b]) ↔ a < b := by simp [List.cons_lt_cons_iff]
def isSp (c : Nat) : Bool := c == 32 || c == 9 || c == 10 || c == 13
theorem sp_in (c : Nat) : (Builtin.Str.occurrences (Str.ofString " \t\n\x0d") { cps := #[c] } 0 (Str.ofString " \t\n\x0d").length 1).isEmpty = !(isSp c) := by
  have h := StrLaws.found_one (Str.ofString " \t\n\x0d") c
  have e : (Str.ofString " \t\n\x0d").cps.toList = [32, 9, 10, 13] := by decide +kernel
  rw [e] at h
  have h2 : decide (c ∈ [32, 9, 10, 13]) = isSp c := by
    rw [Bool.eq_iff_iff]
    simp [isSp, Bool.or_assoc, or_assoc]
  rw [h2] at h
  rw [← h, Bool.not_not]
theorem one_ne (c : Nat) : ({ cps := #[c] } : Str) ≠ Str.ofString "" := by
  intro e
  have h1 : ({ cps := #[c] } : Str).cps.size = (Str.ofString "").cps.size := by rw [e]
  have e2 : (Str.ofString "").cps.size = 0 := by decide +kernel
  rw [e2] at h1
  cases h1
theorem eq1 (a b : Nat) : (({ cps := #[a] } : Str) == { cps := #[b] }) = (a == b) := by
  rw [Bool.eq_iff_iff, beq_iff_eq, beq_iff_eq]
  constructor
  · intro e
    have := congrArg (fun x : Str => x.cps.toList) e
    simpa using this
  · rintro rfl; rfl
theorem is_space_ok (w : World) {c : Nat} {t : Tok} :
    Spec 1 w 52 [.str ⟨#[c]⟩ t] [] (fun r own' => own' = [] ∧ r = .bool (isSp c)) := by
  walk_at "MINE enter"
  k_steps
  all_goals walk_at "MINE end"
  all_goals refine ⟨rfl, ?_⟩
  all_goals (simp only [sp_in, Bool.not_eq_true', Bool.not_eq_false'] at *)
  all_goals simp_all [one_ne]
theorem small_ok (w : World) {c : Nat} {t : Tok} :
    Spec 1 w 59 [.str ⟨#[c]⟩ t] [] (fun r own' => own' = [] ∧ r = .bool (decide (97 ≤ c ∧ c ≤ 122))) := by
  walk_at "MINE enter"
  k_steps
  all_goals walk_at "MINE end"
  all_goals refine ⟨rfl, congrArg Value.bool ?_⟩
  all_goals (str_meet; simp only [lt1] at *)
  all_goals (rw [Bool.eq_iff_iff]; simp; omega)
def nameStart (c : Nat) : Bool := decide (97 ≤ c ∧ c ≤ 122) || decide (65 ≤ c ∧ c ≤ 90) || c == 95 || c == 58
def nameChar (c : Nat) : Bool := nameStart c || decide (48 ≤ c ∧ c ≤ 57) || c == 45 || c == 46
local macro_rules | `(tactic| walk_at "call ref") => `(tactic| (k_dflt (refine' use_read (small_ok _) ?k1 ?k2 ?k3 ?k4 ?k5 ?k6 ?k7 ?k8 ?k9 ?_; (case k1 => k_asm); (case k2 => k_asm); (case k3 => k_asm); (case k4 => k_asm); (case k5 => k_asm); (case k6 => first | exact rfl | assumption); (case k7 => exact List.forall_mem_nil _); (case k8 => ktr_room); (case k9 => ktr_units)); (intro r9 h9 tk9 F9 N9 hP9); subst hP9; walk_say "MINE small_ok"; (try k_sweep); (try dsimp only); (try k_fold)))
theorem start_ok (w : World) {c : Nat} {t : Tok} (hc : c < 128) :
    Spec 2 w 66 [.str ⟨#[c]⟩ t] [] (fun r own' => own' = [] ∧ r = .bool (nameStart c)) := by
  walk_at "MINE enter"
  k_steps
  all_goals walk_at "MINE end"
  all_goals refine ⟨rfl, congrArg Value.bool ?_⟩
  all_goals (str_meet; simp only [lt1, eq1] at *)
  all_goals (unfold nameStart; rw [Bool.eq_iff_iff]; (simp at *); omega)
local macro_rules | `(tactic| walk_at "call ref") => `(tactic| (k_dflt (refine' use_read (start_ok _ (by assumption)) ?k1 ?k2 ?k3 ?k4 ?k5 ?k6 ?k7 ?k8 ?k9 ?_; (case k1 => k_asm); (case k2 => k_asm); (case k3 => k_asm); (case k4 => k_asm); (case k5 => k_asm); (case k6 => first | exact rfl | assumption); (case k7 => exact List.forall_mem_nil _); (case k8 => ktr_room); (case k9 => ktr_units)); (intro r9 h9 tk9 F9 N9 hP9); subst hP9; walk_say "MINE start_ok"; (try k_sweep); (try dsimp only); (try k_fold)))
theorem char_ok (w : World) {c : Nat} {t : Tok} (hc : c < 128) :
    Spec 3 w 73 [.str ⟨#[c]⟩ t] [] (fun r own' => own' = [] ∧ r = .bool (nameChar c)) := by
  walk_at "MINE enter"
  k_steps
  all_goals walk_at "MINE end"
  all_goals refine ⟨rfl, congrArg Value.bool ?_⟩
  all_goals (str_meet; simp only [lt1, eq1] at *)
  all_goals (unfold nameChar; rw [Bool.eq_iff_iff]; (simp at *); first | done | omega | (simp_all; done) | (simp_all; omega))
end
section -- D2
local macro_rules | `(tactic| walk_at "MINE enter") => `(tactic| (
  w_top off
  unfold Spec
  k_fill
  intro mean mg mb dp un gd cn cs a ccd cl outer A₀ base h₀ L m s Q E B F X N T hk hd hu ret
  k_dflt (refine' enter B F X N T hk hd ret ?ho ?hcd ?hb ?hl ?c2 ?c3 ?c4 ?c5 ?body; (case ho => k_is); (case hcd => k_is); (case hb => exact BindsTo.of_eq rfl); (case hl => exact locs rfl); (case c2 => exact rfl); (case c3 => exact rfl); (case c4 => exact rfl); (case c5 => decide))
  intro g' L' h' F' N' B' X' T'
  clear ret T X N F B
  (try dsimp only)
  (try k_fold)))
local macro_rules | `(tactic| walk_at "MINE end0") => `(tactic| (
  (try dsimp only)
  (try k_unfold)
  (try dsimp only)
  refine ⟨_, _, [], _, _, rfl, by assumption, News.nil, rfl, ?_⟩))
local macro_rules | `(tactic| walk_at "MINE same") => `(tactic| (intro z hz h1 h2; first | rfl | (simp [kstB, hz]; done) | (simp_all [kstB]; done)))
local macro_rules | `(tactic| walk_at "exec For") => `(tactic| (k_here; (rename Fr _ _ _ _ => lF'); (with_unfolding_all refine' For_invVF lF' ?k1 ?k2 ?_; (case k1 => exact rfl); (case k2 => exact rfl); k_whole); walk_say "MINE for"))
local macro_rules | `(tactic| walk_at "eval ListComp") => `(tactic| (k_here; (with_reducible show wpAny _ _ (eval (Expr.ListComp _ [Comprehension.mk _ _ [] _] _ _) _) _ _ _); k_dflt (refine LCg.ListComp_U (F₀ := by k_asm) (by with_unfolding_all rfl) (by decide) (by rfl) (by decide) (by rfl) ?_); walk_say "MINE comp"))
local macro_rules | `(tactic| walk_at "eval ListComp") => `(tactic| (k_here; (with_reducible show wpAny _ _ (eval (Expr.ListComp _ [Comprehension.mk _ _ [_] _] _ _) _) _ _ _); k_dflt (refine LCt.ListComp_T (F₀ := by k_asm) (by with_unfolding_all rfl) (by decide) (by rfl) (by decide) (by rfl) ?_); walk_say "MINE compT"))
local macro_rules | `(tactic| walk_at "call ref") => `(tactic| (k_dflt (refine' use_read (char_ok _ (by first | assumption | omega)) ?k1 ?k2 ?k3 ?k4 ?k5 ?k6 ?k7 ?k8 ?k9 ?_; (case k1 => k_asm); (case k2 => k_asm); (case k3 => k_asm); (case k4 => k_asm); (case k5 => k_asm); (case k6 => first | exact rfl | assumption); (case k7 => exact List.forall_mem_nil _); (case k8 => ktr_room); (case k9 => ktr_units)); (intro r9 h9 tk9 F9 N9 hP9); subst hP9; walk_say "MINE char_ok"; (try k_sweep); (try dsimp only); (try k_fold)))
def ascii (x : Str) : Prop := ∀ c ∈ x.cps.toList, c < 128
def nmtoken (x : Str) : Bool := x.cps.toList.all nameChar && !x.cps.toList.isEmpty
theorem nm_false {x : Str} {pre post : List Int} {n : Nat} (e : KStt.codes x = pre ++ (n : Int) :: post) (h : nameChar n = false) : nmtoken x = false := by
  have hm : (n : Int) ∈ KStt.codes x := by rw [e]; simp
  unfold KStt.codes at hm
  obtain ⟨c, hc, hcn⟩ := List.mem_map.mp hm
  have : c = n := by omega
  subst this
  unfold nmtoken
  rw [Bool.and_eq_false_iff]
  exact .inl (List.all_eq_false.mpr ⟨c, hc, by rw [h]; simp⟩)
theorem code_ascii {x : Str} (hx : ascii x) {pre post : List Int} {n : Nat} (e : KStt.codes x = pre ++ (n : Int) :: post) : n < 128 := by
  have hm : (n : Int) ∈ KStt.codes x := by rw [e]; simp
  unfold KStt.codes at hm
  obtain ⟨c, hc, hcn⟩ := List.mem_map.mp hm
  have : c = n := by omega
  subst this
  exact hx c hc
theorem nm_true {x : Str} (h : ∀ v ∈ KStt.codes x, nameChar v.toNat = true) : nmtoken x = (x != Str.ofString "") := by
  have h1 : x.cps.toList.all nameChar = true := by
    rw [List.all_eq_true]
    intro c hc
    have := h (c : Int) (by unfold KStt.codes; exact List.mem_map.mpr ⟨c, hc, rfl⟩)
    simpa using this
  unfold nmtoken
  rw [h1, Bool.true_and, Bool.eq_iff_iff]
  have e : Str.ofString "" = ⟨#[]⟩ := by decide +kernel
  rw [e]
  obtain ⟨⟨l⟩⟩ := x
  cases l <;> simp [bne_iff_ne]
theorem nmtoken_ok (w : World) {x : Str} {t : Tok} (hx : ascii x) :
    Spec 4 w 80 [.str x t] [] (fun r own' => own' = [] ∧ r = .bool (nmtoken x)) := by
  k_with_none
  k_with "pyIter str" => (
    refine' KStt.kst_text (σ := Unit) (fun _ => []) (fun _ => []) (fun _ => True) [] (fun pre _ => ∀ v ∈ pre, nameChar v.toNat = true) () (by rfl) (by assumption) (by assumption) trivial (fun _ h => nomatch h) (fun _ h => nomatch h) ?turn ?done
    case' turn => (
      intro c9 pre post n t9 u h tk own hE hOff _ hP F9 N9
      have hA := code_ascii hx hE
      (try k_sweep)
      (try dsimp only)
      (try k_fold))
    case' done => (
      intro c9 u h tk _ hP F9 N9
      (try k_sweep)
      (try dsimp only)
      (try k_fold)))
  walk_at "MINE enter"
  k_steps
  · walk_at "MINE end0"
    exact congrArg Value.bool (nm_true hP).symm
  · refine kst_end () (by assumption) (by assumption) (fun _ h => nomatch h) (fun p hp => List.mem_append.mpr (.inr hp)) rfl trivial (fun _ h => nomatch h) (by walk_at "MINE same") ?_
    intro v hv
    rcases List.mem_append.mp hv with hv | hv
    · exact hP v hv
    · rw [List.mem_singleton.mp hv]
      assumption
  · walk_at "MINE end0"
    exact congrArg Value.bool (nm_false hE (by assumption)).symm
end
section -- Defs
def wsplit : List Nat → List Nat → List (List Nat)
  | cur, [] => if cur = [] then [] else [cur]
  | cur, c :: r => if isSp c then (if cur = [] then wsplit [] r else cur :: wsplit [] r) else wsplit (cur ++ [c]) r
def mkS (l : List Nat) : Str := ⟨l.toArray⟩
def wordsOf (x : Str) : List Str := (wsplit [] x.cps.toList).map mkS
def collapsedS (x : Str) : Str := Txt.join (Str.ofString " ") (wordsOf x)
def nameB (x : Str) : Bool := match x.cps.toList with
  | [] => false
  | c :: _ => nameStart c && nmtoken x
def SrcAt (o : Obj) : Prop := ∃ x tx y ty c, o = listOf #[.int x tx, .int y ty] c ∧ 0 ≤ x ∧ 0 ≤ y ∧ y < 2147483647
def S (x : String) : Str := Str.ofString x
def menu : List Str := [S "a", S "b-1", S "x:y", S "1a", S "-", S "a", S "no", S "A.b", S "&"]
def alph (c : Nat) : Prop := c ∈ [97, 98, 45, 49, 120, 58, 121, 110, 111, 65, 46, 38]
def alphB (c : Nat) : Prop := alph c ∨ isSp c = true
def inMenu (x : Str) : Prop := x.length ≤ 3 ∧ ∀ c ∈ x.cps.toList, alph c
def raw (x : Str) : Prop := x.length ≤ 64 ∧ ∀ c ∈ x.cps.toList, alphB c
def normS (kind x : Str) : Str := if kind == Str.ofString "CDATA" then x else collapsedS x
def isListKind (k : Str) : Bool := k == Str.ofString "IDREFS" || k == Str.ofString "ENTITIES" || k == Str.ofString "NMTOKENS"
def isTokKind (k : Str) : Bool := k == Str.ofString "NMTOKEN" || k == Str.ofString "NMTOKENS"
def isEnumKind (k : Str) : Bool := k == Str.ofString "enumeration" || k == Str.ofString "notation"
def isWordB (k x : Str) : Bool := if isTokKind k then nmtoken x else nameB x
def wordsOfK (k x : Str) : List Str := if isListKind k then wordsOf x else [x]
def fitsB (k : Str) (cs : List Str) (mode : Str) (fixed : Option Str) (v : Str) : Bool :=
  if mode == Str.ofString "fixed" && fixed != some v then false
  else if k == Str.ofString "CDATA" then true
  else if isEnumKind k then cs.contains v
  else !(wordsOfK k v).isEmpty && (wordsOfK k v).all (isWordB k)
def lawWordB (x : Str) (nameHere : Bool) : Bool := match x.cps.toList with
  | [] => false
  | c :: _ => !(x.cps.toList.contains 38) && (!nameHere || !(c == 49 || c == 45 || c == 46))
def lawFitsB (k : Str) (cs : List Str) (mode : Str) (fixed : Option Str) (v : Str) : Bool :=
  if mode == Str.ofString "fixed" && fixed != some v then false
  else if k == Str.ofString "CDATA" then true
  else if isEnumKind k then cs.contains v
  else if !isListKind k && decide (1 < (Txt.split v (Str.ofString " ")).length) then false
  else (Txt.split v (Str.ofString " ")).all fun x => lawWordB x (!isTokKind k)

section
variable {n : Nat} {w : World} {f : Addr} {vs : List Value} {rd : List (Addr × Obj)} {src : Addr} {o : Obj} {mean : ExcName → Option Value} {mg mb : Str → Option Value} {dp un : Nat} {gd : Option (List Code)} {cn : Str} {cs : Scope} {a : Addr} {ccd : Value} {cl : List (Str × Addr)} {outer : List Env} {A₀ : Around} {base h₀ : Heap} {L : Addr} {m : Str → Option Value} {s : Shared} {Q E : Value → Shared → Prop} {news : List (Addr × Obj)} {g : Obj → List (Addr × Obj)}

theorem srcLed {own' : List (Addr × Obj)} {o' : Obj} {h' : Heap} (N : News h₀ L s.heap news) (U : UpdF src o news g) (hs : ∀ p ∈ rd, p ∈ news) (k : Kept ((src, o) :: rd) s.heap h') (N' : News h₀ L h' own') (h1 : (src, o') ∈ own') (h2 : ∀ p ∈ rd, p ∈ own') : News h₀ L h' (g o') := by
  obtain ⟨pre, post, rfl, hg, ha, hb⟩ := U.split
  rw [hg]
  have old : ∀ p ∈ pre ++ (src, o) :: post, p.1 ≠ src → h'.get? p.1 = some p.2 ∧ p.1 ≠ L ∧ h₀.get? p.1 = none := by
    intro p hp hne
    by_cases hq : ∃ q ∈ rd, q.1 = p.1
    · obtain ⟨q, hq1, hq2⟩ := hq
      have e1 := (N p hp).1
      have e2 := (N q (hs q hq1)).1
      rw [hq2, e1] at e2
      have : q = p := Prod.ext hq2 (Option.some.inj e2).symm
      exact N' p (h2 p (this ▸ hq1))
    · exact ⟨k _ _ (N p hp).1 (fun q hq1 hq2 => by
        rcases List.mem_cons.mp hq1 with rfl | hq1
        · exact hne hq2.symm
        · exact hq ⟨q, hq1, hq2⟩), (N p hp).2⟩
  intro p hp
  rcases List.mem_append.mp hp with hp | hp
  · exact old p (List.mem_append_left _ hp) (ha p hp)
  · rcases List.mem_cons.mp hp with rfl | hp
    · exact N' _ h1
    · exact old p (List.mem_append_right _ (.tail _ hp)) (hb p hp)

/-- a def that draws from the source -/
theorem use_src {P : Value → Prop} (S : Spec n w f vs ((src, o) :: rd) (fun r own' => ∃ o', own' = (src, o') :: rd ∧ SrcAt o' ∧ P r))
    (B : Below A₀ base outer h₀) (F : Fr h₀ L s.heap m) (X : (hd.heap_39 w.params).In h₀) (N : News h₀ L s.heap news) (T : Top qv (looseW qv []) mean mg mb h₀) (hk : cs.kind = .function)
    (U : UpdF src o news g) (hs : ∀ p ∈ rd, p ∈ news) (hd : dp + n < recursionLimit) (hu : un + 8 * n < cLine)
    (h : ∀ r o' h' tk', Fr h₀ L h' m → News h₀ L h' (g o') → SrcAt o' → P r → Q r { s with heap := h', toks := tk' }) :
    wpAny (model PySem.Challenge.rw_nu0052_01.row.prog w) (ktrTop dp un gd cn cs L a ccd cl outer) (call (.ref f) vs) Q E s := by
  have No : News h₀ L s.heap ((src, o) :: rd) := fun p hp => by
    rcases List.mem_cons.mp hp with rfl | hp
    · obtain ⟨pre, post, rfl, -⟩ := U.split
      exact N _ (List.mem_append_right _ (.head _))
    · exact N p (hs p hp)
  refine S mean mg mb dp un gd cn cs a ccd cl outer A₀ base h₀ L m s Q E B F X No T hk hd hu ?_
  rintro r own' h' tk' k - N' ⟨o', rfl, ho, hp⟩
  exact h r o' h' tk' (k.fr F No) (srcLed N U hs k N' (.head _) fun p hp => .tail _ hp) ho hp

/-- a def that draws from the source and hands back a new list -/
theorem use_srcL {P : List Value → Prop} (S : Spec n w f vs ((src, o) :: rd) (fun r own' => ∃ o' l us c, r = .ref l ∧ own' = (l, listOf us.toArray c) :: (src, o') :: rd ∧ (∀ q ∈ (src, o) :: rd, q.1 ≠ l) ∧ SrcAt o' ∧ P us))
    (B : Below A₀ base outer h₀) (F : Fr h₀ L s.heap m) (X : (hd.heap_39 w.params).In h₀) (N : News h₀ L s.heap news) (T : Top qv (looseW qv []) mean mg mb h₀) (hk : cs.kind = .function)
    (U : UpdF src o news g) (hs : ∀ p ∈ rd, p ∈ news) (hd : dp + n < recursionLimit) (hu : un + 8 * n < cLine)
    (h : ∀ l us c o' h' tk', Fr h₀ L h' m → News h₀ L h' ((l, listOf us.toArray c) :: g o') → AllNe l news → SrcAt o' → P us → Q (.ref l) { s with heap := h', toks := tk' }) :
    wpAny (model PySem.Challenge.rw_nu0052_01.row.prog w) (ktrTop dp un gd cn cs L a ccd cl outer) (call (.ref f) vs) Q E s := by
  have No : News h₀ L s.heap ((src, o) :: rd) := fun p hp => by
    rcases List.mem_cons.mp hp with rfl | hp
    · obtain ⟨pre, post, rfl, -⟩ := U.split
      exact N _ (List.mem_append_right _ (.head _))
    · exact N p (hs p hp)
  refine S mean mg mb dp un gd cn cs a ccd cl outer A₀ base h₀ L m s Q E B F X No T hk hd hu ?_
  rintro r own' h' tk' k fr N' ⟨o', l, us, c, rfl, rfl, hl, ho, hp⟩
  refine h l us c o' h' tk' (k.fr F No) (fun p hp => ?_) (allNe_of fun p hp e => ?_) ho hp
  · rcases List.mem_cons.mp hp with rfl | hp
    · exact N' _ (.head _)
    · exact srcLed N U hs k (fun p hp => N' p (.tail _ hp)) (.head _) (fun p hp => .tail _ hp) p hp
  · obtain ⟨q, hq, e'⟩ := fr _ (.head _) (by rw [← e, (N p hp).1]; rfl)
    exact hl q hq e'
end
end
abbrev tupOf (its : Array Value) (n : Nat) : Obj := { cls := .type "tuple", data := .seq its n }
inductive FixV : Value → Option Str → Prop
  | none : FixV .none none
  | str (x : Str) (t : Tok) : FixV (.str x t) (some x)
section -- T1
local macro_rules | `(tactic| walk_at "MINE enter") => `(tactic| (
  w_top off
  unfold Spec
  k_fill
  intro mean mg mb dp un gd cn cs a ccd cl outer A₀ base h₀ L m s Q E B F X N T hk hd hu ret
  k_dflt (refine' enter B F X N T hk hd ret ?ho ?hcd ?hb ?hl ?c2 ?c3 ?c4 ?c5 ?body; (case ho => k_is); (case hcd => k_is); (case hb => exact BindsTo.of_eq rfl); (case hl => exact locs rfl); (case c2 => exact rfl); (case c3 => exact rfl); (case c4 => exact rfl); (case c5 => decide))
  intro g' L' h' F' N' B' X' T'
  clear ret T X N F B
  (try dsimp only)
  (try k_fold)))
local macro_rules | `(tactic| walk_at "MINE end") => `(tactic| (
  (try dsimp only)
  (try k_unfold)
  (try dsimp only)
  refine ⟨_, _, _, _, _, rfl, by assumption, by assumption, ?_⟩))
theorem take_end {x y : Int} {tx ty : Tok} {c : Nat} {d : Int} (hx : 0 ≤ x) (hy : 0 ≤ y) (hy2 : y < 2147483647) : SrcAt (listOf #[.int x tx, .int y ty] c) := ⟨x, tx, y, ty, c, rfl, hx, hy, hy2⟩
theorem take_ok (w : World) {src : Addr} {o : Obj} {top : Int} {t : Tok} (ho : SrcAt o) (h1 : 1 ≤ top) (h2 : top ≤ 1000) :
    Spec 2 w 179 [.ref src, .int top t] [(src, o)] (fun r own' => ∃ o', own' = [(src, o')] ∧ SrcAt o' ∧ ∃ d td, r = .int d td ∧ 0 ≤ d ∧ d < top) := by
  obtain ⟨x, tx, y, ty, c, rfl, hx, hy, hy2⟩ := ho
  k_with_none
  walk_at "MINE enter"
  k_steps
  all_goals walk_at "MINE end"
  · refine ⟨_, rfl, ⟨_, _, _, _, _, rfl, ?_, hy, hy2⟩, _, _, rfl, ?_, ?_⟩
    · show 0 ≤ Int.fdiv x top
      rw [Int.fdiv_eq_ediv_of_nonneg _ (by omega)]
      exact Int.ediv_nonneg hx (by omega)
    · show 0 ≤ Int.fmod x top
      rw [Int.fmod_eq_emod_of_nonneg _ (by omega)]
      exact Int.emod_nonneg _ (by omega)
    · show Int.fmod x top < top
      rw [Int.fmod_eq_emod_of_nonneg _ (by omega)]
      exact Int.emod_lt_of_pos _ (by omega)
  · refine ⟨_, rfl, ⟨_, _, _, _, _, rfl, hx, ?_, ?_⟩, _, _, rfl, ?_, ?_⟩
    · rw [Int.fmod_eq_emod_of_nonneg _ (by omega)]
      exact Int.emod_nonneg _ (by omega)
    · rw [Int.fmod_eq_emod_of_nonneg _ (by omega)]
      exact Int.emod_lt_of_pos _ (by omega)
    · rw [Int.fmod_eq_emod_of_nonneg _ (by omega)]
      exact Int.emod_nonneg _ (by omega)
    · rw [Int.fmod_eq_emod_of_nonneg _ (by omega)]
      exact Int.emod_lt_of_pos _ (by omega)
end
section -- T2
local macro_rules | `(tactic| walk_at "MINE enter") => `(tactic| (
  w_top off
  unfold Spec
  k_fill
  intro mean mg mb dp un gd cn cs a ccd cl outer A₀ base h₀ L m s Q E B F X N T hk hd hu ret
  k_dflt (refine' enter B F X N T hk hd ret ?ho ?hcd ?hb ?hl ?c2 ?c3 ?c4 ?c5 ?body; (case ho => k_is); (case hcd => k_is); (case hb => exact BindsTo.of_eq rfl); (case hl => exact locs rfl); (case c2 => exact rfl); (case c3 => exact rfl); (case c4 => exact rfl); (case c5 => decide))
  intro g' L' h' F' N' B' X' T'
  clear ret T X N F B
  (try dsimp only)
  (try k_fold)))
local macro_rules | `(tactic| walk_at "MINE end") => `(tactic| (
  (try dsimp only)
  (try k_unfold)
  (try dsimp only)
  refine ⟨_, _, _, _, _, rfl, by assumption, by assumption, ?_⟩))
section
variable {prog : Program} {w : World} {A : Around} {E : Value → Shared → Prop} {s : Shared} {h₀ : Heap} {L l : Addr}
theorem item_made {news : List (Addr × Obj)} {value slice : PySem.Expr} {vs : List Value} {c : Nat} {k : Int} {u : Tok} {Q : Value → Shared → Prop} (N : News h₀ L s.heap news) (hm : (l, listOf vs.toArray c) ∈ news) (h0 : 0 ≤ k) (h1 : k < (vs.length : Int)) (hhi : k < 2 ^ 63) (h : ∀ v, v ∈ vs → Q v s)
    (hs : subscripted slice false (.ref l) (.int k u) = operate [.ref l, .int k u] (getItem (.ref l) (.int k u)) := by with_unfolding_all rfl) :
    wpAny (model prog w) A (subscriptTail value slice (.ref l) (.int k u)) Q E s := by
  have hlt : k.toNat < vs.length := by omega
  exact item_litK ⟨_, (N _ hm).1, rfl, c, rfl⟩ h0 hhi (List.getElem?_eq_getElem hlt) (h _ (List.getElem_mem hlt)) hs
end
section
local macro_rules | `(tactic| walk_at "call builtin:len") => `(tactic| (k_here; (with_reducible show wpAny _ _ (call (Value.builtin "len") [Value.ref _]) _ _ _); k_dflt (refine' kst_len ?k1 ?k2 ?k3 ?k4 ?_; (case k1 => k_asm); (case k2 => k_memK); (case k3 => exact rfl); (case k4 => omega)); k_whole))
local macro_rules | `(tactic| walk_at "subscriptTail") => `(tactic| (k_here; (with_reducible show wpAny _ _ (subscriptTail _ _ (Value.ref _) (Value.int _ _)) _ _ _); (with_unfolding_all refine' item_made ?k1 ?k2 ?k3 ?k4 ?k5 ?_ ?k6; (case k1 => k_asm); (case k2 => k_memK); (case k3 => omega); (case k4 => omega); (case k5 => omega); (case k6 => with_unfolding_all rfl); k_whole); intro v9 hv9))
local macro_rules | `(tactic| walk_at "call ref") => `(tactic| (k_dflt (refine' use_src (take_ok _ (by assumption) (by (try simp only [List.size_toArray]); omega) (by (try simp only [List.size_toArray]); omega)) ?kB ?kF ?kX ?kN ?kT ?khk ?kU ?khs ?khd ?khu ?_; (case kB => k_asm); (case kF => k_asm); (case kX => k_asm); (case kN => k_asm); (case kT => k_asm); (case khk => first | exact rfl | assumption); (case kU => k_updF); (case khs => k_allIn); (case khd => ktr_room); (case khu => ktr_units)); (intro r9 o9 h9 tk9 F9 N9 hS9 hP9); (obtain ⟨d9, td9, hd9, hda9, hdb9⟩ := hP9); subst hd9; (try dsimp only at N9); walk_say "MINE take_ok"; (try k_sweep); (try dsimp only); (try k_fold)))
theorem one_ok (w : World) {src l : Addr} {o : Obj} {us : List Value} {c : Nat} (ho : SrcAt o) (hne : @Ne Nat src l) (h0 : 1 ≤ us.length) (hn : us.length ≤ 1000) :
    Spec 3 w 186 [.ref src, .ref l] [(src, o), (l, listOf us.toArray c)] (fun r own' => ∃ o', own' = [(src, o'), (l, listOf us.toArray c)] ∧ SrcAt o' ∧ r ∈ us) := by
  k_with_none
  walk_at "MINE enter"
  k_steps
  walk_at "MINE end"
  exact ⟨_, rfl, by assumption, by assumption⟩
end
end
section -- T3
local macro_rules | `(tactic| walk_at "MINE enter") => `(tactic| (
  w_top off
  unfold Spec
  k_fill
  intro mean mg mb dp un gd cn cs a ccd cl outer A₀ base h₀ L m s Q E B F X N T hk hd hu ret
  k_dflt (refine' enter B F X N T hk hd ret ?ho ?hcd ?hb ?hl ?c2 ?c3 ?c4 ?c5 ?body; (case ho => k_is); (case hcd => k_is); (case hb => exact BindsTo.of_eq rfl); (case hl => exact locs rfl); (case c2 => exact rfl); (case c3 => exact rfl); (case c4 => exact rfl); (case c5 => decide))
  intro g' L' h' F' N' B' X' T'
  clear ret T X N F B
  (try dsimp only)
  (try k_fold)))
local macro_rules | `(tactic| walk_at "MINE end0") => `(tactic| (
  (try dsimp only)
  (try k_unfold)
  (try dsimp only)
  refine ⟨_, _, [], _, _, rfl, by assumption, News.nil, rfl, ?_⟩))
local macro_rules | `(tactic| walk_at "call ref") => `(tactic| (k_dflt (refine' use_read (start_ok _ (by assumption)) ?kB ?kF ?kX ?kN ?kT ?khk ?khs ?khd ?khu ?_; (case kB => k_asm); (case kF => k_asm); (case kX => k_asm); (case kN => k_asm); (case kT => k_asm); (case khk => first | exact rfl | assumption); (case khs => exact List.forall_mem_nil _); (case khd => ktr_room); (case khu => ktr_units)); (intro r9 h9 tk9 F9 N9 hP9); subst hP9; walk_say "MINE start_ok"; (try k_sweep); (try dsimp only); (try k_fold)))
local macro_rules | `(tactic| walk_at "call ref") => `(tactic| (k_dflt (refine' use_read (nmtoken_ok _ (by assumption)) ?kB ?kF ?kX ?kN ?kT ?khk ?khs ?khd ?khu ?_; (case kB => k_asm); (case kF => k_asm); (case kX => k_asm); (case kN => k_asm); (case kT => k_asm); (case khk => first | exact rfl | assumption); (case khs => exact List.forall_mem_nil _); (case khd => ktr_room); (case khu => ktr_units)); (intro r9 h9 tk9 F9 N9 hP9); subst hP9; walk_say "MINE nmtoken_ok"; (try k_sweep); (try dsimp only); (try k_fold)))
theorem item0 (c : Nat) (l : List Nat) : Txt.item ⟨⟨c :: l⟩⟩ 0 = ⟨#[c]⟩ := by
  unfold Txt.item Txt.charAt seqIndex?
  simp [Str.length]
theorem name_ok (w : World) {x : Str} {t : Tok} (hx : ascii x) (hn : x.length ≤ 64) : Spec 5 w 87 [.str x t] [] (fun r own' => own' = [] ∧ r = .bool (nameB x)) := by
  k_with_none
  have e0 : Str.ofString "" = ⟨⟨[]⟩⟩ := by decide +kernel
  obtain ⟨⟨l⟩⟩ := x
  cases l with
  | nil =>
    walk_at "MINE enter"
    k_steps
    walk_at "MINE end0"
    rw [e0]
    rfl
  | cons c l =>
    have hc : c < 128 := hx c (by simp)
    walk_at "MINE enter"
    k_steps
    · rw [item0]
      k_steps
      · walk_at "MINE end0"
        rename nameStart c = true => hs
        unfold nameB
        simp [hs]
      · walk_at "MINE end0"
        rename nameStart c = false => hs
        unfold nameB
        simp [hs]
    · exfalso
      rename (_ != _) = false => hs
      rw [e0] at hs
      simp at hs
end
section -- T4
local macro_rules | `(tactic| walk_at "MINE pad") => `(tactic| fail "pad")
local macro_rules | `(tactic| walk_at "MINE enter") => `(tactic| (
  w_top off
  unfold Spec
  k_fill
  intro mean mg mb dp un gd cn cs a ccd cl outer A₀ base h₀ L m s Q E B F X N T hk hd hu ret
  k_dflt (refine' enter B F X N T hk hd ret ?ho ?hcd ?hb ?hl ?c2 ?c3 ?c4 ?c5 ?body; (case ho => k_is); (case hcd => k_is); (case hb => exact BindsTo.of_eq rfl); (case hl => exact locs rfl); (case c2 => exact rfl); (case c3 => exact rfl); (case c4 => exact rfl); (case c5 => decide))
  intro g' L' h' F' N' B' X' T'
  clear ret T X N F B
  (try dsimp only)
  (try k_fold)))
local macro_rules | `(tactic| walk_at "MINE end0") => `(tactic| (
  (try dsimp only)
  (try k_unfold)
  (try dsimp only)
  refine ⟨_, _, [], _, _, rfl, by assumption, News.nil, rfl, ?_⟩))
local macro_rules | `(tactic| walk_at "call ref") => `(tactic| (k_dflt (refine' use_read (nmtoken_ok _ (by assumption)) ?kB ?kF ?kX ?kN ?kT ?khk ?khs ?khd ?khu ?_; (case kB => k_asm); (case kF => k_asm); (case kX => k_asm); (case kN => k_asm); (case kT => k_asm); (case khk => first | exact rfl | assumption); (case khs => exact List.forall_mem_nil _); (case khd => ktr_room); (case khu => ktr_units)); (intro r9 h9 tk9 F9 N9 hP9); subst hP9; walk_say "MINE nmtoken_ok"; (try k_sweep); (try dsimp only); (try k_fold)))
local macro_rules | `(tactic| walk_at "call ref") => `(tactic| (k_dflt (refine' use_read (name_ok _ (by assumption) (by assumption)) ?kB ?kF ?kX ?kN ?kT ?khk ?khs ?khd ?khu ?_; (case kB => k_asm); (case kF => k_asm); (case kX => k_asm); (case kN => k_asm); (case kT => k_asm); (case khk => first | exact rfl | assumption); (case khs => exact List.forall_mem_nil _); (case khd => ktr_room); (case khu => ktr_units)); (intro r9 h9 tk9 F9 N9 hP9); subst hP9; walk_say "MINE name_ok"; (try k_sweep); (try dsimp only); (try k_fold)))
theorem is_word_ok (w : World) {k x : Str} {tk t : Tok} (hx : ascii x) (hn : x.length ≤ 64) : Spec 6 w 158 [.str k tk, .str x t] [] (fun r own' => own' = [] ∧ r = .bool (isWordB k x)) := by
  k_with_none
  walk_at "MINE enter"
  k_steps
  · walk_at "MINE end0"
    rename List.any _ _ = true => hs
    unfold isWordB isTokKind
    simp only [List.any_cons, List.any_nil, Bool.or_false] at hs
    rw [if_pos (by rw [BEq.comm, BEq.comm (a := k)]; exact hs)]
  · walk_at "MINE end0"
    rename List.any _ _ = false => hs
    unfold isWordB isTokKind
    simp only [List.any_cons, List.any_nil, Bool.or_false] at hs
    rw [if_neg (by rw [BEq.comm, BEq.comm (a := k), hs]; decide)]
end
section -- Words
theorem wsplit_size : ∀ (r cur : List Nat), ((wsplit cur r).map List.length).sum + (wsplit cur r).length ≤ cur.length + r.length + 1
  | [], cur => by
    unfold wsplit
    split
    · simp
    · simp
  | c :: r, cur => by
    unfold wsplit
    split
    · split
      · have := wsplit_size r []
        simp only [List.length_nil, List.length_cons] at *
        omega
      · have := wsplit_size r []
        simp only [List.map_cons, List.sum_cons, List.length_nil, List.length_cons] at *
        omega
    · have := wsplit_size r (cur ++ [c])
      simp only [List.length_append, List.length_cons, List.length_nil] at *
      omega
theorem mkS_length (l : List Nat) : (mkS l).length = l.length := by simp [mkS, Str.length]
theorem words_size (x : Str) : ((wordsOf x).map (·.length)).sum + (wordsOf x).length ≤ x.length + 1 := by
  have h := wsplit_size x.cps.toList []
  have e1 : (wordsOf x).map (·.length) = (wsplit [] x.cps.toList).map List.length := by
    unfold wordsOf
    rw [List.map_map]
    exact List.map_congr_left fun l _ => mkS_length l
  have e2 : (wordsOf x).length = (wsplit [] x.cps.toList).length := by unfold wordsOf; simp
  have e3 : x.length = x.cps.toList.length := by simp [Str.length]
  rw [e1, e2, e3]
  simpa using h
end
section -- Split
def SplitInv (x : Str) (pre : List Int) (found : List Str) (begin : Int) : Prop :=
  0 ≤ begin ∧ (pre.length ≤ x.length → begin ≤ (pre.length : Int) ∧ found ++ (wsplit ((x.cps.toList.take pre.length).drop begin.toNat) (x.cps.toList.drop pre.length)).map mkS = wordsOf x) ∧ (x.length < pre.length → found = wordsOf x) ∧ found.length ≤ pre.length
end
section -- Tools
theorem fm_take (l : List Nat) (i : Nat) : ∀ m, i + m ≤ l.length → ((List.range m).map (fun k => i + k)).filterMap (fun k => l[k]?) = (l.drop i).take m
  | 0, _ => by simp
  | m + 1, h => by
    have ih := fm_take l i m (by omega)
    have hl : i + m < l.length := by omega
    rw [List.range_succ, List.map_append, List.filterMap_append, ih, List.take_add_one]
    simp [List.getElem?_drop, List.getElem?_eq_getElem hl]
theorem slice_eq {x : Str} {i j : Int} (h0 : 0 ≤ i) (h1 : i ≤ j) (h2 : j ≤ (x.length : Int)) : Txt.slice x (some i) (some j) = mkS ((x.cps.toList.take j.toNat).drop i.toNat) := by
  have hl : x.length = x.cps.toList.length := by simp [Str.length]
  have e : Builtin.Str.strSliceIndices (some i) (some j) 1 x.length = (List.range (j.toNat - i.toNat)).map (fun k => i.toNat + k) := by
    unfold Builtin.Str.strSliceIndices sliceRange
    have e1 : ¬ i < 0 := by omega
    have e2 : ¬ j < 0 := by omega
    simp only [e1, e2, if_false, show (1 : Int) > 0 by decide, if_true]
    have e3 : max 0 (min i (x.length : Int)) = i := by omega
    have e4 : max 0 (min j (x.length : Int)) = j := by omega
    rw [e3, e4]
    have e5 : (if i < j then (j - i + 1 - 1) / 1 else 0).toNat = j.toNat - i.toNat := by
      split
      · rw [Int.ediv_one]; omega
      · omega
    rw [e5]
    refine List.map_congr_left fun k _ => ?_
    omega
  unfold Txt.slice
  rw [e]
  split
  · rename_i hc
    simp at hc
    have hi : i.toNat = 0 := by omega
    have hj : j.toNat = x.cps.toList.length := by omega
    rw [hi, hj, List.take_length, List.drop_zero]
    rfl
  · unfold mkS
    congr 1
    have := fm_take x.cps.toList i.toNat (j.toNat - i.toNat) (by omega)
    rw [List.drop_take, ← this]
    simp
section
variable {prog : Program} {w : World} {A : Around} {E : Value → Shared → Prop} {s : Shared}
theorem item_at {x : Str} {i : Int} {t u : Tok} {value slice : PySem.Expr} {Q : Value → Shared → Prop} (h0 : 0 ≤ i) (h1 : i < (x.length : Int)) (hf : x.length ≤ 1000000) (h : ∀ c t' k, x.cps.toList[i.toNat]? = some c → Q (.str ⟨#[c]⟩ t') { s with toks := k })
    (hs : subscripted slice false (.str x t) (.int i u) = operate [.str x t, .int i u] (getItem (.str x t) (.int i u)) := by with_unfolding_all rfl)
    (ht : ∀ r, letTemporaryGo value (.str x t) r = pure () := by intro _; with_unfolding_all rfl) :
    wpAny (model prog w) A (subscriptTail value slice (.str x t) (.int i u)) Q E s := by
  refine item_str (fitsSsize_of (N := 9223372036854775808) (by omega) (by omega) (Int.le_refl _)) (by omega) h1 (fun _ => ?_) hs ht
  have hl : x.length = x.cps.toList.length := by simp [Str.length]
  have hlt : i.toNat < x.cps.toList.length := by omega
  have hg : x.cps.toList[i.toNat]? = some x.cps.toList[i.toNat] := List.getElem?_eq_getElem hlt
  have e : Txt.item x i = ⟨#[x.cps.toList[i.toNat]]⟩ := by
    unfold Txt.item Txt.charAt seqIndex?
    have e1 : ¬ i < 0 := by omega
    simp only [e1, if_false]
    have e2 : ¬ (i < 0 ∨ i ≥ (x.length : Int)) := by omega
    simp [e2]
    have hx : i.toNat < x.cps.size := by simpa using hlt
    simp [hx, h0, h1]
  rw [e]
  exact h _ _ _ hg

variable {env : Env} {h₀ : Heap} {x : Str} {body : List Stmt} {Q : Flow → Shared → Prop}
theorem rng {σ : Type} {r l : Addr} {a₀ b₀ : Int} {t₀ u₀ v₀ : Tok} {n : Nat} {m₀ : Str → Option Value} {news : List (Addr × Obj)} (Lo : σ → Obj) (rest : List (Addr × Obj)) (ps : σ → List (Str × Value)) (Facts : σ → Prop) (stored : List Str) (P : List Int → σ → Prop) (c₀ : σ)
    (hh : A.handled = none) (hr : IsRange s.heap r a₀ b₀ 1 t₀ u₀ v₀) (hsmall : Builtin.Range.small a₀ b₀ 1 = true) (hn : Builtin.Range.rangeSize a₀ b₀ 1 = (n : Int)) (F : Fr h₀ env.locals s.heap m₀) (N : News h₀ env.locals s.heap news) (hm : (l, Lo c₀) ∈ news) (hrest : ∀ p ∈ rest, p ∈ news) (hf : Facts c₀) (hk : ∀ p ∈ ps c₀, m₀ p.1 = some p.2) (hp : P [] c₀)
    (turn : ∀ (c : σ) (pre : List Int) (k : Int) t (u : Str → Option Value) h tk own, k = a₀ + (pre.length : Int) → pre.length < n → OwnOff own (l :: rest.map (·.1)) → Facts c → P pre c →
      Fr h₀ env.locals h (fun y => if y = x then some (.int k t) else kstB (fun z => if stored.contains z then u z else m₀ z) (ps c) y) → News h₀ env.locals h ((l, Lo c) :: rest ++ own) →
      wpAny (model prog w) A (execs body env) (InvPostN h₀ env.locals (KstS (fun c => (l, Lo c) :: rest) ps Facts x stored m₀ P (pre ++ [k])) own (l :: rest.map (·.1)) { s with heap := h, toks := tk } Q) E { s with heap := h, toks := tk })
    (done : ∀ (c : σ) (u : Str → Option Value) h tk, Facts c → P (rangeKs a₀ n) c → Fr h₀ env.locals h (fun y => if y = x then u y else kstB (fun z => if stored.contains z then u z else m₀ z) (ps c) y) → News h₀ env.locals h ((l, Lo c) :: rest) → Q .next { s with heap := h, toks := tk }) :
    wpAny (model prog w) A (pyIter (.ref r)) (fun it s₂ => LoopAtV prog w A h₀ env x body Q E it s₂) E s :=
  kst_range (fun c => (l, Lo c) :: rest) ps Facts stored P c₀ hh hr hsmall hn F (fun p hp => by
    rcases List.mem_cons.mp hp with rfl | hp
    · exact N _ hm
    · exact N _ (hrest p hp)) hf hk hp turn done
end
end
section -- Split2
theorem in1 {a : Addr × Obj} {r : List (Addr × Obj)} : ∀ p ∈ [a], p ∈ a :: r := by simp
theorem keys1 {m : Str → Option Value} {a : Str} {v : Value} (h : m a = some v) : ∀ p ∈ [(a, v)], m p.1 = some p.2 := by simpa using h
theorem len_toList (x : Str) : x.length = x.cps.toList.length := by simp [Str.length]
theorem charAt_get {x : Str} {k : Int} (h0 : 0 ≤ k) (h1 : k < (x.length : Int)) : ∃ c, x.cps.toList.drop k.toNat = c :: x.cps.toList.drop (k.toNat + 1) ∧ (Txt.charAt x k).getD 0 = c ∧ x.cps.toList.take (k.toNat + 1) = x.cps.toList.take k.toNat ++ [c] := by
  have hl := len_toList x
  have hlt : k.toNat < x.cps.toList.length := by omega
  refine ⟨x.cps.toList[k.toNat], (List.drop_eq_getElem_cons hlt), ?_, ?_⟩
  · unfold Txt.charAt seqIndex?
    have e1 : ¬ k < 0 := by omega
    have hx : k.toNat < x.cps.size := by simpa using hlt
    simp [e1, hx, h0, h1]
  · rw [List.take_add_one, List.getElem?_eq_getElem hlt]
    rfl
section
variable {x : Str} {pre : List Int} {fd : List Str} {bg k : Int}
theorem inv_space (h : SplitInv x pre fd bg) (hk : k = 0 + (pre.length : Int)) (hlt : pre.length < x.length + 1) (hc : k = (x.length : Int) ∨ isSp ((Txt.charAt x k).getD 0) = true) (hb : bg < k) :
    SplitInv x (pre ++ [k]) (fd ++ [Txt.slice x (some bg) (some k)]) (k + 1) := by
  obtain ⟨hb0, hP1, hP2, hP3⟩ := h
  have hl := len_toList x
  obtain ⟨hb1, hW⟩ := hP1 (by omega)
  rw [slice_eq hb0 (by omega) (by omega)]
  have ek : k.toNat = pre.length := by omega
  rw [ek]
  generalize hcur : (x.cps.toList.take pre.length).drop bg.toNat = cur at hW ⊢
  have hne : cur ≠ [] := by
    intro e
    have := congrArg List.length hcur
    rw [e, List.length_drop, List.length_take] at this
    simp only [List.length_nil] at this
    omega
  refine ⟨by omega, fun h1 => ?_, fun h1 => ?_, ?_⟩
  · rw [List.length_append, List.length_singleton] at h1 ⊢
    refine ⟨by omega, ?_⟩
    rcases hc with hc | hc
    · omega
    · obtain ⟨c, e1, e2, e3⟩ := charAt_get (x := x) (k := k) (by omega) (by omega)
      rw [ek] at e1
      rw [e2] at hc
      rw [e1] at hW
      rw [show (k + 1).toNat = pre.length + 1 by omega]
      have e4 : (x.cps.toList.take (pre.length + 1)).drop (pre.length + 1) = [] := by
        apply List.drop_eq_nil_of_le
        rw [List.length_take]; omega
      rw [e4]
      have e5 : wsplit cur (c :: x.cps.toList.drop (pre.length + 1)) = cur :: wsplit [] (x.cps.toList.drop (pre.length + 1)) := by
        rw [wsplit]
        simp [hc, hne]
      rw [e5] at hW
      rw [← hW]
      simp
  · rw [List.length_append, List.length_singleton] at h1
    have e : x.cps.toList.drop pre.length = [] := List.drop_eq_nil_of_le (by omega)
    rw [e] at hW
    have e5 : wsplit cur [] = [cur] := by
      rw [wsplit]
      simp [hne]
    rw [e5] at hW
    exact hW
  · simp only [List.length_append, List.length_singleton]
    omega
theorem inv_skip (h : SplitInv x pre fd bg) (hk : k = 0 + (pre.length : Int)) (hlt : pre.length < x.length + 1) (hc : k = (x.length : Int) ∨ isSp ((Txt.charAt x k).getD 0) = true) (hb : ¬ bg < k) :
    SplitInv x (pre ++ [k]) fd (k + 1) := by
  obtain ⟨hb0, hP1, hP2, hP3⟩ := h
  have hl := len_toList x
  obtain ⟨hb1, hW⟩ := hP1 (by omega)
  have ek : k.toNat = pre.length := by omega
  have hcur : (x.cps.toList.take pre.length).drop bg.toNat = [] := List.drop_eq_nil_of_le (by rw [List.length_take]; omega)
  rw [hcur] at hW
  refine ⟨by omega, fun h1 => ?_, fun h1 => ?_, ?_⟩
  · rw [List.length_append, List.length_singleton] at h1 ⊢
    refine ⟨by omega, ?_⟩
    rcases hc with hc | hc
    · omega
    · obtain ⟨c, e1, e2, e3⟩ := charAt_get (x := x) (k := k) (by omega) (by omega)
      rw [ek] at e1
      rw [e2] at hc
      rw [e1] at hW
      rw [show (k + 1).toNat = pre.length + 1 by omega]
      have e4 : (x.cps.toList.take (pre.length + 1)).drop (pre.length + 1) = [] := by
        apply List.drop_eq_nil_of_le
        rw [List.length_take]; omega
      rw [e4]
      have e5 : wsplit [] (c :: x.cps.toList.drop (pre.length + 1)) = wsplit [] (x.cps.toList.drop (pre.length + 1)) := by
        rw [wsplit]
        simp [hc]
      rw [e5] at hW
      exact hW
  · rw [List.length_append, List.length_singleton] at h1
    have e : x.cps.toList.drop pre.length = [] := List.drop_eq_nil_of_le (by omega)
    rw [e] at hW
    simpa [wsplit] using hW
  · simp only [List.length_append, List.length_singleton]
    omega
theorem inv_go (h : SplitInv x pre fd bg) (hk : k = 0 + (pre.length : Int)) (hlt : pre.length < x.length + 1) (hn : k ≠ (x.length : Int)) (hc : isSp ((Txt.charAt x k).getD 0) = false) :
    SplitInv x (pre ++ [k]) fd bg := by
  obtain ⟨hb0, hP1, hP2, hP3⟩ := h
  have hl := len_toList x
  obtain ⟨hb1, hW⟩ := hP1 (by omega)
  have ek : k.toNat = pre.length := by omega
  obtain ⟨c, e1, e2, e3⟩ := charAt_get (x := x) (k := k) (by omega) (by omega)
  rw [ek] at e1 e3
  rw [e2] at hc
  refine ⟨hb0, fun h1 => ?_, fun h1 => ?_, ?_⟩
  · rw [List.length_append, List.length_singleton] at h1 ⊢
    refine ⟨by omega, ?_⟩
    rw [e3, List.drop_append_of_le_length (by rw [List.length_take]; omega)]
    rw [e1] at hW
    rw [wsplit] at hW
    simpa [hc] using hW
  · rw [List.length_append, List.length_singleton] at h1
    omega
  · simp only [List.length_append, List.length_singleton]
    omega
theorem inv_end (h : SplitInv x (rangeKs 0 (x.length + 1)) fd bg) : fd = wordsOf x := h.2.2.1 (by rw [rangeKs_length]; omega)
end
end
section -- T9
local macro_rules | `(tactic| walk_at "MINE enter") => `(tactic| (
  w_top off
  unfold Spec
  k_fill
  intro mean mg mb dp un gd cn cs a ccd cl outer A₀ base h₀ L m s Q E B F X N T hk hd hu ret
  k_dflt (refine' enter B F X N T hk hd ret ?ho ?hcd ?hb ?hl ?c2 ?c3 ?c4 ?c5 ?body; (case ho => k_is); (case hcd => k_is); (case hb => exact BindsTo.of_eq rfl); (case hl => exact locs rfl); (case c2 => exact rfl); (case c3 => exact rfl); (case c4 => exact rfl); (case c5 => decide))
  intro g' L' h' F' N' B' X' T'
  clear ret T X N F B
  (try dsimp only)
  (try k_fold)))
local macro_rules | `(tactic| walk_at "MINE end") => `(tactic| (
  (try dsimp only)
  (try k_unfold)
  (try dsimp only)
  refine ⟨_, _, _, _, _, rfl, by assumption, by assumption, ?_⟩))
local macro_rules | `(tactic| walk_at "MINE steps") => `(tactic| (
  repeat' ((fail_if_success (with_reducible show wpAny _ _ (pyIter _) _ _ _)); (fail_if_success (with_reducible show InvEndN _ _ _ _ _ _ _)); (fail_if_success (with_reducible show Leave _ _ _ _ _)); (fail_if_success (with_reducible show CutB _ _ _ _ _ _ _ _)); (fail_if_success (with_reducible show CutV _ _ _ _ _ _ _)); (fail_if_success (with_reducible show CutW _ _ _ _ _ _ _ _ _)); (fail_if_success (with_reducible show LCg.CompSrc _ _ _ _ _ _ _ _ _ _ _ _ _ _)); (fail_if_success (with_reducible show LCt.CompSrcT _ _ _ _ _ _ _ _ _ _ _ _ _ _ _)); (fail_if_success (with_reducible show LCg.CompEnd _ _ _ _ _ _ _ _ _ _ _ _ _ _)); first | (k_unfold; (try dsimp only)) | (k_end; wrow_close) | walk1 | (dsimp only; walk1) | (leave1; try dsimp only) | fail "no step")))
local macro_rules | `(tactic| walk_at "exec For") => `(tactic| (k_here; (rename Fr _ _ _ _ => lF'); (with_unfolding_all refine' For_invVF lF' ?k1 ?k2 ?_; (case k1 => exact rfl); (case k2 => exact rfl); k_whole); walk_say "MINE for"))
local macro_rules | `(tactic| walk_at "MINE same1") => `(tactic| (intro z hz h1 h2; (have hb9 := h1 _ (List.Mem.head _)); (try dsimp only at hb9); first | rfl | (simp [kstB, hz, hb9]; done) | (simp_all [kstB]; done)))
local macro_rules | `(tactic| walk_at "MINE in") => `(tactic| exact in1)
local macro_rules | `(tactic| walk_at "MINE keys1") => `(tactic| (intro p hp; (have e9 := List.mem_singleton.mp hp); subst e9; with_unfolding_all rfl))
local macro_rules | `(tactic| walk_at "eval ListComp") => `(tactic| (k_here; (with_reducible show wpAny _ _ (eval (Expr.ListComp _ [Comprehension.mk _ _ [] _] _ _) _) _ _ _); k_dflt (refine LCg.ListComp_U (F₀ := by k_asm) (by with_unfolding_all rfl) (by decide) (by rfl) (by decide) (by rfl) ?_); walk_say "MINE comp"))
local macro_rules | `(tactic| walk_at "eval ListComp") => `(tactic| (k_here; (with_reducible show wpAny _ _ (eval (Expr.ListComp _ [Comprehension.mk _ _ [_] _] _ _) _) _ _ _); k_dflt (refine LCt.ListComp_T (F₀ := by k_asm) (by with_unfolding_all rfl) (by decide) (by rfl) (by decide) (by rfl) ?_); walk_say "MINE compT"))
local macro_rules | `(tactic| walk_at "call ref") => `(tactic| (k_dflt (refine' use_read (is_space_ok _) ?kB ?kF ?kX ?kN ?kT ?khk ?khs ?khd ?khu ?_; (case kB => k_asm); (case kF => k_asm); (case kX => k_asm); (case kN => k_asm); (case kT => k_asm); (case khk => first | exact rfl | assumption); (case khs => exact List.forall_mem_nil _); (case khd => ktr_room); (case khu => ktr_units)); (intro r9 h9 tk9 F9 N9 hP9); subst hP9; walk_say "MINE is_space_ok"; (try k_sweep); (try dsimp only); (try k_fold)))
section
local macro_rules | `(tactic| walk_at "subscriptTail") => `(tactic| (k_here; (with_reducible show wpAny _ _ (subscriptTail _ _ (Value.str _ _) (Value.int _ _)) _ _ _); (refine item_at (by omega) (by omega) (by omega) ?_); (intro c9 t9 k9 hc9); walk_say "MINE item"))
theorem split_ok (w : World) {x : Str} {t : Tok} (hx : x.length ≤ 64) :
    Spec 2 w 94 [.str x t] [] (fun r own' => ∃ l us c, r = .ref l ∧ own' = [(l, listOf us.toArray c)] ∧ (∀ q ∈ ([] : List (Addr × Obj)), q.1 ≠ l) ∧ StrsAre us (wordsOf x)) := by
  k_with_none
  walk_at "MINE enter"
  walk_at "MINE steps"
  refine' rng (σ := List Value × List Str × Nat × Int × Tok) (n := x.length + 1) (fun c => listOf c.1.toArray c.2.2.1) [] (fun c => [(Str.ofString "begin", .int c.2.2.2.1 c.2.2.2.2)]) (fun c => StrsAre c.1 c.2.1) [] (fun pre c => SplitInv x pre c.2.1 c.2.2.2.1) ([], [], 0, 0, _) ?hh ?hr ?hsm ?hn ?F ?N ?hm ?hrest ?hf ?hk ?hp ?turn ?done
  case hh => rfl
  case hr => assumption
  case hsm => exact small_one (by omega) (by omega) (by omega) (by omega)
  case hn => exact rangeSize_nat _ _
  case F => assumption
  case N => assumption
  case hm => k_memK
  case hrest => exact fun _ h => nomatch h
  case hf => exact .nil
  case hk => (intro p hp; rcases List.mem_cons.mp hp with rfl | hp <;> first | rfl | exact nomatch hp)
  case hp => exact ⟨Int.le_refl _, fun _ => ⟨Int.le_refl _, rfl⟩, fun h => absurd h (Nat.not_lt_zero _), Nat.le_refl _⟩
  case turn =>
    rintro ⟨us, fd, nn, bg, tb⟩ pre k t9 u h tk own hk hlt hOff hS hP F9 N9
    dsimp only at hS hP F9 N9
    (simp only [List.map_nil, List.cons_append, List.nil_append] at N9 hOff)
    obtain ⟨hb0, hP1, hP2, hP3⟩ := id hP
    have hb1 := (hP1 (by omega)).1
    have hus := hS.length
    k_sweep
    (try dsimp only)
    (try k_fold)
    walk_at "MINE steps"
    · rename News _ _ _ _ => nE
      simp only [List.push_toArray] at nE
      exact kst_end (us ++ [_], fd ++ [_], nn + 1, k + 1, _) (by assumption) nE (by walk_at "MINE in") (fun p hp => .tail _ hp) rfl (KStt.strs_snoc hS) (by walk_at "MINE keys1") (by walk_at "MINE same1") (inv_space hP hk hlt (.inl (by assumption)) (by assumption))
    · exact kst_end (us, fd, nn, k + 1, _) (by assumption) (by assumption) (by walk_at "MINE in") (fun p hp => .tail _ hp) rfl hS (by walk_at "MINE keys1") (by walk_at "MINE same1") (inv_skip hP hk hlt (.inl (by assumption)) (by assumption))
    · rename News _ _ _ _ => nE
      simp only [List.push_toArray] at nE
      exact kst_end (us ++ [_], fd ++ [_], nn + 1, k + 1, _) (by assumption) nE (by walk_at "MINE in") (fun p hp => .tail _ hp) rfl (KStt.strs_snoc hS) (by walk_at "MINE keys1") (by walk_at "MINE same1") (inv_space hP hk hlt (.inr (by assumption)) (by assumption))
    · exact kst_end (us, fd, nn, k + 1, _) (by assumption) (by assumption) (by walk_at "MINE in") (fun p hp => .tail _ hp) rfl hS (by walk_at "MINE keys1") (by walk_at "MINE same1") (inv_skip hP hk hlt (.inr (by assumption)) (by assumption))
    · exact kst_end (us, fd, nn, bg, tb) (by assumption) (by assumption) (by walk_at "MINE in") (fun p hp => .tail _ hp) rfl hS (by walk_at "MINE keys1") (by walk_at "MINE same1") (inv_go hP hk hlt (by assumption) (by assumption))
  case done =>
    rintro ⟨us, fd, nn, bg, tb⟩ u h tk hS hP F9 N9
    dsimp only at hS hP F9 N9
    k_sweep
    (try dsimp only)
    (try k_fold)
    walk_at "MINE steps"
    walk_at "MINE end"
    have e := inv_end hP
    subst e
    exact ⟨_, _, _, rfl, rfl, (fun _ h => nomatch h), hS⟩
end
end
section -- T5
local macro_rules | `(tactic| walk_at "MINE enter") => `(tactic| (
  w_top off
  unfold Spec
  k_fill
  intro mean mg mb dp un gd cn cs a ccd cl outer A₀ base h₀ L m s Q E B F X N T hk hd hu ret
  k_dflt (refine' enter B F X N T hk hd ret ?ho ?hcd ?hb ?hl ?c2 ?c3 ?c4 ?c5 ?body; (case ho => k_is); (case hcd => k_is); (case hb => exact BindsTo.of_eq rfl); (case hl => exact locs rfl); (case c2 => exact rfl); (case c3 => exact rfl); (case c4 => exact rfl); (case c5 => decide))
  intro g' L' h' F' N' B' X' T'
  clear ret T X N F B
  (try dsimp only)
  (try k_fold)))
local macro_rules | `(tactic| walk_at "MINE end0") => `(tactic| (
  (try dsimp only)
  (try k_unfold)
  (try dsimp only)
  refine ⟨_, _, [], _, _, rfl, by assumption, News.nil, rfl, ?_⟩))
local macro_rules | `(tactic| walk_at "call ref") => `(tactic| (k_dflt (refine' use_list (split_ok _ (by assumption)) ?kB ?kF ?kX ?kN ?kT ?khk ?khs ?khd ?khu ?_; (case kB => k_asm); (case kF => k_asm); (case kX => k_asm); (case kN => k_asm); (case kT => k_asm); (case khk => first | exact rfl | assumption); (case khs => k_allIn); (case khd => ktr_room); (case khu => ktr_units)); (intro l9 us9 c9 h9 tk9 F9 N9 hA9 hP9); (try simp only [AllNe, and_true] at hA9); walk_say "MINE split_ok"; (try k_sweep); (try dsimp only); (try k_fold)))
section
local macro_rules | `(tactic| walk_at "call builtin:str.join") => `(tactic| (k_here; (with_reducible show wpAny _ _ (call (Value.builtin "str.join") [Value.str _ _, Value.ref _]) _ _ _); k_dflt (refine' join_listW ?ka ?kb ?kc ?kd ?_; (case ka => exact ⟨_, News.get (by k_asm) (by k_memK), rfl, _, rfl⟩); (case kb => k_asm); (case kc => decide +kernel); (case kd => exact Nat.le_trans (words_size _) (by omega)); k_whole); intro t9 k9))
theorem collapsed_ok (w : World) {x : Str} {t : Tok} (hx : x.length ≤ 64) : Spec 3 w 101 [.str x t] [] (fun r own' => own' = [] ∧ ∃ t', r = .str (collapsedS x) t') := by
  k_with_none
  walk_at "MINE enter"
  k_steps
  walk_at "MINE end0"
  exact ⟨_, rfl⟩
end
end
section -- T6
local macro_rules | `(tactic| walk_at "MINE enter") => `(tactic| (
  w_top off
  unfold Spec
  k_fill
  intro mean mg mb dp un gd cn cs a ccd cl outer A₀ base h₀ L m s Q E B F X N T hk hd hu ret
  k_dflt (refine' enter B F X N T hk hd ret ?ho ?hcd ?hb ?hl ?c2 ?c3 ?c4 ?c5 ?body; (case ho => k_is); (case hcd => k_is); (case hb => exact BindsTo.of_eq rfl); (case hl => exact locs rfl); (case c2 => exact rfl); (case c3 => exact rfl); (case c4 => exact rfl); (case c5 => decide))
  intro g' L' h' F' N' B' X' T'
  clear ret T X N F B
  (try dsimp only)
  (try k_fold)))
local macro_rules | `(tactic| walk_at "MINE end0") => `(tactic| (
  (try dsimp only)
  (try k_unfold)
  (try dsimp only)
  refine ⟨_, _, [], _, _, rfl, by assumption, News.nil, rfl, ?_⟩))
local macro_rules | `(tactic| walk_at "call ref") => `(tactic| (k_dflt (refine' use_read (collapsed_ok _ (by assumption)) ?kB ?kF ?kX ?kN ?kT ?khk ?khs ?khd ?khu ?_; (case kB => k_asm); (case kF => k_asm); (case kX => k_asm); (case kN => k_asm); (case kT => k_asm); (case khk => first | exact rfl | assumption); (case khs => exact List.forall_mem_nil _); (case khd => ktr_room); (case khu => ktr_units)); (intro r9 h9 tk9 F9 N9 hP9); (obtain ⟨t9, hP9⟩ := hP9); subst hP9; walk_say "MINE collapsed_ok"; (try k_sweep); (try dsimp only); (try k_fold)))
theorem normalised_ok (w : World) {k x : Str} {tk t : Tok} (hx : x.length ≤ 64) : Spec 4 w 144 [.str k tk, .str x t] [] (fun r own' => own' = [] ∧ ∃ t', r = .str (normS k x) t') := by
  k_with_none
  walk_at "MINE enter"
  k_steps
  · walk_at "MINE end0"
    rename (_ == _) = true => hs
    unfold normS
    rw [if_pos hs]
    exact ⟨_, rfl⟩
  · walk_at "MINE end0"
    rename (_ == _) = false => hs
    unfold normS
    rw [if_neg (by rw [hs]; decide)]
    exact ⟨_, rfl⟩
end
section -- T7
local macro_rules | `(tactic| walk_at "MINE enter") => `(tactic| (
  w_top off
  unfold Spec
  k_fill
  intro mean mg mb dp un gd cn cs a ccd cl outer A₀ base h₀ L m s Q E B F X N T hk hd hu ret
  k_dflt (refine' enter B F X N T hk hd ret ?ho ?hcd ?hb ?hl ?c2 ?c3 ?c4 ?c5 ?body; (case ho => k_is); (case hcd => k_is); (case hb => exact BindsTo.of_eq rfl); (case hl => exact locs rfl); (case c2 => exact rfl); (case c3 => exact rfl); (case c4 => exact rfl); (case c5 => decide))
  intro g' L' h' F' N' B' X' T'
  clear ret T X N F B
  (try dsimp only)
  (try k_fold)))
local macro_rules | `(tactic| walk_at "MINE end") => `(tactic| (
  (try dsimp only)
  (try k_unfold)
  (try dsimp only)
  refine ⟨_, _, _, _, _, rfl, by assumption, by assumption, ?_⟩))
local macro_rules | `(tactic| walk_at "call ref") => `(tactic| (k_dflt (refine' use_list (split_ok _ (by assumption)) ?kB ?kF ?kX ?kN ?kT ?khk ?khs ?khd ?khu ?_; (case kB => k_asm); (case kF => k_asm); (case kX => k_asm); (case kN => k_asm); (case kT => k_asm); (case khk => first | exact rfl | assumption); (case khs => k_allIn); (case khd => ktr_room); (case khu => ktr_units)); (intro l9 us9 c9 h9 tk9 F9 N9 hA9 hP9); (try simp only [AllNe, and_true] at hA9); walk_say "MINE split_ok"; (try k_sweep); (try dsimp only); (try k_fold)))
theorem isTupK {K : Frag} {h₀ h : Heap} {L a : Addr} {m : Str → Option Value} {items : Array Value} {n : Nat} {d : Option Addr} {sl : Array (Option Value)} (F : Fr h₀ L h m) (X : K.In h₀) (e : K.lookup a = some ⟨.type "tuple", d, .seq items n, sl⟩) : IsTup h a items := ⟨_, F.keep _ _ (X _ _ e), rfl, n, rfl⟩
local macro_rules | `(tactic| walk_at "compareOp In str ref") => `(tactic| (k_here; (with_reducible show wpAny _ _ (compareOp CmpOp.In (Value.str _ _) (Value.ref _)) _ _ _); k_dflt (refine' in_tuple_strs ?ka ?kb ?_; (case ka => refine' isTupK ?kf ?kx ?ke; (case kf => k_asm); (case kx => k_asm); (case ke => k_is)); (case kb => repeat' (first | exact StrsAre.nil | refine' StrsAre.cons _ _ ?_)); k_whole)))
theorem words_of_ok (w : World) {k x : Str} {tk t : Tok} (hx : x.length ≤ 64) :
    Spec 3 w 151 [.str k tk, .str x t] [] (fun r own' => ∃ l us c, r = .ref l ∧ own' = [(l, listOf us.toArray c)] ∧ (∀ q ∈ ([] : List (Addr × Obj)), q.1 ≠ l) ∧ StrsAre us (wordsOfK k x)) := by
  k_with_none
  walk_at "MINE enter"
  k_steps
  · walk_at "MINE end"
    rename List.any _ _ = true => hs
    have e : wordsOfK k x = wordsOf x := by
      unfold wordsOfK isListKind
      simp only [List.any_cons, List.any_nil, Bool.or_false] at hs
      rw [if_pos (by rw [BEq.comm, BEq.comm (a := k), BEq.comm (a := k), Bool.or_assoc]; exact hs)]
    rw [e]
    exact ⟨_, _, _, rfl, rfl, (fun _ h => nomatch h), by assumption⟩
  · walk_at "MINE end"
    rename List.any _ _ = false => hs
    have e : wordsOfK k x = [x] := by
      unfold wordsOfK isListKind
      simp only [List.any_cons, List.any_nil, Bool.or_false] at hs
      rw [if_neg (by rw [BEq.comm, BEq.comm (a := k), BEq.comm (a := k), Bool.or_assoc, hs]; decide)]
    rw [e]
    exact ⟨_, _, _, rfl, rfl, (fun _ h => nomatch h), .cons _ _ .nil⟩
end
section -- T8
local macro_rules | `(tactic| walk_at "MINE enter") => `(tactic| (
  w_top off
  unfold Spec
  k_fill
  intro mean mg mb dp un gd cn cs a ccd cl outer A₀ base h₀ L m s Q E B F X N T hk hd hu ret
  k_dflt (refine' enter B F X N T hk hd ret ?ho ?hcd ?hb ?hl ?c2 ?c3 ?c4 ?c5 ?body; (case ho => k_is); (case hcd => k_is); (case hb => exact BindsTo.of_eq rfl); (case hl => exact locs rfl); (case c2 => exact rfl); (case c3 => exact rfl); (case c4 => exact rfl); (case c5 => decide))
  intro g' L' h' F' N' B' X' T'
  clear ret T X N F B
  (try dsimp only)
  (try k_fold)))
local macro_rules | `(tactic| walk_at "MINE end0") => `(tactic| (
  (try dsimp only)
  (try k_unfold)
  (try dsimp only)
  refine ⟨_, _, [], _, _, rfl, by assumption, News.nil, rfl, ?_⟩))
theorem amp_in (x : Str) : (Builtin.Str.occurrences x (Str.ofString "&") 0 x.length 1).isEmpty = !(x.cps.toList.contains 38) := by
  have h := StrLaws.found_one x 38
  have e : Str.ofString "&" = ⟨#[38]⟩ := by decide +kernel
  have e2 : x.cps.toList.contains 38 = decide (38 ∈ x.cps.toList) := by rw [Bool.eq_iff_iff]; simp
  rw [e, e2, ← h, Bool.not_not]
theorem hd_in (c : Nat) : (Builtin.Str.occurrences (Str.ofString "1-.") { cps := #[c] } 0 (Str.ofString "1-.").length 1).isEmpty = !(c == 49 || c == 45 || c == 46) := by
  have h := StrLaws.found_one (Str.ofString "1-.") c
  have e : (Str.ofString "1-.").cps.toList = [49, 45, 46] := by decide +kernel
  rw [e] at h
  have h2 : decide (c ∈ [49, 45, 46]) = (c == 49 || c == 45 || c == 46) := by
    rw [Bool.eq_iff_iff]
    simp [or_assoc]
  rw [h2] at h
  rw [← h, Bool.not_not]
theorem law_word_ok (w : World) {x : Str} {t : Tok} {b : Bool} (hn : x.length ≤ 64) : Spec 2 w 210 [.str x t, .bool b] [] (fun r own' => own' = [] ∧ r = .bool (lawWordB x b)) := by
  k_with_none
  have e0 : Str.ofString "" = ⟨⟨[]⟩⟩ := by decide +kernel
  obtain ⟨⟨l⟩⟩ := x
  cases l with
  | nil =>
    walk_at "MINE enter"
    k_steps
    walk_at "MINE end0"
    rfl
  | cons c l =>
    have e9 : lawWordB ⟨⟨c :: l⟩⟩ b = (!((c :: l).contains 38) && (!b || !(c == 49 || c == 45 || c == 46))) := rfl
    have e8 := amp_in ⟨⟨c :: l⟩⟩
    walk_at "MINE enter"
    k_steps
    all_goals walk_at "MINE end0"
    all_goals rw [e9]
    all_goals (rename (_ == _) = _ => he; rw [e0] at he; simp only [item0, hd_in] at *)
    · simp at he
    · subst_vars
      rename List.isEmpty _ = true => ha
      rw [e8] at ha
      simp_all
    · subst_vars
      rename List.isEmpty _ = true => ha
      rw [e8] at ha
      simp_all
    · rename List.isEmpty _ = false => ha
      rw [e8] at ha
      simp_all
end
section -- EntC
theorem enterC {n : Nat} {prog : Program} {w : World} {K : Frag} {p : Program} {loose : List Str} {mean : ExcName → Option Value} {mg mb : Str → Option Value} {dp un : Nat} {gd : Option (List Code)} {cn : Str} {cs : Scope} {a : Addr} {ccd : Value} {cl : List (Str × Addr)} {outer : List Env} {A₀ : Around} {base h₀ : Heap} {L : Addr} {m : Str → Option Value} {s : Shared} {Q E : Value → Shared → Prop}
    {own : List (Addr × Obj)} {Post : Value → List (Addr × Obj) → Prop} {vs : List Value}
    {name qual : Str} {params : Arguments} {body : List Stmt} {scope : Scope} {dV kV doc pm cdv ct oc : Value} {an od : Option Addr} {osl : Array (Option Value)} {f : Addr} {binds : List (Str × Value)}
    (B : Below A₀ base outer h₀) (F : Fr h₀ L s.heap m) (X₀ : K.In h₀) (N : News h₀ L s.heap own) (T : Top p loose mean mg mb h₀) (hks : cs.kind = .function)
    (hroom : dp + n < recursionLimit)
    (ret : ∀ r own' h' tk', Kept own s.heap h' → Fresh own s.heap own' → News h₀ L h' own' → Post r own' → Q r { s with heap := h', toks := tk' })
    (ho : K.lookup f = some ⟨oc, od, .func (fnOf name qual params body scope dV kV doc pm an cdv ct), osl⟩) (hcd : codeIn K cdv qual = true)
    (hbind : BindsTo s (fnOf name qual params body scope dV kV doc pm an cdv ct) ⟨vs, []⟩ binds)
    (hkind : (binds.all fun y => scope.names.lookup y.1 == some .local || scope.names.lookup y.1 == some .cell) = true)
    (hnd : ((cellsFrom 0 scope.names []).map (·.1)).Nodup)
    (hco : scope.isCoroutine = false) (hgen : scope.isGenerator = false) (hk : scope.kind = .function)
    (h : ∀ g L' h₁ tk cells, Fr g L' h₁ (bindL (envOfC qual scope L' f cdv).kindOf binds fun _ => none) → News g L' h₁ (cells ++ own) →
      CellsAre (bindC (envOfC qual scope L' f cdv).kindOf binds fun _ => none) (cellsFrom (L' + 1) scope.names []) cells →
      Below (ktrTop dp un gd cn cs L a ccd cl outer) base (envX cn cs L a ccd cl :: outer) g → K.In g → Top p loose mean mg mb g → (∀ p ∈ own, p.1 < L') →
      wpAny (model prog w) ((ktrTop dp un gd cn cs L a ccd cl outer).deeper (envOfC qual scope L' f cdv)) (execs body (envOfC qual scope L' f cdv))
        (fun fl s' => Leave g s Post (match fl with | .ret v => v | _ => .none) s') (fun _ _ => False)
        { s with heap := h₁, toks := tk }) :
    wpAny (model prog w) (ktrTop dp un gd cn cs L a ccd cl outer) (call (.ref f) vs) Q E s := by
  refine wpAny_call ?_
  have X := X₀.keeps F.keep
  obtain ⟨FG, BG, st, -⟩ := groundX (R := fun _ _ => True) (A := ktrTop dp un gd cn cs L a ccd cl outer) (env := envX cn cs L a ccd cl) B F N rfl rfl hks
  refine codeAny_call_function (by show dp < recursionLimit; omega) (X _ _ ho) rfl hco hgen rfl (codeRec_of X hcd) (hbind _ _ _ _ ?_)
  refine wpAny_newFunctionEnv_cells hk (kindsX hkind _) fun env' he s' x => ?_
  subst he
  refine ⟨(T.nolimit.keeps F.keep).keeps x.toInCall.keep, codeAny_func ?_⟩
  obtain ⟨h₁, tk, rfl, _⟩ := x.done
  have hk₁ := x.toInCall.keep
  obtain ⟨cells, NC, Y⟩ := Cl.news (h₀ := s.heap) (Nat.le_refl _) fun n c hm => ⟨x.cell n c (lookup_of_mem_nodup (cellsFrom_names scope.names 0 (s.heap.objs.size + 1) [] [] rfl ▸ hnd) hm), x.above n c hm⟩
  refine wpAny_mono (h _ s.heap.objs.size h₁ tk cells ⟨x.toInCall.ns, fun b o e => hk₁ b o (of_hideAll _ e), Nat.le_of_eq (hideAll_size _ _)⟩ (fun p hp => ?_) Y BG (X₀.keeps st) (T.keeps st) (fun p hp => Heap.lt_size (N p hp).1)) (fun fl s' hl => ?_) fun _ _ y => y.elim
  · rcases List.mem_append.mp hp with hp | hp
    · refine ⟨(NC p hp).1, (NC p hp).2.1, ?_⟩
      cases q : (hideAll s.heap (own.map (·.1))).get? p.1 with
      | none => rfl
      | some o => have := of_hideAll _ q; rw [(NC p hp).2.2] at this; cases this
    · exact ⟨hk₁ _ _ (N p hp).1, Nat.ne_of_lt (Heap.lt_size (N p hp).1), hideAll_none _ (List.mem_map_of_mem hp)⟩
  obtain ⟨L', m', own', h', tk', rfl, F', N', hp⟩ := hl
  have kp : Kept own s.heap h' := fun b o e hb => F'.keep b o (hideAll_get _ e fun q => by
    obtain ⟨p, hp, e⟩ := List.mem_map.mp q
    exact hb p hp e)
  have fp : Fresh own s.heap own' := fun p hp e => by
    obtain ⟨o, e⟩ := Option.isSome_iff_exists.mp e
    refine Classical.byContradiction fun c => ?_
    have h1 := (N' p hp).2.2
    rw [hideAll_get _ e fun q => by
      obtain ⟨p', hp', e'⟩ := List.mem_map.mp q
      exact c ⟨p', hp', e'⟩] at h1
    cases h1
  obtain ⟨oL, es, ep, hL, hLd, hLk, hLf⟩ := F.ns
  refine ret _ own' h' tk' kp fp (fun p hp => ⟨(N' p hp).1, fun q => ?_, ?_⟩) hp
  · have h1 := (N' p hp).2.2
    rw [q, hideAll_get _ hL fun q => by
      obtain ⟨p, hp, e⟩ := List.mem_map.mp q
      exact (N p hp).2.1 e] at h1
    cases h1
  · cases q : h₀.get? p.1 with
    | none => rfl
    | some o => have := (N' p hp).2.2; rw [st _ _ q] at this; cases this
end
section -- Comp
section
variable {prog : Program} {w : World} {A : Around} {h₀ : Heap} {L : Addr} {m : Str → Option Value} {env : Env} {elt ct : Expr} {x : Str} {scope : Scope} {cl : List (Str × Addr)} {s : Shared} {S : List (Addr × Obj) → Prop} {P : Nat → Value → Prop} {Fin : List Value → List (Addr × Obj) → Prop} {news : List (Addr × Obj)}
theorem comp_inv {n : Nat} (J : Nat → List Value → List (Addr × Obj) → Prop) (start : J 0 [] news)
    (turn : ∀ i ys nw v I oI C oC D m₂ h tk (E' : Value → Shared → Prop), i < n → J i ys nw → P i v → LCg.NsObj oC m₂ → m₂ x = some v → Fr h₀ L h m → News h₀ L h ((I, oI) :: (C, oC) :: (D, LCg.lst ys) :: nw) → LCg.Off3 I C D nw → ((@Ne Nat I C) ∧ (@Ne Nat I D) ∧ (@Ne Nat C D)) →
      wpAny (model prog w) A (eval elt (compEnvC scope cl C env)) (LCg.CompEnd h₀ L m { s with heap := h, toks := tk } I oI C oC D (LCg.lst ys) S (fun y nw' => J (i + 1) (ys ++ [y]) nw')) E' { s with heap := h, toks := tk })
    (fin : ∀ ys nw, J n ys nw → Fin ys nw) : LCg.CompRest prog w A h₀ L m env elt x scope cl s S P Fin n 0 [] news := by
  have key : ∀ (j i : Nat) (ys : List Value) (nw : List (Addr × Obj)), i + j = n → J i ys nw → LCg.CompRest prog w A h₀ L m env elt x scope cl s S P Fin j i ys nw := by
    intro j
    induction j with
    | zero =>
      intro i ys nw hi hJ
      have e : i = n := by omega
      subst e
      exact LCg.CompRest.zero (fin ys nw hJ)
    | succ j ih =>
      intro i ys nw hi hJ
      refine LCg.CompRest.succ ?_
      intro v I oI C oC D m₂ h tk E' hv hC hx F N off ne
      refine wpAny_mono (turn i ys nw v I oI C oC D m₂ h tk E' (by omega) hJ hv hC hx F N off ne) (fun y s₂ hq => ?_) fun _ _ e => e
      obtain ⟨h', tk', nw', e, F', N', off', hS, hJ'⟩ := hq
      exact ⟨h', tk', nw', e, F', N', off', hS, ih (i + 1) _ _ (by omega) hJ'⟩
  exact key n 0 [] news (by omega) start
theorem comp_invT {n : Nat} (J : Nat → List Value → List (Addr × Obj) → Prop) (start : J 0 [] news)
    (turn : ∀ i ys nw v I oI C oC D m₂ h tk (E' : Value → Shared → Prop), i < n → J i ys nw → P i v → LCg.NsObj oC m₂ → m₂ x = some v → Fr h₀ L h m → News h₀ L h ((I, oI) :: (C, oC) :: (D, LCg.lst ys) :: nw) → LCg.Off3 I C D nw → ((@Ne Nat I C) ∧ (@Ne Nat I D) ∧ (@Ne Nat C D)) →
      wpAny (model prog w) A (isTrue ct (compEnvC scope cl C env) (eval ct (compEnvC scope cl C env))) (fun ok s' => if ok = true then
        wpAny (model prog w) A (eval elt (compEnvC scope cl C env)) (LCg.CompEnd h₀ L m { s with heap := h, toks := tk } I oI C oC D (LCg.lst ys) S (fun y nw' => J (i + 1) (ys ++ [y]) nw')) E' s'
        else LCg.CompEnd h₀ L m { s with heap := h, toks := tk } I oI C oC D (LCg.lst ys) S (fun _ nw' => J (i + 1) ys nw') Value.none s') E' { s with heap := h, toks := tk })
    (fin : ∀ ys nw, J n ys nw → Fin ys nw) : LCt.CompRestT prog w A h₀ L m env ct elt x scope cl s S P Fin n 0 [] news := by
  have key : ∀ (j i : Nat) (ys : List Value) (nw : List (Addr × Obj)), i + j = n → J i ys nw → LCt.CompRestT prog w A h₀ L m env ct elt x scope cl s S P Fin j i ys nw := by
    intro j
    induction j with
    | zero =>
      intro i ys nw hi hJ
      have e : i = n := by omega
      subst e
      exact LCt.CompRestT.zero (fin ys nw hJ)
    | succ j ih =>
      intro i ys nw hi hJ
      refine LCt.CompRestT.succ ?_
      intro v I oI C oC D m₂ h tk E' hv hC hx F N off ne
      refine wpAny_mono (turn i ys nw v I oI C oC D m₂ h tk E' (by omega) hJ hv hC hx F N off ne) (fun ok s₁ h₁ => ?_) fun _ _ e => e
      cases ok with
      | true =>
        simp only [if_true] at h₁ ⊢
        refine wpAny_mono h₁ (fun y s₂ hq => ?_) fun _ _ e => e
        obtain ⟨h', tk', nw', e, F', N', off', hS, hJ'⟩ := hq
        exact ⟨h', tk', nw', e, F', N', off', hS, ih (i + 1) _ _ (by omega) hJ'⟩
      | false =>
        simp only [Bool.false_eq_true, if_false] at h₁ ⊢
        obtain ⟨h', tk', nw', e, F', N', off', hS, hJ'⟩ := h₁
        exact ⟨h', tk', nw', e, F', N', off', hS, ih (i + 1) _ _ (by omega) hJ'⟩
  exact key n 0 [] news (by omega) start
end
end
section -- EqNil
section
variable {prog : Program} {w : World} {A : Around} {E : Value → Shared → Prop} {s : Shared} {h₀ : Heap} {L l b : Addr}
theorem eq_nil {news : List (Addr × Obj)} {vs : List Value} {c n : Nat} {Q : Value → Shared → Prop} (N : News h₀ L s.heap news) (hl : (l, listOf vs.toArray c) ∈ news) (hb : (b, listOf #[] n) ∈ news) (hu : A.units < cLine) (h : Q (.bool vs.isEmpty) s) :
    wpAny (model prog w) A (compareOp .Eq (.ref l) (.ref b)) Q E s := by
  have h1 : s.heap.IsList l vs.toArray := ⟨_, (N _ hl).1, rfl, c, rfl⟩
  have h2 : s.heap.IsList b #[] := ⟨_, (N _ hb).1, rfl, n, rfl⟩
  cases vs with
  | nil => exact SeqAt.eq_listAt (e := fun _ => true) h1 h2 rfl hu (fun j hj _ => absurd hj (Nat.not_lt_zero j)) h
  | cons v vs => exact SeqAt.eq_list_lengthsAt h1 h2 (by simp) hu h
end
end
section -- Fit
theorem join_len_mem (y : Str) : ∀ (l : List Str) (p : Str), p ∈ l → p.length ≤ (Str.join y l).length
  | [], _, h => nomatch h
  | [a], p, h => by
    rw [List.mem_singleton.mp h]
    exact Nat.le_refl _
  | a :: b :: r, p, h => by
    show p.length ≤ (a ++ y ++ Str.join y (b :: r)).length
    rw [Str.length_append, Str.length_append]
    rcases List.mem_cons.mp h with rfl | h
    · omega
    · have := join_len_mem y (b :: r) p h
      omega
theorem split_len {x y p : Str} (h : p ∈ Txt.split x y) : p.length ≤ x.length := by
  have := join_len_mem y _ p h
  rwa [StrLaws.join_split] at this
def FitJ (nw0 : List (Addr × Obj)) (ws : List Str) (b : Bool) (i : Nat) (ys : List Value) (nw : List (Addr × Obj)) : Prop := nw = nw0 ∧ ys.isEmpty = (ws.take i).all fun x => lawWordB x b
theorem strs_at {vs : List Value} {ys : List Str} (h : StrsAre vs ys) {i : Nat} {v : Value} (e : vs.toArray[i]? = some v) : ∃ x t, v = .str x t ∧ ys[i]? = some x := by
  rw [List.getElem?_toArray] at e
  induction h generalizing i with
  | nil => simp at e
  | cons y t h ih =>
    cases i with
    | zero => simp at e; exact ⟨y, t, e.symm, rfl⟩
    | succ i => exact ih (by simpa using e)
theorem fit_step {ws : List Str} {b : Bool} {i : Nat} {x : Str} (hx : ws[i]? = some x) : ((ws.take (i + 1)).all fun x => lawWordB x b) = (((ws.take i).all fun x => lawWordB x b) && lawWordB x b) := by
  rw [List.take_add_one, hx]
  simp
theorem join_count (y : Str) (hy : y.length = 1) : ∀ (l : List Str), l.length ≤ (Str.join y l).length + 1
  | [] => by simp
  | [a] => by simp
  | a :: b :: r => by
    show (a :: b :: r).length ≤ (a ++ y ++ Str.join y (b :: r)).length + 1
    rw [Str.length_append, Str.length_append]
    have := join_count y hy (b :: r)
    simp only [List.length_cons] at *
    omega
theorem split_count (x : Str) : (Txt.split x (Str.ofString " ")).length ≤ x.length + 1 := by
  have := join_count (Str.ofString " ") (by decide +kernel) (Txt.split x (Str.ofString " "))
  rwa [StrLaws.join_split] at this
theorem tok_any (k : Str) : ([Str.ofString "NMTOKEN", Str.ofString "NMTOKENS"].any fun x => x == k) = isTokKind k := by
  unfold isTokKind
  simp only [List.any_cons, List.any_nil, Bool.or_false]
  rw [BEq.comm (a := k), BEq.comm (a := k)]
theorem enum_any (k : Str) : ([Str.ofString "enumeration", Str.ofString "notation"].any fun x => x == k) = isEnumKind k := by
  unfold isEnumKind
  simp only [List.any_cons, List.any_nil, Bool.or_false]
  rw [BEq.comm (a := k), BEq.comm (a := k)]
theorem list_any (k : Str) : ([Str.ofString "IDREFS", Str.ofString "ENTITIES", Str.ofString "NMTOKENS"].any fun x => x == k) = isListKind k := by
  unfold isListKind
  simp only [List.any_cons, List.any_nil, Bool.or_false]
  rw [BEq.comm (a := k), BEq.comm (a := k), BEq.comm (a := k), Bool.or_assoc]
theorem has_any (cs : List Str) (x : Str) : (cs.any fun y => y == x) = cs.contains x := by
  rw [List.contains_eq_any_beq]
  congr 1
  funext y
  rw [BEq.comm]
theorem fx_ne (f x : Str) : ((some f : Option Str) != some x) = (x != f) := by
  rw [Bool.eq_iff_iff]
  simp only [bne_iff_ne, ne_eq, Option.some.injEq]
  exact not_congr eq_comm
theorem fx_none (x : Str) : ((none : Option Str) != some x) = true := rfl
theorem fit_end {ws : List Str} {n : Nat} {b : Bool} {ys : List Value} (h : ys.isEmpty = (ws.take n).all fun x => lawWordB x b) (e : n = ws.length) : ys.isEmpty = ws.all fun x => lawWordB x b := by
  rw [h, e, List.take_length]
section
variable {k mo x : Str} {cs : List Str} {fo : Option Str}
theorem lf_fixed (hA : (mo == Str.ofString "fixed" && fo != some x) = true) : lawFitsB k cs mo fo x = false := by
  unfold lawFitsB
  rw [if_pos hA]
theorem lf_cdata (hA : (mo == Str.ofString "fixed" && fo != some x) = false) (hB : (k == Str.ofString "CDATA") = true) : lawFitsB k cs mo fo x = true := by
  unfold lawFitsB
  rw [if_neg (by rw [hA]; decide), if_pos hB]
theorem lf_enum (hA : (mo == Str.ofString "fixed" && fo != some x) = false) (hB : (k == Str.ofString "CDATA") = false) (hC : ([Str.ofString "enumeration", Str.ofString "notation"].any fun x => x == k) = true) : lawFitsB k cs mo fo x = cs.any fun y => y == x := by
  unfold lawFitsB
  rw [enum_any] at hC
  rw [if_neg (by rw [hA]; decide), if_neg (by rw [hB]; decide), if_pos hC, has_any]
theorem lf_len (hA : (mo == Str.ofString "fixed" && fo != some x) = false) (hB : (k == Str.ofString "CDATA") = false) (hC : ([Str.ofString "enumeration", Str.ofString "notation"].any fun x => x == k) = false)
    (hD : ([Str.ofString "IDREFS", Str.ofString "ENTITIES", Str.ofString "NMTOKENS"].any fun x => x == k) = false) (hE : 1 < (Txt.split x (Str.ofString " ")).length) : lawFitsB k cs mo fo x = false := by
  unfold lawFitsB
  rw [enum_any] at hC
  rw [list_any] at hD
  rw [if_neg (by rw [hA]; decide), if_neg (by rw [hB]; decide), if_neg (by rw [hC]; decide), if_pos (by rw [hD, decide_eq_true hE]; rfl)]
theorem lf_all (hA : (mo == Str.ofString "fixed" && fo != some x) = false) (hB : (k == Str.ofString "CDATA") = false) (hC : ([Str.ofString "enumeration", Str.ofString "notation"].any fun x => x == k) = false)
    (hD : ([Str.ofString "IDREFS", Str.ofString "ENTITIES", Str.ofString "NMTOKENS"].any fun x => x == k) = true ∨ ¬ 1 < (Txt.split x (Str.ofString " ")).length) : lawFitsB k cs mo fo x = (Txt.split x (Str.ofString " ")).all fun x => lawWordB x (!isTokKind k) := by
  unfold lawFitsB
  rw [enum_any] at hC
  rw [list_any] at hD
  rw [if_neg (by rw [hA]; decide), if_neg (by rw [hB]; decide), if_neg (by rw [hC]; decide), if_neg ?_]
  rcases hD with hD | hD
  · rw [hD]; simp
  · rw [decide_eq_false hD]; simp
end
end
section -- Cut
section
variable {M : Model} {A : Around} {E : Value → Shared → Prop} {s : Shared} {h₀ : Heap} {L : Addr} {m : Str → Option Value} {news : List (Addr × Obj)}
def CutB (B : Bool) (h₀ : Heap) (L : Addr) (m : Str → Option Value) (news : List (Addr × Obj)) (s : Shared) (c : Bool) (s' : Shared) : Prop :=
  c = B ∧ ∃ h' tk, s' = { s with heap := h', toks := tk } ∧ Fr h₀ L h' m ∧ News h₀ L h' news
theorem cut_bool {t : Sem Bool} {Q : Bool → Shared → Prop} (B : Bool) (_F : Fr h₀ L s.heap m) (_N : News h₀ L s.heap news) (h1 : wpAny M A t (CutB B h₀ L m news s) E s)
    (h2 : ∀ h' tk, Fr h₀ L h' m → News h₀ L h' news → Q B { s with heap := h', toks := tk }) : wpAny M A t Q E s := by
  refine wpAny_mono h1 (fun c s' hc => ?_) fun _ _ e => e
  obtain ⟨rfl, h', tk, rfl, F, N⟩ := hc
  exact h2 h' tk F N
theorem cutB_end {B c : Bool} {h' : Heap} {tk : Nat} (e : c = B) (F : Fr h₀ L h' m) (N : News h₀ L h' news) : CutB B h₀ L m news s c { s with heap := h', toks := tk } := ⟨e, h', tk, rfl, F, N⟩
end
end
section -- T13
local macro_rules | `(tactic| walk_at "MINE enterC") => `(tactic| (
  w_top off
  unfold Spec
  k_fill
  intro mean mg mb dp un gd cn cs a ccd cl outer A₀ base h₀ L m s Q E B F X N T hk hd hu ret
  k_dflt (refine' enterC B F X N T hk hd ret ?ho ?hcd ?hb ?hl ?hn ?c2 ?c3 ?c4 ?body; (case ho => k_is); (case hcd => k_is); (case hb => exact BindsTo.of_eq rfl); (case hl => exact rfl); (case hn => decide +kernel); (case c2 => exact rfl); (case c3 => exact rfl); (case c4 => exact rfl))
  intro g' L' h' tk' cells' F' N' Y' B' X' T' l1
  clear ret T X N F B
  (try k_lt l1)
  k_cells Y'
  (try simp only [List.cons_append, List.nil_append] at N')
  (try dsimp only)
  (try k_fold)))
local macro_rules | `(tactic| walk_at "MINE steps") => `(tactic| (
  repeat' ((fail_if_success (with_reducible show wpAny _ _ (pyIter _) _ _ _)); (fail_if_success (with_reducible show InvEndN _ _ _ _ _ _ _)); (fail_if_success (with_reducible show Leave _ _ _ _ _)); (fail_if_success (with_reducible show CutB _ _ _ _ _ _ _ _)); (fail_if_success (with_reducible show CutV _ _ _ _ _ _ _)); (fail_if_success (with_reducible show CutW _ _ _ _ _ _ _ _ _)); (fail_if_success (with_reducible show LCg.CompSrc _ _ _ _ _ _ _ _ _ _ _ _ _ _)); (fail_if_success (with_reducible show LCt.CompSrcT _ _ _ _ _ _ _ _ _ _ _ _ _ _ _)); (fail_if_success (with_reducible show LCg.CompEnd _ _ _ _ _ _ _ _ _ _ _ _ _ _)); first | (k_unfold; (try dsimp only)) | (k_end; wrow_close) | walk1 | (dsimp only; walk1) | (leave1; try dsimp only) | fail "no step")))
local macro_rules | `(tactic| walk_at "exec For") => `(tactic| (k_here; (rename Fr _ _ _ _ => lF'); (with_unfolding_all refine' For_invVF lF' ?k1 ?k2 ?_; (case k1 => exact rfl); (case k2 => exact rfl); k_whole); walk_say "MINE for"))
local macro_rules | `(tactic| walk_at "eval ListComp") => `(tactic| (k_here; (with_reducible show wpAny _ _ (eval (Expr.ListComp _ [Comprehension.mk _ _ [] _] _ _) _) _ _ _); k_dflt (refine LCg.ListComp_U (F₀ := by k_asm) (by with_unfolding_all rfl) (by decide) (by rfl) (by decide) (by rfl) ?_); walk_say "MINE comp"))
local macro_rules | `(tactic| walk_at "eval ListComp") => `(tactic| (k_here; (with_reducible show wpAny _ _ (eval (Expr.ListComp _ [Comprehension.mk _ _ [_] _] _ _) _) _ _ _); k_dflt (refine LCt.ListComp_T (F₀ := by k_asm) (by with_unfolding_all rfl) (by decide) (by rfl) (by decide) (by rfl) ?_); walk_say "MINE compT"))
local macro_rules | `(tactic| walk_at "MINE endR") => `(tactic| (
  (try dsimp only)
  (try k_unfold)
  (try dsimp only)
  refine' ⟨_, _, _, _, _, rfl, ?hF, cb_drop ?hN ?hS, rfl, ?hP⟩
  (case hF => assumption)
  (case hN => assumption)
  (case hS => k_allIn)))
local macro_rules | `(tactic| walk_at "call ref") => `(tactic| (k_dflt (refine' use_read (law_word_ok _ ?p1) ?kB ?kF ?kX ?kN ?kT ?khk ?khs ?khd ?khu ?_; (case kB => k_asm); (case kF => k_asm); (case kX => k_asm); (case kN => k_asm); (case kT => k_asm); (case khk => first | exact rfl | assumption); (case khs => exact List.forall_mem_nil _); (case khd => ktr_room); (case khu => ktr_units); (case p1 => assumption)); (intro r9 h9 tk9 F9 N9 hP9); subst hP9; walk_say "MINE law_word_ok"; (try k_sweep); (try dsimp only); (try k_fold)))
section
local macro_rules | `(tactic| walk_at "call builtin:str.split") => `(tactic| (k_here; (with_reducible show wpAny _ _ (call (Value.builtin "str.split") [Value.str _ _, Value.str _ _]) _ _ _); (refine KSpl.split1 (by k_asm) (by k_asm) (by decide) ?_ (by rw [sizeLine_eq]; omega)); (intro D9 l9 h9 k9 e9 a9 F9 N9 l1); (k_lt l1)))
local macro_rules | `(tactic| walk_at "compareOp Eq ref") => `(tactic| (k_here; (with_reducible show wpAny _ _ (compareOp CmpOp.Eq (Value.ref _) (Value.ref _)) _ _ _); k_dflt (refine' eq_nil ?ka ?kb ?kc ?kd ?_; (case ka => k_asm); (case kb => k_memK); (case kc => k_memK); (case kd => ktr_units); k_whole); walk_say "MINE eq_nil"))
theorem law_fits_ok (w : World) {k mo x : Str} {ch : Addr} {cvs : List Value} {cs : List Str} {c : Nat} {fv : Value} {fo : Option Str} {tk tm t : Tok} (hf : FixV fv fo) (hfx : mo = Str.ofString "fixed" → fo ≠ none) (hc : StrsAre cvs cs) (hcn : cs.length ≤ 3) (hx : x.length ≤ 64) :
    Spec 4 w 215 [.str k tk, .ref ch, .str mo tm, fv, .str x t] [(ch, tupOf cvs.toArray c)] (fun r own' => own' = [(ch, tupOf cvs.toArray c)] ∧ r = .bool (lawFitsB k cs mo fo x)) := by
  k_with_none
  walk_at "MINE enterC"
  iterate 2 walk1
  rename Fr _ _ _ _ => F0
  rename News _ _ _ _ => N0
  refine cut_bool (mo == Str.ofString "fixed" && fo != some x) F0 N0 ?_ ?_
  · cases hf
    · clear hfx
      walk_at "MINE steps"
      · exact cutB_end (by simp [*]) (by assumption) (by assumption)
      · exact cutB_end (by simp [*]) (by assumption) (by assumption)
    · walk_at "MINE steps"
      · rename (_ == _) = true => hm
        rename (_ != _) = true => hn
        exact cutB_end (by rw [hm, fx_ne, hn]; rfl) (by assumption) (by assumption)
      · rename (_ == _) = true => hm
        rename (_ != _) = false => hn
        exact cutB_end (by rw [hm, fx_ne, hn]; rfl) (by assumption) (by assumption)
      · rename (_ == _) = false => hm
        exact cutB_end (by rw [hm]; rfl) (by assumption) (by assumption)
  · clear F0 N0
    intro h1 tk1 F1 N1
    (try dsimp only)
    refine split_bool (fun hA => ?_) (fun hA => ?_)
    all_goals (try dsimp only)
    all_goals (try k_fold)
    all_goals walk_at "MINE steps"
    · walk_at "MINE endR"
      exact congrArg Value.bool (lf_fixed hA).symm
    · walk_at "MINE endR"
      exact congrArg Value.bool (lf_cdata hA (by assumption)).symm
    · walk_at "MINE endR"
      exact congrArg Value.bool (lf_enum hA (by assumption) (by assumption)).symm
    · skip
      rename List.map _ _ = Txt.split _ _ => e9
      rename StrsAre _ (List.map _ _) => a9
      rw [e9] at a9
      rename (k == Str.ofString "CDATA") = false => hB
      rename (List.any [Str.ofString "enumeration", _] _) = false => hC9
      rename (List.any [Str.ofString "IDREFS", _, _] _) = true => hD0
      have hD := Or.inl (b := ¬ 1 < (Txt.split x (Str.ofString " ")).length) hD0
      refine' LCt.CompSrcT.ledger (by rfl) ?hF ?hN ?hm ?hz (fun g => comp_invT (FitJ _ (Txt.split x (Str.ofString " ")) (!isTokKind k)) ⟨rfl, rfl⟩ ?turn ?fin)
      case hF => assumption
      case hN => assumption
      case hm => k_memK
      case hz =>
        rw [List.size_toArray, a9.length, sizeLine_eq]
        exact Nat.le_trans (split_count _) (by omega)
      case turn =>
        rintro i ys nw v I oI C oC D m₂ h tk E' hi ⟨rfl, hJ⟩ hP hC hx9 F N off ne
        obtain ⟨y, ty, rfl, hy⟩ := strs_at a9 hP
        have hyl : y.length ≤ 64 := Nat.le_trans (split_len (List.mem_of_getElem? hy)) hx
        have hst := fit_step (b := !isTokKind k) hy
        simp only [LCg.Off3, and_true] at off
        (try k_sweep)
        (try dsimp only)
        (try k_fold)
        walk_at "MINE steps"
        all_goals (rename lawWordB _ _ = _ => hw; rw [tok_any] at hw)
        all_goals (refine LCg.CompEnd.intro (by assumption) (by assumption) _ (fun p hp => List.Mem.tail _ hp) (by first | (simp only [LCg.Off3, and_true]; done) | (simp only [LCg.Off3, and_true]; exact off)) (.inr ⟨_, by k_memK, rfl, _, rfl⟩) ⟨rfl, ?_⟩)
        all_goals (rw [hst, hw]; simp [hJ])
      case fin =>
        rintro ys nw ⟨rfl, hJ⟩
        have hJ2 := fit_end hJ (by rw [List.size_toArray, a9.length])
        intro D h tk F N off
        simp only [LCg.Off1, and_true] at off
        (try k_sweep)
        (try dsimp only)
        (try k_fold)
        walk_at "MINE steps"
        walk_at "MINE endR"
        rw [hJ2]
        exact congrArg Value.bool (lf_all hA hB hC9 hD).symm
    · rename List.map _ _ = Txt.split _ _ => e9
      have el := congrArg List.length e9
      rw [List.length_map] at el
      rename 1 < _ => hE
      walk_at "MINE endR"
      exact congrArg Value.bool (lf_len hA (by assumption) (by assumption) (by assumption) (by omega)).symm
    · skip
      rename List.map _ _ = Txt.split _ _ => e9
      rename StrsAre _ (List.map _ _) => a9
      rw [e9] at a9
      rename (k == Str.ofString "CDATA") = false => hB
      rename (List.any [Str.ofString "enumeration", _] _) = false => hC9
      have el := congrArg List.length e9
      rw [List.length_map] at el
      rename ¬ (1 < _) => hD0
      have hD : ([Str.ofString "IDREFS", Str.ofString "ENTITIES", Str.ofString "NMTOKENS"].any fun x => x == k) = true ∨ ¬ 1 < (Txt.split x (Str.ofString " ")).length := Or.inr (by omega)
      refine' LCt.CompSrcT.ledger (by rfl) ?hF ?hN ?hm ?hz (fun g => comp_invT (FitJ _ (Txt.split x (Str.ofString " ")) (!isTokKind k)) ⟨rfl, rfl⟩ ?turn ?fin)
      case hF => assumption
      case hN => assumption
      case hm => k_memK
      case hz =>
        rw [List.size_toArray, a9.length, sizeLine_eq]
        exact Nat.le_trans (split_count _) (by omega)
      case turn =>
        rintro i ys nw v I oI C oC D m₂ h tk E' hi ⟨rfl, hJ⟩ hP hC hx9 F N off ne
        obtain ⟨y, ty, rfl, hy⟩ := strs_at a9 hP
        have hyl : y.length ≤ 64 := Nat.le_trans (split_len (List.mem_of_getElem? hy)) hx
        have hst := fit_step (b := !isTokKind k) hy
        simp only [LCg.Off3, and_true] at off
        (try k_sweep)
        (try dsimp only)
        (try k_fold)
        walk_at "MINE steps"
        all_goals (rename lawWordB _ _ = _ => hw; rw [tok_any] at hw)
        all_goals (refine LCg.CompEnd.intro (by assumption) (by assumption) _ (fun p hp => List.Mem.tail _ hp) (by first | (simp only [LCg.Off3, and_true]; done) | (simp only [LCg.Off3, and_true]; exact off)) (.inr ⟨_, by k_memK, rfl, _, rfl⟩) ⟨rfl, ?_⟩)
        all_goals (rw [hst, hw]; simp [hJ])
      case fin =>
        rintro ys nw ⟨rfl, hJ⟩
        have hJ2 := fit_end hJ (by rw [List.size_toArray, a9.length])
        intro D h tk F N off
        simp only [LCg.Off1, and_true] at off
        (try k_sweep)
        (try dsimp only)
        (try k_fold)
        walk_at "MINE steps"
        walk_at "MINE endR"
        rw [hJ2]
        exact congrArg Value.bool (lf_all hA hB hC9 hD).symm
end
end
section -- Loop
section
variable {prog : Program} {w : World} {A : Around} {E : Value → Shared → Prop} {s : Shared} {env : Env} {h₀ : Heap} {x : Str} {body : List Stmt} {Q : Flow → Shared → Prop}
theorem strs_loop {l : Addr} {us : List Value} {ws : List Str} {c : Nat} {m₀ : Str → Option Value} {all news : List (Addr × Obj)} (P : Nat → Prop) (hh : A.handled = none) (NA : News h₀ env.locals s.heap all) (hl : (l, listOf us.toArray c) ∈ all) (hs : StrsAre us ws)
    (F : Fr h₀ env.locals s.heap m₀) (N : News h₀ env.locals s.heap news) (hne : AllNe l news) (h0 : P 0)
    (turn : ∀ i y t h tk own, ws[i]? = some y → P i → OwnOff own (news.map (·.1)) → Fr h₀ env.locals h (fun z => if z = x then some (.str y t) else m₀ z) → News h₀ env.locals h (news ++ own) →
      wpAny (model prog w) A (execs body env) (InvPostN h₀ env.locals (fun m' nx => nx = news ∧ (∀ z, z ≠ x → m' z = m₀ z) ∧ P (i + 1)) own (news.map (·.1)) { s with heap := h, toks := tk } Q) E { s with heap := h, toks := tk })
    (done : ∀ (u : Str → Option Value) h tk, P ws.length → Fr h₀ env.locals h (fun z => if z = x then u z else m₀ z) → News h₀ env.locals h news → Q .next { s with heap := h, toks := tk }) :
    wpAny (model prog w) A (pyIter (.ref l)) (fun it s₂ => LoopAtV prog w A h₀ env x body Q E it s₂) E s := by
  have hol := (NA _ hl).1
  have hls : s.heap.IsList l us.toArray := ⟨_, hol, rfl, c, rfl⟩
  have hlt := Heap.lt_size hol
  have hnl : ∀ p ∈ news, p.1 ≠ l := by
    clear N turn done
    induction news with
    | nil => exact fun _ h => nomatch h
    | cons q r ih =>
      intro p hp
      rcases List.mem_cons.mp hp with rfl | hp
      · exact hne.1
      · exact ih hne.2 p hp
  have same : ∀ (m₁ : Str → Option Value) (v : Option Value), (∀ z, z ≠ x → m₁ z = m₀ z) → (fun z => if z = x then v else m₁ z) = fun z => if z = x then v else m₀ z := by
    intro m₁ v hm
    funext z
    by_cases hz : z = x
    · rw [if_pos hz, if_pos hz]
    · rw [if_neg hz, if_neg hz, hm z hz]
  refine wpAny_pyIter_list hls ?_
  refine loop_invN (n := us.toArray.size) (fun i m nx => nx = news ∧ (∀ z, z ≠ x → m z = m₀ z) ∧ P i) (Walks.list hh s.heap.objs.size l (Nat.ne_of_lt hlt) us.toArray) ?_ ?_ ?_ ?_ ⟨⟨_, Heap.get?_push_size _ rfl, rfl, rfl⟩, hls.at fun o e => Heap.get?_push_of_some _ e⟩ (F.push _) (fun p hp => ⟨Heap.get?_push_of_some _ (N p hp).1, (N p hp).2⟩) ⟨rfl, fun _ _ => rfl, h0⟩ ?_ ?_
  · intro hm
    rcases List.mem_cons.mp hm with e | hm
    · exact absurd F.ns.lt (e ▸ Nat.lt_irrefl _)
    · exact (NA _ hl).2.1 (List.mem_singleton.mp hm).symm
  · intro b hb
    rw [List.mem_singleton.mp hb]
    exact next_is_new F
  · intro p hp hI
    exact absurd (Heap.lt_size (N p hp).1) ((List.mem_singleton.mp hI) ▸ Nat.lt_irrefl _)
  · intro p hp hI
    rcases List.mem_cons.mp hI with e | hI
    · exact absurd (Heap.lt_size (N p hp).1) (e ▸ Nat.lt_irrefl _)
    · exact hnl p hp (List.mem_singleton.mp hI)
  · rintro i v m₁ nx h tk own hi hP _ hoff ⟨rfl, hm, hPi⟩ F₁ N₁
    obtain ⟨y, t, rfl, hy⟩ := strs_at hs (by simpa using hP)
    rw [same m₁ _ hm] at F₁
    exact turn i y t h tk own hy hPi hoff F₁ N₁
  · rintro m₁ nx h tk ⟨rfl, hm, hPn⟩ F₁ N₁
    rw [List.size_toArray, hs.length] at hPn
    refine done m₁ h tk hPn ?_ N₁
    have e : (fun z => if z = x then m₁ z else m₀ z) = m₁ := by
      funext z
      by_cases hz : z = x
      · rw [if_pos hz]
      · rw [if_neg hz, hm z hz]
    rw [e]
    exact F₁
end
end
section -- Fts
theorem wsplit_mem : ∀ (r cur w : List Nat), w ∈ wsplit cur r → w.length ≤ cur.length + r.length ∧ ∀ c ∈ w, c ∈ cur ∨ c ∈ r
  | [], cur, w, h => by
    unfold wsplit at h
    split at h
    · cases h
    · rw [List.mem_singleton.mp h]
      exact ⟨by simp, fun c hc => .inl hc⟩
  | a :: r, cur, w, h => by
    unfold wsplit at h
    have nilc : w ∈ wsplit [] r → w.length ≤ cur.length + (a :: r).length ∧ ∀ c ∈ w, c ∈ cur ∨ c ∈ a :: r := fun h => by
      have := wsplit_mem r [] w h
      simp only [List.length_nil, List.length_cons] at *
      refine ⟨by omega, fun c hc => ?_⟩
      rcases this.2 c hc with h1 | h1
      · cases h1
      · exact .inr (.tail _ h1)
    split at h
    · split at h
      · exact nilc h
      · rcases List.mem_cons.mp h with rfl | h
        · exact ⟨by simp, fun c hc => .inl hc⟩
        · exact nilc h
    · have := wsplit_mem r (cur ++ [a]) w h
      simp only [List.length_append, List.length_cons, List.length_nil] at *
      refine ⟨by omega, fun c hc => ?_⟩
      rcases this.2 c hc with h1 | h1
      · rcases List.mem_append.mp h1 with h1 | h1
        · exact .inl h1
        · rw [List.mem_singleton.mp h1]
          exact .inr (.head _)
      · exact .inr (.tail _ h1)
theorem wordsOf_mem {x y : Str} (h : y ∈ wordsOf x) : y.length ≤ x.length ∧ ∀ c ∈ y.cps.toList, c ∈ x.cps.toList := by
  obtain ⟨w, hw, rfl⟩ := List.mem_map.mp h
  have := wsplit_mem _ _ _ hw
  rw [mkS_length, len_toList x]
  simp only [List.length_nil] at this
  refine ⟨by omega, fun c hc => ?_⟩
  rcases this.2 c (by simpa [mkS] using hc) with h1 | h1
  · cases h1
  · exact h1
theorem wordsOfK_mem {k x y : Str} (h : y ∈ wordsOfK k x) : y.length ≤ x.length ∧ ∀ c ∈ y.cps.toList, c ∈ x.cps.toList := by
  unfold wordsOfK at h
  split at h
  · exact wordsOf_mem h
  · rw [List.mem_singleton.mp h]
    exact ⟨Nat.le_refl _, fun c hc => hc⟩
theorem join_len_le {sep : Str} {cs : List Str} (hs : sep.length = 1) (hn : cs.length ≤ 3) (hl : ∀ y ∈ cs, y.length ≤ 64) : (Txt.join sep cs).length ≤ 1000 := by
  have h1 := size_glued sep cs
  have h2 := StrLaws.sumLen_le cs hl
  show (Builtin.Str.glued sep cs).length ≤ 1000
  rw [h1, hs]
  omega
theorem join_sum {cs : List Str} (hn : cs.length ≤ 3) (hl : ∀ y ∈ cs, y.length ≤ 64) : (cs.map (·.length)).sum + cs.length ≤ 1048576 := by
  have h2 := StrLaws.sumLen_le cs hl
  omega
section
variable {k mo x : Str} {cs : List Str} {fo : Option Str}
theorem ft_fixed (hA : (mo == Str.ofString "fixed" && fo != some x) = true) : fitsB k cs mo fo x = false := by
  unfold fitsB
  rw [if_pos hA]
theorem ft_cdata (hA : (mo == Str.ofString "fixed" && fo != some x) = false) (hB : (k == Str.ofString "CDATA") = true) : fitsB k cs mo fo x = true := by
  unfold fitsB
  rw [if_neg (by rw [hA]; decide), if_pos hB]
theorem ft_enum (hA : (mo == Str.ofString "fixed" && fo != some x) = false) (hB : (k == Str.ofString "CDATA") = false) (hC : ([Str.ofString "enumeration", Str.ofString "notation"].any fun x => x == k) = true) : fitsB k cs mo fo x = cs.any fun y => y == x := by
  unfold fitsB
  rw [enum_any] at hC
  rw [if_neg (by rw [hA]; decide), if_neg (by rw [hB]; decide), if_pos hC, has_any]
theorem ft_words (hA : (mo == Str.ofString "fixed" && fo != some x) = false) (hB : (k == Str.ofString "CDATA") = false) (hC : ([Str.ofString "enumeration", Str.ofString "notation"].any fun x => x == k) = false) :
    fitsB k cs mo fo x = (!(wordsOfK k x).isEmpty && (wordsOfK k x).all (isWordB k)) := by
  unfold fitsB
  rw [enum_any] at hC
  rw [if_neg (by rw [hA]; decide), if_neg (by rw [hB]; decide), if_neg (by rw [hC]; decide)]
end
theorem strs_empty {us : List Value} {ws : List Str} (h : StrsAre us ws) : us.isEmpty = ws.isEmpty := by cases h <;> rfl
end
section -- T14
local macro_rules | `(tactic| walk_at "MINE enter") => `(tactic| (
  w_top off
  unfold Spec
  k_fill
  intro mean mg mb dp un gd cn cs a ccd cl outer A₀ base h₀ L m s Q E B F X N T hk hd hu ret
  k_dflt (refine' enter B F X N T hk hd ret ?ho ?hcd ?hb ?hl ?c2 ?c3 ?c4 ?c5 ?body; (case ho => k_is); (case hcd => k_is); (case hb => exact BindsTo.of_eq rfl); (case hl => exact locs rfl); (case c2 => exact rfl); (case c3 => exact rfl); (case c4 => exact rfl); (case c5 => decide))
  intro g' L' h' F' N' B' X' T'
  clear ret T X N F B
  (try dsimp only)
  (try k_fold)))
local macro_rules | `(tactic| walk_at "MINE steps") => `(tactic| (
  repeat' ((fail_if_success (with_reducible show wpAny _ _ (pyIter _) _ _ _)); (fail_if_success (with_reducible show InvEndN _ _ _ _ _ _ _)); (fail_if_success (with_reducible show Leave _ _ _ _ _)); (fail_if_success (with_reducible show CutB _ _ _ _ _ _ _ _)); (fail_if_success (with_reducible show CutV _ _ _ _ _ _ _)); (fail_if_success (with_reducible show CutW _ _ _ _ _ _ _ _ _)); (fail_if_success (with_reducible show LCg.CompSrc _ _ _ _ _ _ _ _ _ _ _ _ _ _)); (fail_if_success (with_reducible show LCt.CompSrcT _ _ _ _ _ _ _ _ _ _ _ _ _ _ _)); (fail_if_success (with_reducible show LCg.CompEnd _ _ _ _ _ _ _ _ _ _ _ _ _ _)); first | (k_unfold; (try dsimp only)) | (k_end; wrow_close) | walk1 | (dsimp only; walk1) | (leave1; try dsimp only) | fail "no step")))
local macro_rules | `(tactic| walk_at "exec For") => `(tactic| (k_here; (rename Fr _ _ _ _ => lF'); (with_unfolding_all refine' For_invVF lF' ?k1 ?k2 ?_; (case k1 => exact rfl); (case k2 => exact rfl); k_whole); walk_say "MINE for"))
local macro_rules | `(tactic| walk_at "eval ListComp") => `(tactic| (k_here; (with_reducible show wpAny _ _ (eval (Expr.ListComp _ [Comprehension.mk _ _ [] _] _ _) _) _ _ _); k_dflt (refine LCg.ListComp_U (F₀ := by k_asm) (by with_unfolding_all rfl) (by decide) (by rfl) (by decide) (by rfl) ?_); walk_say "MINE comp"))
local macro_rules | `(tactic| walk_at "eval ListComp") => `(tactic| (k_here; (with_reducible show wpAny _ _ (eval (Expr.ListComp _ [Comprehension.mk _ _ [_] _] _ _) _) _ _ _); k_dflt (refine LCt.ListComp_T (F₀ := by k_asm) (by with_unfolding_all rfl) (by decide) (by rfl) (by decide) (by rfl) ?_); walk_say "MINE compT"))
local macro_rules | `(tactic| walk_at "MINE endR") => `(tactic| (
  (try dsimp only)
  (try k_unfold)
  (try dsimp only)
  refine' ⟨_, _, _, _, _, rfl, ?hF, cb_drop ?hN ?hS, rfl, ?hP⟩
  (case hF => assumption)
  (case hN => assumption)
  (case hS => k_allIn)))
local macro_rules | `(tactic| walk_at "call ref") => `(tactic| (k_dflt (refine' use_list (words_of_ok _ ?p1) ?kB ?kF ?kX ?kN ?kT ?khk ?khs ?khd ?khu ?_; (case kB => k_asm); (case kF => k_asm); (case kX => k_asm); (case kN => k_asm); (case kT => k_asm); (case khk => first | exact rfl | assumption); (case khs => k_allIn); (case khd => ktr_room); (case khu => ktr_units); (case p1 => assumption)); (intro l9 us9 c9 h9 tk9 F9 N9 hA9 hP9); (try simp only [AllNe, and_true] at hA9); walk_say "MINE words_of_ok"; (try k_sweep); (try dsimp only); (try k_fold)))
local macro_rules | `(tactic| walk_at "call ref") => `(tactic| (k_dflt (refine' use_read (is_word_ok _ ?p1 ?p2) ?kB ?kF ?kX ?kN ?kT ?khk ?khs ?khd ?khu ?_; (case kB => k_asm); (case kF => k_asm); (case kX => k_asm); (case kN => k_asm); (case kT => k_asm); (case khk => first | exact rfl | assumption); (case khs => exact List.forall_mem_nil _); (case khd => ktr_room); (case khu => ktr_units); (case p1 => assumption); (case p2 => assumption)); (intro r9 h9 tk9 F9 N9 hP9); subst hP9; walk_say "MINE is_word_ok"; (try k_sweep); (try dsimp only); (try k_fold)))
section
local macro_rules | `(tactic| walk_at "compareOp Eq ref") => `(tactic| (k_here; (with_reducible show wpAny _ _ (compareOp CmpOp.Eq (Value.ref _) (Value.ref _)) _ _ _); k_dflt (refine' eq_nil ?ka ?kb ?kc ?kd ?_; (case ka => k_asm); (case kb => k_memK); (case kc => k_memK); (case kd => ktr_units); k_whole); walk_say "MINE eq_nil"))
local macro_rules | `(tactic| walk_at "call builtin:str.join") => `(tactic| (k_here; (with_reducible show wpAny _ _ (call (Value.builtin "str.join") [Value.str _ _, Value.ref _]) _ _ _); k_dflt (refine' join_tupleW ?ka ?kb ?kc ?kd ?_; (case ka => exact News.isTup (by k_asm) (by k_memK)); (case kb => k_asm); (case kc => decide +kernel); (case kd => assumption); k_whole); intro t9 k9))
local macro_rules | `(tactic| walk_at "binaryOp Add str str") => `(tactic| (k_here; (with_reducible show wpAny _ _ (binaryOp Operator.Add (Value.str _ _) (Value.str _ _)) _ _ _); (refine SBL.add (hsz := ?hz) ?_); (case hz => (rw [sizeLine_eq]; omega)); (intro t9 k9 hl9)))
theorem fits_ok (w : World) {k mo x : Str} {ra dx ch : Addr} {cvs : List Value} {cs : List Str} {c n : Nat} {fv : Value} {fo : Option Str} {tk tm t t1 t2 t3 t4 : Tok} {h1 h2 h3 h4 : Int} (hf : FixV fv fo) (hfx : mo = Str.ofString "fixed" → fo ≠ none) (hc : StrsAre cvs cs) (hcn : cs.length ≤ 3) (hcl : ∀ y ∈ cs, y.length ≤ 64) (hx : x.length ≤ 64) (hfl : ∀ y, fo = some y → y.length ≤ 64) (hax : ascii x) (hk : k.length ≤ 64)
    (hne : @Ne Nat ra dx ∧ @Ne Nat ra ch ∧ @Ne Nat dx ch) :
    Spec 8 w 165 [.ref ra, .str x t] [(ra, instObj 133 dx), (dx, dictOf [⟨h1, .str (Str.ofString "kind") t1, .str k tk⟩, ⟨h2, .str (Str.ofString "choices") t2, .ref ch⟩, ⟨h3, .str (Str.ofString "mode") t3, .str mo tm⟩, ⟨h4, .str (Str.ofString "value") t4, fv⟩] n), (ch, tupOf cvs.toArray c)]
      (fun r own' => own' = [(ra, instObj 133 dx), (dx, dictOf [⟨h1, .str (Str.ofString "kind") t1, .str k tk⟩, ⟨h2, .str (Str.ofString "choices") t2, .ref ch⟩, ⟨h3, .str (Str.ofString "mode") t3, .str mo tm⟩, ⟨h4, .str (Str.ofString "value") t4, fv⟩] n), (ch, tupOf cvs.toArray c)] ∧ ((fitsB k cs mo fo x = true ∧ r = .none) ∨ (fitsB k cs mo fo x = false ∧ ∃ y t, r = .str y t))) := by
  k_with_none
  have hjs := join_sum hcn hcl
  have hjl := join_len_le (sep := Str.ofString " ") (by decide +kernel) hcn hcl
  have hL1 : (Str.ofString "is not the fixed value ").length ≤ 100 := by decide +kernel
  have hL2 : (Str.ofString "is none of ").length ≤ 100 := by decide +kernel
  have hL3 : (Str.ofString "has a word that is none of kind ").length ≤ 100 := by decide +kernel
  have hL4 : (Str.ofString ": ").length ≤ 100 := by decide +kernel
  walk_at "MINE enter"
  iterate 3 walk1
  rename Fr _ _ _ _ => F0
  rename News _ _ _ _ => N0
  refine cut_bool (mo == Str.ofString "fixed" && fo != some x) F0 N0 ?_ ?_
  · cases hf
    · clear hfx
      walk_at "MINE steps"
      · exact cutB_end (by simp [*]) (by assumption) (by assumption)
      · exact cutB_end (by simp [*]) (by assumption) (by assumption)
    · walk_at "MINE steps"
      · rename (_ == _) = true => hm
        rename (_ != _) = true => hn
        exact cutB_end (by rw [hm, fx_ne, hn]; rfl) (by assumption) (by assumption)
      · rename (_ == _) = true => hm
        rename (_ != _) = false => hn
        exact cutB_end (by rw [hm, fx_ne, hn]; rfl) (by assumption) (by assumption)
      · rename (_ == _) = false => hm
        exact cutB_end (by rw [hm]; rfl) (by assumption) (by assumption)
  · clear F0 N0
    intro h1 tk1 F1 N1
    (try dsimp only)
    refine split_bool (fun hA => ?_) (fun hA => ?_)
    all_goals (try dsimp only)
    all_goals (try k_fold)
    · cases hf with
      | none => exact absurd rfl (hfx (eq_of_beq (Bool.and_eq_true_iff.mp hA).1))
      | str f tf =>
        have hfl2 := hfl f rfl
        walk_at "MINE steps"
        walk_at "MINE endR"
        exact .inr ⟨ft_fixed hA, _, _, rfl⟩
    all_goals walk_at "MINE steps"
    · walk_at "MINE endR"
      exact .inl ⟨ft_cdata hA (by assumption), rfl⟩
    · walk_at "MINE endR"
      exact .inl ⟨(ft_enum hA (by assumption) (by assumption)).trans (by assumption), rfl⟩
    · walk_at "MINE endR"
      exact .inr ⟨(ft_enum hA (by assumption) (by assumption)).trans (by assumption), _, _, rfl⟩
    · rename StrsAre _ (wordsOfK _ _) => hW
      rename List.isEmpty _ = true => hE
      walk_at "MINE endR"
      refine .inr ⟨(ft_words hA (by assumption) (by assumption)).trans ?_, _, _, rfl⟩
      rw [← strs_empty hW, hE]
      rfl
    · rename StrsAre _ (wordsOfK _ _) => hW
      rename List.isEmpty _ = false => hE
      rename (k == Str.ofString "CDATA") = false => hB
      rename (List.any [Str.ofString "enumeration", _] _) = false => hC9
      have hT := ft_words (cs := cs) hA hB hC9
      rw [← strs_empty hW, hE] at hT
      refine' strs_loop (news := [(ra, _), (dx, _), (ch, _)]) (fun i => ∀ y ∈ (wordsOfK k x).take i, isWordB k y = true) ?hh ?hNA ?hl hW ?hF ?hN ?hne ?h0 ?turn ?done
      case hh => rfl
      case hNA => assumption
      case hl => k_memK
      case hF => assumption
      case hN => exact cb_drop (by assumption) (by k_allIn)
      case hne => (simp only [AllNe, and_true]; (repeat' apply And.intro) <;> omega)
      case h0 => (intro y hy; simp at hy)
      case turn =>
        intro i y ty h tk9 own hy hP hOff F9 N9
        have hym := wordsOfK_mem (List.mem_of_getElem? hy)
        have hyl : y.length ≤ 64 := Nat.le_trans hym.1 hx
        have hya : ascii y := fun c hc => hax c (hym.2 c hc)
        (simp only [List.cons_append, List.nil_append] at N9)
        (try k_sweep)
        (try dsimp only)
        (try k_fold)
        walk_at "MINE steps"
        · rename isWordB k y = true => hw
          refine InvEndN.intro (by assumption) (by assumption) ⟨rfl, fun z hz => if_neg hz, ?_⟩ rfl (by k_allIn) (fun p hp => .tail _ (.tail _ (.tail _ hp)))
          intro y' hy'
          rw [List.take_add_one, hy] at hy'
          rcases List.mem_append.mp hy' with hy' | hy'
          · exact hP y' hy'
          · rw [show y' = y from by simpa using hy']
            exact hw
        · rename isWordB k y = false => hw
          walk_at "MINE endR"
          refine .inr ⟨hT.trans ?_, _, _, rfl⟩
          rw [show (wordsOfK k x).all (isWordB k) = false from List.all_eq_false.mpr ⟨y, List.mem_of_getElem? hy, by rw [hw]; decide⟩]
          rfl
      case done =>
        intro u h tk9 hP F9 N9
        (try k_sweep)
        (try dsimp only)
        (try k_fold)
        walk_at "MINE steps"
        walk_at "MINE endR"
        refine .inl ⟨hT.trans ?_, rfl⟩
        rw [List.take_length] at hP
        simpa using hP
end
end
section -- Sgl
def SglInv (x : Str) (pre : List Int) (ini : List Str) (cur : Str) : Prop :=
  (ini.filter (· != Str.ofString "")) ++ (wsplit cur.cps.toList (x.cps.toList.drop pre.length)).map mkS = wordsOf x ∧ ini.length ≤ pre.length ∧ cur.length ≤ pre.length
def SglJ (nw0 : List (Addr × Obj)) (ws : List Str) (i : Nat) (ys : List Value) (nw : List (Addr × Obj)) : Prop := nw = nw0 ∧ StrsAre ys ((ws.take i).filter (· != Str.ofString ""))
theorem nil_str : Str.ofString "" = ⟨#[]⟩ := by decide +kernel
theorem ne_nil (x : Str) : (x != Str.ofString "") = decide (x.cps.toList ≠ []) := by
  rw [nil_str, Bool.eq_iff_iff]
  obtain ⟨⟨l⟩⟩ := x
  cases l <;> simp [bne_iff_ne]
theorem mkS_toList (x : Str) : mkS x.cps.toList = x := by
  obtain ⟨⟨l⟩⟩ := x
  rfl
section
variable {x cur : Str} {pre post : List Int} {ini : List Str} {n : Nat}
theorem codes_drop (e : KStt.codes x = pre ++ (n : Int) :: post) : x.cps.toList.drop pre.length = n :: x.cps.toList.drop (pre.length + 1) ∧ pre.length < x.length := by
  have h1 : (KStt.codes x)[pre.length]? = some (n : Int) := by rw [e]; simp
  unfold KStt.codes at h1
  rw [List.getElem?_map] at h1
  obtain ⟨c, hc, hcn⟩ := Option.map_eq_some_iff.mp h1
  have : c = n := by omega
  subst this
  obtain ⟨hl, he⟩ := List.getElem?_eq_some_iff.mp hc
  rw [len_toList]
  exact ⟨by rw [← he]; exact List.drop_eq_getElem_cons hl, hl⟩
theorem sgl_start : SglInv x [] [] (Str.ofString "") := by
  refine ⟨?_, Nat.le_refl _, by rw [nil_str]; exact Nat.le_refl _⟩
  rw [nil_str]
  rfl
theorem sgl_space (h : SglInv x pre ini cur) (e : KStt.codes x = pre ++ (n : Int) :: post) (hs : isSp n = true) : SglInv x (pre ++ [(n : Int)]) (ini ++ [cur]) (Str.ofString "") := by
  obtain ⟨h1, h2, h3⟩ := h
  obtain ⟨hd, -⟩ := codes_drop e
  rw [hd, wsplit] at h1
  simp only [hs, if_true] at h1
  refine ⟨?_, by simp; omega, by rw [nil_str]; exact Nat.zero_le _⟩
  rw [List.length_append, List.length_singleton, nil_str, List.filter_append]
  rw [← h1]
  by_cases hc : cur.cps.toList = []
  · have e1 : [cur].filter (· != ({ cps := #[] } : Str)) = [] := by
      have := ne_nil cur
      rw [nil_str] at this
      simp [this, hc]
    rw [if_pos hc, ← nil_str, nil_str, e1, List.append_nil]
  · have e1 : [cur].filter (· != ({ cps := #[] } : Str)) = [cur] := by
      have := ne_nil cur
      rw [nil_str] at this
      simp [this, hc]
    rw [if_neg hc, e1, List.map_cons, mkS_toList, List.append_assoc, nil_str]
    rfl
theorem sgl_sign (h : SglInv x pre ini cur) (e : KStt.codes x = pre ++ (n : Int) :: post) (hs : isSp n = false) : SglInv x (pre ++ [(n : Int)]) ini (cur ++ ⟨#[n]⟩) := by
  obtain ⟨h1, h2, h3⟩ := h
  obtain ⟨hd, -⟩ := codes_drop e
  rw [hd, wsplit] at h1
  simp only [hs, Bool.false_eq_true, if_false] at h1
  have ec : (cur ++ (⟨#[n]⟩ : Str)).cps.toList = cur.cps.toList ++ [n] := by rw [Str.cps_append]; simp
  refine ⟨?_, by simp; omega, ?_⟩
  · rw [List.length_append, List.length_singleton, ec]
    exact h1
  · rw [Str.length_append]
    simp only [List.length_append, List.length_singleton]
    have : (⟨#[n]⟩ : Str).length = 1 := rfl
    omega
theorem sgl_end (h : SglInv x (KStt.codes x) ini cur) : (ini ++ [cur]).filter (· != Str.ofString "") = wordsOf x := by
  obtain ⟨h1, -, -⟩ := h
  rw [KStt.codes_length, List.drop_eq_nil_of_le (by rw [len_toList]; exact Nat.le_refl _), wsplit] at h1
  rw [← h1, List.filter_append]
  congr 1
  have := ne_nil cur
  by_cases hc : cur.cps.toList = []
  · rw [if_pos hc]
    simp [this, hc]
  · rw [if_neg hc, List.map_cons, mkS_toList]
    simp [this, hc]
end
theorem sgl_step {ws : List Str} {i : Nat} {y : Str} (hy : ws[i]? = some y) : (ws.take (i + 1)).filter (· != Str.ofString "") = (ws.take i).filter (· != Str.ofString "") ++ if (y != Str.ofString "") = true then [y] else [] := by
  rw [List.take_add_one, hy, List.filter_append]
  congr 1
  cases h : y != Str.ofString "" <;> simp [h]
section
variable {prog : Program} {w : World} {A : Around} {E : Value → Shared → Prop} {s : Shared} {h₀ : Heap} {L l : Addr} {m : Str → Option Value} {news news' : List (Addr × Obj)}
theorem last_idx (n : Nat) : seqIndex? (-1) (n + 1) = some n := by
  rw [seqIndex_neg (by decide) (by omega)]
  congr 1
  omega
theorem get_last {us : List Value} {v : Value} {c : Nat} {u : Tok} {value slice : PySem.Expr} {Q : Value → Shared → Prop} (N : News h₀ L s.heap news) (hm : (l, listOf (us ++ [v]).toArray c) ∈ news) (h : Q v s)
    (hs : subscripted slice false (.ref l) (.int (-1) u) = operate [.ref l, .int (-1) u] (getItem (.ref l) (.int (-1) u)) := by with_unfolding_all rfl) :
    wpAny (model prog w) A (subscriptTail value slice (.ref l) (.int (-1) u)) Q E s :=
  kde_neg (j := us.length) ⟨_, (N _ hm).1, rfl, c, rfl⟩ (by decide) (by decide) (by rw [List.length_append]; exact last_idx _) (by simp) h hs
theorem set_last {us : List Value} {v0 v : Value} {c : Nat} {u : Tok} {Q : Unit → Shared → Prop} (F : Fr h₀ L s.heap m) (N : News h₀ L s.heap news) (U : Upd l (listOf (us ++ [v0]).toArray c) (listOf (us ++ [v]).toArray c) news news')
    (h : ∀ h', Fr h₀ L h' m → News h₀ L h' news' → Q () { s with heap := h' }) : wpAny (model prog w) A (setItem (.ref l) (.int (-1) u) v) Q E s := by
  obtain ⟨pre, post, rfl, rfl, a, b⟩ := U.split
  have z := N (l, listOf (us ++ [v0]).toArray c) (List.mem_append.mpr (.inr (.head _)))
  refine ki_setBack z.1 (by decide) (by simp; omega) (by decide) (h _ (F.change (Heap.SameBut.update ..) z.2.1 z.2.2) (ki_turn _ N a b ?_ ?_))
  · apply Array.toList_inj.mp
    have e : (-1 + ((us ++ [v0]).toArray.size : Int)).toNat = us.length := by simp; omega
    rw [e]
    simp
  · simp
end
end
section -- T10
local macro_rules | `(tactic| walk_at "MINE enter") => `(tactic| (
  w_top off
  unfold Spec
  k_fill
  intro mean mg mb dp un gd cn cs a ccd cl outer A₀ base h₀ L m s Q E B F X N T hk hd hu ret
  k_dflt (refine' enter B F X N T hk hd ret ?ho ?hcd ?hb ?hl ?c2 ?c3 ?c4 ?c5 ?body; (case ho => k_is); (case hcd => k_is); (case hb => exact BindsTo.of_eq rfl); (case hl => exact locs rfl); (case c2 => exact rfl); (case c3 => exact rfl); (case c4 => exact rfl); (case c5 => decide))
  intro g' L' h' F' N' B' X' T'
  clear ret T X N F B
  (try dsimp only)
  (try k_fold)))
local macro_rules | `(tactic| walk_at "MINE end0") => `(tactic| (
  (try dsimp only)
  (try k_unfold)
  (try dsimp only)
  refine ⟨_, _, [], _, _, rfl, by assumption, News.nil, rfl, ?_⟩))
local macro_rules | `(tactic| walk_at "MINE same") => `(tactic| (intro z hz h1 h2; first | rfl | (simp [kstB, hz]; done) | (simp_all [kstB]; done)))
local macro_rules | `(tactic| walk_at "MINE steps") => `(tactic| (
  repeat' ((fail_if_success (with_reducible show wpAny _ _ (pyIter _) _ _ _)); (fail_if_success (with_reducible show InvEndN _ _ _ _ _ _ _)); (fail_if_success (with_reducible show Leave _ _ _ _ _)); (fail_if_success (with_reducible show CutB _ _ _ _ _ _ _ _)); (fail_if_success (with_reducible show CutV _ _ _ _ _ _ _)); (fail_if_success (with_reducible show CutW _ _ _ _ _ _ _ _ _)); (fail_if_success (with_reducible show LCg.CompSrc _ _ _ _ _ _ _ _ _ _ _ _ _ _)); (fail_if_success (with_reducible show LCt.CompSrcT _ _ _ _ _ _ _ _ _ _ _ _ _ _ _)); (fail_if_success (with_reducible show LCg.CompEnd _ _ _ _ _ _ _ _ _ _ _ _ _ _)); first | (k_unfold; (try dsimp only)) | (k_end; wrow_close) | walk1 | (dsimp only; walk1) | (leave1; try dsimp only) | fail "no step")))
local macro_rules | `(tactic| walk_at "exec For") => `(tactic| (k_here; (rename Fr _ _ _ _ => lF'); (with_unfolding_all refine' For_invVF lF' ?k1 ?k2 ?_; (case k1 => exact rfl); (case k2 => exact rfl); k_whole); walk_say "MINE for"))
local macro_rules | `(tactic| walk_at "MINE in") => `(tactic| exact in1)
local macro_rules | `(tactic| walk_at "eval ListComp") => `(tactic| (k_here; (with_reducible show wpAny _ _ (eval (Expr.ListComp _ [Comprehension.mk _ _ [] _] _ _) _) _ _ _); k_dflt (refine LCg.ListComp_U (F₀ := by k_asm) (by with_unfolding_all rfl) (by decide) (by rfl) (by decide) (by rfl) ?_); walk_say "MINE comp"))
local macro_rules | `(tactic| walk_at "eval ListComp") => `(tactic| (k_here; (with_reducible show wpAny _ _ (eval (Expr.ListComp _ [Comprehension.mk _ _ [_] _] _ _) _) _ _ _); k_dflt (refine LCt.ListComp_T (F₀ := by k_asm) (by with_unfolding_all rfl) (by decide) (by rfl) (by decide) (by rfl) ?_); walk_say "MINE compT"))
section
variable {prog : Program} {w : World} {A : Around} {E : Value → Shared → Prop} {s : Shared} {env : Env} {h₀ : Heap} {x : Str} {body : List Stmt} {Q : Flow → Shared → Prop}
theorem txt {σ : Type} {l : Addr} {xt : Str} {tx : Tok} {m₀ : Str → Option Value} {news : List (Addr × Obj)} (Lo : σ → Obj) (Facts : σ → Prop) (P : List Int → σ → Prop) (c₀ : σ)
    (hh : A.handled = none) (F : Fr h₀ env.locals s.heap m₀) (N : News h₀ env.locals s.heap news) (hm : (l, Lo c₀) ∈ news) (hf : Facts c₀) (hp : P [] c₀)
    (turn : ∀ (c : σ) (pre post : List Int) (n : Nat) t (u : Str → Option Value) h tk own, KStt.codes xt = pre ++ (n : Int) :: post → OwnOff own [l] → Facts c → P pre c →
      Fr h₀ env.locals h (fun y => if y = x then some (.str ⟨#[n]⟩ t) else kstB (fun z => if ([] : List Str).contains z then u z else m₀ z) [] y) → News h₀ env.locals h ((l, Lo c) :: own) →
      wpAny (model prog w) A (execs body env) (InvPostN h₀ env.locals (KstS (fun c => [(l, Lo c)]) (fun _ => []) Facts x [] m₀ P (pre ++ [(n : Int)])) own [l] { s with heap := h, toks := tk } Q) E { s with heap := h, toks := tk })
    (done : ∀ (c : σ) (u : Str → Option Value) h tk, Facts c → P (KStt.codes xt) c → Fr h₀ env.locals h (fun y => if y = x then u y else kstB (fun z => if ([] : List Str).contains z then u z else m₀ z) [] y) → News h₀ env.locals h [(l, Lo c)] → Q .next { s with heap := h, toks := tk }) :
    wpAny (model prog w) A (pyIter (.str xt tx)) (fun it s₂ => LoopAtV prog w A h₀ env x body Q E it s₂) E s :=
  KStt.kst_text (fun c => [(l, Lo c)]) (fun _ => []) Facts [] P c₀ hh F (fun p hp => by rw [List.mem_singleton.mp hp]; exact N _ hm) hf (fun _ h => nomatch h) hp turn done
end
section
local macro_rules | `(tactic| walk_at "binaryOp Add str str") => `(tactic| (k_here; (with_reducible show wpAny _ _ (binaryOp Operator.Add (Value.str _ _) (Value.str _ _)) _ _ _); (refine SBL.add (hsz := ?hz) ?_); (case hz => (rw [sizeLine_eq]; omega)); (intro t9 k9 hl9)))
local macro_rules | `(tactic| walk_at "subscriptTail") => `(tactic| (k_here; (with_reducible show wpAny _ _ (subscriptTail _ _ (Value.ref _) (Value.int _ _)) _ _ _); (with_unfolding_all refine' get_last ?k1 ?k2 ?_ ?k6; (case k1 => k_asm); (case k2 => k_memK); (case k6 => with_unfolding_all rfl); k_whole); walk_say "MINE last"))
local macro_rules | `(tactic| walk_at "setItem ref int") => `(tactic| (k_here; k_dflt (refine' set_last ?k1 ?k2 ?k3 ?_; (case k1 => k_asm); (case k2 => k_asm); (case k3 => k_upd); k_whole); (intro h9 F9 N9); walk_say "MINE set"; (try k_sweep)))
local macro_rules | `(tactic| walk_at "call builtin:str.join") => `(tactic| (k_here; (show wpAny _ _ (call (Value.builtin "str.join") [Value.str _ _, Value.ref _]) _ _ _); k_dflt (refine' join_listW ?ka ?kb ?kc ?kd ?_; (case ka => exact ⟨_, News.get (by k_asm) (by k_memK), rfl, _, rfl⟩); (case kb => k_asm); (case kc => decide +kernel); (case kd => exact Nat.le_trans (words_size _) (by omega)); k_whole); intro t9 k9))
theorem single_ok (w : World) {x : Str} {t : Tok} (hx : raw x) : Spec 3 w 203 [.str x t] [] (fun r own' => own' = [] ∧ ∃ t', r = .str (collapsedS x) t') := by
  k_with_none
  have hxl := hx.1
  walk_at "MINE enter"
  walk_at "MINE steps"
  refine' txt (σ := List Value × List Str × Str × Tok × Nat) (fun c => listOf (c.1 ++ [Value.str c.2.2.1 c.2.2.2.1]).toArray c.2.2.2.2) (fun c => StrsAre c.1 c.2.1) (fun pre c => SglInv x pre c.2.1 c.2.2.1) ([], [], Str.ofString "", _, _) ?hh ?F ?N ?hm ?hf ?hp ?turn ?done
  case hh => rfl
  case F => assumption
  case N => assumption
  case hm => k_memK
  case hf => exact .nil
  case hp => exact sgl_start
  case turn =>
    rintro ⟨iu, ini, cur, tc, nn⟩ pre post n t9 u h tk own hE hOff hS hP F9 N9
    dsimp only at hS hP F9 N9
    obtain ⟨hP1, hP2, hP3⟩ := id hP
    have hp9 := (codes_drop hE).2
    have hn1 : ({ cps := #[n] } : Str).length = 1 := rfl
    have hul := hS.length
    (try k_sweep)
    (try dsimp only)
    (try k_fold)
    walk_at "MINE steps"
    · rename List.isEmpty _ = true => hs9
      rw [sp_in, Bool.not_eq_true'] at hs9
      exact kst_end (iu, ini, cur ++ ⟨#[n]⟩, _, nn) (by assumption) (by assumption) (by walk_at "MINE in") (fun p hp => .tail _ hp) rfl hS (fun _ h => nomatch h) (by walk_at "MINE same") (sgl_sign hP hE hs9)
    · rename List.isEmpty _ = false => hs9
      rw [sp_in, Bool.not_eq_false'] at hs9
      rename News _ _ _ _ => nE
      simp only [List.push_toArray] at nE
      exact kst_end (iu ++ [Value.str cur tc], ini ++ [cur], Str.ofString "", _, nn + 1) (by assumption) nE (by walk_at "MINE in") (fun p hp => .tail _ hp) rfl (KStt.strs_snoc hS) (fun _ h => nomatch h) (by walk_at "MINE same") (sgl_space hP hE hs9)
  case done =>
    rintro ⟨iu, ini, cur, tc, nn⟩ u h tk hS hP F9 N9
    dsimp only at hS hP F9 N9
    have hW := sgl_end hP
    (try k_sweep)
    (try dsimp only)
    (try k_fold)
    walk_at "MINE steps"
    have hSS : StrsAre (iu ++ [Value.str cur tc]) (ini ++ [cur]) := KStt.strs_snoc hS
    have hln := hP.2.1
    rw [KStt.codes_length] at hln
    refine' LCt.CompSrcT.ledger (by rfl) ?hF ?hN ?hm ?hz (fun g => comp_invT (SglJ _ (ini ++ [cur])) ⟨rfl, .nil⟩ ?tu ?fin)
    case hF => assumption
    case hN => assumption
    case hm => k_memK
    case hz =>
      rw [List.size_toArray, hSS.length, sizeLine_eq, List.length_append, List.length_singleton]
      omega
    case tu =>
      rintro i ys nw v I oI C oC D m₂ h tk E' hi ⟨rfl, hJ⟩ hPv hC hx9 F N off ne
      obtain ⟨y, ty, rfl, hy⟩ := strs_at hSS hPv
      have hst := sgl_step hy
      simp only [LCg.Off3, and_true] at off
      (try k_sweep)
      (try dsimp only)
      (try k_fold)
      walk_at "MINE steps"
      · rename (_ != _) = true => hw
        refine LCg.CompEnd.intro (by assumption) (by assumption) _ (fun p hp => hp) (by first | (simp only [LCg.Off3, and_true]; done) | (simp only [LCg.Off3, and_true]; exact off)) (.inr ⟨_, by k_memK, rfl, _, rfl⟩) ⟨rfl, ?_⟩
        rw [hst, if_pos hw]
        exact KStt.strs_snoc hJ
      · rename (_ != _) = false => hw
        refine LCg.CompEnd.intro (by assumption) (by assumption) _ (fun p hp => hp) (by first | (simp only [LCg.Off3, and_true]; done) | (simp only [LCg.Off3, and_true]; exact off)) (.inr ⟨_, by k_memK, rfl, _, rfl⟩) ⟨rfl, ?_⟩
        rw [hst, if_neg (by rw [hw]; decide), List.append_nil]
        exact hJ
    case fin =>
      rintro ys nw ⟨rfl, hJ⟩
      rw [List.size_toArray, hSS.length, List.take_length, hW] at hJ
      intro D h tk F N off
      (try k_sweep)
      (try dsimp only)
      (try k_fold)
      walk_at "MINE steps"
      walk_at "MINE end0"
      exact ⟨_, rfl⟩
end
end
section -- Val
theorem strs_mem : ∀ {vs : List Value} {ys : List Str} {r : Value}, StrsAre vs ys → r ∈ vs → ∃ x t, r = .str x t ∧ x ∈ ys
  | _, _, _, .cons y t h, hr => by
    rcases List.mem_cons.mp hr with rfl | hr
    · exact ⟨y, t, rfl, .head _⟩
    · obtain ⟨x, t, e, hx⟩ := strs_mem h hr
      exact ⟨x, t, e, .tail _ hx⟩
theorem menu_ok : ∀ x ∈ menu, inMenu x := by unfold inMenu alph; decide +kernel
def alphN (c : Nat) : Bool := [97, 98, 45, 49, 120, 58, 121, 110, 111, 65, 46, 38].contains c || isSp c
def okS (x : Str) : Prop := x.length ≤ 10 ∧ ∀ c ∈ x.cps.toList, alphB c
def okSb (x : Str) : Bool := decide (x.length ≤ 10) && x.cps.toList.all alphN
theorem alphN_of {c : Nat} (h : alphN c = true) : alphB c := by
  unfold alphN at h
  rcases (Bool.or_eq_true _ _).mp h with h | h
  · exact .inl (by unfold alph; simpa using h)
  · exact .inr h
theorem okS_of {ys : List Str} {x : Str} (h : ys.all okSb = true) (hx : x ∈ ys) : okS x := by
  have h1 := List.all_eq_true.mp h x hx
  unfold okSb at h1
  obtain ⟨a, b⟩ := (Bool.and_eq_true _ _).mp h1
  exact ⟨of_decide_eq_true a, fun c hc => alphN_of (List.all_eq_true.mp b c hc)⟩
theorem okS_of' {ys : List Str} {x : Str} (hx : x ∈ ys) (h : ys.all okSb = true) : okS x := okS_of h hx
section
variable {prog : Program} {w : World} {A : Around} {E : Value → Shared → Prop} {s : Shared} {h₀ : Heap} {L l : Addr}
theorem item_strs {news : List (Addr × Obj)} {value slice : PySem.Expr} {vs : List Value} {ys : List Str} {c : Nat} {k : Int} {u : Tok} {Q : Value → Shared → Prop} (N : News h₀ L s.heap news) (hm : (l, listOf vs.toArray c) ∈ news) (hs9 : StrsAre vs ys) (h0 : 0 ≤ k) (h1 : k < (ys.length : Int)) (hhi : k < 2 ^ 63) (h : ∀ y t, y ∈ ys → Q (.str y t) s)
    (hs : subscripted slice false (.ref l) (.int k u) = operate [.ref l, .int k u] (getItem (.ref l) (.int k u)) := by with_unfolding_all rfl) :
    wpAny (model prog w) A (subscriptTail value slice (.ref l) (.int k u)) Q E s := by
  have hlt : k.toNat < vs.length := by have := hs9.length; omega
  have hg := List.getElem?_eq_getElem hlt
  obtain ⟨y, t, e, hy⟩ := strs_at hs9 (i := k.toNat) (v := vs[k.toNat]) (by rw [List.getElem?_toArray]; exact hg)
  refine item_litK ⟨_, (N _ hm).1, rfl, c, rfl⟩ h0 hhi hg ?_ hs
  rw [e]
  exact h y t (List.mem_of_getElem? hy)
end
def ValInv (pre : List Int) (x : Str) : Prop := x.length ≤ 10 + 13 * pre.length ∧ ∀ c ∈ x.cps.toList, alphB c
theorem chars_app {x y : Str} (hx : ∀ c ∈ x.cps.toList, alphB c) (hy : ∀ c ∈ y.cps.toList, alphB c) : ∀ c ∈ (x ++ y).cps.toList, alphB c := by
  intro c hc
  rw [Str.cps_append, Array.toList_append] at hc
  rcases List.mem_append.mp hc with hc | hc
  · exact hx c hc
  · exact hy c hc
theorem menu_chars {x : Str} (h : inMenu x) : ∀ c ∈ x.cps.toList, alphB c := fun c hc => .inl (h.2 c hc)
theorem getD_menu {ws : List Str} {k : Nat} (hm : ∀ x ∈ ws, inMenu x) (hk : k < ws.length) : inMenu (ws.getD k Str.empty) := by
  rw [List.getD_eq_getElem?_getD, List.getElem?_eq_getElem hk]
  exact hm _ (List.getElem_mem hk)
theorem val_step {pre : List Int} {k : Int} {fx y : Str} (h : ValInv pre fx) (hy : inMenu y) (hl : (fx ++ y).length ≤ fx.length + y.length) : ValInv (pre ++ [k]) (fx ++ y) := by
  refine ⟨?_, chars_app h.2 (menu_chars hy)⟩
  have h1 := h.1
  have h2 := hy.1
  simp only [List.length_append, List.length_singleton]
  omega
theorem val_step2 {pre : List Int} {k : Int} {fx x y : Str} (h : ValInv pre fx) (hx : okS x) (hy : inMenu y) (hl : (fx ++ x).length ≤ fx.length + x.length) (hl2 : (fx ++ x ++ y).length ≤ (fx ++ x).length + y.length) : ValInv (pre ++ [k]) (fx ++ x ++ y) := by
  refine ⟨?_, chars_app (chars_app h.2 hx.2) (menu_chars hy)⟩
  have h1 := h.1
  have h2 := hy.1
  have h3 := hx.1
  simp only [List.length_append, List.length_singleton]
  omega
theorem val_end {n : Nat} {pre : List Int} {fx x : Str} (h : ValInv pre fx) (hp : pre.length = n) (hn : n ≤ 3) (hx : okS x) (hl : (fx ++ x).length ≤ fx.length + x.length) : raw (fx ++ x) := by
  refine ⟨?_, chars_app h.2 hx.2⟩
  have h1 := h.1
  have h3 := hx.1
  omega
end
section -- T11
local macro_rules | `(tactic| walk_at "MINE enter") => `(tactic| (
  w_top off
  unfold Spec
  k_fill
  intro mean mg mb dp un gd cn cs a ccd cl outer A₀ base h₀ L m s Q E B F X N T hk hd hu ret
  k_dflt (refine' enter B F X N T hk hd ret ?ho ?hcd ?hb ?hl ?c2 ?c3 ?c4 ?c5 ?body; (case ho => k_is); (case hcd => k_is); (case hb => exact BindsTo.of_eq rfl); (case hl => exact locs rfl); (case c2 => exact rfl); (case c3 => exact rfl); (case c4 => exact rfl); (case c5 => decide))
  intro g' L' h' F' N' B' X' T'
  clear ret T X N F B
  (try dsimp only)
  (try k_fold)))
local macro_rules | `(tactic| walk_at "MINE steps") => `(tactic| (
  repeat' ((fail_if_success (with_reducible show wpAny _ _ (pyIter _) _ _ _)); (fail_if_success (with_reducible show InvEndN _ _ _ _ _ _ _)); (fail_if_success (with_reducible show Leave _ _ _ _ _)); (fail_if_success (with_reducible show CutB _ _ _ _ _ _ _ _)); (fail_if_success (with_reducible show CutV _ _ _ _ _ _ _)); (fail_if_success (with_reducible show CutW _ _ _ _ _ _ _ _ _)); (fail_if_success (with_reducible show LCg.CompSrc _ _ _ _ _ _ _ _ _ _ _ _ _ _)); (fail_if_success (with_reducible show LCt.CompSrcT _ _ _ _ _ _ _ _ _ _ _ _ _ _ _)); (fail_if_success (with_reducible show LCg.CompEnd _ _ _ _ _ _ _ _ _ _ _ _ _ _)); first | (k_unfold; (try dsimp only)) | (k_end; wrow_close) | walk1 | (dsimp only; walk1) | (leave1; try dsimp only) | fail "no step")))
local macro_rules | `(tactic| walk_at "exec For") => `(tactic| (k_here; (rename Fr _ _ _ _ => lF'); (with_unfolding_all refine' For_invVF lF' ?k1 ?k2 ?_; (case k1 => exact rfl); (case k2 => exact rfl); k_whole); walk_say "MINE for"))
local macro_rules | `(tactic| walk_at "MINE same1") => `(tactic| (intro z hz h1 h2; (have hb9 := h1 _ (List.Mem.head _)); (try dsimp only at hb9); first | rfl | (simp [kstB, hz, hb9]; done) | (simp_all [kstB]; done)))
local macro_rules | `(tactic| walk_at "MINE keys1") => `(tactic| (intro p hp; (have e9 := List.mem_singleton.mp hp); subst e9; with_unfolding_all rfl))
local macro_rules | `(tactic| walk_at "eval ListComp") => `(tactic| (k_here; (with_reducible show wpAny _ _ (eval (Expr.ListComp _ [Comprehension.mk _ _ [] _] _ _) _) _ _ _); k_dflt (refine LCg.ListComp_U (F₀ := by k_asm) (by with_unfolding_all rfl) (by decide) (by rfl) (by decide) (by rfl) ?_); walk_say "MINE comp"))
local macro_rules | `(tactic| walk_at "eval ListComp") => `(tactic| (k_here; (with_reducible show wpAny _ _ (eval (Expr.ListComp _ [Comprehension.mk _ _ [_] _] _ _) _) _ _ _); k_dflt (refine LCt.ListComp_T (F₀ := by k_asm) (by with_unfolding_all rfl) (by decide) (by rfl) (by decide) (by rfl) ?_); walk_say "MINE compT"))
local macro_rules | `(tactic| walk_at "call ref") => `(tactic| (k_dflt (refine' use_src (one_ok _ ?p1 ?p2 ?p3 ?p4) ?kB ?kF ?kX ?kN ?kT ?khk ?kU ?khs ?khd ?khu ?_; (case kB => k_asm); (case kF => k_asm); (case kX => k_asm); (case kN => k_asm); (case kT => k_asm); (case khk => first | exact rfl | assumption); (case kU => k_updF); (case khs => k_allIn); (case khd => ktr_room); (case khu => ktr_units); (case p1 => assumption); (case p2 => first | assumption | omega); (case p3 => simp); (case p4 => simp)); (intro r9 o9 h9 tk9 F9 N9 hS9 hP9); (refine' Exists.elim (strs_mem ?hsm hP9) ?_); (case hsm => repeat' (first | exact StrsAre.nil | refine' StrsAre.cons _ _ ?_)); (intro x9 hx9; obtain ⟨t9, hr9, hm9⟩ := hx9; subst hr9); (try k_dflt (have hok9 := okS_of' hm9 (by decide +kernel); have hlo9 := hok9.1)); (try dsimp only at N9); walk_say "MINE one_ok"; (try k_sweep); (try dsimp only); (try k_fold)))
section
local macro_rules | `(tactic| walk_at "binaryOp Add str str") => `(tactic| (k_here; (with_reducible show wpAny _ _ (binaryOp Operator.Add (Value.str _ _) (Value.str _ _)) _ _ _); (refine SBL.add (hsz := ?hz) ?_); (case hz => (rw [sizeLine_eq]; omega)); (intro t9 k9 hl9)))
local macro_rules | `(tactic| walk_at "subscriptTail") => `(tactic| (k_here; (with_reducible show wpAny _ _ (subscriptTail _ _ (Value.ref _) (Value.int _ _)) _ _ _); (with_unfolding_all refine' item_strs ?k1 ?k2 ?k3 ?k4 ?k5 ?k6 ?_ ?k7; (case k1 => k_asm); (case k2 => k_memK); (case k3 => assumption); (case k4 => omega); (case k5 => omega); (case k6 => omega); (case k7 => with_unfolding_all rfl); k_whole); (intro y9 t9 hy9); walk_say "MINE item"))
local macro_rules | `(tactic| walk_at "call builtin:len") => `(tactic| (k_here; (with_reducible show wpAny _ _ (call (Value.builtin "len") [Value.ref _]) _ _ _); k_dflt (refine' kst_len ?k1 ?k2 ?k3 ?k4 ?_; (case k1 => k_asm); (case k2 => k_memK); (case k3 => exact StrsAre.length (by assumption)); (case k4 => omega)); k_whole))
theorem value_ok (w : World) {src l : Addr} {o : Obj} {us : List Value} {c : Nat} {ws : List Str} (ho : SrcAt o) (hne : @Ne Nat src l) (hs : StrsAre us ws) (hn : ws.length ≤ 3) (hm : ∀ x ∈ ws, inMenu x) :
    Spec 5 w 198 [.ref src, .ref l] [(src, o), (l, listOf us.toArray c)] (fun r own' => ∃ o', own' = [(src, o'), (l, listOf us.toArray c)] ∧ SrcAt o' ∧ ∃ x t, r = .str x t ∧ raw x) := by
  k_with_none
  walk_at "MINE enter"
  walk_at "MINE steps"
  rename okS _ => hok0
  refine' rng (l := src) (σ := Obj × Str × Tok) (n := ws.length) (fun c => c.1) [(l, listOf us.toArray c), (_, _)] (fun c => [(Str.ofString "found", .str c.2.1 c.2.2)]) (fun c => SrcAt c.1) [] (fun pre c => ValInv pre c.2.1) (_, _, _) ?hh ?hr ?hsm ?hn ?F ?N ?hm ?hrest ?hf ?hk ?hp ?turn ?done
  case hh => rfl
  case hr => assumption
  case hsm => exact small_one (by omega) (by omega) (by omega) (by omega)
  case hn => exact rangeSize_nat _ _
  case F => assumption
  case N => assumption
  case hm => k_memK
  case hrest => k_allIn
  case hk => walk_at "MINE keys1"
  case hf => assumption
  case hp => exact ⟨by have := hok0.1; simp; omega, hok0.2⟩
  case turn =>
    rintro ⟨os, fx, ft⟩ pre k t9 u h tk own hk hlt hOff hS hP F9 N9
    dsimp only at hS hP F9 N9
    (simp only [List.map_nil, List.map_cons, List.cons_append, List.nil_append] at N9 hOff)
    have hP1 := hP.1
    have hgm := getD_menu (k := k.toNat) hm (by omega)
    have hgl := hgm.1
    (try k_sweep)
    (try dsimp only)
    (try k_fold)
    walk_at "MINE steps"
    · exact kst_end (_, _, _) (by assumption) (by assumption) (by first | k_allIn | (simp; done)) (fun p hp => by simp [hp]) rfl (by assumption) (by walk_at "MINE keys1") (by walk_at "MINE same1") (val_step2 hP (by assumption) hgm (And.right (by assumption)) (And.right (by assumption)))
    · exact kst_end (_, _, _) (by assumption) (by assumption) (by first | k_allIn | (simp; done)) (fun p hp => by simp [hp]) rfl (by assumption) (by walk_at "MINE keys1") (by walk_at "MINE same1") (val_step hP hgm (And.right (by assumption)))
  case done =>
    rintro ⟨os, fx, ft⟩ u h tk hS hP F9 N9
    dsimp only at hS hP F9 N9
    have hP1 := hP.1
    rw [rangeKs_length] at hP1
    (try k_sweep)
    (try dsimp only)
    (try k_fold)
    walk_at "MINE steps"
    (try dsimp only)
    (try k_unfold)
    (try dsimp only)
    refine ⟨_, _, [(src, _), (l, listOf us.toArray c)], _, _, rfl, by assumption, cb_drop (by assumption) (by k_allIn), _, rfl, by assumption, _, _, rfl, ?_⟩
    exact val_end hP (rangeKs_length _ _) hn (by assumption) (And.right (by assumption))
end
end
section -- T12
local macro_rules | `(tactic| walk_at "MINE enterC") => `(tactic| (
  w_top off
  unfold Spec
  k_fill
  intro mean mg mb dp un gd cn cs a ccd cl outer A₀ base h₀ L m s Q E B F X N T hk hd hu ret
  k_dflt (refine' enterC B F X N T hk hd ret ?ho ?hcd ?hb ?hl ?hn ?c2 ?c3 ?c4 ?body; (case ho => k_is); (case hcd => k_is); (case hb => exact BindsTo.of_eq rfl); (case hl => exact rfl); (case hn => decide +kernel); (case c2 => exact rfl); (case c3 => exact rfl); (case c4 => exact rfl))
  intro g' L' h' tk' cells' F' N' Y' B' X' T' l1
  clear ret T X N F B
  (try k_lt l1)
  k_cells Y'
  (try simp only [List.cons_append, List.nil_append] at N')
  (try dsimp only)
  (try k_fold)))
local macro_rules | `(tactic| walk_at "MINE steps") => `(tactic| (
  repeat' ((fail_if_success (with_reducible show wpAny _ _ (pyIter _) _ _ _)); (fail_if_success (with_reducible show InvEndN _ _ _ _ _ _ _)); (fail_if_success (with_reducible show Leave _ _ _ _ _)); (fail_if_success (with_reducible show CutB _ _ _ _ _ _ _ _)); (fail_if_success (with_reducible show CutV _ _ _ _ _ _ _)); (fail_if_success (with_reducible show CutW _ _ _ _ _ _ _ _ _)); (fail_if_success (with_reducible show LCg.CompSrc _ _ _ _ _ _ _ _ _ _ _ _ _ _)); (fail_if_success (with_reducible show LCt.CompSrcT _ _ _ _ _ _ _ _ _ _ _ _ _ _ _)); (fail_if_success (with_reducible show LCg.CompEnd _ _ _ _ _ _ _ _ _ _ _ _ _ _)); first | (k_unfold; (try dsimp only)) | (k_end; wrow_close) | walk1 | (dsimp only; walk1) | (leave1; try dsimp only) | fail "no step")))
local macro_rules | `(tactic| walk_at "exec For") => `(tactic| (k_here; (rename Fr _ _ _ _ => lF'); (with_unfolding_all refine' For_invVF lF' ?k1 ?k2 ?_; (case k1 => exact rfl); (case k2 => exact rfl); k_whole); walk_say "MINE for"))
local macro_rules | `(tactic| walk_at "eval ListComp") => `(tactic| (k_here; (with_reducible show wpAny _ _ (eval (Expr.ListComp _ [Comprehension.mk _ _ [] _] _ _) _) _ _ _); k_dflt (refine LCg.ListComp_U (F₀ := by k_asm) (by with_unfolding_all rfl) (by decide) (by rfl) (by decide) (by rfl) ?_); walk_say "MINE comp"))
local macro_rules | `(tactic| walk_at "eval ListComp") => `(tactic| (k_here; (with_reducible show wpAny _ _ (eval (Expr.ListComp _ [Comprehension.mk _ _ [_] _] _ _) _) _ _ _); k_dflt (refine LCt.ListComp_T (F₀ := by k_asm) (by with_unfolding_all rfl) (by decide) (by rfl) (by decide) (by rfl) ?_); walk_say "MINE compT"))
local macro_rules | `(tactic| walk_at "call ref") => `(tactic| (k_dflt (refine' use_src (one_ok _ ?p1 ?p2 ?p3 ?p4) ?kB ?kF ?kX ?kN ?kT ?khk ?kU ?khs ?khd ?khu ?_; (case kB => k_asm); (case kF => k_asm); (case kX => k_asm); (case kN => k_asm); (case kT => k_asm); (case khk => first | exact rfl | assumption); (case kU => k_updF); (case khs => k_allIn); (case khd => ktr_room); (case khu => ktr_units); (case p1 => assumption); (case p2 => first | assumption | omega); (case p3 => simp); (case p4 => simp)); (intro r9 o9 h9 tk9 F9 N9 hS9 hP9); (try dsimp only at N9); walk_say "MINE one_ok"; (try k_sweep); (try dsimp only); (try k_fold)))
def WordsJ (cc : Addr × Obj) (src : Addr) (i : Nat) (ys : List Value) (nw : List (Addr × Obj)) : Prop := ∃ o', nw = [cc, (src, o')] ∧ SrcAt o' ∧ ∃ ws, StrsAre ys ws ∧ ws.length = i ∧ ∀ x ∈ ws, inMenu x
theorem words_ok (w : World) {src : Addr} {o : Obj} {n : Int} {t : Tok} (ho : SrcAt o) (h0 : 0 ≤ n) (h3 : n ≤ 3) :
    Spec 5 w 191 [.ref src, .int n t] [(src, o)] (fun r own' => ∃ o' l us c, r = .ref l ∧ own' = (l, listOf us.toArray c) :: [(src, o')] ∧ (∀ q ∈ [(src, o)], q.1 ≠ l) ∧ SrcAt o' ∧ ∃ ws, StrsAre us ws ∧ (ws.length : Int) = n ∧ ∀ x ∈ ws, inMenu x) := by
  k_with_none
  obtain ⟨n, rfl⟩ := Int.eq_ofNat_of_zero_le h0
  walk_at "MINE enterC"
  walk_at "MINE steps"
  refine LCg.CompSrc.range (n := n) rfl (by assumption) (by assumption) (by assumption) (small_one (by omega) (by omega) (by omega) (by omega)) (rangeSize_nat _ _) (by rw [sizeLine_eq]; omega) (fun g => comp_inv (WordsJ _ src) ⟨_, rfl, ho, [], .nil, rfl, fun _ h => nomatch h⟩ ?_ ?_)
  · rintro i ys nw v I oI C oC D m₂ h tk E' hi ⟨o1, rfl, ho1, ws, hws, hwl, hwm⟩ hP hC hx F N off ne
    simp only [LCg.Off3, and_true] at off
    (try k_sweep)
    (try dsimp only)
    (try k_fold)
    walk_at "MINE steps"
    k_unfold
    rename _ ∈ _ => hm
    obtain ⟨y, ty, rfl, hy⟩ := strs_mem (ys := menu) (by repeat' (first | exact StrsAre.nil | refine' StrsAre.cons _ _ ?_)) hm
    refine LCg.CompEnd.intro (by assumption) (by assumption) [(_, _), (src, _)] (fun p hp => List.Mem.tail _ hp) (by first | (simp only [LCg.Off3, and_true]; done) | (simp only [LCg.Off3, and_true]; exact off)) trivial ⟨_, rfl, by assumption, ws ++ [y], KStt.strs_snoc hws, by simp [hwl], ?_⟩
    intro x hx
    rcases List.mem_append.mp hx with hx | hx
    · exact hwm x hx
    · rw [List.mem_singleton.mp hx]
      exact menu_ok y hy
  · rintro ys nw ⟨o1, rfl, ho1, ws, hws, hwl, hwm⟩
    intro D h tk F N off
    have hne : src ≠ D := off.2.1
    (try dsimp only)
    (try k_unfold)
    (try dsimp only)
    refine ⟨_, _, [(D, LCg.lst ys), (src, o1)], _, _, rfl, F, cb_drop N ?_, o1, D, ys, ys.length, rfl, rfl, ?_, ho1, ws, hws, by rw [hwl], hwm⟩
    · intro p hp
      rcases List.mem_cons.mp hp with rfl | hp
      · exact .head _
      · exact .tail _ (.tail _ hp)
    · intro q hq
      rw [List.mem_singleton.mp hq]
      exact hne
end
section -- Plain
def jl : List (List Nat) → List Nat
  | [] => []
  | [a] => a
  | a :: b :: r => a ++ 32 :: jl (b :: r)
theorem sp_str : Str.ofString " " = ⟨#[32]⟩ := by decide +kernel
theorem join_jl : ∀ ws : List Str, (Str.join (Str.ofString " ") ws).cps.toList = jl (ws.map (·.cps.toList))
  | [] => rfl
  | [a] => rfl
  | a :: b :: r => by
    show ((a ++ Str.ofString " ") ++ Str.join (Str.ofString " ") (b :: r)).cps.toList = _
    rw [Str.cps_append, Array.toList_append, Str.cps_append, Array.toList_append, join_jl (b :: r), sp_str]
    simp [jl]
theorem app32 : ∀ {a b X Y : List Nat}, 32 ∉ a → 32 ∉ b → a ++ 32 :: X = b ++ 32 :: Y → a = b ∧ X = Y
  | [], [], X, Y, _, _, e => ⟨rfl, by simpa using e⟩
  | [], c :: b, X, Y, _, hb, e => by
    simp at e
    exact absurd (by rw [e.1]; exact .head _) hb
  | c :: a, [], X, Y, ha, _, e => by
    simp at e
    exact absurd (by rw [e.1]; exact .head _) ha
  | c :: a, d :: b, X, Y, ha, hb, e => by
    simp at e
    obtain ⟨e1, e2⟩ := app32 (fun h => ha (.tail _ h)) (fun h => hb (.tail _ h)) e.2
    exact ⟨by rw [e.1, e1], e2⟩
theorem jl_inj : ∀ {as bs : List (List Nat)}, as ≠ [] → bs ≠ [] → (∀ a ∈ as, 32 ∉ a) → (∀ b ∈ bs, 32 ∉ b) → jl as = jl bs → as = bs
  | [], _, h, _, _, _, _ => absurd rfl h
  | _, [], _, h, _, _, _ => absurd rfl h
  | [a], [b], _, _, _, _, e => by
    have : a = b := e
    rw [this]
  | [a], b :: c :: r, _, _, ha, _, e => by
    have e' : a = b ++ 32 :: jl (c :: r) := e
    exact absurd (by rw [e']; simp) (ha a (.head _))
  | a :: c :: r, [b], _, _, _, hb, e => by
    have e' : a ++ 32 :: jl (c :: r) = b := e
    exact absurd (by rw [← e']; simp) (hb b (.head _))
  | a :: c :: r, b :: d :: r', _, _, ha, hb, e => by
    have e' : a ++ 32 :: jl (c :: r) = b ++ 32 :: jl (d :: r') := e
    obtain ⟨e1, e2⟩ := app32 (ha a (.head _)) (hb b (.head _)) e'
    have e3 := jl_inj (as := c :: r) (bs := d :: r') (by simp) (by simp) (fun x hx => ha x (.tail _ hx)) (fun x hx => hb x (.tail _ hx)) e2
    rw [e1, e3]
theorem wsplit_word : ∀ (r cur w : List Nat), (∀ c ∈ cur, isSp c = false) → w ∈ wsplit cur r → w ≠ [] ∧ ∀ c ∈ w, isSp c = false
  | [], cur, w, hc, h => by
    unfold wsplit at h
    split at h
    · cases h
    · rename_i hne
      rw [List.mem_singleton.mp h]
      exact ⟨hne, hc⟩
  | a :: r, cur, w, hc, h => by
    unfold wsplit at h
    split at h
    · split at h
      · exact wsplit_word r [] w (fun _ h => nomatch h) h
      · rename_i hne
        rcases List.mem_cons.mp h with rfl | h
        · exact ⟨hne, hc⟩
        · exact wsplit_word r [] w (fun _ h => nomatch h) h
    · rename_i hs
      refine wsplit_word r (cur ++ [a]) w (fun c h9 => ?_) h
      rcases List.mem_append.mp h9 with h9 | h9
      · exact hc c h9
      · rw [List.mem_singleton.mp h9]
        simpa using hs
theorem wsplit_run : ∀ (w cur r : List Nat), (∀ c ∈ w, isSp c = false) → wsplit cur (w ++ r) = wsplit (cur ++ w) r
  | [], cur, r, _ => by simp
  | c :: w, cur, r, h => by
    rw [List.cons_append, wsplit]
    rw [if_neg (by rw [h c (.head _)]; decide), wsplit_run w (cur ++ [c]) r (fun d hd => h d (.tail _ hd)), List.append_assoc]
    rfl
theorem wsplit_jl : ∀ ws : List (List Nat), (∀ w ∈ ws, w ≠ [] ∧ ∀ c ∈ w, isSp c = false) → wsplit [] (jl ws) = ws
  | [], _ => rfl
  | [a], h => by
    have ha := h a (.head _)
    have e := wsplit_run a [] [] ha.2
    rw [List.append_nil, List.nil_append] at e
    show wsplit [] a = [a]
    rw [e, wsplit, if_neg ha.1]
  | a :: b :: r, h => by
    have ha := h a (.head _)
    show wsplit [] (a ++ 32 :: jl (b :: r)) = _
    rw [wsplit_run a [] _ ha.2, List.nil_append, wsplit, if_pos (by decide), if_neg ha.1, wsplit_jl (b :: r) fun w hw => h w (.tail _ hw)]
theorem wordsOf_word {x y : Str} (h : y ∈ wordsOf x) : y.cps.toList ≠ [] ∧ ∀ c ∈ y.cps.toList, isSp c = false := by
  obtain ⟨w, hw, rfl⟩ := List.mem_map.mp h
  exact wsplit_word _ [] _ (fun _ h => nomatch h) hw
theorem map_mkS (ws : List Str) : (ws.map (·.cps.toList)).map mkS = ws := by
  rw [List.map_map]
  conv => rhs; rw [← List.map_id ws]
  exact List.map_congr_left fun w _ => mkS_toList w
theorem words_join (x : Str) : wordsOf (collapsedS x) = wordsOf x := by
  have e : (collapsedS x).cps.toList = jl ((wordsOf x).map (·.cps.toList)) := by
    show (Builtin.Str.glued _ _).cps.toList = _
    rw [StrLaws.glued_eq_join, join_jl]
  show (wsplit [] (collapsedS x).cps.toList).map mkS = _
  rw [e, wsplit_jl, map_mkS]
  intro w hw
  obtain ⟨y, hy, rfl⟩ := List.mem_map.mp hw
  exact wordsOf_word hy
theorem collapsed_idem (x : Str) : collapsedS (collapsedS x) = collapsedS x := by
  show Txt.join _ (wordsOf (collapsedS x)) = _
  rw [words_join]
  rfl
theorem norm_idem (k x : Str) : normS k (normS k x) = normS k x := by
  unfold normS
  split
  · rfl
  · exact collapsed_idem x
theorem free_of {y : Str} (h : ∀ c ∈ y.cps.toList, isSp c = false) : 32 ∉ y.cps.toList := fun h1 => by
  have := h 32 h1
  revert this
  decide
theorem split_ne (x : Str) : Txt.split x (Str.ofString " ") ≠ [] := by
  unfold Txt.split
  split
  · simp
  · split
    · simp
    · rw [StrLaws.partsBetween_eq]
      obtain ⟨p, r, e⟩ := StrLaws.partsFrom_ne x (Str.ofString " ").length 0 (Builtin.Str.occurrences x (Str.ofString " ") 0 x.length (x.length + 1))
      rw [e]
      simp
theorem split_collapsed (x : Str) : Txt.split (collapsedS x) (Str.ofString " ") = if wordsOf x = [] then [⟨#[]⟩] else wordsOf x := by
  have e1 : (Str.join (Str.ofString " ") (Txt.split (collapsedS x) (Str.ofString " "))).cps.toList = (collapsedS x).cps.toList := by rw [StrLaws.join_split]
  have e2 : (collapsedS x).cps.toList = jl ((wordsOf x).map (·.cps.toList)) := by
    show (Builtin.Str.glued _ _).cps.toList = _
    rw [StrLaws.glued_eq_join, join_jl]
  have e3 : jl ((if wordsOf x = [] then [(⟨#[]⟩ : Str)] else wordsOf x).map (·.cps.toList)) = jl ((wordsOf x).map (·.cps.toList)) := by
    split
    · rename_i h
      rw [h]
      rfl
    · rfl
  rw [e2, join_jl, ← e3] at e1
  have e4 := jl_inj (by simpa using split_ne (collapsedS x)) (by split <;> simp_all) ?_ ?_ e1
  · have := congrArg (List.map mkS) e4
    rwa [map_mkS, map_mkS] at this
  · intro a ha
    obtain ⟨p, hp, rfl⟩ := List.mem_map.mp ha
    rw [sp_str] at hp
    exact StrLaws.split_free _ _ p hp
  · intro b hb
    split at hb
    · simp at hb
      rw [hb]
      simp
    · obtain ⟨p, hp, rfl⟩ := List.mem_map.mp hb
      exact free_of (wordsOf_word hp).2
end
section -- Plain2
theorem alph_facts : ∀ c ∈ [97, 98, 45, 49, 120, 58, 121, 110, 111, 65, 46, 38], nameChar c = !(c == 38) ∧ nameStart c = (!(c == 49 || c == 45 || c == 46) && !(c == 38)) ∧ c < 128 ∧ isSp c = false := by decide +kernel
theorem all_name {l : List Nat} (h : ∀ c ∈ l, alph c) : l.all nameChar = !(l.contains 38) := by
  rw [Bool.eq_iff_iff, List.all_eq_true, Bool.not_eq_true', ← Bool.not_eq_true, List.contains_iff_mem]
  constructor
  · intro h1 h2
    have := h1 38 h2
    revert this
    decide
  · intro h1 c hc
    rw [(alph_facts c (h c hc)).1]
    have : c ≠ 38 := fun e => h1 (e ▸ hc)
    simpa using this
theorem word_law {k y : Str} (hn : y.cps.toList ≠ []) (h : ∀ c ∈ y.cps.toList, alph c) : isWordB k y = lawWordB y (!isTokKind k) := by
  obtain ⟨⟨l⟩⟩ := y
  cases l with
  | nil => exact absurd rfl hn
  | cons c l =>
    have ha := all_name h
    have e1 : nmtoken ⟨⟨c :: l⟩⟩ = !((c :: l).contains 38) := by
      show ((c :: l).all nameChar && !(c :: l).isEmpty) = _
      have ha' : (c :: l).all nameChar = !(c :: l).contains 38 := ha
      rw [ha']
      simp
    have e2 : nameB ⟨⟨c :: l⟩⟩ = (nameStart c && nmtoken ⟨⟨c :: l⟩⟩) := rfl
    have e3 : ∀ b, lawWordB ⟨⟨c :: l⟩⟩ b = (!((c :: l).contains 38) && (!b || !(c == 49 || c == 45 || c == 46))) := fun _ => rfl
    unfold isWordB
    rw [e2, e1, e3]
    cases isTokKind k with
    | true => simp
    | false =>
      have hc := (alph_facts c (h c (.head _))).2.1
      rw [hc]
      simp only [Bool.false_eq_true, if_false, Bool.not_false, Bool.not_true, Bool.false_or]
      cases hm : (c :: l).contains 38 with
      | true => simp
      | false =>
        have : c ≠ 38 := by
          intro e
          subst e
          simp at hm
        simp [this]
theorem nm_space {x : Str} (h : 32 ∈ x.cps.toList) : nmtoken x = false := by
  unfold nmtoken
  rw [show x.cps.toList.all nameChar = false from List.all_eq_false.mpr ⟨32, h, by decide⟩]
  rfl
theorem word_space {k x : Str} (h : 32 ∈ x.cps.toList) : isWordB k x = false := by
  unfold isWordB nameB
  rw [nm_space h]
  split
  · rfl
  · split
    · rfl
    · simp
theorem word_nil {k : Str} : isWordB k ⟨#[]⟩ = false := by
  unfold isWordB
  split <;> rfl
theorem lawWord_nil {b : Bool} : lawWordB ⟨#[]⟩ b = false := rfl
theorem toList_eq {x y : Str} (h : x.cps.toList = y.cps.toList) : x = y := by
  rw [← mkS_toList x, h, mkS_toList]
theorem raw_word {x y : Str} (hx : raw x) (hy : y ∈ wordsOf x) : ∀ c ∈ y.cps.toList, alph c := by
  intro c hc
  have h1 := (wordsOf_word hy).2 c hc
  rcases hx.2 c ((wordsOf_mem hy).2 c hc) with h | h
  · exact h
  · rw [h1] at h
    cases h
theorem core_law {k x : Str} (hx : raw x) : (!(wordsOfK k (collapsedS x)).isEmpty && (wordsOfK k (collapsedS x)).all (isWordB k)) =
    (if !isListKind k && decide (1 < (Txt.split (collapsedS x) (Str.ofString " ")).length) then false else (Txt.split (collapsedS x) (Str.ofString " ")).all fun y => lawWordB y (!isTokKind k)) := by
  have hws : ∀ y ∈ wordsOf x, isWordB k y = lawWordB y (!isTokKind k) := fun y hy => word_law (wordsOf_word hy).1 (raw_word hx hy)
  have hv : (collapsedS x).cps.toList = jl ((wordsOf x).map (·.cps.toList)) := by
    show (Builtin.Str.glued _ _).cps.toList = _
    rw [StrLaws.glued_eq_join, join_jl]
  rw [split_collapsed]
  unfold wordsOfK
  cases hL : isListKind k with
  | true =>
    simp only [if_true, Bool.not_true, Bool.false_and, Bool.false_eq_true, if_false]
    rw [words_join]
    by_cases hn : wordsOf x = []
    · rw [hn]
      simp [lawWord_nil]
    · rw [if_neg hn]
      have e1 : (wordsOf x).isEmpty = false := by simpa using hn
      rw [e1]
      simp only [Bool.not_false, Bool.true_and]
      rw [Bool.eq_iff_iff, List.all_eq_true, List.all_eq_true]
      exact ⟨fun h y hy => (hws y hy) ▸ h y hy, fun h y hy => (hws y hy).symm ▸ h y hy⟩
  | false =>
    simp only [Bool.false_eq_true, if_false, Bool.not_false, Bool.true_and, List.isEmpty_cons, List.all_cons, List.all_nil, Bool.and_true]
    cases hw : wordsOf x with
    | nil =>
      rw [hw] at hv
      have e : collapsedS x = ⟨#[]⟩ := toList_eq hv
      rw [e, word_nil]
      simp [lawWord_nil]
    | cons a r =>
      cases r with
      | nil =>
        rw [hw] at hv
        have e : collapsedS x = a := toList_eq hv
        rw [e, hws a (by rw [hw]; exact .head _)]
        simp
      | cons b r =>
        rw [hw] at hv
        have h32 : 32 ∈ (collapsedS x).cps.toList := by
          rw [hv]
          show 32 ∈ a.cps.toList ++ 32 :: jl _
          simp
        rw [word_space h32]
        simp
theorem fits_law {k mo x : Str} {cs : List Str} {fo : Option Str} (hx : raw x) : fitsB k cs mo fo (normS k x) = lawFitsB k cs mo fo (normS k x) := by
  unfold fitsB lawFitsB
  split
  · rfl
  · split
    · rfl
    · rename_i hB
      split
      · rfl
      · have e : normS k x = collapsedS x := by
          unfold normS
          rw [if_neg hB]
        rw [e]
        exact core_law hx
end
section -- Norm
theorem jl_mem : ∀ {ws : List (List Nat)} {c : Nat}, c ∈ jl ws → c = 32 ∨ ∃ w ∈ ws, c ∈ w
  | [a], c, h => .inr ⟨a, .head _, h⟩
  | a :: b :: r, c, h => by
    have h' : c ∈ a ++ 32 :: jl (b :: r) := h
    rcases List.mem_append.mp h' with h | h
    · exact .inr ⟨a, .head _, h⟩
    · rcases List.mem_cons.mp h with h | h
      · exact .inl h
      · rcases jl_mem h with h | ⟨w, hw, hc⟩
        · exact .inl h
        · exact .inr ⟨w, .tail _ hw, hc⟩
theorem collapsed_len (x : Str) : (collapsedS x).length ≤ x.length := by
  have h1 := size_glued (Str.ofString " ") (wordsOf x)
  have h2 := words_size x
  show (Builtin.Str.glued _ _).length ≤ _
  have hl : (Str.ofString " ").length = 1 := by decide +kernel
  rw [hl, Nat.mul_one] at h1
  rw [h1]
  cases hn : (wordsOf x).length with
  | zero =>
    have : wordsOf x = [] := List.length_eq_zero_iff.mp hn
    rw [this]
    exact Nat.zero_le _
  | succ n =>
    rw [hn] at h2
    omega
theorem alphB_ascii {c : Nat} (h : alphB c) : c < 128 := by
  rcases h with h | h
  · exact (alph_facts c h).2.2.1
  · unfold isSp at h
    simp at h
    omega
theorem norm_ascii {k x : Str} (h : raw x) : ascii (normS k x) := by
  unfold normS
  split
  · exact fun c hc => alphB_ascii (h.2 c hc)
  · intro c hc
    have hv : (collapsedS x).cps.toList = jl ((wordsOf x).map (·.cps.toList)) := by
      show (Builtin.Str.glued _ _).cps.toList = _
      rw [StrLaws.glued_eq_join, join_jl]
    rw [hv] at hc
    rcases jl_mem hc with rfl | ⟨w, hw, hcw⟩
    · decide
    · obtain ⟨y, hy, rfl⟩ := List.mem_map.mp hw
      exact alphB_ascii (h.2 c ((wordsOf_mem hy).2 c hcw))
theorem norm_len {k x : Str} (h : raw x) : (normS k x).length ≤ 64 := by
  unfold normS
  split
  · exact h.1
  · exact Nat.le_trans (collapsed_len x) h.1
def kindList : List Str := [Str.ofString "CDATA", Str.ofString "ID", Str.ofString "NMTOKENS", Str.ofString "IDREF", Str.ofString "IDREFS", Str.ofString "ENTITY", Str.ofString "ENTITIES", Str.ofString "NMTOKEN", Str.ofString "enumeration", Str.ofString "notation"]
section
variable {M : Model} {A : Around} {E : Value → Shared → Prop} {s : Shared} {h₀ : Heap} {L : Addr} {m : Str → Option Value}
def CutV (R : Value → List (Addr × Obj) → Prop) (h₀ : Heap) (L : Addr) (m : Str → Option Value) (s : Shared) (v : Value) (s' : Shared) : Prop :=
  ∃ h' tk news', s' = { s with heap := h', toks := tk } ∧ Fr h₀ L h' m ∧ News h₀ L h' news' ∧ R v news'
theorem cut_val {t : Sem Value} {Q : Value → Shared → Prop} (R : Value → List (Addr × Obj) → Prop) (_F : Fr h₀ L s.heap m) (h1 : wpAny M A t (CutV R h₀ L m s) E s)
    (h2 : ∀ v news' h' tk, Fr h₀ L h' m → News h₀ L h' news' → R v news' → Q v { s with heap := h', toks := tk }) : wpAny M A t Q E s := by
  refine wpAny_mono h1 (fun c s' hc => ?_) fun _ _ e => e
  obtain ⟨h', tk, news', rfl, F, N, hr⟩ := hc
  exact h2 c news' h' tk F N hr
end
def ChoiceR (src : Addr) (v : Value) (news : List (Addr × Obj)) : Prop :=
  ∃ ch cvs cs c o', v = .ref ch ∧ news = [(ch, tupOf cvs.toArray c), (src, o')] ∧ @Ne Nat src ch ∧ SrcAt o' ∧ StrsAre cvs cs ∧ (cs.length = 2 ∨ cs.length = 0) ∧ ∀ x ∈ cs, inMenu x
section
variable {M : Model} {A : Around} {E : Value → Shared → Prop} {s : Shared} {h₀ : Heap} {L : Addr} {m₁ : Str → Option Value}
def CutW (src ch : Addr) (tu : Obj) (m₁ : Str → Option Value) (h₀ : Heap) (L : Addr) (s : Shared) (f : Flow) (s' : Shared) : Prop :=
  ∃ l us ws c o' h' tk, f = .next ∧ s' = { s with heap := h', toks := tk } ∧ Fr h₀ L h' (fun y => if y = Str.ofString "words" then some (.ref l) else m₁ y) ∧ News h₀ L h' [(l, listOf us.toArray c), (ch, tu), (src, o')] ∧
    @Ne Nat src l ∧ @Ne Nat ch l ∧ SrcAt o' ∧ StrsAre us ws ∧ ws.length ≤ 3 ∧ ∀ x ∈ ws, inMenu x
theorem cut_words {t : Sem Flow} {Q : Flow → Shared → Prop} {v : Value} (src ch : Addr) (tu : Obj) (_F : Fr h₀ L s.heap (fun y => if y = Str.ofString "words" then some v else m₁ y)) (h1 : wpAny M A t (CutW src ch tu m₁ h₀ L s) E s)
    (h2 : ∀ l us ws c o' h' tk, Fr h₀ L h' (fun y => if y = Str.ofString "words" then some (.ref l) else m₁ y) → News h₀ L h' [(l, listOf us.toArray c), (ch, tu), (src, o')] → @Ne Nat src l → @Ne Nat ch l → SrcAt o' → StrsAre us ws → ws.length ≤ 3 → (∀ x ∈ ws, inMenu x) → Q .next { s with heap := h', toks := tk }) :
    wpAny M A t Q E s := by
  refine wpAny_mono h1 (fun f s' hc => ?_) fun _ _ e => e
  obtain ⟨l, us, ws, c, o', h', tk, rfl, rfl, F, N, n1, n2, ho, hs, hl, hm⟩ := hc
  exact h2 l us ws c o' h' tk F N n1 n2 ho hs hl hm
theorem fr_words {h : Heap} {v v' : Value} (F : Fr h₀ L h (fun y => if y = Str.ofString "words" then some v' else if y = Str.ofString "words" then some v else m₁ y)) : Fr h₀ L h (fun y => if y = Str.ofString "words" then some v' else m₁ y) := by
  have e : (fun y => if y = Str.ofString "words" then some v' else m₁ y) = fun y => if y = Str.ofString "words" then some v' else if y = Str.ofString "words" then some v else m₁ y := by
    funext y
    by_cases hy : y = Str.ofString "words"
    · rw [if_pos hy, if_pos hy]
    · rw [if_neg hy, if_neg hy, if_neg hy]
  rw [e]
  exact F
end
theorem lay_str {x : Str} (h : ascii x) : PyData.canLay0 (.str x) = true := by
  show PyData.strOk x = true
  unfold PyData.strOk
  rw [← Array.all_toList, List.all_eq_true]
  intro c hc
  have := h c hc
  simp only [decide_eq_true_eq]
  omega
theorem lay_strs : ∀ {cs : List Str}, (∀ y ∈ cs, ascii y) → PyData.canLayAll0 (cs.map PyData.str) = true ∧ PyData.depthAll (cs.map PyData.str) = 0
  | [], _ => ⟨rfl, rfl⟩
  | y :: r, h => by
    obtain ⟨h1, h2⟩ := lay_strs (cs := r) fun z hz => h z (.tail _ hz)
    constructor
    · show (PyData.canLay0 (.str y) && PyData.canLayAll0 (r.map PyData.str)) = true
      rw [lay_str (h y (.head _)), h1]
      rfl
    · show max (PyData.depth (.str y)) (PyData.depthAll (r.map PyData.str)) = 0
      rw [h2]
      rfl
theorem shaped_strs {cs : List Str} (h : ∀ y ∈ cs, ascii y) : SeqAt.shaped (.tuple (cs.map PyData.str)) = true := by
  obtain ⟨h1, h2⟩ := lay_strs h
  unfold SeqAt.shaped
  show (PyData.canLayAll0 (cs.map PyData.str) && decide (PyData.depthAll (cs.map PyData.str) + 1 ≤ 64)) = true
  rw [h1, h2]
  rfl
theorem menu_ascii {x : Str} (h : inMenu x) : ascii x := fun c hc => (alph_facts c (h.2 c hc)).2.2.1
section
variable {prog : Program} {w : World} {A : Around} {E : Value → Shared → Prop} {s : Shared} {h₀ : Heap} {L ch b : Addr}
theorem ne_unit {news : List (Addr × Obj)} {cvs : List Value} {cs : List Str} {c n : Nat} {Q : Value → Shared → Prop} (N : News h₀ L s.heap news) (hm : (ch, tupOf cvs.toArray c) ∈ news) (hb : (b, tupOf #[] n) ∈ news) (hs : StrsAre cvs cs) (hok : ∀ x ∈ cs, inMenu x) (hu : A.units + 64 < cLine) (h : Q (.bool (decide (0 < cs.length))) s) :
    wpAny (model prog w) A (compareOp .NotEq (.ref ch) (.ref b)) Q E s := by
  have r1 : Reads s.heap (.ref ch) (.tuple (cs.map PyData.str)) [] := reads_tuple_at (N _ hm).1 rfl rfl (hs.reads _)
  have r2 : Reads s.heap (.ref b) (.tuple []) [] := reads_tuple_at (N _ hb).1 rfl rfl .nil
  refine ne_dataH r1 r2 (shaped_strs fun y hy => menu_ascii (hok y hy)) rfl hu ?_
  have e : (!PyData.eqv (.tuple (cs.map PyData.str)) (.tuple [])) = decide (0 < cs.length) := by cases cs <;> simp [PyData.eqv, PyData.eqvAll]
  rw [e]
  exact h
theorem item_tupS {news : List (Addr × Obj)} {value slice : PySem.Expr} {cvs : List Value} {cs : List Str} {c : Nat} {k : Int} {u : Tok} {Q : Value → Shared → Prop} (N : News h₀ L s.heap news) (hm : (ch, tupOf cvs.toArray c) ∈ news) (hs9 : StrsAre cvs cs) (h0 : 0 ≤ k) (h1 : k < (cs.length : Int)) (hhi : k < 2 ^ 63) (h : ∀ y t, y ∈ cs → Q (.str y t) s)
    (hs : subscripted slice false (.ref ch) (.int k u) = operate [.ref ch, .int k u] (getItem (.ref ch) (.int k u)) := by with_unfolding_all rfl) :
    wpAny (model prog w) A (subscriptTail value slice (.ref ch) (.int k u)) Q E s := by
  refine KTb.item_tup ⟨_, (N _ hm).1, rfl, c, rfl⟩ hs9 h0 h1 hhi (fun t hl => h _ t ?_) hs
  rw [List.getD_eq_getElem?_getD, List.getElem?_eq_getElem hl]
  exact List.getElem_mem hl
end
section
variable {M : Model} {A : Around} {E : Value → Shared → Prop} {s : Shared} {h₀ : Heap} {L : Addr} {m : Str → Option Value} {news : List (Addr × Obj)}
def DueR (k x : Str) (news : List (Addr × Obj)) (v : Value) (nw : List (Addr × Obj)) : Prop := nw = news ∧ ∃ t, v = .str (normS k x) t
theorem cut_due {t : Sem Value} {Q : Value → Shared → Prop} {k x : Str} (_hx : raw x) (_hk : k ∈ kindList) (F : Fr h₀ L s.heap m) (_N : News h₀ L s.heap news) (h1 : wpAny M A t (CutV (DueR k x news) h₀ L m s) E s)
    (h2 : ∀ ty h' tk, Fr h₀ L h' m → News h₀ L h' news → Q (.str (normS k x) ty) { s with heap := h', toks := tk }) : wpAny M A t Q E s :=
  cut_val (DueR k x news) F h1 fun _ _ h' tk F' N' ⟨e, ty, ev⟩ => by
    subst e
    subst ev
    exact h2 ty h' tk F' N'
def FixR (src ch : Addr) (tu : Obj) (mo : Str) (v : Value) (nw : List (Addr × Obj)) : Prop :=
  ∃ fo o', nw = [(ch, tu), (src, o')] ∧ FixV v fo ∧ SrcAt o' ∧ (mo = Str.ofString "fixed" → fo ≠ none) ∧ ∀ y, fo = some y → y.length ≤ 64 ∧ ascii y
end
section
variable {prog : Program} {w : World} {A : Around} {E : Value → Shared → Prop} {s : Shared} {h₀ : Heap} {L a b : Addr} {news : List (Addr × Obj)}
theorem ne_same {x : Str} {t u : Tok} {Q : Value → Shared → Prop} (h : Q (.bool false) s) : wpAny (model prog w) A (compareOp .NotEq (.str x t) (.str x u)) Q E s :=
  PyProof.Rows.ne_str (by rw [bne_self_eq_false]; exact h)
theorem ne_idem {k x : Str} {t u : Tok} {Q : Value → Shared → Prop} (h : Q (.bool false) s) : wpAny (model prog w) A (compareOp .NotEq (.str (normS k (normS k x)) t) (.str (normS k x) u)) Q E s :=
  PyProof.Rows.ne_str (by rw [norm_idem, bne_self_eq_false]; exact h)
theorem eq_row {its : Array Value} {n n2 : Nat} {Q : Value → Shared → Prop} (N : News h₀ L s.heap news) (ha : (a, tupOf its n) ∈ news) (hb : (b, tupOf its n2) ∈ news) (hu : A.units < cLine) (h : Q (.bool true) s) :
    wpAny (model prog w) A (compareOp .Eq (.ref a) (.ref b)) Q E s := by
  refine SeqAt.eq_tupleAt (items := its) (items2 := its) (e := fun _ => true) ⟨_, (N _ ha).1, rfl, n, rfl⟩ ⟨_, (N _ hb).1, rfl, n2, rfl⟩ hu (fun j _ _ => SeqAt.EqAt.same _) ?_
  have e : ((List.range (min its.size its.size)).all (fun _ => true) && its.size == its.size) = true := by simp
  rw [e]
  exact h
end
theorem lf_of {k mo x : Str} {cs : List Str} {fo : Option Str} {b : Bool} (hx : raw x) (hf : fitsB k cs mo fo (normS k x) = b) : lawFitsB k cs mo fo (normS k x) = b := (fits_law hx).symm.trans hf
theorem law_fits_ok2 (w : World) {k mo x : Str} {ch : Addr} {cvs : List Value} {cs : List Str} {c : Nat} {fv : Value} {fo : Option Str} {tk tm t : Tok} {b : Bool} (hf : FixV fv fo) (hfx : mo = Str.ofString "fixed" → fo ≠ none) (hc : StrsAre cvs cs) (hcn : cs.length ≤ 3) (hx : x.length ≤ 64) (hb : lawFitsB k cs mo fo x = b) :
    Spec 4 w 215 [.str k tk, .ref ch, .str mo tm, fv, .str x t] [(ch, tupOf cvs.toArray c)] (fun r own' => own' = [(ch, tupOf cvs.toArray c)] ∧ r = .bool b) := by
  subst hb
  exact law_fits_ok w hf hfx hc hcn hx
theorem kind_len : ∀ k ∈ kindList, k.length ≤ 64 := by decide +kernel
end
section -- Row
local macro_rules | `(tactic| walk_at "MINE enter") => `(tactic| (
  w_top off
  unfold Spec
  k_fill
  intro mean mg mb dp un gd cn cs a ccd cl outer A₀ base h₀ L m s Q E B F X N T hk hd hu ret
  k_dflt (refine' enter B F X N T hk hd ret ?ho ?hcd ?hb ?hl ?c2 ?c3 ?c4 ?c5 ?body; (case ho => k_is); (case hcd => k_is); (case hb => exact BindsTo.of_eq rfl); (case hl => exact locs rfl); (case c2 => exact rfl); (case c3 => exact rfl); (case c4 => exact rfl); (case c5 => decide))
  intro g' L' h' F' N' B' X' T'
  clear ret T X N F B
  (try dsimp only)
  (try k_fold)))
local macro_rules | `(tactic| walk_at "MINE end") => `(tactic| (
  (try dsimp only)
  (try k_unfold)
  (try dsimp only)
  refine ⟨_, _, _, _, _, rfl, by assumption, by assumption, ?_⟩))
local macro_rules | `(tactic| walk_at "MINE steps") => `(tactic| (
  repeat' ((fail_if_success (with_reducible show wpAny _ _ (pyIter _) _ _ _)); (fail_if_success (with_reducible show InvEndN _ _ _ _ _ _ _)); (fail_if_success (with_reducible show Leave _ _ _ _ _)); (fail_if_success (with_reducible show CutB _ _ _ _ _ _ _ _)); (fail_if_success (with_reducible show CutV _ _ _ _ _ _ _)); (fail_if_success (with_reducible show CutW _ _ _ _ _ _ _ _ _)); (fail_if_success (with_reducible show LCg.CompSrc _ _ _ _ _ _ _ _ _ _ _ _ _ _)); (fail_if_success (with_reducible show LCt.CompSrcT _ _ _ _ _ _ _ _ _ _ _ _ _ _ _)); (fail_if_success (with_reducible show LCg.CompEnd _ _ _ _ _ _ _ _ _ _ _ _ _ _)); first | (k_unfold; (try dsimp only)) | (k_end; wrow_close) | walk1 | (dsimp only; walk1) | (leave1; try dsimp only) | fail "no step")))
section
variable {n : Nat} {w : World} {f : Addr} {vs : List Value} {own : List (Addr × Obj)} {mean : ExcName → Option Value} {mg mb : Str → Option Value} {dp un : Nat} {gd : Option (List Code)} {cn : Str} {cs : Scope} {a : Addr} {ccd : Value} {cl : List (Str × Addr)} {outer : List Env} {A₀ : Around} {base h₀ : Heap} {L : Addr} {m : Str → Option Value} {s : Shared} {Q E : Value → Shared → Prop} {news : List (Addr × Obj)}
theorem use_tup {its : Array Value} (S : Spec n w f vs own (fun r own' => ∃ l c, r = .ref l ∧ own' = (l, tupOf its c) :: own ∧ (∀ q ∈ own, q.1 ≠ l)))
    (B : Below A₀ base outer h₀) (F : Fr h₀ L s.heap m) (X : (hd.heap_39 w.params).In h₀) (N : News h₀ L s.heap news) (T : Top qv (looseW qv []) mean mg mb h₀) (hk : cs.kind = .function)
    (hs : ∀ p ∈ own, p ∈ news) (hd : dp + n < recursionLimit) (hu : un + 8 * n < cLine)
    (h : ∀ l c h' tk', Fr h₀ L h' m → News h₀ L h' ((l, tupOf its c) :: news) → AllNe l news → Q (.ref l) { s with heap := h', toks := tk' }) :
    wpAny (model PySem.Challenge.rw_nu0052_01.row.prog w) (ktrTop dp un gd cn cs L a ccd cl outer) (call (.ref f) vs) Q E s := by
  have No : News h₀ L s.heap own := fun p hp => N p (hs p hp)
  refine S mean mg mb dp un gd cn cs a ccd cl outer A₀ base h₀ L m s Q E B F X No T hk hd hu ?_
  rintro r own' h' tk' k fr N' ⟨l, c, rfl, rfl, hl⟩
  refine h l c h' tk' (k.fr F No) (fun p hp => ?_) (allNe_of fun p hp e => ?_)
  · rcases List.mem_cons.mp hp with rfl | hp
    · exact N' _ (.head _)
    · exact k.read N hs (fun p hp => N' p (.tail _ hp)) (fun _ h => h) p hp
  · obtain ⟨q, hq, e'⟩ := fr _ (.head _) (by rw [← e, (N p hp).1]; rfl)
    exact hl q hq e'
end
theorem row_ok (w : World) {k mo : Str} {ra dx ch : Addr} {tu : Obj} {n : Nat} {fv : Value} {fo : Option Str} {tk tm t1 t2 t3 t4 : Tok} {h1 h2 h3 h4 : Int} (hf : FixV fv fo) (hne : @Ne Nat ra dx ∧ @Ne Nat ra ch ∧ @Ne Nat dx ch) :
    Spec 2 w 123 [.ref ra] [(ra, instObj 133 dx), (dx, dictOf [⟨h1, .str (Str.ofString "kind") t1, .str k tk⟩, ⟨h2, .str (Str.ofString "choices") t2, .ref ch⟩, ⟨h3, .str (Str.ofString "mode") t3, .str mo tm⟩, ⟨h4, .str (Str.ofString "value") t4, fv⟩] n), (ch, tu)]
      (fun r own' => ∃ l c, r = .ref l ∧ own' = (l, tupOf #[.str k tk, .ref ch, .str mo tm, fv] c) :: [(ra, instObj 133 dx), (dx, dictOf [⟨h1, .str (Str.ofString "kind") t1, .str k tk⟩, ⟨h2, .str (Str.ofString "choices") t2, .ref ch⟩, ⟨h3, .str (Str.ofString "mode") t3, .str mo tm⟩, ⟨h4, .str (Str.ofString "value") t4, fv⟩] n), (ch, tu)] ∧ (∀ q ∈ [(ra, instObj 133 dx), (dx, dictOf [⟨h1, .str (Str.ofString "kind") t1, .str k tk⟩, ⟨h2, .str (Str.ofString "choices") t2, .ref ch⟩, ⟨h3, .str (Str.ofString "mode") t3, .str mo tm⟩, ⟨h4, .str (Str.ofString "value") t4, fv⟩] n), (ch, tu)], q.1 ≠ l)) := by
  k_with_none
  cases hf
  all_goals walk_at "MINE enter"
  all_goals walk_at "MINE steps"
  all_goals walk_at "MINE end"
  all_goals refine ⟨_, _, rfl, rfl, ?_⟩
  all_goals (intro q hq; simp only [List.mem_cons, List.not_mem_nil, or_false] at hq; rcases hq with rfl | rfl | rfl <;> exact Nat.ne_of_lt (by (try dsimp only); omega))
end
section -- T15
local macro_rules | `(tactic| walk_at "MINE enter") => `(tactic| (
  w_top off
  unfold Spec
  k_fill
  intro mean mg mb dp un gd cn cs a ccd cl outer A₀ base h₀ L m s Q E B F X N T hk hd hu ret
  k_dflt (refine' enter B F X N T hk hd ret ?ho ?hcd ?hb ?hl ?c2 ?c3 ?c4 ?c5 ?body; (case ho => k_is); (case hcd => k_is); (case hb => exact BindsTo.of_eq rfl); (case hl => exact locs rfl); (case c2 => exact rfl); (case c3 => exact rfl); (case c4 => exact rfl); (case c5 => decide))
  intro g' L' h' F' N' B' X' T'
  clear ret T X N F B
  (try dsimp only)
  (try k_fold)))
local macro_rules | `(tactic| walk_at "MINE stepsI") => `(tactic| (
  repeat' ((fail_if_success (with_reducible show wpAny _ _ (eval (Expr.IfExp _ _ _ _) _) _ _ _)); (fail_if_success (with_reducible show wpAny _ _ (exec (Stmt.If _ _ _ _) _) _ _ _)); (fail_if_success (with_reducible show wpAny _ _ (pyIter _) _ _ _)); (fail_if_success (with_reducible show InvEndN _ _ _ _ _ _ _)); (fail_if_success (with_reducible show Leave _ _ _ _ _)); (fail_if_success (with_reducible show CutB _ _ _ _ _ _ _ _)); (fail_if_success (with_reducible show CutV _ _ _ _ _ _ _)); (fail_if_success (with_reducible show CutW _ _ _ _ _ _ _ _ _)); (fail_if_success (with_reducible show LCg.CompSrc _ _ _ _ _ _ _ _ _ _ _ _ _ _)); (fail_if_success (with_reducible show LCt.CompSrcT _ _ _ _ _ _ _ _ _ _ _ _ _ _ _)); (fail_if_success (with_reducible show LCg.CompEnd _ _ _ _ _ _ _ _ _ _ _ _ _ _)); first | (k_unfold; (try dsimp only)) | (k_end; wrow_close) | walk1 | (dsimp only; walk1) | (leave1; try dsimp only) | fail "no step")))
local macro_rules | `(tactic| walk_at "call ref") => `(tactic| (k_dflt (refine' use_src (one_ok _ ?p1 ?p2 ?p3 ?p4) ?kB ?kF ?kX ?kN ?kT ?khk ?kU ?khs ?khd ?khu ?_; (case kB => k_asm); (case kF => k_asm); (case kX => k_asm); (case kN => k_asm); (case kT => k_asm); (case khk => first | exact rfl | assumption); (case kU => k_updF); (case khs => k_allIn); (case khd => ktr_room); (case khu => ktr_units); (case p1 => assumption); (case p2 => first | assumption | omega); (case p3 => simp); (case p4 => simp)); (intro r9 o9 h9 tk9 F9 N9 hS9 hP9); (refine' Exists.elim (strs_mem ?hsm hP9) ?_); (case hsm => repeat' (first | exact StrsAre.nil | refine' StrsAre.cons _ _ ?_)); (intro x9 hx9; obtain ⟨t9, hr9, hm9⟩ := hx9; subst hr9); (try k_dflt (have hok9 := okS_of' hm9 (by decide +kernel); have hlo9 := hok9.1)); (try dsimp only at N9); walk_say "MINE one_ok"; (try k_sweep); (try dsimp only); (try k_fold)))
local macro_rules | `(tactic| walk_at "call ref") => `(tactic| (k_dflt (refine' use_srcL (words_ok _ ?p1 ?p2 ?p3) ?kB ?kF ?kX ?kN ?kT ?khk ?kU ?khs ?khd ?khu ?_; (case kB => k_asm); (case kF => k_asm); (case kX => k_asm); (case kN => k_asm); (case kT => k_asm); (case khk => first | exact rfl | assumption); (case kU => k_updF); (case khs => k_allIn); (case khd => ktr_room); (case khu => ktr_units); (case p1 => assumption); (case p2 => omega); (case p3 => omega)); (intro l9 us9 c9 o9 h9 tk9 F9 N9 hA9 hS9 hP9); (obtain ⟨ws9, hws9, hwl9, hwm9⟩ := hP9); (have hul9 := hws9.length); (try dsimp only at N9); (try simp only [AllNe, and_true] at hA9); walk_say "MINE words_ok"; (try k_sweep); (try dsimp only); (try k_fold)))
local macro_rules | `(tactic| walk_at "call ref") => `(tactic| (k_dflt (refine' use_src (take_ok _ ?p1 ?p2 ?p3) ?kB ?kF ?kX ?kN ?kT ?khk ?kU ?khs ?khd ?khu ?_; (case kB => k_asm); (case kF => k_asm); (case kX => k_asm); (case kN => k_asm); (case kT => k_asm); (case khk => first | exact rfl | assumption); (case kU => k_updF); (case khs => k_allIn); (case khd => ktr_room); (case khu => ktr_units); (case p1 => assumption); (case p2 => omega); (case p3 => omega)); (intro r9 o9 h9 tk9 F9 N9 hS9 hP9); (obtain ⟨d9, td9, hd9, hda9, hdb9⟩ := hP9); subst hd9; (try dsimp only at N9); walk_say "MINE take_ok"; (try k_sweep); (try dsimp only); (try k_fold)))
local macro_rules | `(tactic| walk_at "call ref") => `(tactic| (k_dflt (refine' use_src (value_ok _ ?p1 ?p2 ?p3 ?p4 ?p5) ?kB ?kF ?kX ?kN ?kT ?khk ?kU ?khs ?khd ?khu ?_; (case kB => k_asm); (case kF => k_asm); (case kX => k_asm); (case kN => k_asm); (case kT => k_asm); (case khk => first | exact rfl | assumption); (case kU => k_updF); (case khs => k_allIn); (case khd => ktr_room); (case khu => ktr_units); (case p1 => assumption); (case p2 => first | assumption | omega); (case p3 => assumption); (case p4 => assumption); (case p5 => assumption)); (intro r9 o9 h9 tk9 F9 N9 hS9 hP9); (obtain ⟨x9, t9, hd9, hP9⟩ := hP9); subst hd9; (try dsimp only at N9); walk_say "MINE value_ok"; (try k_sweep); (try dsimp only); (try k_fold)))
local macro_rules | `(tactic| walk_at "call ref") => `(tactic| (k_dflt (refine' use_read (single_ok _ ?p1) ?kB ?kF ?kX ?kN ?kT ?khk ?khs ?khd ?khu ?_; (case kB => k_asm); (case kF => k_asm); (case kX => k_asm); (case kN => k_asm); (case kT => k_asm); (case khk => first | exact rfl | assumption); (case khs => exact List.forall_mem_nil _); (case khd => ktr_room); (case khu => ktr_units); (case p1 => assumption)); (intro r9 h9 tk9 F9 N9 hP9); (obtain ⟨t9, hP9⟩ := hP9); subst hP9; walk_say "MINE single_ok"; (try k_sweep); (try dsimp only); (try k_fold)))
local macro_rules | `(tactic| walk_at "call ref") => `(tactic| (k_dflt (refine' use_read (normalised_ok _ ?p1) ?kB ?kF ?kX ?kN ?kT ?khk ?khs ?khd ?khu ?_; (case kB => k_asm); (case kF => k_asm); (case kX => k_asm); (case kN => k_asm); (case kT => k_asm); (case khk => first | exact rfl | assumption); (case khs => exact List.forall_mem_nil _); (case khd => ktr_room); (case khu => ktr_units); (case p1 => assumption)); (intro r9 h9 tk9 F9 N9 hP9); (obtain ⟨t9, hP9⟩ := hP9); subst hP9; walk_say "MINE normalised_ok"; (try k_sweep); (try dsimp only); (try k_fold)))
local macro_rules | `(tactic| walk_at "call type:tuple") => `(tactic| (k_here; (show wpAny _ _ (call (Value.type "tuple") [Value.ref _]) _ _ _); k_dflt (refine' kde_tupleOf ?ka ?kb ?kc ?kd ?ke ?_; (case ka => k_asm); (case kb => k_asm); (case kc => exact ⟨_, News.get (by k_asm) (by k_memK), rfl, _, rfl⟩); (case kd => (rw [List.size_toArray]; omega)); (case ke => rfl)); (intro D9 h9 F9 N9 l1); (k_lt l1); walk_say "MINE tuple"))
local macro_rules | `(tactic| walk_at "compareOp NotEq ref ref") => `(tactic| (k_here; (with_reducible show wpAny _ _ (compareOp CmpOp.NotEq (Value.ref _) (Value.ref _)) _ _ _); k_dflt (refine' ne_unit ?ka ?kb ?kc ?kd ?ke ?kf ?_; (case ka => k_asm); (case kb => k_memK); (case kc => k_memK); (case kd => assumption); (case ke => assumption); (case kf => ktr_units)); walk_say "MINE ne"))
local macro_rules | `(tactic| walk_at "subscriptTail") => `(tactic| (k_here; (with_reducible show wpAny _ _ (subscriptTail _ _ (Value.ref _) (Value.int _ _)) _ _ _); k_dflt (refine' item_tupS ?k1 ?k2 ?k3 ?k4 ?k5 ?k6 ?_ ?k7; (case k1 => k_asm); (case k2 => k_memK); (case k3 => assumption); (case k4 => omega); (case k5 => omega); (case k6 => omega); (case k7 => with_unfolding_all rfl); k_whole); (intro y9 t9 hy9); walk_say "MINE item"))
section
variable {M : Model} {A : Around} {E : Value → Shared → Prop} {s : Shared} {h₀ : Heap} {L : Addr} {m : Str → Option Value} {news : List (Addr × Obj)}
theorem due_a {h' : Heap} {tk : Nat} {k x : Str} {t : Tok} (h : (k == Str.ofString "CDATA") = true) (F : Fr h₀ L h' m) (N : News h₀ L h' news) : CutV (DueR k x news) h₀ L m s (.str x t) { s with heap := h', toks := tk } :=
  ⟨_, _, _, rfl, F, N, rfl, t, by unfold normS; rw [if_pos h]⟩
theorem due_b {h' : Heap} {tk : Nat} {k x : Str} {t : Tok} (h : (k == Str.ofString "CDATA") = false) (F : Fr h₀ L h' m) (N : News h₀ L h' news) : CutV (DueR k x news) h₀ L m s (.str (collapsedS x) t) { s with heap := h', toks := tk } :=
  ⟨_, _, _, rfl, F, N, rfl, t, by unfold normS; rw [if_neg (by rw [h]; decide)]⟩
theorem cut_due2 {t : Sem Value} {Q : Value → Shared → Prop} {k x : Str} (hx : raw x) (hk : k ∈ kindList) (F : Fr h₀ L s.heap m) (N : News h₀ L s.heap news) (h1 : wpAny M A t (CutV (DueR k x news) h₀ L m s) E s)
    (h2 : ∀ ty h' tk, Fr h₀ L h' m → News h₀ L h' news → x.length ≤ 64 → (normS k x).length ≤ 64 → ascii (normS k x) → k.length ≤ 64 → Q (.str (normS k x) ty) { s with heap := h', toks := tk }) : wpAny M A t Q E s :=
  cut_due hx hk F N h1 fun ty h' tk F' N' => h2 ty h' tk F' N' hx.1 (norm_len hx) (norm_ascii hx) (kind_len k hk)
theorem fix_ok {n y : Str} (h1 : n.length ≤ 64) (h2 : ascii n) (h : y ∈ [n, Str.ofString "a", Str.ofString "b-1 a"]) : y.length ≤ 64 ∧ ascii y := by
  simp only [List.mem_cons, List.not_mem_nil, or_false] at h
  rcases h with rfl | rfl | rfl
  · exact ⟨h1, h2⟩
  · constructor
    · decide +kernel
    · unfold ascii; decide +kernel
  · constructor
    · decide +kernel
    · unfold ascii; decide +kernel
def modeList : List Str := [Str.ofString "fixed", Str.ofString "required", Str.ofString "default", Str.ofString "implied"]
theorem cut_fix {t : Sem Value} {Q : Value → Shared → Prop} (src ch : Addr) (tu : Obj) {mo : Str} (hm : mo ∈ modeList) (F : Fr h₀ L s.heap m) (h1 : wpAny M A t (CutV (FixR src ch tu mo) h₀ L m s) E s)
    (h2 : ∀ v fo o' h' tk, Fr h₀ L h' m → News h₀ L h' [(ch, tu), (src, o')] → FixV v fo → SrcAt o' → (mo = Str.ofString "fixed" → fo ≠ none) → (∀ y, fo = some y → y.length ≤ 64) → Q v { s with heap := h', toks := tk }) : wpAny M A t Q E s :=
  cut_val (FixR src ch tu mo) F h1 fun v nw h' tk F' N' ⟨fo, o', e, hf, ho, hn, hy⟩ => by
    subst e
    exact h2 v fo o' h' tk F' N' hf ho hn fun y e => (hy y e).1
end
local macro_rules | `(tactic| walk_at "compareOp NotEq str str") => `(tactic| (k_here; (with_reducible show wpAny _ _ (compareOp CmpOp.NotEq (Value.str _ _) (Value.str _ _)) _ _ _); (with_reducible first | refine ne_same ?_ | refine ne_idem ?_); walk_say "MINE nestr"))
local macro_rules | `(tactic| walk_at "call ref") => `(tactic| (k_dflt (refine' use_read (fits_ok _ ?p1 ?p2 ?p3 ?p4 ?p5 ?p6 ?p7 ?p8 ?p9 ?p10) ?kB ?kF ?kX ?kN ?kT ?khk ?khs ?khd ?khu ?_; (case kB => k_asm); (case kF => k_asm); (case kX => k_asm); (case kN => k_asm); (case kT => k_asm); (case khk => first | exact rfl | assumption); (case khs => k_allIn); (case khd => ktr_room); (case khu => ktr_units); (case p1 => assumption); (case p2 => assumption); (case p3 => assumption); (case p4 => omega); (case p5 => assumption); (case p6 => assumption); (case p7 => assumption); (case p8 => assumption); (case p9 => assumption); (case p10 => refine ⟨?_, ?_, ?_⟩ <;> omega)); (intro r9 h9 tk9 F9 N9 hP9); (rcases hP9 with ⟨hB9, hr9⟩ | ⟨hB9, y9, t9, hr9⟩ <;> subst hr9); walk_say "MINE fits_ok"; (all_goals (try k_sweep)); (all_goals (try dsimp only)); (all_goals (try k_fold))))
local macro_rules | `(tactic| walk_at "call ref") => `(tactic| (k_dflt (refine' use_read (law_fits_ok2 _ ?p1 ?p2 ?p3 ?p4 ?p5 ?p6) ?kB ?kF ?kX ?kN ?kT ?khk ?khs ?khd ?khu ?_; (case kB => k_asm); (case kF => k_asm); (case kX => k_asm); (case kN => k_asm); (case kT => k_asm); (case khk => first | exact rfl | assumption); (case khs => k_allIn); (case khd => ktr_room); (case khu => ktr_units); (case p1 => assumption); (case p2 => assumption); (case p3 => assumption); (case p4 => omega); (case p5 => assumption); (case p6 => exact lf_of (by assumption) (by assumption))); (intro r9 h9 tk9 F9 N9 hP9); subst hP9; walk_say "MINE law_fits_ok2"; (try k_sweep); (try dsimp only); (try k_fold)))
local macro_rules | `(tactic| walk_at "call ref") => `(tactic| (k_here; (with_reducible show wpAny _ _ (call (Value.ref _) [_, _, _, _]) _ _ _); k_dflt (refine' call_cls ?k1 ?k2 ?k3 ?k4 ?k5 ?k6 ?_; (case k1 => k_asm); (case k2 => k_asm); (case k3 => k_asm); (case k4 => k_is); (case k5 => k_is); (case k6 => k_is); k_whole; intro x' d' h' F' N' l1 l2; (try k_lt l1); (try k_lt2 l2); (try k_sweep); (refine' code_def ?k1 ?k2 ?k3 ?k4 ?k5 ?kA ?kF ?kK ?k6 ?k7 ?k8 ?k9 ?kB ?_ ?c2 ?c3 ?c4 ?c5; (case kA => exact rfl); (case kF => exact rfl); (case kK => first | exact rfl | assumption); (case k1 => k_asm); (case k2 => k_asm); (case k3 => k_asm); (case k4 => k_asm); (case k5 => k_asm); (case k6 => k_is); (case k7 => k_is); (case k8 => ktr_room); (case k9 => exact BindsTo.of_eq rfl); (case c5 => decide); (case kB => exact locs rfl); (case c2 => exact rfl); (case c3 => exact rfl); (case c4 => exact rfl); k_whole; intro g' L' h' FG' F' N' B' X' T'; (try dsimp only); (try k_fold)))))
local macro_rules | `(tactic| walk_at "call ref") => `(tactic| (k_here; (with_reducible show wpAny _ _ (call (Value.ref _) ([Value.ref _] ++ [])) _ _ _); (show wpAny _ _ (call (Value.ref _) [Value.ref _]) _ _ _); k_dflt (refine' use_tup (row_ok _ ?p1 ?p2) ?kB ?kF ?kX ?kN ?kT ?khk ?khs ?khd ?khu ?_; (case kB => k_asm); (case kF => k_asm); (case kX => k_asm); (case kN => k_asm); (case kT => k_asm); (case khk => first | exact rfl | assumption); (case khs => k_allIn); (case khd => ktr_room); (case khu => ktr_units); (case p1 => assumption); (case p2 => refine ⟨?_, ?_, ?_⟩ <;> omega)); (intro l9 c9 h9 tk9 F9 N9 hA9); (try simp only [AllNe, and_true] at hA9); walk_say "MINE row_ok"; (try k_sweep); (try dsimp only); (try k_fold)))
local macro_rules | `(tactic| walk_at "compareOp Eq ref") => `(tactic| (k_here; (with_reducible show wpAny _ _ (compareOp CmpOp.Eq (Value.ref _) (Value.ref _)) _ _ _); k_dflt (refine' eq_row ?ka ?kb ?kc ?kd ?_; (case ka => k_asm); (case kb => k_memK); (case kc => k_memK); (case kd => ktr_units)); walk_say "MINE eqrow"))
local macro_rules | `(tactic| walk_at "MINE stepsJ") => `(tactic| (
  repeat' ((fail_if_success (with_reducible show wpAny _ _ (compareOp CmpOp.Eq _ _) _ _ _)); (fail_if_success (with_reducible show wpAny _ _ (eval (Expr.IfExp _ _ _ _) _) _ _ _)); (fail_if_success (with_reducible show wpAny _ _ (exec (Stmt.If _ _ _ _) _) _ _ _)); (fail_if_success (with_reducible show wpAny _ _ (pyIter _) _ _ _)); (fail_if_success (with_reducible show InvEndN _ _ _ _ _ _ _)); (fail_if_success (with_reducible show Leave _ _ _ _ _)); (fail_if_success (with_reducible show CutB _ _ _ _ _ _ _ _)); (fail_if_success (with_reducible show CutV _ _ _ _ _ _ _)); (fail_if_success (with_reducible show CutW _ _ _ _ _ _ _ _ _)); (fail_if_success (with_reducible show LCg.CompSrc _ _ _ _ _ _ _ _ _ _ _ _ _ _)); (fail_if_success (with_reducible show LCt.CompSrcT _ _ _ _ _ _ _ _ _ _ _ _ _ _ _)); (fail_if_success (with_reducible show LCg.CompEnd _ _ _ _ _ _ _ _ _ _ _ _ _ _)); first | (k_unfold; (try dsimp only)) | (k_end; wrow_close) | walk1 | (dsimp only; walk1) | (leave1; try dsimp only) | fail "no step")))
theorem rule_right_ok (w : World) {src : Addr} {o : Obj} (ho : SrcAt o) : Spec 10 w 222 [.ref src] [(src, o)] (fun r own' => ∃ o', own' = [(src, o')] ∧ SrcAt o' ∧ r = .bool true) := by
  k_with_none
  walk_at "MINE enter"
  walk_at "MINE stepsI"
  rename Fr _ _ _ _ => F0
  refine cut_val (ChoiceR src) F0 ?_ ?_
  · walk1
    walk_at "MINE stepsI"
    · refine ⟨_, _, [(_, tupOf (List.toArray _) _), (src, _)], rfl, by assumption, cb_drop (by assumption) (by k_allIn), _, _, _, _, _, rfl, rfl, ?_, by assumption, by assumption, .inl ?_, by assumption⟩
      · omega
      · omega
    · refine ⟨_, _, [(_, tupOf (List.toArray []) _), (src, _)], rfl, by assumption, cb_drop (by assumption) (by k_allIn), _, _, _, _, _, rfl, rfl, ?_, by assumption, .nil, .inr rfl, fun _ h => nomatch h⟩
      omega
  · rintro v nw h tk F1 N1 ⟨ch, cvs, cs, c, o2, rfl, rfl, hne, ho2, hcs, hcl, hcm⟩
    clear F0
    (try k_sweep)
    (try dsimp only)
    (try k_fold)
    walk_at "MINE stepsI"
    rename Fr _ _ _ _ => F2
    rename StrsAre _ _ => hws
    rename ∀ x ∈ _, inMenu x => hwm
    refine cut_words src ch (tupOf cvs.toArray c) F2 ?_ ?_
    · walk1
      walk_at "MINE stepsI"
      · refine ⟨_, [Value.str _ _], [_], _, _, _, _, rfl, rfl, fr_words (by assumption), cb_drop (by assumption) (by k_allIn), by omega, by omega, by assumption, .cons _ _ .nil, by simp, ?_⟩
        intro x hx
        rw [List.mem_singleton.mp hx]
        apply hcm
        assumption
      all_goals exact ⟨_, _, _, _, _, _, _, rfl, rfl, by assumption, cb_drop (by assumption) (by k_allIn), by omega, by omega, by assumption, hws, by omega, hwm⟩
    · clear F2 hws hwm
      intro l us ws c1 o3 h3 tk3 F3 N3 n1 n2 ho3 hws hwl hwm
      (try k_sweep)
      (try dsimp only)
      (try k_fold)
      walk_at "MINE stepsI"
      rename Fr _ _ _ _ => F4
      rename News _ _ _ _ => N4
      refine cut_due2 (by assumption) (by assumption) F4 N4 ?_ ?_
      · walk1
        walk_at "MINE stepsI"
        · exact due_a (by assumption) (by assumption) (by assumption)
        · exact due_b (by assumption) (by assumption) (by assumption)
      · clear F4 N4
        intro ty h5 tk5 F5 N5 hl5 hl6 ha5 hk5
        (try k_sweep)
        (try dsimp only)
        (try k_fold)
        walk_at "MINE stepsI"
        walk1
        walk_at "MINE stepsI"
        rename Fr _ _ _ _ => F6
        refine cut_fix src ch (tupOf cvs.toArray c) (by assumption) F6 ?_ ?_
        · walk1
          walk_at "MINE stepsI"
          · rename _ ∈ [normS _ _, _, _] => hmx
            refine ⟨_, _, [(ch, tupOf cvs.toArray c), (src, _)], rfl, by assumption, cb_drop (by assumption) (by k_allIn), _, _, rfl, .str _ _, by assumption, (fun _ e => nomatch e), ?_⟩
            intro y hy
            cases hy
            exact fix_ok (by assumption) (by assumption) hmx
          · refine ⟨_, _, [(ch, tupOf cvs.toArray c), (src, _)], rfl, by assumption, cb_drop (by assumption) (by k_allIn), _, _, rfl, .none, by assumption, ?_, fun _ e => nomatch e⟩
            intro e
            subst e
            rename List.any _ _ = false => ha
            exact absurd ha (by decide +kernel)
        · clear F6
          have hcl64 : ∀ y ∈ cs, y.length ≤ 64 := fun y hy => Nat.le_trans (hcm y hy).1 (by decide)
          intro fv fo o7 h7 tk7 F7 N7 hf ho7 hfx hfl
          (try k_sweep)
          (try dsimp only)
          (try k_fold)
          walk_at "MINE stepsI"
          · walk1
            walk_at "MINE stepsJ"
            refine' eq_row ?ka ?kb ?kc ?kd ?_
            (case ka => k_asm)
            (case kb => k_memK)
            (case kc => k_memK)
            (case kd => ktr_units)
            (try dsimp only)
            k_unfold
            (try dsimp only)
            refine' ⟨_, _, [(src, _)], _, _, rfl, ?hF, cb_drop ?hN ?hS, _, rfl, ?hP, rfl⟩
            (case hF => assumption)
            (case hN => assumption)
            (case hS => k_allIn)
            (case hP => assumption)
          · walk1
            walk_at "MINE stepsJ"
            refine' eq_row ?ka ?kb ?kc ?kd ?_
            (case ka => k_asm)
            (case kb => k_memK)
            (case kc => k_memK)
            (case kd => ktr_units)
            (try dsimp only)
            k_unfold
            (try dsimp only)
            refine' ⟨_, _, [(src, _)], _, _, rfl, ?hF, cb_drop ?hN ?hS, _, rfl, ?hP, rfl⟩
            (case hF => assumption)
            (case hN => assumption)
            (case hS => k_allIn)
            (case hP => assumption)
end
section -- Main
theorem src_at (x : Int) (p : Bool) (y : Int) {t1 t2 : Tok} {c : Nat} : SrcAt (listOf #[.int ((if -1 - x > x then -1 - x else x) * if p = true then 1 else 0) t1, .int (y.fmod 2147483647) t2] c) := by
  refine ⟨_, _, _, _, _, rfl, Int.mul_nonneg ?_ ?_, Int.fmod_nonneg_of_pos _ (by decide), Int.fmod_lt_of_pos _ (by decide)⟩
  · split <;> omega
  · split <;> decide
local macro_rules | `(tactic| walk_at "call ref") => `(tactic| ((with_reducible show wpAny _ _ (call (Value.ref 222) _) _ _ _); k_dflt (refine' use_src (rule_right_ok _ ?p1) ?kB ?kF ?kX ?kN ?kT ?khk ?kU ?khs ?khd ?khu ?_; (case kB => k_asm); (case kF => k_asm); (case kX => k_asm); (case kN => k_asm); (case kT => k_asm); (case khk => first | exact rfl | assumption); (case kU => k_updF); (case khs => k_allIn); (case khd => ktr_room); (case khu => ktr_units); (case p1 => first | assumption | exact src_at _ _ _)); (intro r9 o9 h9 tk9 F9 N9 hS9 hP9); subst hP9; (try dsimp only at N9); walk_say "MINE rule_right_ok"; (try k_sweep); (try dsimp only); (try k_fold)))
theorem main_ok : PySem.Challenge.rw_nu0052_01.Holds := hd (by
  k_go0
  all_goals (try k_fold)
  k_steps
  all_goals (try k_data))
end
end Mine
theorem PySem.Challenge.cw_nu0052_01_holds : PySem.Challenge.rw_nu0052_01.Holds := by
  exact Mine.main_ok
