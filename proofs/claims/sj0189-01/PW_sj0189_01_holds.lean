import PyProof.Rows.All
import Wide.All
import OpenK.AllK
import Wide.FinOn
import Lean
import PySem.Challenge.RW_sj0189_01
set_option Elab.async false
set_option maxRecDepth 100000
open PySem PySem.W PyProof.Rows
namespace Mine
section
local macro_rules | `(tactic| o_head $_H) => `(tactic| assumption)
theorem hd (h : PySem.Challenge.rw_sj0189_01.row.Holds) : PySem.Challenge.rw_sj0189_01.row.Holds := by k_head
end
noncomputable def look : Program := PySem.W.view PySem.Challenge.rw_sj0189_01.row.prog [25]
abbrev loose : List Str := [Str.ofString "SnobolError", Str.ofString "TRACE_WORDS", Str.ofString "NameRef", Str.ofString "text_of_whole", Str.ofString "to_text", Str.ofString "need_text", Str.ofString "var_name", Str.ofString "word_or", Str.ofString "let_read", Str.ofString "let_write", Str.ofString "detach", Str.ofString "trace_keys", Str.ofString "let_trace", Str.ofString "stop_trace", Str.ofString "World", Str.ofString "plain_var", Str.ofString "get_var", Str.ofString "set_var", Str.ofString "_law_done", Str.ofString "_law_told", Str.ofString "_law_story"]
def places : List Addr := [2, 3, 15, 18, 23, 24, 25, 27, 28, 30, 31, 32, 33, 34, 35, 45, 47, 48, 50, 51, 52, 53, 54, 55, 56, 59, 61, 62, 64, 65,
  66, 68, 69, 71, 72, 73, 75, 76, 78, 79, 80, 81, 83, 84, 86, 87, 88, 90, 91, 93, 94, 95, 97, 98, 100, 101, 102, 104,
  105, 107, 108, 109, 111, 112, 114, 115, 116, 119, 120, 121, 123, 124, 126, 127, 128, 130, 131, 133, 134, 142, 143,
  145, 146, 148, 149, 150, 151, 152, 153, 154, 157, 159, 160, 162, 163, 164, 166, 167, 169, 170, 171, 173, 174, 176,
  177, 178, 180, 181, 183, 184, 185, 187, 188, 190, 191, 192, 194, 195, 197, 198, 199, 202, 203]
noncomputable def hook : Hook := kHook Mine.hd.heap_1 places (fun _ => by kernel_rfl)
noncomputable abbrev test (s : Shared) : Bool := xlAt look [] s && recOk PySem.Challenge.rw_sj0189_01.row.records s
theorem left_of {p q : Program} {loose : List Str} {Xt : Shared → Bool} {α : Type} {Yf : Shared → α} {Ya : World → α} {N : Nat} {H : Params → Heap} {gs : Array GenState} {dr : Drawn} {tk : Nat}
    (ho : ∀ w : World, (fencedOpening treeTable p w N).map (fun s => (s.heap, s.gens, s.drawn, s.toks)) = some (H w.params, gs, dr, tk))
    (hz : ∀ w : World, ((H w.params).isNs mainGlobals && gs.size == 0) = true)
    (hr : ∀ (w : World) (os : OsState), (topRun treeTable p w (H w.params).objs.size ((H w.params).nsMap mainGlobals "__annotations__") N ⟨H w.params, gs, dr, tk, os⟩ (topStub p)).map (fun s =>
      ((staticsOk (importedModules p.main.body) (H w.params) s.heap && namesBound p s.heap && gensDone s && laidKept (H w.params) s.heap), openSeen q loose (importedModules p.main.body) Xt true s, Yf s)) =
      some (true, openGood q loose, Ya w)) : LeftO p q loose Xt Yf Ya N := by
  intro w
  have h1 := ho w
  rw [Option.map_eq_some_iff] at h1
  rcases h1 with ⟨s, hs, he⟩
  have hS : s = ⟨H w.params, gs, dr, tk, s.os⟩ := by
    cases s
    simpa using he
  have h2 := hr w s.os
  rw [Option.map_eq_some_iff] at h2
  rcases h2 with ⟨z, hz', hv⟩
  rw [Prod.mk.injEq] at hv
  have ht : topFrom treeTable p w N s = some z := by
    rw [hS]
    simp only [topFrom, hz w, hz', Option.bind_some, hv.1]
  simp only [openEnds, hs, Option.bind_some, ht, Option.map_some, hv.2]
noncomputable abbrev booted (w : World) (os : OsState) : Shared := ⟨boot_heap w.params, Array.mk [], boot_drawn, boot_toks, os⟩
abbrev EndsAt (w : World) (os : OsState) : Prop := (topRun treeTable PySem.Challenge.rw_sj0189_01.row.prog w (boot_heap w.params).objs.size ((boot_heap w.params).nsMap mainGlobals "__annotations__") 3120 (booted w os) (topStub PySem.Challenge.rw_sj0189_01.row.prog)).map (fun s =>
  ((staticsOk (importedModules PySem.Challenge.rw_sj0189_01.row.prog.main.body) (boot_heap w.params) s.heap && namesBound PySem.Challenge.rw_sj0189_01.row.prog s.heap && gensDone s && laidKept (boot_heap w.params) s.heap), openSeen look loose (importedModules PySem.Challenge.rw_sj0189_01.row.prog.main.body) test true s, hook.obs s)) =
  some (true, openGood look loose, hook.val w)
theorem ends0 (w : World) (os : OsState) : EndsAt (w.withFollow "special-get-raises" false) os := by
  rewrite [EndsAt, PySem.W.Fast.te14082659384304107361, PySem.W.Fast.te14364793385576792824, PySem.W.Fast.te4187177175401517315]
  kernel_rfl
theorem ends1 (w : World) (os : OsState) : EndsAt (w.withFollow "special-get-raises" true) os := by
  rewrite [EndsAt, PySem.W.Fast.te14082659384304107361, PySem.W.Fast.te14364793385576792824, PySem.W.Fast.te4187177175401517315]
  kernel_rfl
theorem ends (w : World) : ∀ os, EndsAt w os := byRow2 "special-get-raises" (P := fun w => ∀ os, EndsAt w os) ends0 ends1 w
theorem opens : ∀ w : World, (fencedOpening treeTable PySem.Challenge.rw_sj0189_01.row.prog w 3120).map (fun s => (s.heap, s.gens, s.drawn, s.toks)) = some (boot_heap w.params, Array.mk [], boot_drawn, boot_toks) := boot_open (by kernel_rfl) (by kernel_rfl) (fun _ => by kernel_rfl)
theorem left : LeftO PySem.Challenge.rw_sj0189_01.row.prog look loose test hook.obs hook.val 3120 := left_of opens (fun _ => by kernel_rfl) ends
theorem said1 : PySem.Challenge.rw_sj0189_01.wellSaid = true := by
  rewrite [PySem.W.Fast.te9446332074065402090]
  kernel_rfl
theorem head {d : DefRec} {kwd : List (Str × PySem.Expr)} (hdef : defOf look PySem.Challenge.rw_sj0189_01.row.name = some (d, kwd)) (hp : PySem.Challenge.rw_sj0189_01.row.prog.theDef PySem.Challenge.rw_sj0189_01.row.name = some (d.params, d.body, d.scope)) (hk : kwWritten? d.params.kwonlyargs d.params.kw_defaults = some kwd)
    (call : WalkO look loose (XL look []) hook.says PySem.Challenge.rw_sj0189_01.row.toRowW d kwd fun f vs => PySem.call f vs) : PySem.Challenge.rw_sj0189_01.Holds := by
  w_on
  refine holds_law said1 fun said => ?_
  refine PySem.W.holds_open left hook.of hook.keeps (fun s e => xl_of s (Bool.and_eq_true_iff.mp e).1) XL.keeps hdef hp hk (fun s e => recFacts_of (Bool.and_eq_true_iff.mp e).2) (by rfl) said (by decide +kernel) ⟨rfl, rfl, rfl, rfl, rfl, by decide +kernel⟩ ?hw call
  w_witness2
end Mine
open PySem.Calls
namespace Mine
theorem gentoks {α : Type} {M : Model} {A : Around} {t : Sem α} {Q : α → Shared → Prop} {E : Value → Shared → Prop} {h : Heap} {g : Array GenState} {d : Drawn} {tk : Nat} {o : OsState} (k : ∀ tk, wpAny M A t Q E { heap := h, gens := g, drawn := d, toks := tk, os := o }) : wpAny M A t Q E { heap := h, gens := g, drawn := d, toks := tk, os := o } := k tk
abbrev Led := List (Addr × Obj)
theorem lt_led {D x : Nat} {o : Obj} {news : Led} (h : ∀ p ∈ news, p.1 < D) (hm : (x, o) ∈ news) : x < D := h _ hm
theorem led_lt {D : Nat} {news small : Led} (h : ∀ p ∈ news, p.1 < D) (hs : ∀ p ∈ small, ∃ o, (p.1, o) ∈ news) : ∀ b ∈ small.map (·.1), @LT.lt Nat _ b D := fun b q => by
  obtain ⟨p, hp, rfl⟩ := List.mem_map.mp q
  obtain ⟨o, ho⟩ := hs p hp
  exact h (p.1, o) ho
theorem nmem_led {D : Nat} {news small : Led} (h : ∀ p ∈ news, p.1 < D) (hs : ∀ p ∈ small, ∃ o, (p.1, o) ∈ news) : D ∉ small.map (·.1) := fun q => by
  obtain ⟨p, hp, e⟩ := List.mem_map.mp q
  obtain ⟨o, ho⟩ := hs p hp
  have h1 := h (p.1, o) ho
  have h2 : p.1 = D := e
  rw [← h2] at h1
  exact Nat.lt_irrefl _ h1
theorem forall_cons {α : Type} {P : α → Prop} {a : α} {l : List α} (h : P a) (k : ∀ p ∈ l, P p) : ∀ p ∈ a :: l, P p := List.forall_mem_cons.mpr ⟨h, k⟩
/-- what stood in h and is not of the ledger stands in h' -/
def Keeps (h h' : Heap) (news : Led) : Prop := ∀ b o, h.get? b = some o → b ∉ news.map (·.1) → h'.get? b = some o
def Fresh (h : Heap) (tl : Led) : Prop := ∀ p ∈ tl, h.get? p.1 = none
theorem Fresh.nil {h : Heap} : Fresh h [] := fun _ hp => nomatch hp
theorem Fresh.cons {h : Heap} {p : Addr × Obj} {tl : Led} (a : h.get? p.1 = none) (b : Fresh h tl) : Fresh h (p :: tl) := fun q hq => by
  rcases List.mem_cons.mp hq with rfl | hq
  · exact a
  · exact b q hq
theorem fresh_of {h g h' : Heap} {L : Addr} {news led : Led} {a : Addr} {o : Obj} (k : Keeps h g news) (N : News g L h' led) (hm : (a, o) ∈ led) (hn : a ∉ news.map (·.1)) : h.get? a = none := by
  cases e : h.get? a with
  | none => rfl
  | some o' =>
    have h1 := k a o' e hn
    rw [(N _ hm).2.2] at h1
    cases h1
theorem Keeps.of_fr {h g h' : Heap} {L : Addr} {m : Str → Option Value} {news : Led} (k : Keeps h g news) (F : Fr g L h' m) : Keeps h h' news := fun b o e hb => F.keep b o (k b o e hb)
theorem Keeps.trans {h h' h'' : Heap} {n n' : Led} (k : Keeps h h' n) (k' : Keeps h' h'' n') (hs : ∀ b ∈ n'.map (·.1), b ∈ n.map (·.1) ∨ h.get? b = none) : Keeps h h'' n := fun b o e hb => by
  refine k' b o (k b o e hb) fun q => ?_
  rcases hs b q with q | q
  · exact hb q
  · rw [q] at e; cases e

theorem enterR {prog : Program} {w : World} {A A₀ : Around} {s : Shared} {K : Frag} {L : Addr} {h₀ base : Heap} {m mg mb : Str → Option Value} {news : Led} {p : Program} {loose : List Str} {mean : ExcName → Option Value}
    {env : Env} {outer : List Env} {R : Result → Shared → Prop} {name qual : Str} {params : Arguments} {body : List Stmt} {scope : Scope} {dV kV doc pm cdv ct oc : Value} {an od : Option Addr} {osl : Array (Option Value)} {f : Addr} {args : Args} {binds : List (Str × Value)}
    (B : Below A₀ base outer h₀) (F : Fr h₀ L s.heap m) (X₀ : K.In h₀) (N : News h₀ L s.heap news) (T : Top p loose mean mg mb h₀) (hA : A.frames = some (env :: outer)) (hf : env.frame = some L) (hke : env.scope.kind = .function)
    (ho : K.lookup f = some ⟨oc, od, .func (fnOf name qual params body scope dV kV doc pm an cdv ct), osl⟩) (hcd : codeIn K cdv qual = true) (hroom : A.depth < recursionLimit)
    (hbind : BindsTo s (fnOf name qual params body scope dV kV doc pm an cdv ct) args binds) (hloc : ∀ y ∈ binds, scope.names.lookup y.1 = some .local)
    (h : ∀ g L' h₁, Keeps s.heap g news → Fr h₀ L g m → Fr g L' h₁ (fun y => binds.reverse.lookup y) → News g L' h₁ news → Below A base (env :: outer) g → K.In g → Top p loose mean mg mb g →
      wpAny (model prog w) (A.deeper (envOf qual scope L' f cdv)) (execs body (envOf qual scope L' f cdv))
        (fun fl s' => LeaveK h₀ L m g R (match fl with | .ret v => v | _ => .none) s')
        (fun e s' => wpAny (model prog w) (A.deeper (envOf qual scope L' f cdv)) (leaving (envOf qual scope L' f cdv) e) (fun _ s'' => R (.error e) s'') (fun e' s'' => R (.error e') s'') s')
        { s with heap := h₁, toks := s.toks + binds.length })
    (hco : scope.isCoroutine = false) (hgen : scope.isGenerator = false) (hk : scope.kind = .function)
    (hcell : ∀ x ∈ scope.names, x.2 ≠ .cell) : codeAny (model prog w) A (.call (.ref f) args) R s := by
  obtain ⟨FG, BG, st, lv⟩ := groundX (R := R) B F N hA hf hke
  refine codeAny_call_def (fd := fnX name qual params body scope [] dV kV doc pm an cdv ct) (body := body) (binds := binds) hroom ((X₀.keeps F.keep) _ _ ho) rfl (T.nolimit.keeps F.keep) (codeRec_of (X₀.keeps F.keep) hcd) rfl hbind hcell hloc (fun h₁ hns hk₁ => ?_) hco hgen hk
  exact wpAny_mono (h _ s.heap.objs.size h₁ (fun b o e hb => hideAll_get _ e hb) FG ⟨hns, fun b o e => hk₁ b o (of_hideAll _ e), Nat.le_of_eq (hideAll_size _ _)⟩
    (fun p hp => ⟨hk₁ _ _ (N p hp).1, Nat.ne_of_lt (Heap.lt_size (N p hp).1), hideAll_none _ (List.mem_map_of_mem hp)⟩) BG (X₀.keeps st) (T.keeps st)) (fun fl s' hl => lv _ _ hl) fun _ _ y => y

/-- the def at f, called upon vs over the ledger news, comes back with Post (the value, what is new, the ledger then); all else stands -/
def Spec (w : World) (f : Addr) (vs : List Value) (d : Nat) (news : Led) (Post : Value → Led → Led → Prop) : Prop :=
  ∀ (p : Program) (loose : List Str) (mean : ExcName → Option Value) (mg mb : Str → Option Value)
    (dp un : Nat) (gd : Option (List Code)) (cn : Str) (cs : Scope) (a : Addr) (ccd : Value) (cl : List (Str × Addr)) (outer : List Env) (A₀ : Around) (base h₀ : Heap) (L : Addr) (m : Str → Option Value) (s : Shared)
    (Q E : Value → Shared → Prop),
    Below A₀ base outer h₀ → Fr h₀ L s.heap m → (Mine.hd.heap_1 w.params).In h₀ → News h₀ L s.heap news → Top p loose mean mg mb h₀ → cs.kind = .function → dp + d < recursionLimit → un + 8 * d < cLine →
    (∀ r tl led h' tk', Fr h₀ L h' m → News h₀ L h' led → Keeps s.heap h' news → Fresh s.heap tl → Post r tl led → Q r { s with heap := h', toks := tk' }) →
    wpAny (model PySem.Challenge.rw_sj0189_01.row.prog w) (ktrTop dp un gd cn cs L a ccd cl outer) (call (.ref f) vs) Q E s
theorem Spec.use {w : World} {f : Addr} {vs : List Value} {d : Nat} {news : Led} {Post : Value → Led → Led → Prop} {p : Program} {loose : List Str} {mean : ExcName → Option Value} {mg mb : Str → Option Value}
    {dp un : Nat} {gd : Option (List Code)} {cn : Str} {cs : Scope} {a : Addr} {ccd : Value} {cl : List (Str × Addr)} {outer : List Env} {A₀ : Around} {base h₀ : Heap} {L : Addr} {m : Str → Option Value} {s : Shared}
    {Q E : Value → Shared → Prop} (S : Spec w f vs d news Post) (B : Below A₀ base outer h₀) (F : Fr h₀ L s.heap m) (X : (Mine.hd.heap_1 w.params).In h₀) (N : News h₀ L s.heap news) (T : Top p loose mean mg mb h₀) (hk : cs.kind = .function)
    (hd : dp + d < recursionLimit) (hu : un + 8 * d < cLine)
    (ret : ∀ r tl led h' tk', Fr h₀ L h' m → News h₀ L h' led → Keeps s.heap h' news → Fresh s.heap tl → Post r tl led → Q r { s with heap := h', toks := tk' }) :
    wpAny (model PySem.Challenge.rw_sj0189_01.row.prog w) (ktrTop dp un gd cn cs L a ccd cl outer) (call (.ref f) vs) Q E s := S p loose mean mg mb dp un gd cn cs a ccd cl outer A₀ base h₀ L m s Q E B F X N T hk hd hu ret
theorem Spec.close {news : Led} {Post : Value → Led → Led → Prop} {h₀ : Heap} {L : Addr} {m : Str → Option Value} {s : Shared} {Q : Value → Shared → Prop}
    (hret : ∀ r tl led h' tk', Fr h₀ L h' m → News h₀ L h' led → Keeps s.heap h' news → Fresh s.heap tl → Post r tl led → Q r { s with heap := h', toks := tk' })
    {r : Value} {h' : Heap} {tk' : Nat} (F : Fr h₀ L h' m) (K : Keeps s.heap h' news) (x : ∃ tl led, Post r tl led ∧ News h₀ L h' led ∧ Fresh s.heap tl) : Q r { s with heap := h', toks := tk' } :=
  let ⟨tl, led, p, N, f⟩ := x
  hret r tl led h' tk' F N K f p
theorem News.keep {h₀ h h' : Heap} {L : Addr} {n : Led} (N : News h₀ L h n) (K : Keeps h h' []) : News h₀ L h' n := fun p hp => ⟨K _ _ (N p hp).1 (fun q => nomatch q), (N p hp).2.1, (N p hp).2.2⟩
theorem Spec.use0 {w : World} {f : Addr} {vs : List Value} {d : Nat} {news : Led} {Post : Value → Led → Led → Prop} {p : Program} {loose : List Str} {mean : ExcName → Option Value} {mg mb : Str → Option Value}
    {dp un : Nat} {gd : Option (List Code)} {cn : Str} {cs : Scope} {a : Addr} {ccd : Value} {cl : List (Str × Addr)} {outer : List Env} {A₀ : Around} {base h₀ : Heap} {L : Addr} {m : Str → Option Value} {s : Shared}
    {Q E : Value → Shared → Prop} (S : Spec w f vs d [] Post) (B : Below A₀ base outer h₀) (F : Fr h₀ L s.heap m) (X : (Mine.hd.heap_1 w.params).In h₀) (N : News h₀ L s.heap news) (T : Top p loose mean mg mb h₀) (hk : cs.kind = .function)
    (hd : dp + d < recursionLimit) (hu : un + 8 * d < cLine)
    (ret : ∀ r tl led h' tk', Fr h₀ L h' m → News h₀ L h' news → Post r tl led → Q r { s with heap := h', toks := tk' }) :
    wpAny (model PySem.Challenge.rw_sj0189_01.row.prog w) (ktrTop dp un gd cn cs L a ccd cl outer) (call (.ref f) vs) Q E s :=
  S.use B F X News.nil T hk hd hu fun r tl led h' tk' F' _ K _ p => ret r tl led h' tk' F' (Mine.News.keep N K) p
theorem News.sub {h₀ h : Heap} {L : Addr} {n n' : Led} (N : News h₀ L h n) (hs : ∀ p ∈ n', p ∈ n) : News h₀ L h n' := fun p hp => N p (hs p hp)
abbrev tup (vs : List Value) : Obj := { cls := .type "tuple", data := .seq vs.toArray 0 }
end Mine
namespace Mine
local macro_rules | `(tactic| k_room) => `(tactic| ktr_room)
local macro_rules | `(tactic| walk_at "execs cons") => `(tactic| (k_here; (with_reducible refine gentoks fun tk => wpAny_execs_cons ?_); (try dsimp only); (try k_fold)))
local macro_rules | `(tactic| walk_at "execs nil") => `(tactic| (k_here; (with_reducible refine gentoks fun tk => wpAny_execs_nil ?_); (try dsimp only)))

set_option maxHeartbeats 8000000 in
theorem need_str (w : World) (x : Str) (tx : Tok) :
    Spec w 79 [.str x tx] 10 [] (fun r _ _ => (∃ t, r = .str x t)) := by
  (unfold Spec; intro p loose mean mg mb dp un gd cn cs a9 ccd cl outer A₀ base h₀ L m s Q E B F X N T hk hd hu hret)
  (w_top off; refine wpAny_call ?_; k_dflt (refine' enterR ?k1 ?k2 ?k3 ?k4 ?k5 ?kA ?kF ?kK ?k6 ?k7 ?k8 ?k9 ?kB ?_ ?c2 ?c3 ?c4 ?c5; (case kA => exact rfl); (case kF => exact rfl); (case kK => assumption); (case k1 => k_asm); (case k2 => k_asm); (case k3 => k_asm); (case k4 => k_asm); (case k5 => k_asm); (case k6 => k_is); (case k7 => k_is); (case k8 => ktr_room); (case k9 => exact BindsTo.of_eq rfl); (case c5 => decide); (case kB => exact locs rfl); (case c2 => exact rfl); (case c3 => exact rfl); (case c4 => exact rfl); k_whole; intro g L' h' hg FG' F' N' B' X' T'; (try dsimp only); (try k_fold)))
  k_steps
  (exact Spec.close hret (by k_asm) (Keeps.of_fr hg (by k_asm)) ⟨[], _, ⟨_, rfl⟩, by first | k_asm | exact Mine.News.sub (by k_asm) (by kqd_sub), Fresh.nil⟩)
set_option maxHeartbeats 8000000 in
theorem need_7 (w : World) (tx : Tok) :
    Spec w 79 [.int 7 tx] 10 [] (fun r _ _ => (∃ t, r = .str (Str.ofString "7") t)) := by
  (unfold Spec; intro p loose mean mg mb dp un gd cn cs a9 ccd cl outer A₀ base h₀ L m s Q E B F X N T hk hd hu hret)
  (w_top off; refine wpAny_call ?_; k_dflt (refine' enterR ?k1 ?k2 ?k3 ?k4 ?k5 ?kA ?kF ?kK ?k6 ?k7 ?k8 ?k9 ?kB ?_ ?c2 ?c3 ?c4 ?c5; (case kA => exact rfl); (case kF => exact rfl); (case kK => assumption); (case k1 => k_asm); (case k2 => k_asm); (case k3 => k_asm); (case k4 => k_asm); (case k5 => k_asm); (case k6 => k_is); (case k7 => k_is); (case k8 => ktr_room); (case k9 => exact BindsTo.of_eq rfl); (case c5 => decide); (case kB => exact locs rfl); (case c2 => exact rfl); (case c3 => exact rfl); (case c4 => exact rfl); k_whole; intro g L' h' hg FG' F' N' B' X' T'; (try dsimp only); (try k_fold)))
  k_steps
  (exact Spec.close hret (by k_asm) (Keeps.of_fr hg (by k_asm)) ⟨[], _, ⟨_, rfl⟩, by first | k_asm | exact Mine.News.sub (by k_asm) (by kqd_sub), Fresh.nil⟩)
set_option maxHeartbeats 8000000 in
theorem need_0 (w : World) (tx : Tok) :
    Spec w 79 [.int 0 tx] 10 [] (fun r _ _ => (∃ t, r = .str (Str.ofString "0") t)) := by
  (unfold Spec; intro p loose mean mg mb dp un gd cn cs a9 ccd cl outer A₀ base h₀ L m s Q E B F X N T hk hd hu hret)
  (w_top off; refine wpAny_call ?_; k_dflt (refine' enterR ?k1 ?k2 ?k3 ?k4 ?k5 ?kA ?kF ?kK ?k6 ?k7 ?k8 ?k9 ?kB ?_ ?c2 ?c3 ?c4 ?c5; (case kA => exact rfl); (case kF => exact rfl); (case kK => assumption); (case k1 => k_asm); (case k2 => k_asm); (case k3 => k_asm); (case k4 => k_asm); (case k5 => k_asm); (case k6 => k_is); (case k7 => k_is); (case k8 => ktr_room); (case k9 => exact BindsTo.of_eq rfl); (case c5 => decide); (case kB => exact locs rfl); (case c2 => exact rfl); (case c3 => exact rfl); (case c4 => exact rfl); k_whole; intro g L' h' hg FG' F' N' B' X' T'; (try dsimp only); (try k_fold)))
  k_steps
  (exact Spec.close hret (by k_asm) (Keeps.of_fr hg (by k_asm)) ⟨[], _, ⟨_, rfl⟩, by first | k_asm | exact Mine.News.sub (by k_asm) (by kqd_sub), Fresh.nil⟩)
set_option maxHeartbeats 8000000 in
theorem need_m30 (w : World) (tx : Tok) :
    Spec w 79 [.int (-30) tx] 10 [] (fun r _ _ => (∃ t, r = .str (Str.ofString "-30") t)) := by
  (unfold Spec; intro p loose mean mg mb dp un gd cn cs a9 ccd cl outer A₀ base h₀ L m s Q E B F X N T hk hd hu hret)
  (w_top off; refine wpAny_call ?_; k_dflt (refine' enterR ?k1 ?k2 ?k3 ?k4 ?k5 ?kA ?kF ?kK ?k6 ?k7 ?k8 ?k9 ?kB ?_ ?c2 ?c3 ?c4 ?c5; (case kA => exact rfl); (case kF => exact rfl); (case kK => assumption); (case k1 => k_asm); (case k2 => k_asm); (case k3 => k_asm); (case k4 => k_asm); (case k5 => k_asm); (case k6 => k_is); (case k7 => k_is); (case k8 => ktr_room); (case k9 => exact BindsTo.of_eq rfl); (case c5 => decide); (case kB => exact locs rfl); (case c2 => exact rfl); (case c3 => exact rfl); (case c4 => exact rfl); k_whole; intro g L' h' hg FG' F' N' B' X' T'; (try dsimp only); (try k_fold)))
  k_steps
  (exact Spec.close hret (by k_asm) (Keeps.of_fr hg (by k_asm)) ⟨[], _, ⟨_, rfl⟩, by first | k_asm | exact Mine.News.sub (by k_asm) (by kqd_sub), Fresh.nil⟩)
set_option maxHeartbeats 8000000 in
theorem var_name_spec (w : World) (x : Str) (tx : Tok) (hx : (x == Str.ofString "") = false) :
    Spec w 87 [.str x tx] 10 [] (fun r _ _ => ∃ t, r = .str x t) := by
  (unfold Spec; intro p loose mean mg mb dp un gd cn cs a9 ccd cl outer A₀ base h₀ L m s Q E B F X N T hk hd hu hret)
  (w_top off; refine wpAny_call ?_; k_dflt (refine' enterR ?k1 ?k2 ?k3 ?k4 ?k5 ?kA ?kF ?kK ?k6 ?k7 ?k8 ?k9 ?kB ?_ ?c2 ?c3 ?c4 ?c5; (case kA => exact rfl); (case kF => exact rfl); (case kK => assumption); (case k1 => k_asm); (case k2 => k_asm); (case k3 => k_asm); (case k4 => k_asm); (case k5 => k_asm); (case k6 => k_is); (case k7 => k_is); (case k8 => ktr_room); (case k9 => exact BindsTo.of_eq rfl); (case c5 => decide); (case kB => exact locs rfl); (case c2 => exact rfl); (case c3 => exact rfl); (case c4 => exact rfl); k_whole; intro g L' h' hg FG' F' N' B' X' T'; (try dsimp only); (try k_fold)))
  k_steps
  all_goals (exact Spec.close hret (by k_asm) (Keeps.of_fr hg (by k_asm)) ⟨[], _, ⟨_, rfl⟩, by first | k_asm | exact Mine.News.sub (by k_asm) (by kqd_sub), Fresh.nil⟩)
set_option maxHeartbeats 8000000 in
theorem word_or_spec (w : World) (x y : Str) (tx ty : Tok) :
    Spec w 94 [.str x tx, .str y ty] 10 [] (fun r _ _ => ∃ t, r = .str (if (x == Str.ofString "") = true then y else x) t) := by
  (unfold Spec; intro p loose mean mg mb dp un gd cn cs a9 ccd cl outer A₀ base h₀ L m s Q E B F X N T hk hd hu hret)
  (w_top off; refine wpAny_call ?_; k_dflt (refine' enterR ?k1 ?k2 ?k3 ?k4 ?k5 ?kA ?kF ?kK ?k6 ?k7 ?k8 ?k9 ?kB ?_ ?c2 ?c3 ?c4 ?c5; (case kA => exact rfl); (case kF => exact rfl); (case kK => assumption); (case k1 => k_asm); (case k2 => k_asm); (case k3 => k_asm); (case k4 => k_asm); (case k5 => k_asm); (case k6 => k_is); (case k7 => k_is); (case k8 => ktr_room); (case k9 => exact BindsTo.of_eq rfl); (case c5 => decide); (case kB => exact locs rfl); (case c2 => exact rfl); (case c3 => exact rfl); (case c4 => exact rfl); k_whole; intro g L' h' hg FG' F' N' B' X' T'; (try dsimp only); (try k_fold)))
  k_steps
  all_goals (exact Spec.close hret (by k_asm) (Keeps.of_fr hg (by k_asm)) ⟨[], _, ⟨_, by (split <;> first | rfl | simp_all)⟩, by first | k_asm | exact Mine.News.sub (by k_asm) (by kqd_sub), Fresh.nil⟩)
end Mine
open PyProof.V
namespace Mine
abbrev Pg : Program := PySem.Challenge.rw_sj0189_01.row.prog
def upd (f : Str → Option Value) (x : Str) (v : Option Value) : Str → Option Value := fun y => if y = x then v else f y
theorem stored_at (kvs : List (Str × Value)) (x : Str) (v : Value) (y : Str) : valueAt (stored kvs x v) y = if y = x then some v else valueAt kvs y := by
  unfold stored
  have key : ∀ l : List (Str × Value), valueAt (l.map fun kv => if kv.1 = x then (kv.1, v) else kv) y = if y = x then (if l.any (fun kv => decide (kv.1 = x)) then some v else none) else valueAt l y := by
    intro l
    induction l with
    | nil => simp [valueAt]
    | cons a l ih =>
      simp only [valueAt, List.map_cons, List.find?_cons, List.any_cons] at ih ⊢
      by_cases h1 : a.1 = x
      · by_cases h2 : y = x
        · subst h2; simp [h1]
        · have h3 : ¬ x = y := fun e => h2 e.symm
          simp [h1, h2, h3] at ih ⊢; exact ih
      · by_cases h2 : y = x
        · subst h2
          simp only [h1, if_neg, decide_false, Bool.false_or, if_pos, not_false_eq_true] at ih ⊢
          simpa using ih
        · by_cases h3 : a.1 = y
          · have h4 : ¬ y = x := h2
            simp [h1, h3, h4]
          · simp [h1, h2, h3] at ih ⊢; exact ih
  split
  · rename_i h
    rw [key, if_pos h]
  · rename_i h
    simp only [valueAt, List.find?_append, List.find?_cons, List.find?_nil]
    by_cases h2 : y = x
    · subst h2
      have : kvs.find? (fun kv => decide (kv.1 = y)) = none := by
        rw [List.find?_eq_none]; intro p hp he
        exact h (List.any_eq_true.mpr ⟨p, hp, he⟩)
      simp [this]
    · have h3 : ¬ x = y := fun e => h2 e.symm
      simp [h2, h3]
theorem without_at (kvs : List (Str × Value)) (x : Str) (y : Str) : valueAt (without kvs x) y = if y = x then none else valueAt kvs y := by
  unfold without
  induction kvs with
  | nil => simp [valueAt]
  | cons a l ih =>
    simp only [valueAt, List.filter_cons, List.find?_cons] at ih ⊢
    by_cases h1 : a.1 = x
    · by_cases h2 : y = x
      · subst h2; simp [h1] at ih ⊢; first | done | exact ih
      · have h3 : ¬ x = y := fun e => h2 e.symm
        simp [h1, h2, h3] at ih ⊢; first | done | exact ih
    · by_cases h2 : y = x
      · subst h2; simp [h1] at ih ⊢; first | done | exact ih
      · by_cases h3 : a.1 = y
        · simp [h2, h3]
        · simp [h1, h2, h3] at ih ⊢; first | done | exact ih
theorem stored_len (kvs : List (Str × Value)) (x : Str) (v : Value) : (stored kvs x v).length ≤ kvs.length + 1 := by
  unfold stored; split <;> simp
theorem without_len (kvs : List (Str × Value)) (x : Str) : (without kvs x).length ≤ kvs.length := List.length_filter_le _ _

/-- o is a plain dict, from texts to what f says; n items at most -/
def Sd (w : World) (o : Obj) (f : Str → Option Value) (n : Nat) : Prop := ∃ kvs, o.IsDictOf (strKind Pg w) kvs ∧ (∀ x, valueAt kvs x = f x) ∧ kvs.length ≤ n
section
variable {w : World} {A : Around} {E : Value → Shared → Prop} {s : Shared} {h₀ : Heap} {L d : Addr} {m : Str → Option Value} {news : Led} {gg : Obj → Led} {o : Obj} {f : Str → Option Value} {n : Nat} {x : Str} {t : Tok} {v dflt : Value}
theorem sd_type (N : News h₀ L s.heap news) (hp : (d, o) ∈ news) (hd : Sd w o f n) : s.TypeIs (.ref d) "dict" := by
  obtain ⟨kvs, h1, _, _⟩ := hd
  exact (kda_dict N hp h1).typeIs
theorem sd_method_get {pl : Sem Bool} {Q : Value × List Value → Shared → Prop} (N : News h₀ L s.heap news) (hp : (d, o) ∈ news) (hd : Sd w o f n) (h : Q (.builtin "dict.get", [.ref d]) s) : wpAny (model Pg w) A (getMethod (.ref d) "get" pl) Q E s := by
  obtain ⟨kvs, h1, _, _⟩ := hd
  exact kdg_method N hp h1 h
theorem sd_method_pop {pl : Sem Bool} {Q : Value × List Value → Shared → Prop} (N : News h₀ L s.heap news) (hp : (d, o) ∈ news) (hd : Sd w o f n) (h : Q (.builtin "dict.pop", [.ref d]) s) : wpAny (model Pg w) A (getMethod (.ref d) "pop" pl) Q E s := by
  obtain ⟨kvs, h1, _, _⟩ := hd
  have hD := kda_dict N hp h1
  exact getMethod_builtin hD.typeIs PySem.F.plainAttrs_dict PySem.F.slot_dict_pop PySem.F.type_dict_pop hD.mapOf.noDict h
theorem sd_get {Q : Value → Shared → Prop} (N : News h₀ L s.heap news) (hp : (d, o) ∈ news) (hd : Sd w o f n) (lo : (d == sysModules) = false) (h : Q ((f x).getD dflt) { s with toks := s.toks + 1 }) :
    wpAny (model Pg w) A (call (.builtin "dict.get") [.ref d, .str x t, dflt]) Q E s := by
  obtain ⟨kvs, h1, h2, _⟩ := hd
  exact kdg_get2 N hp h1 lo (strKind_is _ _ _ _) _ (h2 x) h
theorem sd_get_no {Q : Value → Shared → Prop} (N : News h₀ L s.heap news) (hp : (d, o) ∈ news) (hd : Sd w o f n) (lo : (d == sysModules) = false) (hx : f x = none) (h : Q dflt { s with toks := s.toks + 1 }) :
    wpAny (model Pg w) A (call (.builtin "dict.get") [.ref d, .str x t, dflt]) Q E s := sd_get N hp hd lo (by rw [hx]; exact h)
theorem sd_in {Q : Value → Shared → Prop} (N : News h₀ L s.heap news) (hp : (d, o) ∈ news) (hd : Sd w o f n) (lo : (d == sysModules) = false) (h : Q (.bool (f x).isSome) { s with toks := s.toks + 1 }) :
    wpAny (model Pg w) A (compareOp .In (.str x t) (.ref d)) Q E s := by
  obtain ⟨kvs, h1, h2, _⟩ := hd
  exact kda_in N hp h1 lo (strKind_is _ _ _ _) _ (by rw [h2 x]) h
theorem sd_tail {value slice : PySem.Expr} {key : Value} {Q : Value → Shared → Prop} (N : News h₀ L s.heap news) (hp : (d, o) ∈ news) (hd : Sd w o f n) (h : wpAny (model Pg w) A (getItem (.ref d) key) Q E s)
    (hs : subscripted slice false (.ref d) key = operate [.ref d, key] (getItem (.ref d) key) := by with_unfolding_all rfl) : wpAny (model Pg w) A (subscriptTail value slice (.ref d) key) Q E s := by
  obtain ⟨kvs, h1, h2, _⟩ := hd
  exact kdt_tail N hp h1 h hs
theorem sd_item {Q : Value → Shared → Prop} (N : News h₀ L s.heap news) (hp : (d, o) ∈ news) (hd : Sd w o f n) (hl : f x = some v) (h : Q v { s with toks := s.toks + 1 }) : wpAny (model Pg w) A (getItem (.ref d) (.str x t)) Q E s := by
  obtain ⟨kvs, h1, h2, _⟩ := hd
  exact kdt_getItem N hp h1 (strKind_is _ _ _ _) ((h2 x).trans hl) h
theorem sd_set {Q : Unit → Shared → Prop} (F : Fr h₀ L s.heap m) (N : News h₀ L s.heap news) (U : UpdF d o news gg) (hd : Sd w o f n) (hn : n ≤ 1000)
    (h : ∀ h' o', Fr h₀ L h' m → News h₀ L h' (gg o') → Sd w o' (upd f x (some v)) (n + 1) → Q () { s with heap := h', toks := s.toks + 1 }) : wpAny (model Pg w) A (setItem (.ref d) (.str x t) v) Q E s := by
  obtain ⟨kvs, h1, h2, h3⟩ := hd
  refine kda_set F N U h1 (strKind_is _ _ _ _) (by rw [sizeLine_eq]; omega) fun h' o' F' N' hd' => h h' o' F' N' ⟨_, hd', fun y => ?_, Nat.le_trans (stored_len _ _ _) (by omega)⟩
  rw [stored_at]; unfold upd; rw [h2 y]
theorem sd_pop {Q : Value → Shared → Prop} (F : Fr h₀ L s.heap m) (N : News h₀ L s.heap news) (U : UpdF d o news gg) (hd : Sd w o f n) (lo : (d == sysModules) = false) (hn : n ≤ 1000)
    (h : ∀ h' o' v, Fr h₀ L h' m → News h₀ L h' (gg o') → Sd w o' (upd f x none) n → Q v { s with heap := h', toks := s.toks + 1 }) : wpAny (model Pg w) A (call (.builtin "dict.pop") [.ref d, .str x t, dflt]) Q E s := by
  obtain ⟨kvs, h1, h2, h3⟩ := hd
  obtain ⟨pre, post, rfl, hg, a, b⟩ := U.split
  have hm := N (d, o) (List.mem_append_right _ (.head _))
  have hD : s.heap.DictOf (strKind Pg w) d kvs := Heap.dictOf_iff.mpr ⟨o, hm.1, h1⟩
  cases hv : valueAt kvs x with
  | none =>
    refine call_meetsIn PySem.F.slot_dict_pop hD.typeIs PySem.F.entry_dict_pop (PySem.F.args_dict_pop_3 _ _ _) (meets_dict_pop_default (strKind Pg w) d (strKind_is _ _ _ _) lo (by rfl) dflt) ⟨kvs, hD, hv, ?_⟩
    refine h s.heap o dflt F (hg o ▸ N) ⟨kvs, h1, fun y => ?_, h3⟩
    unfold upd
    by_cases e : y = x
    · subst e; rw [if_pos rfl, hv]
    · rw [if_neg e, h2 y]
  | some v =>
    refine call_meetsIn PySem.F.slot_dict_pop hD.typeIs PySem.F.entry_dict_pop (PySem.F.args_dict_pop_3 _ _ _) (meets_dict_pop_there (strKind Pg w) d (strKind_is _ _ _ _) [dflt] (.inr ⟨_, rfl⟩) (by rfl)) ⟨kvs, v, hD, by rw [sizeLine_eq]; omega, hv, fun h' hmm hs => ?_⟩
    obtain ⟨o', ho', hd'⟩ := Heap.dictOf_iff.mp hmm
    refine h h' o' v (F.change hs hm.2.1 hm.2.2) (hg o' ▸ N.setIn a b hs ho') ⟨_, hd', fun y => ?_, Nat.le_trans (without_len _ _) h3⟩
    rw [without_at]; unfold upd; rw [h2 y]
theorem updF_upd {d : Addr} {o o' : Obj} {l : Led} {g : Obj → Led} (U : UpdF d o l g) : Upd d o o' l (g o') := by
  induction U with
  | head h => exact .head h
  | tail h _ ih => exact .tail h ih
theorem append_L {vs : List Value} {Q : Value → Shared → Prop} (F : Fr h₀ L s.heap m) (N : News h₀ L s.heap news) (U : UpdF d (listOf vs.toArray n) news gg) (hsz : vs.length ≤ 100000)
    (h : ∀ h', Fr h₀ L h' m → News h₀ L h' (gg (listOf (vs ++ [v]).toArray (n + 1))) → Q .none { s with heap := h' }) : wpAny (model Pg w) A (call (.builtin "list.append") [.ref d, v]) Q E s :=
  append_K F N (updF_upd U) (fun h' F' N' => h h' F' (by simpa using N')) (by rw [sizeLine_eq, List.size_toArray]; omega)
theorem updF_uniq {d : Addr} {o : Obj} {l : Led} {g : Obj → Led} (U : UpdF d o l g) : (d, o) ∈ l := by
  obtain ⟨pre, post, rfl, _, _, _⟩ := U.split
  exact List.mem_append.mpr (.inr (.head _))
theorem pop0_L {vs : List Value} {u : Tok} {Q : Value → Shared → Prop} (F : Fr h₀ L s.heap m) (N : News h₀ L s.heap news) (U : UpdF d (listOf (v :: vs).toArray n) news gg) (hsz : vs.length ≤ 100000)
    (h : ∀ h', Fr h₀ L h' m → News h₀ L h' (gg (listOf vs.toArray (n + 1))) → Q v { s with heap := h' }) : wpAny (model Pg w) A (call (.builtin "list.pop") [.ref d, .int 0 u]) Q E s :=
  kl_popAt (k := 0) (p := []) (q := vs) (y := v) F N rfl (by simp [seqIndex?]) rfl (updF_upd U) (by rw [sizeLine_eq]; simp; omega) h
theorem len_L {vs : List Value} {Q : Value → Shared → Prop} (N : News h₀ L s.heap news) (hp : (d, listOf vs.toArray n) ∈ news) (hsz : vs.length ≤ 100000) (h : Q (.int (vs.length : Int) (s.toks + 1)) { s with toks := s.toks + 1 + 1 }) :
    wpAny (model Pg w) A (call (.builtin "len") [.ref d]) Q E s := KM.len_K N hp (by rw [List.size_toArray]) (by omega) h
end
end Mine
namespace Mine
/-- a world's places -/
structure WA where
  x : Nat
  dx : Nat
  dS : Nat
  dK : Nat
  lO : Nat
  lT : Nat
  dR : Nat
  dW : Nat
  dT : Nat
  lI : Nat
/-- what stands at them -/
structure WO where
  es : List DictEntry
  ne : Nat
  oS : Obj
  oK : Obj
  oR : Obj
  oW : Obj
  oT : Obj
  vO : List Value
  nO : Nat
  vT : List Value
  nT : Nat
  vI : List Value
  nI : Nat
abbrev WL (a : WA) (o : WO) : Led := [(a.x, instObj 152 a.dx), (a.dx, dictOf o.es o.ne), (a.dS, o.oS), (a.dK, o.oK), (a.lO, listOf o.vO.toArray o.nO), (a.lT, listOf o.vT.toArray o.nT), (a.dR, o.oR), (a.dW, o.oW), (a.dT, o.oT), (a.lI, listOf o.vI.toArray o.nI)]
structure WA.Ok (a : WA) : Prop where
  o1 : a.dx < a.x
  o2 : a.x < a.dS
  o3 : a.dS < a.dK
  o4 : a.dK < a.lO
  o5 : a.lO < a.lT
  o6 : a.lT < a.dR
  o7 : a.dR < a.dW
  o8 : a.dW < a.dT
  o9 : a.dT < a.lI
  l1 : (a.dS == sysModules) = false
  l2 : (a.dK == sysModules) = false
  l3 : (a.dR == sysModules) = false
  l4 : (a.dW == sysModules) = false
  l5 : (a.dT == sysModules) = false
structure WAttr (a : WA) (es : List DictEntry) : Prop where
  a1 : getL (Str.ofString "store") es = some (some (.ref a.dS))
  a2 : getL (Str.ofString "keywords") es = some (some (.ref a.dK))
  a3 : getL (Str.ofString "outputs") es = some (some (.ref a.lO))
  a4 : getL (Str.ofString "traces") es = some (some (.ref a.lT))
  a5 : getL (Str.ofString "read_names") es = some (some (.ref a.dR))
  a6 : getL (Str.ofString "write_names") es = some (some (.ref a.dW))
  a7 : getL (Str.ofString "traced") es = some (some (.ref a.dT))
  a8 : getL (Str.ofString "inputs") es = some (some (.ref a.lI))
theorem fr_of {h h' g : Heap} {L : Addr} {news led : Led} {a : Nat} {o : Obj} (k : Keeps h g news) (N : News g L h' led) (hm : (a, o) ∈ led) (hn : ∀ b ∈ news.map (·.1), @LT.lt Nat _ b a) : h.get? a = none :=
  fresh_of k N hm fun q => Nat.lt_irrefl _ (hn _ q)
end Mine
namespace Mine
/-- the state of a world, as data -/
structure DS where
  S : Str → Option Dat
  R : Str → Option Dat
  W : Str → Option Dat
  T : Str → Option Dat
  I : List Dat
def put (f : Str → Option Dat) (q : Str) (d : Option Dat) : Str → Option Dat := fun y => if y = q then d else f y
def sd (x : String) : Dat := .str (Str.ofString x)
def menuD (i : Int) : Dat := if i = 0 then sd "" else if i = 1 then sd "one" else if i = 2 then .int 7 else if i = 3 then .int 0 else .int (-30)
def menuX (i : Int) : Str := if i = 0 then Str.ofString "" else if i = 1 then Str.ofString "one" else if i = 2 then Str.ofString "7" else if i = 3 then Str.ofString "0" else Str.ofString "-30"
structure Out where
  st : DS
  heard : Dat
  outs : List Dat
  trs : List Dat
def traceOf (f : Option Dat) (q : Str) (d : Dat) : List Dat := match f with
  | none => []
  | some t => [.tuple [t, .str q, d]]
/-- what a deed does -/
def doneD (s : DS) (q : Str) (k v : Int) : Out :=
  if k = 0 then ⟨{ s with S := put s.S q (some (menuD (v.fmod 5))) }, sd "given", if (s.W q).isSome = true then [.str (menuX (v.fmod 5))] else [], traceOf (s.T q) q (menuD (v.fmod 5))⟩
  else if k = 1 then
    if (s.R q).isSome = true then match s.I with
      | [] => ⟨s, .none, [], []⟩
      | r :: I => ⟨{ s with S := put s.S q (some r), I := I }, r, [], []⟩
    else ⟨s, (s.S q).getD (sd ""), [], []⟩
  else if k = 2 then ⟨{ s with R := put s.R q (some (if v.fmod 2 = 0 then sd "INPUT" else sd "CARDS")), W := put s.W q none }, sd "done", [], []⟩
  else if k = 3 then ⟨{ s with W := put s.W q (some (if v.fmod 2 = 0 then sd "OUTPUT" else sd "CARDS")), R := put s.R q none }, sd "done", [], []⟩
  else if k = 4 then ⟨{ s with W := put s.W q none, R := put s.R q none }, sd "done", [], []⟩
  else if k = 5 then ⟨{ s with T := put s.T q (some (sd "VALUE")) }, sd "done", [], []⟩
  else ⟨{ s with T := put s.T q none }, sd "done", [], []⟩
/-- a value is none where the datum is, else it is that datum -/
inductive OptIn : Option Value → Option Dat → Prop
  | none : OptIn none none
  | some {v : Value} {d : Dat} : DatIn [] v d → OptIn (some v) (some d)
theorem OptIn.isSome {a : Option Value} {b : Option Dat} (h : OptIn a b) : a.isSome = b.isSome := by cases h <;> rfl
theorem OptIn.getD {a : Option Value} {b : Option Dat} {v : Value} {d : Dat} (h : OptIn a b) (k : DatIn [] v d) : DatIn [] (a.getD v) (b.getD d) := by
  cases h with
  | none => exact k
  | some h => exact h
/-- a dict of the world holds the data f -/
def Dd (w : World) (o : Obj) (f : Str → Option Dat) (n : Nat) : Prop := ∃ g, Sd w o g n ∧ ∀ x, OptIn (g x) (f x)
theorem Dd.put {w : World} {o : Obj} {g : Str → Option Value} {f : Str → Option Dat} {n : Nat} {q : Str} {v : Option Value} {d : Option Dat} (h : Sd w o (upd g q v) n) (k : ∀ x, OptIn (g x) (f x)) (e : OptIn v d) : Dd w o (put f q d) n :=
  ⟨_, h, fun x => by unfold upd Mine.put; split <;> first | exact e | exact k x⟩
theorem Sd.mono {w : World} {o : Obj} {f : Str → Option Value} {n : Nat} (h : Sd w o f n) : Sd w o f (n + 1) := let ⟨k, a, b, c⟩ := h; ⟨k, a, b, Nat.le_succ_of_le c⟩
theorem Dd.mono {w : World} {o : Obj} {f : Str → Option Dat} {n : Nat} (h : Dd w o f n) : Dd w o f (n + 1) := let ⟨g, a, b⟩ := h; ⟨g, a.mono, b⟩
/-- the world at the places of a holds the data s; n bounds the sizes -/
structure Holds (w : World) (o : WO) (s : DS) (n : Nat) : Prop where
  S : Dd w o.oS s.S n
  K : Sd w o.oK (fun _ => none) 0
  R : Dd w o.oR s.R n
  W : Dd w o.oW s.W n
  T : Dd w o.oT s.T n
  I : DatAll [] o.vI s.I
/-- o' is o behind a deed: the lists have grown by outs and trs -/
structure Grown (tl : Led) (o o' : WO) (outs trs : List Dat) : Prop where
  es : o'.es = o.es
  ne : o'.ne = o.ne
  O : ∃ vs, o'.vO = o.vO ++ vs ∧ DatAll [] vs outs
  T : ∃ vs, o'.vT = o.vT ++ vs ∧ DatAll tl vs trs
end Mine
namespace Mine
local macro_rules | `(tactic| k_room) => `(tactic| ktr_room)
local macro_rules | `(tactic| k_get) => `(tactic| with_reducible assumption)
local macro_rules | `(tactic| walk_at "getMethod ref") => `(tactic| (k_here; (with_reducible show wpAny _ _ (getMethod (Value.ref _) (Str.ofString "get") _) _ _ _); k_dflt (refine sd_method_get (by k_asm) (by k_mem) (by k_asm) ?_)))
local macro_rules | `(tactic| walk_at "getMethod ref") => `(tactic| (k_here; (with_reducible show wpAny _ _ (getMethod (Value.ref _) (Str.ofString "pop") _) _ _ _); k_dflt (refine sd_method_pop (by k_asm) (by k_mem) (by k_asm) ?_)))
local macro_rules | `(tactic| walk_at "call builtin:dict.get") => `(tactic| (k_here; k_dflt (first | refine sd_get_no (by k_asm) (by k_mem) (by k_asm) (by k_asm) (by first | assumption | rfl) ?_ | refine sd_get (by k_asm) (by k_mem) (by k_asm) (by k_asm) ?_)))
local macro_rules | `(tactic| walk_at "compareOp In") => `(tactic| (k_here; k_dflt (refine sd_in (by k_asm) (by k_mem) (by k_asm) (by k_asm) ?_)))
local macro_rules | `(tactic| walk_at "subscriptTail") => `(tactic| (k_here; (with_reducible show wpAny _ _ (subscriptTail _ _ (Value.ref _) (Value.str _ _)) _ _ _); k_dflt (refine sd_tail (by k_asm) (by k_mem) (by k_asm) ?_)))
local macro_rules | `(tactic| walk_at "getItem ref str") => `(tactic| (k_here; k_dflt (refine sd_item (by k_asm) (by k_mem) (by k_asm) (by k_asm) ?_)))
local macro_rules | `(tactic| walk_at "setItem ref str") => `(tactic| (k_here; k_dflt (refine' sd_set ?F ?N ?U ?d ?z ?_; (case F => k_asm); (case N => k_asm); (case U => k_updF); (case d => k_asm); (case z => first | assumption | omega)); intro h' o' F' N' d'; (try dsimp only at N'); (try k_sweep)))
local macro_rules | `(tactic| walk_at "call builtin:dict.pop") => `(tactic| (k_here; k_dflt (refine' sd_pop ?F ?N ?U ?d ?l ?z ?_; (case F => k_asm); (case N => k_asm); (case U => k_updF); (case d => k_asm); (case l => k_asm); (case z => first | assumption | omega)); intro h' o' v' F' N' d'; (try dsimp only at N'); (try k_sweep)))
local macro_rules | `(tactic| walk_at "call ref") => `(tactic| (k_here; (with_reducible show wpAny _ _ (call (Value.ref 87) _) _ _ _); k_dflt (refine' Spec.use0 (var_name_spec _ _ _ (by assumption)) ?kB ?kF ?kX ?kN ?kT ?kK ?kd ?ku ?_; (case kB => k_asm); (case kF => k_asm); (case kX => k_asm); (case kN => k_asm); (case kT => k_asm); (case kK => exact rfl); (case kd => ktr_room); (case ku => ktr_units)); intro r9 tl9 led9 h9 tk9 F9 N9 P9; refine Exists.elim P9 ?_; clear P9; intro t9 e9; subst e9; (try dsimp only); (try k_sweep); (try k_fold)))
local macro_rules | `(tactic| walk_at "call ref") => `(tactic| (k_here; (with_reducible show wpAny _ _ (call (Value.ref 94) _) _ _ _); k_dflt (refine' Spec.use0 (word_or_spec _ _ _ _ _) ?kB ?kF ?kX ?kN ?kT ?kK ?kd ?ku ?_; (case kB => k_asm); (case kF => k_asm); (case kX => k_asm); (case kN => k_asm); (case kT => k_asm); (case kK => exact rfl); (case kd => ktr_room); (case ku => ktr_units)); intro r9 tl9 led9 h9 tk9 F9 N9 P9; refine Exists.elim P9 ?_; clear P9; intro t9 e9; subst e9; (try dsimp only); (try k_sweep); (try k_fold)))
local macro_rules | `(tactic| walk_at "call builtin:list.append") => `(tactic| (k_here; (with_reducible show wpAny _ _ (call (Value.builtin _) [Value.ref _, _]) _ _ _); k_dflt (refine' append_L ?F ?N ?U ?z ?_; (case F => k_asm); (case N => k_asm); (case U => k_updF); (case z => first | assumption | omega)); intro h' F' N'; (try dsimp only at N'); (try k_sweep)))
local macro_rules | `(tactic| walk_at "call ref") => `(tactic| (k_here; (with_reducible show wpAny _ _ (call (Value.ref 79) _) _ _ _); k_dflt (refine' Spec.use0 ?hS ?kB ?kF ?kX ?kN ?kT ?kK ?kd ?ku ?_; (case hS => assumption); (case kB => k_asm); (case kF => k_asm); (case kX => k_asm); (case kN => k_asm); (case kT => k_asm); (case kK => exact rfl); (case kd => ktr_room); (case ku => ktr_units)); intro r9 tl9 led9 h9 tk9 F9 N9 P9; refine Exists.elim P9 ?_; clear P9; intro t9 e9; subst e9; (try dsimp only); (try k_sweep); (try k_fold)))
local macro_rules | `(tactic| walk_at "call builtin:list.pop") => `(tactic| (k_here; (with_reducible show wpAny _ _ (call (Value.builtin _) [Value.ref _, Value.int 0 _]) _ _ _); k_dflt (refine' pop0_L ?F ?N ?U ?z ?_; (case F => k_asm); (case N => k_asm); (case U => k_updF); (case z => first | assumption | omega)); intro h' F' N'; (try dsimp only at N'); (try k_sweep)))
local macro_rules | `(tactic| walk_at "call builtin:len") => `(tactic| (k_here; (with_reducible show wpAny _ _ (call (Value.builtin "len") [Value.ref _]) _ _ _); k_dflt (refine len_L (by k_asm) (by k_mem) (by first | assumption | omega) ?_)))
local macro_rules | `(tactic| walk_at "execs cons") => `(tactic| (k_here; (with_reducible refine gentoks fun tk => wpAny_execs_cons ?_); (try dsimp only); (try k_fold)))
local macro_rules | `(tactic| walk_at "execs nil") => `(tactic| (k_here; (with_reducible refine gentoks fun tk => wpAny_execs_nil ?_); (try dsimp only)))
section
local macro_rules | `(tactic| walk_at "exec For Tuple Call cons nil") => `(tactic| (k_here; (rename Fr _ _ _ _ => lF'); (with_unfolding_all refine' For_turns lF' ?_; k_whole)))
set_option maxHeartbeats 8000000 in
theorem let_read_spec (w : World) (x dx dR dW : Nat) (es : List DictEntry) (ne : Nat) (oR oW : Obj) (o1 : dx < x) (o2 : x < dR) (o3 : dR < dW) (l1 : (dR == sysModules) = false) (l2 : (dW == sysModules) = false) (a1 : getL (Str.ofString "read_names") es = some (some (.ref dR))) (a2 : getL (Str.ofString "write_names") es = some (some (.ref dW))) (la : Nat) (q y : Str) (tx ty : Tok) (hx : (q == Str.ofString "") = false) (hla : dW < la) (fR fW : Str → Option Value) (n : Nat) (hn : n ≤ 100) (hR : Sd w oR fR n) (hW : Sd w oW fW n) :
    Spec w 101 [.ref x, .ref la] 20 [(la, listOf [.str q tx, .str y ty].toArray 0), (x, instObj 152 dx), (dx, dictOf es ne), (dR, oR), (dW, oW)] (fun r _ u => (∃ t, r = .str (Str.ofString "") t) ∧ ∃ oR oW t, u = [(la, listOf [.str q tx, .str y ty].toArray 0), (x, instObj 152 dx), (dx, dictOf es ne), (dR, oR), (dW, oW)] ∧
      Sd w oR (upd fR q (some (.str (if (y == Str.ofString "") = true then Str.ofString "INPUT" else y) t))) (n + 1) ∧ Sd w oW (upd fW q none) n) := by
  (unfold Spec; intro p loose mean mg mb dp un gd cn cs a9 ccd cl outer A₀ base h₀ L m s Q E B F X N T hk hd hu hret)
  (w_top off; refine wpAny_call ?_; k_dflt (refine' enterR ?k1 ?k2 ?k3 ?k4 ?k5 ?kA ?kF ?kK ?k6 ?k7 ?k8 ?k9 ?kB ?_ ?c2 ?c3 ?c4 ?c5; (case kA => exact rfl); (case kF => exact rfl); (case kK => assumption); (case k1 => k_asm); (case k2 => k_asm); (case k3 => k_asm); (case k4 => k_asm); (case k5 => k_asm); (case k6 => k_is); (case k7 => k_is); (case k8 => ktr_room); (case k9 => exact BindsTo.of_eq rfl); (case c5 => decide); (case kB => exact locs rfl); (case c2 => exact rfl); (case c3 => exact rfl); (case c4 => exact rfl); k_whole; intro g L' h' hg FG' F' N' B' X' T'; (try dsimp only); (try k_fold)))
  k_steps
  (exact Spec.close hret (by k_asm) (Keeps.of_fr hg (by k_asm)) ⟨[], _, ⟨⟨_, rfl⟩, _, _, _, rfl, by assumption, by assumption⟩, by first | k_asm | exact Mine.News.sub (by k_asm) (by kqd_sub), Fresh.nil⟩)
set_option maxHeartbeats 8000000 in
theorem let_write_spec (w : World) (x dx dR dW : Nat) (es : List DictEntry) (ne : Nat) (oR oW : Obj) (o1 : dx < x) (o2 : x < dR) (o3 : dR < dW) (l1 : (dR == sysModules) = false) (l2 : (dW == sysModules) = false) (a1 : getL (Str.ofString "read_names") es = some (some (.ref dR))) (a2 : getL (Str.ofString "write_names") es = some (some (.ref dW))) (la : Nat) (q y : Str) (tx ty : Tok) (hx : (q == Str.ofString "") = false) (hla : dW < la) (fR fW : Str → Option Value) (n : Nat) (hn : n ≤ 100) (hR : Sd w oR fR n) (hW : Sd w oW fW n) :
    Spec w 108 [.ref x, .ref la] 20 [(la, listOf [.str q tx, .str y ty].toArray 0), (x, instObj 152 dx), (dx, dictOf es ne), (dR, oR), (dW, oW)] (fun r _ u => (∃ t, r = .str (Str.ofString "") t) ∧ ∃ oR oW t, u = [(la, listOf [.str q tx, .str y ty].toArray 0), (x, instObj 152 dx), (dx, dictOf es ne), (dR, oR), (dW, oW)] ∧
      Sd w oR (upd fR q none) n ∧ Sd w oW (upd fW q (some (.str (if (y == Str.ofString "") = true then Str.ofString "OUTPUT" else y) t))) (n + 1)) := by
  (unfold Spec; intro p loose mean mg mb dp un gd cn cs a9 ccd cl outer A₀ base h₀ L m s Q E B F X N T hk hd hu hret)
  (w_top off; refine wpAny_call ?_; k_dflt (refine' enterR ?k1 ?k2 ?k3 ?k4 ?k5 ?kA ?kF ?kK ?k6 ?k7 ?k8 ?k9 ?kB ?_ ?c2 ?c3 ?c4 ?c5; (case kA => exact rfl); (case kF => exact rfl); (case kK => assumption); (case k1 => k_asm); (case k2 => k_asm); (case k3 => k_asm); (case k4 => k_asm); (case k5 => k_asm); (case k6 => k_is); (case k7 => k_is); (case k8 => ktr_room); (case k9 => exact BindsTo.of_eq rfl); (case c5 => decide); (case kB => exact locs rfl); (case c2 => exact rfl); (case c3 => exact rfl); (case c4 => exact rfl); k_whole; intro g L' h' hg FG' F' N' B' X' T'; (try dsimp only); (try k_fold)))
  k_steps
  (exact Spec.close hret (by k_asm) (Keeps.of_fr hg (by k_asm)) ⟨[], _, ⟨⟨_, rfl⟩, _, _, _, rfl, by assumption, by assumption⟩, by first | k_asm | exact Mine.News.sub (by k_asm) (by kqd_sub), Fresh.nil⟩)
set_option maxHeartbeats 8000000 in
theorem detach_spec (w : World) (x dx dR dW : Nat) (es : List DictEntry) (ne : Nat) (oR oW : Obj) (o1 : dx < x) (o2 : x < dR) (o3 : dR < dW) (l1 : (dR == sysModules) = false) (l2 : (dW == sysModules) = false) (a1 : getL (Str.ofString "read_names") es = some (some (.ref dR))) (a2 : getL (Str.ofString "write_names") es = some (some (.ref dW))) (la : Nat) (q y : Str) (tx ty : Tok) (hx : (q == Str.ofString "") = false) (hla : dW < la) (fR fW : Str → Option Value) (n : Nat) (hn : n ≤ 100) (hR : Sd w oR fR n) (hW : Sd w oW fW n) :
    Spec w 115 [.ref x, .ref la] 20 [(la, listOf [.str q tx, .str y ty].toArray 0), (x, instObj 152 dx), (dx, dictOf es ne), (dR, oR), (dW, oW)] (fun r _ u => (∃ t, r = .str (Str.ofString "") t) ∧ ∃ oR oW, u = [(la, listOf [.str q tx, .str y ty].toArray 0), (x, instObj 152 dx), (dx, dictOf es ne), (dR, oR), (dW, oW)] ∧
      Sd w oR (upd fR q none) n ∧ Sd w oW (upd fW q none) n) := by
  (unfold Spec; intro p loose mean mg mb dp un gd cn cs a9 ccd cl outer A₀ base h₀ L m s Q E B F X N T hk hd hu hret)
  (w_top off; refine wpAny_call ?_; k_dflt (refine' enterR ?k1 ?k2 ?k3 ?k4 ?k5 ?kA ?kF ?kK ?k6 ?k7 ?k8 ?k9 ?kB ?_ ?c2 ?c3 ?c4 ?c5; (case kA => exact rfl); (case kF => exact rfl); (case kK => assumption); (case k1 => k_asm); (case k2 => k_asm); (case k3 => k_asm); (case k4 => k_asm); (case k5 => k_asm); (case k6 => k_is); (case k7 => k_is); (case k8 => ktr_room); (case k9 => exact BindsTo.of_eq rfl); (case c5 => decide); (case kB => exact locs rfl); (case c2 => exact rfl); (case c3 => exact rfl); (case c4 => exact rfl); k_whole; intro g L' h' hg FG' F' N' B' X' T'; (try dsimp only); (try k_fold)))
  k_steps
  (exact Spec.close hret (by k_asm) (Keeps.of_fr hg (by k_asm)) ⟨[], _, ⟨⟨_, rfl⟩, _, _, rfl, by assumption, by assumption⟩, by first | k_asm | exact Mine.News.sub (by k_asm) (by kqd_sub), Fresh.nil⟩)
end
section
local macro_rules | `(tactic| walk_at "exec For Tuple Call cons nil") => `(tactic| (k_here; (rename Fr _ _ _ _ => lF'); (with_unfolding_all refine' For_turns lF' ?_; k_whole)))
theorem tw_join {M : Model} {A : Around} {E : Value → Shared → Prop} {s : Shared} {Q : Value → Shared → Prop} {y : Str} {t : Tok} (hy : y = Str.ofString "V" ∨ y = Str.ofString "")
    (hV : wpAny M A (call (.builtin "dict.get") [.ref 80, .str (Str.ofString "V") t, .none]) (fun v s' => (∃ tk, v = .str (Str.ofString "VALUE") tk) ∧ s' = { s with toks := s.toks + 1 }) E s)
    (h0 : wpAny M A (call (.builtin "dict.get") [.ref 80, .str (Str.ofString "") t, .none]) (fun v s' => (∃ tk, v = .str (Str.ofString "VALUE") tk) ∧ s' = { s with toks := s.toks + 1 }) E s)
    (k : ∀ tk, Q (.str (Str.ofString "VALUE") tk) { s with toks := s.toks + 1 }) : wpAny M A (call (.builtin "dict.get") [.ref 80, .str y t, .none]) Q E s := by
  rcases hy with rfl | rfl
  · exact wpAny_mono hV (fun v s' ⟨⟨tk, e⟩, e'⟩ => e ▸ e' ▸ k tk) fun _ _ x => x
  · exact wpAny_mono h0 (fun v s' ⟨⟨tk, e⟩, e'⟩ => e ▸ e' ▸ k tk) fun _ _ x => x
theorem same_if (y : Str) : (if (y == Str.ofString "") = true then Str.ofString "" else y) = y := by
  split
  · rename_i h; exact (eq_of_beq h).symm
  · rfl
local macro_rules | `(tactic| walk_at "call builtin:dict.get") => `(tactic| (k_here; (with_reducible show wpAny _ _ (call (Value.builtin "dict.get") [Value.ref 80, Value.str _ _, _]) _ _ _); (try rw [same_if]); refine tw_join (by assumption) ?_ ?_ ?_))
local macro_rules | `(tactic| walk_at "And") => `(tactic| exact ⟨⟨_, rfl⟩, rfl⟩)
set_option maxHeartbeats 8000000 in
theorem let_trace_spec (w : World) (x dx dT : Nat) (es : List DictEntry) (ne : Nat) (oT : Obj) (o1 : dx < x) (o2 : x < dT) (l1 : (dT == sysModules) = false) (a1 : getL (Str.ofString "traced") es = some (some (.ref dT))) (la : Nat) (q y : Str) (tx ty : Tok) (hx : (q == Str.ofString "") = false) (hy : y = Str.ofString "V" ∨ y = Str.ofString "") (hla : dT < la) (fT : Str → Option Value) (n : Nat) (hn : n ≤ 100) (hT : Sd w oT fT n) :
    Spec w 127 [.ref x, .ref la] 20 [(la, listOf [.str q tx, .str y ty].toArray 0), (x, instObj 152 dx), (dx, dictOf es ne), (dT, oT)] (fun r _ u => (∃ t, r = .str (Str.ofString "") t) ∧ ∃ oT t, u = [(x, instObj 152 dx), (dx, dictOf es ne), (dT, oT)] ∧
      Sd w oT (upd fT q (some (.str (Str.ofString "VALUE") t))) (n + 1)) := by
  (unfold Spec; intro p loose mean mg mb dp un gd cn cs a9 ccd cl outer A₀ base h₀ L m s Q E B F X N T hk hd hu hret)
  (w_top off; refine wpAny_call ?_; k_dflt (refine' enterR ?k1 ?k2 ?k3 ?k4 ?k5 ?kA ?kF ?kK ?k6 ?k7 ?k8 ?k9 ?kB ?_ ?c2 ?c3 ?c4 ?c5; (case kA => exact rfl); (case kF => exact rfl); (case kK => assumption); (case k1 => k_asm); (case k2 => k_asm); (case k3 => k_asm); (case k4 => k_asm); (case k5 => k_asm); (case k6 => k_is); (case k7 => k_is); (case k8 => ktr_room); (case k9 => exact BindsTo.of_eq rfl); (case c5 => decide); (case kB => exact locs rfl); (case c2 => exact rfl); (case c3 => exact rfl); (case c4 => exact rfl); k_whole; intro g L' h' hg FG' F' N' B' X' T'; (try dsimp only); (try k_fold)))
  k_steps
  (exact Spec.close hret (by k_asm) (Keeps.of_fr hg (by k_asm)) ⟨[], _, ⟨⟨_, rfl⟩, _, _, rfl, by assumption⟩, by first | k_asm | exact Mine.News.sub (by k_asm) (by kqd_sub), Fresh.nil⟩)
set_option maxHeartbeats 8000000 in
theorem stop_trace_spec (w : World) (x dx dT : Nat) (es : List DictEntry) (ne : Nat) (oT : Obj) (o1 : dx < x) (o2 : x < dT) (l1 : (dT == sysModules) = false) (a1 : getL (Str.ofString "traced") es = some (some (.ref dT))) (la : Nat) (q y : Str) (tx ty : Tok) (hx : (q == Str.ofString "") = false) (hy : y = Str.ofString "V" ∨ y = Str.ofString "") (hla : dT < la) (fT : Str → Option Value) (n : Nat) (hn : n ≤ 100) (hT : Sd w oT fT n) :
    Spec w 134 [.ref x, .ref la] 20 [(la, listOf [.str q tx, .str y ty].toArray 0), (x, instObj 152 dx), (dx, dictOf es ne), (dT, oT)] (fun r _ u => (∃ t, r = .str (Str.ofString "") t) ∧ ∃ oT, u = [(x, instObj 152 dx), (dx, dictOf es ne), (dT, oT)] ∧
      Sd w oT (upd fT q none) n) := by
  (unfold Spec; intro p loose mean mg mb dp un gd cn cs a9 ccd cl outer A₀ base h₀ L m s Q E B F X N T hk hd hu hret)
  (w_top off; refine wpAny_call ?_; k_dflt (refine' enterR ?k1 ?k2 ?k3 ?k4 ?k5 ?kA ?kF ?kK ?k6 ?k7 ?k8 ?k9 ?kB ?_ ?c2 ?c3 ?c4 ?c5; (case kA => exact rfl); (case kF => exact rfl); (case kK => assumption); (case k1 => k_asm); (case k2 => k_asm); (case k3 => k_asm); (case k4 => k_asm); (case k5 => k_asm); (case k6 => k_is); (case k7 => k_is); (case k8 => ktr_room); (case k9 => exact BindsTo.of_eq rfl); (case c5 => decide); (case kB => exact locs rfl); (case c2 => exact rfl); (case c3 => exact rfl); (case c4 => exact rfl); k_whole; intro g L' h' hg FG' F' N' B' X' T'; (try dsimp only); (try k_fold)))
  k_steps
  (exact Spec.close hret (by k_asm) (Keeps.of_fr hg (by k_asm)) ⟨[], _, ⟨⟨_, rfl⟩, _, rfl, by assumption⟩, by first | k_asm | exact Mine.News.sub (by k_asm) (by kqd_sub), Fresh.nil⟩)
end
section
local macro_rules | `(tactic| k_lt $h:ident) => `(tactic| skip)
local macro_rules | `(tactic| k_ne) => `(tactic| (refine neN ?_; (try dsimp only); first | exact Nat.ne_of_gt (lt_led (by assumption) (by k_mem)) | exact Nat.ne_of_lt (lt_led (by assumption) (by k_mem)) | omega))
/-- what a value given leaves in the list of traces -/
inductive TrRel (f : Option Value) (q : Str) (v : Value) (vT : List Value) : Led → List Value → Prop
  | no : f = none → TrRel f q v vT [] vT
  | yes (tv : Value) (tt : Nat) (tk : Tok) : f = some tv → TrRel f q v vT [(tt, tup [tv, .str q tk, v])] (vT ++ [.ref tt])
set_option maxHeartbeats 8000000 in
theorem set_var_spec (w : World) (x dx dS dK lO lT dW dT : Nat) (es : List DictEntry) (ne : Nat) (oS oK oW oT : Obj) (vO vT : List Value) (nO nT : Nat)
    (o1 : dx < x) (o2 : x < dS) (o3 : dS < dK) (o4 : dK < lO) (o5 : lO < lT) (o6 : lT < dW) (o7 : dW < dT)
    (l2 : (dK == sysModules) = false) (l4 : (dW == sysModules) = false) (l5 : (dT == sysModules) = false)
    (a1 : getL (Str.ofString "store") es = some (some (.ref dS))) (a2 : getL (Str.ofString "keywords") es = some (some (.ref dK))) (a3 : getL (Str.ofString "outputs") es = some (some (.ref lO))) (a4 : getL (Str.ofString "traces") es = some (some (.ref lT)))
    (a6 : getL (Str.ofString "write_names") es = some (some (.ref dW))) (a7 : getL (Str.ofString "traced") es = some (some (.ref dT)))
    (q : Str) (tx : Tok) (v : Value) (X : Str) (hv : Spec w 79 [v] 10 [] (fun r _ _ => ∃ t, r = .str X t)) (fS fW fT : Str → Option Value) (n : Nat) (hn : n ≤ 100) (hS : Sd w oS fS n) (hK : Sd w oK (fun _ => none) 0) (hW : Sd w oW fW n) (hT : Sd w oT fT n)
    (hO : vO.length ≤ 1000) (hTr : vT.length ≤ 1000) :
    Spec w 177 [.ref x, .str q tx, v] 20 [(x, instObj 152 dx), (dx, dictOf es ne), (dS, oS), (dK, oK), (lO, listOf vO.toArray nO), (lT, listOf vT.toArray nT), (dW, oW), (dT, oT)] (fun r tl u => r = .none ∧ ∃ oS nO nT t vO' vT', TrRel (fT q) q v vT tl vT' ∧
      vO' = (if (fW q).isSome = true then vO ++ [Value.str X t] else vO) ∧ u = tl ++ [(x, instObj 152 dx), (dx, dictOf es ne), (dS, oS), (dK, oK), (lO, listOf vO'.toArray nO), (lT, listOf vT'.toArray nT), (dW, oW), (dT, oT)] ∧
      Sd w oS (upd fS q (some v)) (n + 1)) := by
  (unfold Spec; intro p loose mean mg mb dp un gd cn cs a9 ccd cl outer A₀ base h₀ L m s Q E B F X N T hk hd hu hret)
  have hw' : (fW q).isSome = true ∨ (fW q).isSome = false := by cases (fW q).isSome <;> simp
  have ht' : (∃ tv, fT q = some tv ∧ (fT q).isSome = true) ∨ (fT q = none ∧ (fT q).isSome = false) := by cases e : fT q with | none => exact .inr ⟨rfl, rfl⟩ | some v => exact .inl ⟨v, rfl, rfl⟩
  rcases hw' with hw | hw <;> rcases ht' with ⟨tv, ht, hti⟩ | ⟨ht, hti⟩ <;> simp only [hw, Bool.false_eq_true, if_true, if_false] at hret
  · (w_top off; refine wpAny_call ?_; k_dflt (refine' enterR ?k1 ?k2 ?k3 ?k4 ?k5 ?kA ?kF ?kK ?k6 ?k7 ?k8 ?k9 ?kB ?_ ?c2 ?c3 ?c4 ?c5; (case kA => exact rfl); (case kF => exact rfl); (case kK => assumption); (case k1 => k_asm); (case k2 => k_asm); (case k3 => k_asm); (case k4 => k_asm); (case k5 => k_asm); (case k6 => k_is); (case k7 => k_is); (case k8 => ktr_room); (case k9 => exact BindsTo.of_eq rfl); (case c5 => decide); (case kB => exact locs rfl); (case c2 => exact rfl); (case c3 => exact rfl); (case c4 => exact rfl); k_whole; intro g L' h' hg FG' F' N' B' X' T'; (try dsimp only); (try k_fold)))
    k_steps
    (exact Spec.close hret (by k_asm) (Keeps.of_fr hg (by k_asm)) ⟨_, _, ⟨rfl, _, _, _, _, _, _, .yes _ _ _ ht, rfl, rfl, by assumption⟩, by first | k_asm | exact Mine.News.sub (by k_asm) (by kqd_sub), Fresh.cons (fr_of hg (by assumption) (by k_mem) (led_lt (by assumption) (by repeat' (first | exact List.forall_mem_nil _ | refine forall_cons ?_ ?_ | exact ⟨_, by k_mem⟩)))) Fresh.nil⟩)
  · (w_top off; refine wpAny_call ?_; k_dflt (refine' enterR ?k1 ?k2 ?k3 ?k4 ?k5 ?kA ?kF ?kK ?k6 ?k7 ?k8 ?k9 ?kB ?_ ?c2 ?c3 ?c4 ?c5; (case kA => exact rfl); (case kF => exact rfl); (case kK => assumption); (case k1 => k_asm); (case k2 => k_asm); (case k3 => k_asm); (case k4 => k_asm); (case k5 => k_asm); (case k6 => k_is); (case k7 => k_is); (case k8 => ktr_room); (case k9 => exact BindsTo.of_eq rfl); (case c5 => decide); (case kB => exact locs rfl); (case c2 => exact rfl); (case c3 => exact rfl); (case c4 => exact rfl); k_whole; intro g L' h' hg FG' F' N' B' X' T'; (try dsimp only); (try k_fold)))
    k_steps
    (exact Spec.close hret (by k_asm) (Keeps.of_fr hg (by k_asm)) ⟨[], _, ⟨rfl, _, _, _, _, _, _, .no ht, rfl, rfl, by assumption⟩, by first | k_asm | exact Mine.News.sub (by k_asm) (by kqd_sub), Fresh.nil⟩)
  · (w_top off; refine wpAny_call ?_; k_dflt (refine' enterR ?k1 ?k2 ?k3 ?k4 ?k5 ?kA ?kF ?kK ?k6 ?k7 ?k8 ?k9 ?kB ?_ ?c2 ?c3 ?c4 ?c5; (case kA => exact rfl); (case kF => exact rfl); (case kK => assumption); (case k1 => k_asm); (case k2 => k_asm); (case k3 => k_asm); (case k4 => k_asm); (case k5 => k_asm); (case k6 => k_is); (case k7 => k_is); (case k8 => ktr_room); (case k9 => exact BindsTo.of_eq rfl); (case c5 => decide); (case kB => exact locs rfl); (case c2 => exact rfl); (case c3 => exact rfl); (case c4 => exact rfl); k_whole; intro g L' h' hg FG' F' N' B' X' T'; (try dsimp only); (try k_fold)))
    k_steps
    (exact Spec.close hret (by k_asm) (Keeps.of_fr hg (by k_asm)) ⟨_, _, ⟨rfl, _, _, _, 0, _, _, .yes _ _ _ ht, rfl, rfl, by assumption⟩, by first | k_asm | exact Mine.News.sub (by k_asm) (by kqd_sub), Fresh.cons (fr_of hg (by assumption) (by k_mem) (led_lt (by assumption) (by repeat' (first | exact List.forall_mem_nil _ | refine forall_cons ?_ ?_ | exact ⟨_, by k_mem⟩)))) Fresh.nil⟩)
  · (w_top off; refine wpAny_call ?_; k_dflt (refine' enterR ?k1 ?k2 ?k3 ?k4 ?k5 ?kA ?kF ?kK ?k6 ?k7 ?k8 ?k9 ?kB ?_ ?c2 ?c3 ?c4 ?c5; (case kA => exact rfl); (case kF => exact rfl); (case kK => assumption); (case k1 => k_asm); (case k2 => k_asm); (case k3 => k_asm); (case k4 => k_asm); (case k5 => k_asm); (case k6 => k_is); (case k7 => k_is); (case k8 => ktr_room); (case k9 => exact BindsTo.of_eq rfl); (case c5 => decide); (case kB => exact locs rfl); (case c2 => exact rfl); (case c3 => exact rfl); (case c4 => exact rfl); k_whole; intro g L' h' hg FG' F' N' B' X' T'; (try dsimp only); (try k_fold)))
    k_steps
    (exact Spec.close hret (by k_asm) (Keeps.of_fr hg (by k_asm)) ⟨[], _, ⟨rfl, _, _, _, 0, _, _, .no ht, rfl, rfl, by assumption⟩, by first | k_asm | exact Mine.News.sub (by k_asm) (by kqd_sub), Fresh.nil⟩)
end
section
local macro_rules | `(tactic| k_lt $h:ident) => `(tactic| skip)
local macro_rules | `(tactic| k_ne) => `(tactic| (refine neN ?_; (try dsimp only); first | exact Nat.ne_of_gt (lt_led (by assumption) (by k_mem)) | exact Nat.ne_of_lt (lt_led (by assumption) (by k_mem)) | omega))
set_option maxHeartbeats 8000000 in
theorem plain_var_spec (w : World) (x dx dS : Nat) (es : List DictEntry) (ne : Nat) (oS : Obj) (l1 : (dS == sysModules) = false)
    (a1 : getL (Str.ofString "store") es = some (some (.ref dS))) (q : Str) (tx : Tok) (fS : Str → Option Value) (n : Nat) (hS : Sd w oS fS n) :
    Spec w 163 [.ref x, .str q tx] 20 [(x, instObj 152 dx), (dx, dictOf es ne), (dS, oS)] (fun r _ u => (∃ t, r = (fS q).getD (.str (Str.ofString "") t)) ∧ u = [(x, instObj 152 dx), (dx, dictOf es ne), (dS, oS)]) := by
  (unfold Spec; intro p loose mean mg mb dp un gd cn cs a9 ccd cl outer A₀ base h₀ L m s Q E B F X N T hk hd hu hret)
  (w_top off; refine wpAny_call ?_; k_dflt (refine' enterR ?k1 ?k2 ?k3 ?k4 ?k5 ?kA ?kF ?kK ?k6 ?k7 ?k8 ?k9 ?kB ?_ ?c2 ?c3 ?c4 ?c5; (case kA => exact rfl); (case kF => exact rfl); (case kK => assumption); (case k1 => k_asm); (case k2 => k_asm); (case k3 => k_asm); (case k4 => k_asm); (case k5 => k_asm); (case k6 => k_is); (case k7 => k_is); (case k8 => ktr_room); (case k9 => exact BindsTo.of_eq rfl); (case c5 => decide); (case kB => exact locs rfl); (case c2 => exact rfl); (case c3 => exact rfl); (case c4 => exact rfl); k_whole; intro g L' h' hg FG' F' N' B' X' T'; (try dsimp only); (try k_fold)))
  k_steps
  (exact Spec.close hret (by k_asm) (Keeps.of_fr hg (by k_asm)) ⟨[], _, ⟨⟨_, rfl⟩, rfl⟩, by first | k_asm | exact Mine.News.sub (by k_asm) (by kqd_sub), Fresh.nil⟩)
set_option maxHeartbeats 8000000 in
theorem told_spec (w : World) (x dx dS dR dW dT : Nat) (es : List DictEntry) (ne : Nat) (oS oR oW oT : Obj) (o1 : dx < x) (o2 : x < dS) (o3 : dS < dR) (o4 : dR < dW) (o5 : dW < dT)
    (l1 : (dS == sysModules) = false) (l3 : (dR == sysModules) = false) (l4 : (dW == sysModules) = false) (l5 : (dT == sysModules) = false)
    (a1 : getL (Str.ofString "store") es = some (some (.ref dS))) (a5 : getL (Str.ofString "read_names") es = some (some (.ref dR))) (a6 : getL (Str.ofString "write_names") es = some (some (.ref dW))) (a7 : getL (Str.ofString "traced") es = some (some (.ref dT)))
    (q : Str) (tx : Tok) (fS fR fW fT : Str → Option Value) (n : Nat) (hS : Sd w oS fS n) (hR : Sd w oR fR n) (hW : Sd w oW fW n) (hT : Sd w oT fT n) :
    Spec w 191 [.ref x, .str q tx] 30 [(x, instObj 152 dx), (dx, dictOf es ne), (dS, oS), (dR, oR), (dW, oW), (dT, oT)] (fun r tl u => ∃ tt t1 t2 t3 t4, r = .ref tt ∧
      tl = [(tt, tup [(fS q).getD (.str (Str.ofString "") t1), (fR q).getD (.str (Str.ofString "") t2), (fW q).getD (.str (Str.ofString "") t3), (fT q).getD (.str (Str.ofString "") t4)])] ∧
      u = tl ++ [(x, instObj 152 dx), (dx, dictOf es ne), (dS, oS), (dR, oR), (dW, oW), (dT, oT)]) := by
  (unfold Spec; intro p loose mean mg mb dp un gd cn cs a9 ccd cl outer A₀ base h₀ L m s Q E B F X N T hk hd hu hret)
  (w_top off; refine wpAny_call ?_; k_dflt (refine' enterR ?k1 ?k2 ?k3 ?k4 ?k5 ?kA ?kF ?kK ?k6 ?k7 ?k8 ?k9 ?kB ?_ ?c2 ?c3 ?c4 ?c5; (case kA => exact rfl); (case kF => exact rfl); (case kK => assumption); (case k1 => k_asm); (case k2 => k_asm); (case k3 => k_asm); (case k4 => k_asm); (case k5 => k_asm); (case k6 => k_is); (case k7 => k_is); (case k8 => ktr_room); (case k9 => exact BindsTo.of_eq rfl); (case c5 => decide); (case kB => exact locs rfl); (case c2 => exact rfl); (case c3 => exact rfl); (case c4 => exact rfl); k_whole; intro g L' h' hg FG' F' N' B' X' T'; (try dsimp only); (try k_fold)))
  k_steps
  (exact Spec.close hret (by k_asm) (Keeps.of_fr hg (by k_asm)) ⟨_, _, ⟨_, _, _, _, _, rfl, rfl, rfl⟩, by first | k_asm | exact Mine.News.sub (by k_asm) (by kqd_sub), Fresh.cons (fr_of hg (by assumption) (by k_mem) (led_lt (by assumption) (by repeat' (first | exact List.forall_mem_nil _ | refine forall_cons ?_ ?_ | exact ⟨_, by k_mem⟩)))) Fresh.nil⟩)
set_option maxHeartbeats 8000000 in
theorem get_var_spec (w : World) (x dx dS dK dR lI : Nat) (es : List DictEntry) (ne : Nat) (oS oK oR : Obj) (vI : List Value) (nI : Nat) (o1 : dx < x) (o2 : x < dS) (o3 : dS < dK) (o4 : dK < dR) (o5 : dR < lI)
    (l1 : (dS == sysModules) = false) (l2 : (dK == sysModules) = false) (l3 : (dR == sysModules) = false)
    (a1 : getL (Str.ofString "store") es = some (some (.ref dS))) (a2 : getL (Str.ofString "keywords") es = some (some (.ref dK))) (a5 : getL (Str.ofString "read_names") es = some (some (.ref dR))) (a8 : getL (Str.ofString "inputs") es = some (some (.ref lI)))
    (q : Str) (tx : Tok) (fS fR : Str → Option Value) (n : Nat) (hn : n ≤ 100) (hS : Sd w oS fS n) (hK : Sd w oK (fun _ => none) 0) (hR : Sd w oR fR n) (hI : vI.length ≤ 1000) :
    Spec w 170 [.ref x, .str q tx] 30 [(x, instObj 152 dx), (dx, dictOf es ne), (dS, oS), (dK, oK), (dR, oR), (lI, listOf vI.toArray nI)] (fun r _ u => ∃ oS nI vI' fS', u = [(x, instObj 152 dx), (dx, dictOf es ne), (dS, oS), (dK, oK), (dR, oR), (lI, listOf vI'.toArray nI)] ∧ Sd w oS fS' (n + 1) ∧
      (((fR q).isSome = false ∧ (∃ t, r = (fS q).getD (.str (Str.ofString "") t)) ∧ fS' = fS ∧ vI' = vI) ∨ ((fR q).isSome = true ∧ vI = [] ∧ r = .none ∧ fS' = fS ∧ vI' = vI) ∨
        ((fR q).isSome = true ∧ vI = r :: vI' ∧ fS' = upd fS q (some r)))) := by
  (unfold Spec; intro p loose mean mg mb dp un gd cn cs a9 ccd cl outer A₀ base h₀ L m s Q E B F X N T hk hd hu hret)
  have hr' : (fR q).isSome = true ∨ (fR q).isSome = false := by cases (fR q).isSome <;> simp
  rcases hr' with hr | hr
  · cases vI with
    | nil =>
      (w_top off; refine wpAny_call ?_; k_dflt (refine' enterR ?k1 ?k2 ?k3 ?k4 ?k5 ?kA ?kF ?kK ?k6 ?k7 ?k8 ?k9 ?kB ?_ ?c2 ?c3 ?c4 ?c5; (case kA => exact rfl); (case kF => exact rfl); (case kK => assumption); (case k1 => k_asm); (case k2 => k_asm); (case k3 => k_asm); (case k4 => k_asm); (case k5 => k_asm); (case k6 => k_is); (case k7 => k_is); (case k8 => ktr_room); (case k9 => exact BindsTo.of_eq rfl); (case c5 => decide); (case kB => exact locs rfl); (case c2 => exact rfl); (case c3 => exact rfl); (case c4 => exact rfl); k_whole; intro g L' h' hg FG' F' N' B' X' T'; (try dsimp only); (try k_fold)))
      k_steps
      (exact Spec.close hret (by k_asm) (Keeps.of_fr hg (by k_asm)) ⟨[], _, ⟨_, _, _, _, rfl, Sd.mono hS, .inr (.inl ⟨hr, rfl, rfl, rfl, rfl⟩)⟩, by first | k_asm | exact Mine.News.sub (by k_asm) (by kqd_sub), Fresh.nil⟩)
    | cons v vs =>
      have hI' : vs.length ≤ 999 := by simpa using hI
      (w_top off; refine wpAny_call ?_; k_dflt (refine' enterR ?k1 ?k2 ?k3 ?k4 ?k5 ?kA ?kF ?kK ?k6 ?k7 ?k8 ?k9 ?kB ?_ ?c2 ?c3 ?c4 ?c5; (case kA => exact rfl); (case kF => exact rfl); (case kK => assumption); (case k1 => k_asm); (case k2 => k_asm); (case k3 => k_asm); (case k4 => k_asm); (case k5 => k_asm); (case k6 => k_is); (case k7 => k_is); (case k8 => ktr_room); (case k9 => exact BindsTo.of_eq rfl); (case c5 => decide); (case kB => exact locs rfl); (case c2 => exact rfl); (case c3 => exact rfl); (case c4 => exact rfl); k_whole; intro g L' h' hg FG' F' N' B' X' T'; (try dsimp only); (try k_fold)))
      k_steps
      · exfalso
        have hz : (((v :: vs).length : Nat) : Int) = 0 := by assumption
        simp only [List.length_cons] at hz
        omega
      · (exact Spec.close hret (by k_asm) (Keeps.of_fr hg (by k_asm)) ⟨[], _, ⟨_, _, _, _, rfl, by assumption, .inr (.inr ⟨hr, rfl, rfl⟩)⟩, by first | k_asm | exact Mine.News.sub (by k_asm) (by kqd_sub), Fresh.nil⟩)
  · (w_top off; refine wpAny_call ?_; k_dflt (refine' enterR ?k1 ?k2 ?k3 ?k4 ?k5 ?kA ?kF ?kK ?k6 ?k7 ?k8 ?k9 ?kB ?_ ?c2 ?c3 ?c4 ?c5; (case kA => exact rfl); (case kF => exact rfl); (case kK => assumption); (case k1 => k_asm); (case k2 => k_asm); (case k3 => k_asm); (case k4 => k_asm); (case k5 => k_asm); (case k6 => k_is); (case k7 => k_is); (case k8 => ktr_room); (case k9 => exact BindsTo.of_eq rfl); (case c5 => decide); (case kB => exact locs rfl); (case c2 => exact rfl); (case c3 => exact rfl); (case c4 => exact rfl); k_whole; intro g L' h' hg FG' F' N' B' X' T'; (try dsimp only); (try k_fold)))
    k_steps
    (exact Spec.close hret (by k_asm) (Keeps.of_fr hg (by k_asm)) ⟨[], _, ⟨_, _, _, _, rfl, Sd.mono hS, .inl ⟨hr, ⟨_, rfl⟩, rfl, rfl⟩⟩, by first | k_asm | exact Mine.News.sub (by k_asm) (by kqd_sub), Fresh.nil⟩)
end
section
local macro_rules | `(tactic| k_lt $h:ident) => `(tactic| skip)
local macro_rules | `(tactic| k_ne) => `(tactic| (refine neN ?_; (try dsimp only); first | exact Nat.ne_of_gt (lt_led (by assumption) (by k_mem)) | exact Nat.ne_of_lt (lt_led (by assumption) (by k_mem)) | omega))
theorem nmem_of {a : Addr} {l : List Addr} (h : ∀ b ∈ l, @Ne Nat a b) : a ∉ l := fun q => h a q rfl
/-- a world's places in their order -/
def adr (a : WA) : Nat → Nat
  | 0 => a.dx | 1 => a.x | 2 => a.dS | 3 => a.dK | 4 => a.lO | 5 => a.lT | 6 => a.dR | 7 => a.dW | 8 => a.dT | _ => a.lI
theorem adr_lt {a : WA} (ok : a.Ok) {i j : Nat} (h : i < j) (hj : j ≤ 9) : adr a i < adr a j := by
  have step : ∀ i, i < 9 → adr a i < adr a (i + 1) := by
    intro i hi
    have : i = 0 ∨ i = 1 ∨ i = 2 ∨ i = 3 ∨ i = 4 ∨ i = 5 ∨ i = 6 ∨ i = 7 ∨ i = 8 := by omega
    rcases this with rfl | rfl | rfl | rfl | rfl | rfl | rfl | rfl | rfl
    · exact ok.o1
    · exact ok.o2
    · exact ok.o3
    · exact ok.o4
    · exact ok.o5
    · exact ok.o6
    · exact ok.o7
    · exact ok.o8
    · exact ok.o9
  induction j with
  | zero => omega
  | succ j ih =>
    by_cases e : i = j
    · subst e; exact step i (by omega)
    · exact Nat.lt_trans (ih (by omega) (by omega)) (step j (by omega))
theorem adr_nmem {a : WA} (ok : a.Ok) {i : Nat} {js : List Nat} (h : (decide (i ≤ 9) && js.all fun j => decide (j ≤ 9) && (j != i)) = true) : adr a i ∉ js.map (adr a) := by
  intro q
  obtain ⟨j, hj, e⟩ := List.mem_map.mp q
  simp only [Bool.and_eq_true, decide_eq_true_eq, List.all_eq_true, bne_iff_ne, ne_eq] at h
  obtain ⟨h1, h2⟩ := h
  have h3 := h2 j hj
  rcases Nat.lt_or_gt_of_ne h3.2 with c | c
  · have := adr_lt ok c h1; omega
  · have := adr_lt ok c h3.1; omega
theorem adr_nmem2 {a : WA} (ok : a.Ok) {i la : Nat} {js : List Nat} (h : (decide (i ≤ 9) && js.all fun j => decide (j ≤ 9) && (j != i)) = true) (hl : adr a 9 < la) : adr a i ∉ la :: js.map (adr a) := by
  intro q
  rcases List.mem_cons.mp q with e | q
  · simp only [Bool.and_eq_true, decide_eq_true_eq] at h
    rcases Nat.lt_or_eq_of_le h.1 with c | c
    · have := adr_lt ok c (Nat.le_refl 9); omega
    · rw [c] at e; omega
  · exact adr_nmem ok h q
theorem News.join {h₀ h h' : Heap} {L : Addr} {big small led tgt : Led} (N0 : News h₀ L h big) (K : Keeps h h' small) (N9 : News h₀ L h' led) (ht : ∀ p ∈ tgt, p ∈ led ∨ (p ∈ big ∧ p.1 ∉ small.map (·.1))) : News h₀ L h' tgt := fun p hp =>
  (ht p hp).elim (fun q => N9 p q) fun ⟨q, r⟩ => ⟨K _ _ (N0 p q).1 r, (N0 p q).2.1, (N0 p q).2.2⟩
theorem sub_addr {n big : Led} (h : ∀ p ∈ n, p ∈ big) : ∀ b ∈ n.map (·.1), b ∈ big.map (·.1) := fun b hb => by
  obtain ⟨p, hp, rfl⟩ := List.mem_map.mp hb
  exact List.mem_map_of_mem (h p hp)
theorem fresh_up {hs g h : Heap} {L : Addr} {m : Str → Option Value} {news big tl : Led} (k : Keeps hs g news) (F : Fr g L h m) (N0 : News g L h big) (hsub : ∀ b ∈ news.map (·.1), b ∈ big.map (·.1)) (H : Fresh h tl) : Fresh hs tl := fun p hp => by
  cases e : hs.get? p.1 with
  | none => rfl
  | some o =>
    exfalso
    by_cases hb : p.1 ∈ news.map (·.1)
    · obtain ⟨q, hq, eq⟩ := List.mem_map.mp (hsub _ hb)
      have h1 := (N0 q hq).1
      rw [eq, H p hp] at h1; cases h1
    · have h1 := F.keep _ _ (k _ _ e hb)
      rw [H p hp] at h1; cases h1
theorem pick_L {w : World} {A : Around} {E : Value → Shared → Prop} {s : Shared} {h₀ : Heap} {L d : Addr} {news : Led} {n : Nat} {vs : List Value} {value slice : PySem.Expr} {i : Int} {t : Tok} {Q : Value → Shared → Prop}
    (N : News h₀ L s.heap news) (hp : (d, listOf vs.toArray n) ∈ news) (h0 : 0 ≤ i) (h1 : i < vs.length) (h2 : vs.length ≤ 100000) (h : ∀ v0, vs[i.toNat]? = some v0 → Q v0 s)
    (hs : subscripted slice false (.ref d) (.int i t) = operate [.ref d, .int i t] (getItem (.ref d) (.int i t)) := by with_unfolding_all rfl) : wpAny (model Pg w) A (subscriptTail value slice (.ref d) (.int i t)) Q E s := by
  have hl : s.heap.IsList d vs.toArray := News.isList N hp
  have hlt : i.toNat < vs.length := by omega
  have hx : vs[i.toNat]? = some (vs[i.toNat]'hlt) := List.getElem?_eq_getElem hlt
  exact tail_any hl.typeIs slot_list_getitem.lookup (wpAny_getItem_list hl h0 (by omega) (by simpa using hx) (h _ hx)) hs
theorem fm_lo (a : Int) {b : Int} (hb : 0 < b) : 0 ≤ a.fmod b := Int.fmod_nonneg_of_pos a hb
theorem fm_hi (a : Int) {b : Int} (hb : 0 < b) : a.fmod b < b := Int.fmod_lt_of_pos a hb
theorem menu5 (w : World) {t1 t2 t3 t4 t5 : Tok} {i : Int} {v0 : Value} (h0 : 0 ≤ i) (h1 : i < 5) (h : ([.str (Str.ofString "") t1, .str (Str.ofString "one") t2, .int 7 t3, .int 0 t4, .int (-30) t5] : List Value)[i.toNat]? = some v0) :
    Spec w 79 [v0] 10 [] (fun r _ _ => ∃ t, r = .str (menuX i) t) ∧ DatIn [] v0 (menuD i) := by
  have : i = 0 ∨ i = 1 ∨ i = 2 ∨ i = 3 ∨ i = 4 := by omega
  rcases this with rfl | rfl | rfl | rfl | rfl <;> cases h
  · exact ⟨need_str w _ _, .str _ _⟩
  · exact ⟨need_str w _ _, .str _ _⟩
  · exact ⟨need_7 w _, .int _ _⟩
  · exact ⟨need_0 w _, .int _ _⟩
  · exact ⟨need_m30 w _, .int _ _⟩
theorem menu2 {x y : Str} {t1 t2 : Tok} {i : Int} {v0 : Value} (h0 : 0 ≤ i) (h1 : i < 2) (h : ([.str x t1, .str y t2] : List Value)[i.toNat]? = some v0) : ∃ t, v0 = .str (if i = 0 then x else y) t := by
  have : i = 0 ∨ i = 1 := by omega
  rcases this with rfl | rfl <;> cases h
  · exact ⟨t1, rfl⟩
  · exact ⟨t2, rfl⟩
theorem din_up {v : Value} {d : Dat} {n : Led} (h : DatIn [] v d) : DatIn n v d := DatIn.mono (news := []) (fun p hp => absurd hp List.not_mem_nil) h
theorem dall_up {v : List Value} {d : List Dat} {n : Led} (h : DatAll [] v d) : DatAll n v d := DatAll.mono (news := []) (fun p hp => absurd hp List.not_mem_nil) h
theorem TrRel.data {f : Option Value} {q : Str} {v : Value} {vT vT' : List Value} {tl : Led} {F : Option Dat} {d : Dat} (h : TrRel f q v vT tl vT') (k : OptIn f F) (hv : DatIn [] v d) : ∃ vs, vT' = vT ++ vs ∧ DatAll tl vs (traceOf F q d) := by
  cases h with
  | no e =>
    subst e; cases k
    exact ⟨[], by simp, .nil⟩
  | yes tv tt tk e =>
    subst e; cases k with
    | some hd => exact ⟨_, rfl, .cons (.tuple (.head _) (.cons (din_up hd) (.cons (.str _ _) (.cons (din_up hv) .nil)))) .nil⟩
theorem outs_data {F : Option Dat} {g : Option Value} {vO vO' : List Value} {X : Str} {t : Tok} (k : OptIn g F) (h : vO' = if g.isSome = true then vO ++ [.str X t] else vO) :
    ∃ vs, vO' = vO ++ vs ∧ DatAll [] vs (if F.isSome = true then [.str X] else []) := by
  cases k with
  | none => exact ⟨[], by simpa using h, .nil⟩
  | some hd => exact ⟨[.str X t], by simpa using h, .cons (.str _ _) .nil⟩
theorem wordD (i : Int) (u : Str) (d : Str) (hd : (d == Str.ofString "") = false) (t : Tok) : DatIn [] (.str (if ((if i = 0 then Str.ofString "" else d) == Str.ofString "") = true then u else (if i = 0 then Str.ofString "" else d)) t) (if i = 0 then .str u else .str d) := by
  by_cases h : i = 0
  · simp only [h, if_true, beq_self_eq_true]; exact .str _ _
  · simp only [h, if_false, hd, Bool.false_eq_true]; exact .str _ _
theorem trV (i : Int) : (if i = 0 then Str.ofString "V" else Str.ofString "") = Str.ofString "V" ∨ (if i = 0 then Str.ofString "V" else Str.ofString "") = Str.ofString "" := by
  split
  · exact .inl rfl
  · exact .inr rfl
/-- _law_done, one kind of deed -/
def DoneSpec (w : World) (k : Int) : Prop := ∀ (a : WA) (o : WO) (_ : a.Ok) (_ : WAttr a o.es) (q : Str) (tx tk tv : Tok) (_ : (q == Str.ofString "") = false) (v : Int) (s0 : DS) (n : Nat) (_ : n ≤ 100) (_ : Holds w o s0 n) (_ : o.vO.length ≤ 900) (_ : o.vT.length ≤ 900) (_ : o.vI.length ≤ 900),
  Spec w 184 [.ref a.x, .str q tx, .int k tk, .int v tv] 60 (WL a o) (fun r tl u => ∃ o', u = tl ++ WL a o' ∧ Holds w o' (doneD s0 q k v).st (n + 1) ∧ DatIn [] r (doneD s0 q k v).heard ∧ Grown tl o o' (doneD s0 q k v).outs (doneD s0 q k v).trs)
set_option maxHeartbeats 8000000 in
theorem done0 (w : World) : DoneSpec w 0 := by
  unfold DoneSpec
  intro a o ok at_ q tx tk tv hq v s0 n hn H hO hTr hI0
  (unfold Spec; intro p loose mean mg mb dp un gd cn cs a9 ccd cl outer A₀ base h₀ L m s Q E B F X N T hk hd hu hret)
  obtain ⟨a1, a2, a3, a4, a5, a6, a7, a8⟩ := at_
  have ok9 := ok
  obtain ⟨o1, o2, o3, o4, o5, o6, o7, o8, o9, l1, l2, l3, l4, l5⟩ := ok
  obtain ⟨⟨gS, hS, kS⟩, hK, ⟨gR, hR, kR⟩, ⟨gW, hW, kW⟩, ⟨gT, hT, kT⟩, hI⟩ := H
  dsimp only [WL] at N
  (w_top off; refine wpAny_call ?_; k_dflt (refine' enterR ?k1 ?k2 ?k3 ?k4 ?k5 ?kA ?kF ?kK ?k6 ?k7 ?k8 ?k9 ?kB ?_ ?c2 ?c3 ?c4 ?c5; (case kA => exact rfl); (case kF => exact rfl); (case kK => assumption); (case k1 => k_asm); (case k2 => k_asm); (case k3 => k_asm); (case k4 => k_asm); (case k5 => k_asm); (case k6 => k_is); (case k7 => k_is); (case k8 => ktr_room); (case k9 => exact BindsTo.of_eq rfl); (case c5 => decide); (case kB => exact locs rfl); (case c2 => exact rfl); (case c3 => exact rfl); (case c4 => exact rfl); k_whole; intro g L' h' hg FG' F' N' B' X' T'; (try dsimp only); (try k_fold)))
  (repeat' ((fail_if_success (with_reducible show wpAny _ _ (subscriptTail _ _ (Value.ref _) (Value.int (Int.fmod _ _) _)) _ _ _)); first | (k_unfold; (try dsimp only)) | (k_end; wrow_close) | walk1 | (dsimp only; walk1) | (leave1; walk_say "STEP leave1"; try dsimp only) | fail "no step"))
  k_dflt (refine pick_L (vs := [_, _, _, _, _]) (by k_asm) (by k_mem) (fm_lo _ (by decide)) (by show _ < (5 : Int); exact fm_hi _ (by decide)) (by show 5 ≤ 100000; decide) ?_)
  intro v0 hv0
  obtain ⟨hv, dv⟩ := menu5 w (fm_lo _ (by decide)) (fm_hi _ (by decide)) hv0
  (repeat' ((fail_if_success (with_reducible show wpAny _ _ (call (Value.ref 177) _) _ _ _)); first | (k_unfold; (try dsimp only)) | (k_end; wrow_close) | walk1 | (dsimp only; walk1) | (leave1; walk_say "STEP leave1"; try dsimp only) | fail "no step"))
  rename News _ _ _ _ => N0
  rename Fr _ _ _ _ => F0
  (k_dflt (refine' Spec.use (set_var_spec w a.x a.dx a.dS a.dK a.lO a.lT a.dW a.dT o.es o.ne o.oS o.oK o.oW o.oT o.vO o.vT o.nO o.nT o1 o2 o3 o4 o5 (adr_lt ok9 (i := 5) (j := 7) (by decide) (by decide)) o8 l2 l4 l5 a1 a2 a3 a4 a6 a7 q tx v0 _ hv gS gW gT n hn hS hK hW hT (Nat.le_trans hO (by decide)) (Nat.le_trans hTr (by decide))) ?kB ?kF ?kX ?kN ?kT ?kK ?kd ?ku ?_; (case kB => k_asm); (case kF => k_asm); (case kX => k_asm); (case kN => first | k_asm | exact Mine.News.sub (by k_asm) (by kqd_sub)); (case kT => k_asm); (case kK => exact rfl); (case kd => ktr_room); (case ku => ktr_units)); intro r9 tl9 led9 h9 tk9 F9 N9 K9 H9 P9)
  obtain ⟨rfl, oS, nO, nT, t, vO', vT', hTR, hvO, rfl, hS'⟩ := P9
  (have N10 := Mine.News.join N0 K9 N9 (tgt := (tl9 ++ WL a { o with oS := oS, nO := nO, nT := nT, vO := vO', vT := vT' })) (by repeat' (first | exact List.forall_mem_nil _ | (refine List.forall_mem_append.mpr ⟨fun p hp => Or.inl (List.mem_append.mpr (Or.inl hp)), ?_⟩) | (refine forall_cons ?_ ?_) | (exact Or.inl (by first | k_mem | exact List.mem_append.mpr (Or.inr (by k_mem)))) | (exact Or.inr ⟨by k_mem, by first | exact adr_nmem ok9 (i := 0) (js := [1, 0, 2, 3, 4, 5, 7, 8]) (by decide) | exact adr_nmem ok9 (i := 1) (js := [1, 0, 2, 3, 4, 5, 7, 8]) (by decide) | exact adr_nmem ok9 (i := 2) (js := [1, 0, 2, 3, 4, 5, 7, 8]) (by decide) | exact adr_nmem ok9 (i := 3) (js := [1, 0, 2, 3, 4, 5, 7, 8]) (by decide) | exact adr_nmem ok9 (i := 4) (js := [1, 0, 2, 3, 4, 5, 7, 8]) (by decide) | exact adr_nmem ok9 (i := 5) (js := [1, 0, 2, 3, 4, 5, 7, 8]) (by decide) | exact adr_nmem ok9 (i := 6) (js := [1, 0, 2, 3, 4, 5, 7, 8]) (by decide) | exact adr_nmem ok9 (i := 7) (js := [1, 0, 2, 3, 4, 5, 7, 8]) (by decide) | exact adr_nmem ok9 (i := 8) (js := [1, 0, 2, 3, 4, 5, 7, 8]) (by decide) | exact adr_nmem ok9 (i := 9) (js := [1, 0, 2, 3, 4, 5, 7, 8]) (by decide)⟩))); clear N9)
  k_steps
  simp only [doneD, Int.reduceEq, reduceIte] at hret
  (exact Spec.close hret (by k_asm) (Keeps.of_fr hg (by k_asm)) ⟨tl9, _, ⟨{ o with oS := oS, nO := nO, nT := nT, vO := vO', vT := vT' }, rfl, ⟨Dd.put hS' kS (.some dv), hK, ⟨gR, hR.mono, kR⟩, ⟨gW, hW.mono, kW⟩, ⟨gT, hT.mono, kT⟩, hI⟩, .str _ _, ⟨rfl, rfl, outs_data (kW q) hvO, TrRel.data hTR (kT q) dv⟩⟩, by first | k_asm | exact Mine.News.sub (by k_asm) (by kqd_sub), fresh_up hg F0 N0 (sub_addr (by kqd_sub)) H9⟩)
set_option maxHeartbeats 8000000 in
theorem done1 (w : World) : DoneSpec w 1 := by
  unfold DoneSpec
  intro a o ok at_ q tx tk tv hq v s0 n hn H hO hTr hI0
  (unfold Spec; intro p loose mean mg mb dp un gd cn cs a9 ccd cl outer A₀ base h₀ L m s Q E B F X N T hk hd hu hret)
  obtain ⟨a1, a2, a3, a4, a5, a6, a7, a8⟩ := at_
  have ok9 := ok
  obtain ⟨o1, o2, o3, o4, o5, o6, o7, o8, o9, l1, l2, l3, l4, l5⟩ := ok
  obtain ⟨⟨gS, hS, kS⟩, hK, ⟨gR, hR, kR⟩, ⟨gW, hW, kW⟩, ⟨gT, hT, kT⟩, hI⟩ := H
  dsimp only [WL] at N
  (w_top off; refine wpAny_call ?_; k_dflt (refine' enterR ?k1 ?k2 ?k3 ?k4 ?k5 ?kA ?kF ?kK ?k6 ?k7 ?k8 ?k9 ?kB ?_ ?c2 ?c3 ?c4 ?c5; (case kA => exact rfl); (case kF => exact rfl); (case kK => assumption); (case k1 => k_asm); (case k2 => k_asm); (case k3 => k_asm); (case k4 => k_asm); (case k5 => k_asm); (case k6 => k_is); (case k7 => k_is); (case k8 => ktr_room); (case k9 => exact BindsTo.of_eq rfl); (case c5 => decide); (case kB => exact locs rfl); (case c2 => exact rfl); (case c3 => exact rfl); (case c4 => exact rfl); k_whole; intro g L' h' hg FG' F' N' B' X' T'; (try dsimp only); (try k_fold)))
  (repeat' ((fail_if_success (with_reducible show wpAny _ _ (call (Value.ref 170) _) _ _ _)); first | (k_unfold; (try dsimp only)) | (k_end; wrow_close) | walk1 | (dsimp only; walk1) | (leave1; walk_say "STEP leave1"; try dsimp only) | fail "no step"))
  rename News _ _ _ _ => N0
  rename Fr _ _ _ _ => F0
  (k_dflt (refine' Spec.use (get_var_spec w a.x a.dx a.dS a.dK a.dR a.lI o.es o.ne o.oS o.oK o.oR o.vI o.nI o1 o2 o3 (adr_lt ok9 (i := 3) (j := 6) (by decide) (by decide)) (adr_lt ok9 (i := 6) (j := 9) (by decide) (by decide)) l1 l2 l3 a1 a2 a5 a8 q tx gS gR n hn hS hK hR (Nat.le_trans hI0 (by decide))) ?kB ?kF ?kX ?kN ?kT ?kK ?kd ?ku ?_; (case kB => k_asm); (case kF => k_asm); (case kX => k_asm); (case kN => first | k_asm | exact Mine.News.sub (by k_asm) (by kqd_sub)); (case kT => k_asm); (case kK => exact rfl); (case kd => ktr_room); (case ku => ktr_units)); intro r9 tl9 led9 h9 tk9 F9 N9 K9 H9 P9)
  obtain ⟨oS, nI, vI', gS', rfl, hS', hc⟩ := P9
  (have N10 := Mine.News.join N0 K9 N9 (tgt := (WL a { o with oS := oS, nI := nI, vI := vI' })) (by repeat' (first | exact List.forall_mem_nil _ | (refine List.forall_mem_append.mpr ⟨fun p hp => Or.inl (List.mem_append.mpr (Or.inl hp)), ?_⟩) | (refine forall_cons ?_ ?_) | (exact Or.inl (by first | k_mem | exact List.mem_append.mpr (Or.inr (by k_mem)))) | (exact Or.inr ⟨by k_mem, by first | exact adr_nmem ok9 (i := 0) (js := [1, 0, 2, 3, 6, 9]) (by decide) | exact adr_nmem ok9 (i := 1) (js := [1, 0, 2, 3, 6, 9]) (by decide) | exact adr_nmem ok9 (i := 2) (js := [1, 0, 2, 3, 6, 9]) (by decide) | exact adr_nmem ok9 (i := 3) (js := [1, 0, 2, 3, 6, 9]) (by decide) | exact adr_nmem ok9 (i := 4) (js := [1, 0, 2, 3, 6, 9]) (by decide) | exact adr_nmem ok9 (i := 5) (js := [1, 0, 2, 3, 6, 9]) (by decide) | exact adr_nmem ok9 (i := 6) (js := [1, 0, 2, 3, 6, 9]) (by decide) | exact adr_nmem ok9 (i := 7) (js := [1, 0, 2, 3, 6, 9]) (by decide) | exact adr_nmem ok9 (i := 8) (js := [1, 0, 2, 3, 6, 9]) (by decide) | exact adr_nmem ok9 (i := 9) (js := [1, 0, 2, 3, 6, 9]) (by decide)⟩))); clear N9)
  k_steps
  simp only [doneD, Int.reduceEq, reduceIte] at hret
  have er := (kR q).isSome
  rcases hc with ⟨h1, ⟨t, rfl⟩, rfl, rfl⟩ | ⟨h1, h2, rfl, rfl, rfl⟩ | ⟨h1, h2, rfl⟩
  · rw [er] at h1
    simp only [h1, Bool.false_eq_true, if_false] at hret
    (exact Spec.close hret (by k_asm) (Keeps.of_fr hg (by k_asm)) ⟨[], _, ⟨{ o with oS := oS, nI := nI, vI := o.vI }, rfl, ⟨⟨_, hS', kS⟩, hK, ⟨gR, hR.mono, kR⟩, ⟨gW, hW.mono, kW⟩, ⟨gT, hT.mono, kT⟩, hI⟩, (kS q).getD (.str _ _), ⟨rfl, rfl, ⟨[], by simp, .nil⟩, ⟨[], by simp, .nil⟩⟩⟩, by first | k_asm | exact Mine.News.sub (by k_asm) (by kqd_sub), Fresh.nil⟩)
  · rw [er] at h1
    have hI' := hI
    rw [h2] at hI'
    have e0 : s0.I = [] := by
      generalize s0.I = J at hI'
      cases hI'; rfl
    simp only [h1, if_true, e0] at hret
    (exact Spec.close hret (by k_asm) (Keeps.of_fr hg (by k_asm)) ⟨[], _, ⟨{ o with oS := oS, nI := nI, vI := o.vI }, rfl, ⟨⟨_, hS', kS⟩, hK, ⟨gR, hR.mono, kR⟩, ⟨gW, hW.mono, kW⟩, ⟨gT, hT.mono, kT⟩, hI⟩, .none, ⟨rfl, rfl, ⟨[], by simp, .nil⟩, ⟨[], by simp, .nil⟩⟩⟩, by first | k_asm | exact Mine.News.sub (by k_asm) (by kqd_sub), Fresh.nil⟩)
  · rw [er] at h1
    have hI' := hI
    rw [h2] at hI'
    obtain ⟨d, I', e0, hd', hI2⟩ : ∃ d I', s0.I = d :: I' ∧ DatIn [] r9 d ∧ DatAll [] vI' I' := by
      generalize s0.I = J at hI'
      cases hI' with
      | cons x y => exact ⟨_, _, rfl, x, y⟩
    simp only [h1, if_true, e0] at hret
    (exact Spec.close hret (by k_asm) (Keeps.of_fr hg (by k_asm)) ⟨[], _, ⟨{ o with oS := oS, nI := nI, vI := vI' }, rfl, ⟨Dd.put hS' kS (.some hd'), hK, ⟨gR, hR.mono, kR⟩, ⟨gW, hW.mono, kW⟩, ⟨gT, hT.mono, kT⟩, hI2⟩, hd', ⟨rfl, rfl, ⟨[], by simp, .nil⟩, ⟨[], by simp, .nil⟩⟩⟩, by first | k_asm | exact Mine.News.sub (by k_asm) (by kqd_sub), Fresh.nil⟩)
set_option maxHeartbeats 8000000 in
theorem done2 (w : World) : DoneSpec w 2 := by
  unfold DoneSpec
  intro a o ok at_ q tx tk tv hq v s0 n hn H hO hTr hI0
  (unfold Spec; intro p loose mean mg mb dp un gd cn cs a9 ccd cl outer A₀ base h₀ L m s Q E B F X N T hk hd hu hret)
  obtain ⟨a1, a2, a3, a4, a5, a6, a7, a8⟩ := at_
  have ok9 := ok
  obtain ⟨o1, o2, o3, o4, o5, o6, o7, o8, o9, l1, l2, l3, l4, l5⟩ := ok
  obtain ⟨⟨gS, hS, kS⟩, hK, ⟨gR, hR, kR⟩, ⟨gW, hW, kW⟩, ⟨gT, hT, kT⟩, hI⟩ := H
  dsimp only [WL] at N
  (w_top off; refine wpAny_call ?_; k_dflt (refine' enterR ?k1 ?k2 ?k3 ?k4 ?k5 ?kA ?kF ?kK ?k6 ?k7 ?k8 ?k9 ?kB ?_ ?c2 ?c3 ?c4 ?c5; (case kA => exact rfl); (case kF => exact rfl); (case kK => assumption); (case k1 => k_asm); (case k2 => k_asm); (case k3 => k_asm); (case k4 => k_asm); (case k5 => k_asm); (case k6 => k_is); (case k7 => k_is); (case k8 => ktr_room); (case k9 => exact BindsTo.of_eq rfl); (case c5 => decide); (case kB => exact locs rfl); (case c2 => exact rfl); (case c3 => exact rfl); (case c4 => exact rfl); k_whole; intro g L' h' hg FG' F' N' B' X' T'; (try dsimp only); (try k_fold)))
  (repeat' ((fail_if_success (with_reducible show wpAny _ _ (subscriptTail _ _ (Value.ref _) (Value.int (Int.fmod _ _) _)) _ _ _)); first | (k_unfold; (try dsimp only)) | (k_end; wrow_close) | walk1 | (dsimp only; walk1) | (leave1; walk_say "STEP leave1"; try dsimp only) | fail "no step"))
  k_dflt (refine pick_L (vs := [_, _]) (by k_asm) (by k_mem) (fm_lo _ (by decide)) (by show _ < (2 : Int); exact fm_hi _ (by decide)) (by show 2 ≤ 100000; decide) ?_)
  intro v0 hv0
  obtain ⟨ty, rfl⟩ := menu2 (fm_lo _ (by decide)) (fm_hi _ (by decide)) hv0
  (repeat' ((fail_if_success (with_reducible show wpAny _ _ (call (Value.ref 101) _) _ _ _)); first | (k_unfold; (try dsimp only)) | (k_end; wrow_close) | walk1 | (dsimp only; walk1) | (leave1; walk_say "STEP leave1"; try dsimp only) | fail "no step"))
  rename News _ _ _ _ => N0
  rename Fr _ _ _ _ => F0
  (k_dflt (refine' Spec.use (let_read_spec w a.x a.dx a.dR a.dW o.es o.ne o.oR o.oW o1 (adr_lt ok9 (i := 1) (j := 6) (by decide) (by decide)) o7 l3 l4 a5 a6 _ q _ tx _ hq (by exact lt_led (by assumption) (by k_mem)) gR gW n hn hR hW) ?kB ?kF ?kX ?kN ?kT ?kK ?kd ?ku ?_; (case kB => k_asm); (case kF => k_asm); (case kX => k_asm); (case kN => first | k_asm | exact Mine.News.sub (by k_asm) (by kqd_sub)); (case kT => k_asm); (case kK => exact rfl); (case kd => ktr_room); (case ku => ktr_units)); intro r9 tl9 led9 h9 tk9 F9 N9 K9 H9 P9)
  obtain ⟨⟨t0, rfl⟩, oR, oW, t1, rfl, hR', hW'⟩ := P9
  (have N10 := Mine.News.join N0 K9 N9 (tgt := (WL a { o with oR := oR, oW := oW })) (by repeat' (first | exact List.forall_mem_nil _ | (refine List.forall_mem_append.mpr ⟨fun p hp => Or.inl (List.mem_append.mpr (Or.inl hp)), ?_⟩) | (refine forall_cons ?_ ?_) | (exact Or.inl (by first | k_mem | exact List.mem_append.mpr (Or.inr (by k_mem)))) | (exact Or.inr ⟨by k_mem, by first | exact adr_nmem2 ok9 (i := 0) (js := [1, 0, 6, 7]) (by decide) (by exact lt_led (by assumption) (by k_mem)) | exact adr_nmem2 ok9 (i := 1) (js := [1, 0, 6, 7]) (by decide) (by exact lt_led (by assumption) (by k_mem)) | exact adr_nmem2 ok9 (i := 2) (js := [1, 0, 6, 7]) (by decide) (by exact lt_led (by assumption) (by k_mem)) | exact adr_nmem2 ok9 (i := 3) (js := [1, 0, 6, 7]) (by decide) (by exact lt_led (by assumption) (by k_mem)) | exact adr_nmem2 ok9 (i := 4) (js := [1, 0, 6, 7]) (by decide) (by exact lt_led (by assumption) (by k_mem)) | exact adr_nmem2 ok9 (i := 5) (js := [1, 0, 6, 7]) (by decide) (by exact lt_led (by assumption) (by k_mem)) | exact adr_nmem2 ok9 (i := 6) (js := [1, 0, 6, 7]) (by decide) (by exact lt_led (by assumption) (by k_mem)) | exact adr_nmem2 ok9 (i := 7) (js := [1, 0, 6, 7]) (by decide) (by exact lt_led (by assumption) (by k_mem)) | exact adr_nmem2 ok9 (i := 8) (js := [1, 0, 6, 7]) (by decide) (by exact lt_led (by assumption) (by k_mem)) | exact adr_nmem2 ok9 (i := 9) (js := [1, 0, 6, 7]) (by decide) (by exact lt_led (by assumption) (by k_mem))⟩))); clear N9)
  k_steps
  simp only [doneD, Int.reduceEq, reduceIte] at hret
  (exact Spec.close hret (by k_asm) (Keeps.of_fr hg (by k_asm)) ⟨[], _, ⟨{ o with oR := oR, oW := oW }, rfl, ⟨⟨gS, hS.mono, kS⟩, hK, Dd.put hR' kR (.some (wordD _ _ (Str.ofString "CARDS") (by decide) _)), (Dd.put hW' kW .none).mono, ⟨gT, hT.mono, kT⟩, hI⟩, .str _ _, ⟨rfl, rfl, ⟨[], by simp, .nil⟩, ⟨[], by simp, .nil⟩⟩⟩, by first | k_asm | exact Mine.News.sub (by k_asm) (by kqd_sub), Fresh.nil⟩)
set_option maxHeartbeats 8000000 in
theorem done3 (w : World) : DoneSpec w 3 := by
  unfold DoneSpec
  intro a o ok at_ q tx tk tv hq v s0 n hn H hO hTr hI0
  (unfold Spec; intro p loose mean mg mb dp un gd cn cs a9 ccd cl outer A₀ base h₀ L m s Q E B F X N T hk hd hu hret)
  obtain ⟨a1, a2, a3, a4, a5, a6, a7, a8⟩ := at_
  have ok9 := ok
  obtain ⟨o1, o2, o3, o4, o5, o6, o7, o8, o9, l1, l2, l3, l4, l5⟩ := ok
  obtain ⟨⟨gS, hS, kS⟩, hK, ⟨gR, hR, kR⟩, ⟨gW, hW, kW⟩, ⟨gT, hT, kT⟩, hI⟩ := H
  dsimp only [WL] at N
  (w_top off; refine wpAny_call ?_; k_dflt (refine' enterR ?k1 ?k2 ?k3 ?k4 ?k5 ?kA ?kF ?kK ?k6 ?k7 ?k8 ?k9 ?kB ?_ ?c2 ?c3 ?c4 ?c5; (case kA => exact rfl); (case kF => exact rfl); (case kK => assumption); (case k1 => k_asm); (case k2 => k_asm); (case k3 => k_asm); (case k4 => k_asm); (case k5 => k_asm); (case k6 => k_is); (case k7 => k_is); (case k8 => ktr_room); (case k9 => exact BindsTo.of_eq rfl); (case c5 => decide); (case kB => exact locs rfl); (case c2 => exact rfl); (case c3 => exact rfl); (case c4 => exact rfl); k_whole; intro g L' h' hg FG' F' N' B' X' T'; (try dsimp only); (try k_fold)))
  (repeat' ((fail_if_success (with_reducible show wpAny _ _ (subscriptTail _ _ (Value.ref _) (Value.int (Int.fmod _ _) _)) _ _ _)); first | (k_unfold; (try dsimp only)) | (k_end; wrow_close) | walk1 | (dsimp only; walk1) | (leave1; walk_say "STEP leave1"; try dsimp only) | fail "no step"))
  k_dflt (refine pick_L (vs := [_, _]) (by k_asm) (by k_mem) (fm_lo _ (by decide)) (by show _ < (2 : Int); exact fm_hi _ (by decide)) (by show 2 ≤ 100000; decide) ?_)
  intro v0 hv0
  obtain ⟨ty, rfl⟩ := menu2 (fm_lo _ (by decide)) (fm_hi _ (by decide)) hv0
  (repeat' ((fail_if_success (with_reducible show wpAny _ _ (call (Value.ref 108) _) _ _ _)); first | (k_unfold; (try dsimp only)) | (k_end; wrow_close) | walk1 | (dsimp only; walk1) | (leave1; walk_say "STEP leave1"; try dsimp only) | fail "no step"))
  rename News _ _ _ _ => N0
  rename Fr _ _ _ _ => F0
  (k_dflt (refine' Spec.use (let_write_spec w a.x a.dx a.dR a.dW o.es o.ne o.oR o.oW o1 (adr_lt ok9 (i := 1) (j := 6) (by decide) (by decide)) o7 l3 l4 a5 a6 _ q _ tx _ hq (by exact lt_led (by assumption) (by k_mem)) gR gW n hn hR hW) ?kB ?kF ?kX ?kN ?kT ?kK ?kd ?ku ?_; (case kB => k_asm); (case kF => k_asm); (case kX => k_asm); (case kN => first | k_asm | exact Mine.News.sub (by k_asm) (by kqd_sub)); (case kT => k_asm); (case kK => exact rfl); (case kd => ktr_room); (case ku => ktr_units)); intro r9 tl9 led9 h9 tk9 F9 N9 K9 H9 P9)
  obtain ⟨⟨t0, rfl⟩, oR, oW, t1, rfl, hR', hW'⟩ := P9
  (have N10 := Mine.News.join N0 K9 N9 (tgt := (WL a { o with oR := oR, oW := oW })) (by repeat' (first | exact List.forall_mem_nil _ | (refine List.forall_mem_append.mpr ⟨fun p hp => Or.inl (List.mem_append.mpr (Or.inl hp)), ?_⟩) | (refine forall_cons ?_ ?_) | (exact Or.inl (by first | k_mem | exact List.mem_append.mpr (Or.inr (by k_mem)))) | (exact Or.inr ⟨by k_mem, by first | exact adr_nmem2 ok9 (i := 0) (js := [1, 0, 6, 7]) (by decide) (by exact lt_led (by assumption) (by k_mem)) | exact adr_nmem2 ok9 (i := 1) (js := [1, 0, 6, 7]) (by decide) (by exact lt_led (by assumption) (by k_mem)) | exact adr_nmem2 ok9 (i := 2) (js := [1, 0, 6, 7]) (by decide) (by exact lt_led (by assumption) (by k_mem)) | exact adr_nmem2 ok9 (i := 3) (js := [1, 0, 6, 7]) (by decide) (by exact lt_led (by assumption) (by k_mem)) | exact adr_nmem2 ok9 (i := 4) (js := [1, 0, 6, 7]) (by decide) (by exact lt_led (by assumption) (by k_mem)) | exact adr_nmem2 ok9 (i := 5) (js := [1, 0, 6, 7]) (by decide) (by exact lt_led (by assumption) (by k_mem)) | exact adr_nmem2 ok9 (i := 6) (js := [1, 0, 6, 7]) (by decide) (by exact lt_led (by assumption) (by k_mem)) | exact adr_nmem2 ok9 (i := 7) (js := [1, 0, 6, 7]) (by decide) (by exact lt_led (by assumption) (by k_mem)) | exact adr_nmem2 ok9 (i := 8) (js := [1, 0, 6, 7]) (by decide) (by exact lt_led (by assumption) (by k_mem)) | exact adr_nmem2 ok9 (i := 9) (js := [1, 0, 6, 7]) (by decide) (by exact lt_led (by assumption) (by k_mem))⟩))); clear N9)
  k_steps
  simp only [doneD, Int.reduceEq, reduceIte] at hret
  (exact Spec.close hret (by k_asm) (Keeps.of_fr hg (by k_asm)) ⟨[], _, ⟨{ o with oR := oR, oW := oW }, rfl, ⟨⟨gS, hS.mono, kS⟩, hK, (Dd.put hR' kR .none).mono, Dd.put hW' kW (.some (wordD _ _ (Str.ofString "CARDS") (by decide) _)), ⟨gT, hT.mono, kT⟩, hI⟩, .str _ _, ⟨rfl, rfl, ⟨[], by simp, .nil⟩, ⟨[], by simp, .nil⟩⟩⟩, by first | k_asm | exact Mine.News.sub (by k_asm) (by kqd_sub), Fresh.nil⟩)
set_option maxHeartbeats 8000000 in
theorem done4 (w : World) : DoneSpec w 4 := by
  unfold DoneSpec
  intro a o ok at_ q tx tk tv hq v s0 n hn H hO hTr hI0
  (unfold Spec; intro p loose mean mg mb dp un gd cn cs a9 ccd cl outer A₀ base h₀ L m s Q E B F X N T hk hd hu hret)
  obtain ⟨a1, a2, a3, a4, a5, a6, a7, a8⟩ := at_
  have ok9 := ok
  obtain ⟨o1, o2, o3, o4, o5, o6, o7, o8, o9, l1, l2, l3, l4, l5⟩ := ok
  obtain ⟨⟨gS, hS, kS⟩, hK, ⟨gR, hR, kR⟩, ⟨gW, hW, kW⟩, ⟨gT, hT, kT⟩, hI⟩ := H
  dsimp only [WL] at N
  (w_top off; refine wpAny_call ?_; k_dflt (refine' enterR ?k1 ?k2 ?k3 ?k4 ?k5 ?kA ?kF ?kK ?k6 ?k7 ?k8 ?k9 ?kB ?_ ?c2 ?c3 ?c4 ?c5; (case kA => exact rfl); (case kF => exact rfl); (case kK => assumption); (case k1 => k_asm); (case k2 => k_asm); (case k3 => k_asm); (case k4 => k_asm); (case k5 => k_asm); (case k6 => k_is); (case k7 => k_is); (case k8 => ktr_room); (case k9 => exact BindsTo.of_eq rfl); (case c5 => decide); (case kB => exact locs rfl); (case c2 => exact rfl); (case c3 => exact rfl); (case c4 => exact rfl); k_whole; intro g L' h' hg FG' F' N' B' X' T'; (try dsimp only); (try k_fold)))
  (repeat' ((fail_if_success (with_reducible show wpAny _ _ (subscriptTail _ _ (Value.ref _) (Value.int (Int.fmod _ _) _)) _ _ _)); first | (k_unfold; (try dsimp only)) | (k_end; wrow_close) | walk1 | (dsimp only; walk1) | (leave1; walk_say "STEP leave1"; try dsimp only) | fail "no step"))
  k_dflt (refine pick_L (vs := [_, _]) (by k_asm) (by k_mem) (fm_lo _ (by decide)) (by show _ < (2 : Int); exact fm_hi _ (by decide)) (by show 2 ≤ 100000; decide) ?_)
  intro v0 hv0
  obtain ⟨ty, rfl⟩ := menu2 (fm_lo _ (by decide)) (fm_hi _ (by decide)) hv0
  (repeat' ((fail_if_success (with_reducible show wpAny _ _ (call (Value.ref 115) _) _ _ _)); first | (k_unfold; (try dsimp only)) | (k_end; wrow_close) | walk1 | (dsimp only; walk1) | (leave1; walk_say "STEP leave1"; try dsimp only) | fail "no step"))
  rename News _ _ _ _ => N0
  rename Fr _ _ _ _ => F0
  (k_dflt (refine' Spec.use (detach_spec w a.x a.dx a.dR a.dW o.es o.ne o.oR o.oW o1 (adr_lt ok9 (i := 1) (j := 6) (by decide) (by decide)) o7 l3 l4 a5 a6 _ q _ tx _ hq (by exact lt_led (by assumption) (by k_mem)) gR gW n hn hR hW) ?kB ?kF ?kX ?kN ?kT ?kK ?kd ?ku ?_; (case kB => k_asm); (case kF => k_asm); (case kX => k_asm); (case kN => first | k_asm | exact Mine.News.sub (by k_asm) (by kqd_sub)); (case kT => k_asm); (case kK => exact rfl); (case kd => ktr_room); (case ku => ktr_units)); intro r9 tl9 led9 h9 tk9 F9 N9 K9 H9 P9)
  obtain ⟨⟨t0, rfl⟩, oR, oW, rfl, hR', hW'⟩ := P9
  (have N10 := Mine.News.join N0 K9 N9 (tgt := (WL a { o with oR := oR, oW := oW })) (by repeat' (first | exact List.forall_mem_nil _ | (refine List.forall_mem_append.mpr ⟨fun p hp => Or.inl (List.mem_append.mpr (Or.inl hp)), ?_⟩) | (refine forall_cons ?_ ?_) | (exact Or.inl (by first | k_mem | exact List.mem_append.mpr (Or.inr (by k_mem)))) | (exact Or.inr ⟨by k_mem, by first | exact adr_nmem2 ok9 (i := 0) (js := [1, 0, 6, 7]) (by decide) (by exact lt_led (by assumption) (by k_mem)) | exact adr_nmem2 ok9 (i := 1) (js := [1, 0, 6, 7]) (by decide) (by exact lt_led (by assumption) (by k_mem)) | exact adr_nmem2 ok9 (i := 2) (js := [1, 0, 6, 7]) (by decide) (by exact lt_led (by assumption) (by k_mem)) | exact adr_nmem2 ok9 (i := 3) (js := [1, 0, 6, 7]) (by decide) (by exact lt_led (by assumption) (by k_mem)) | exact adr_nmem2 ok9 (i := 4) (js := [1, 0, 6, 7]) (by decide) (by exact lt_led (by assumption) (by k_mem)) | exact adr_nmem2 ok9 (i := 5) (js := [1, 0, 6, 7]) (by decide) (by exact lt_led (by assumption) (by k_mem)) | exact adr_nmem2 ok9 (i := 6) (js := [1, 0, 6, 7]) (by decide) (by exact lt_led (by assumption) (by k_mem)) | exact adr_nmem2 ok9 (i := 7) (js := [1, 0, 6, 7]) (by decide) (by exact lt_led (by assumption) (by k_mem)) | exact adr_nmem2 ok9 (i := 8) (js := [1, 0, 6, 7]) (by decide) (by exact lt_led (by assumption) (by k_mem)) | exact adr_nmem2 ok9 (i := 9) (js := [1, 0, 6, 7]) (by decide) (by exact lt_led (by assumption) (by k_mem))⟩))); clear N9)
  k_steps
  simp only [doneD, Int.reduceEq, reduceIte] at hret
  (exact Spec.close hret (by k_asm) (Keeps.of_fr hg (by k_asm)) ⟨[], _, ⟨{ o with oR := oR, oW := oW }, rfl, ⟨⟨gS, hS.mono, kS⟩, hK, (Dd.put hR' kR .none).mono, (Dd.put hW' kW .none).mono, ⟨gT, hT.mono, kT⟩, hI⟩, .str _ _, ⟨rfl, rfl, ⟨[], by simp, .nil⟩, ⟨[], by simp, .nil⟩⟩⟩, by first | k_asm | exact Mine.News.sub (by k_asm) (by kqd_sub), Fresh.nil⟩)
set_option maxHeartbeats 8000000 in
theorem done5 (w : World) : DoneSpec w 5 := by
  unfold DoneSpec
  intro a o ok at_ q tx tk tv hq v s0 n hn H hO hTr hI0
  (unfold Spec; intro p loose mean mg mb dp un gd cn cs a9 ccd cl outer A₀ base h₀ L m s Q E B F X N T hk hd hu hret)
  obtain ⟨a1, a2, a3, a4, a5, a6, a7, a8⟩ := at_
  have ok9 := ok
  obtain ⟨o1, o2, o3, o4, o5, o6, o7, o8, o9, l1, l2, l3, l4, l5⟩ := ok
  obtain ⟨⟨gS, hS, kS⟩, hK, ⟨gR, hR, kR⟩, ⟨gW, hW, kW⟩, ⟨gT, hT, kT⟩, hI⟩ := H
  dsimp only [WL] at N
  (w_top off; refine wpAny_call ?_; k_dflt (refine' enterR ?k1 ?k2 ?k3 ?k4 ?k5 ?kA ?kF ?kK ?k6 ?k7 ?k8 ?k9 ?kB ?_ ?c2 ?c3 ?c4 ?c5; (case kA => exact rfl); (case kF => exact rfl); (case kK => assumption); (case k1 => k_asm); (case k2 => k_asm); (case k3 => k_asm); (case k4 => k_asm); (case k5 => k_asm); (case k6 => k_is); (case k7 => k_is); (case k8 => ktr_room); (case k9 => exact BindsTo.of_eq rfl); (case c5 => decide); (case kB => exact locs rfl); (case c2 => exact rfl); (case c3 => exact rfl); (case c4 => exact rfl); k_whole; intro g L' h' hg FG' F' N' B' X' T'; (try dsimp only); (try k_fold)))
  (repeat' ((fail_if_success (with_reducible show wpAny _ _ (subscriptTail _ _ (Value.ref _) (Value.int (Int.fmod _ _) _)) _ _ _)); first | (k_unfold; (try dsimp only)) | (k_end; wrow_close) | walk1 | (dsimp only; walk1) | (leave1; walk_say "STEP leave1"; try dsimp only) | fail "no step"))
  k_dflt (refine pick_L (vs := [_, _]) (by k_asm) (by k_mem) (fm_lo _ (by decide)) (by show _ < (2 : Int); exact fm_hi _ (by decide)) (by show 2 ≤ 100000; decide) ?_)
  intro v0 hv0
  obtain ⟨ty, rfl⟩ := menu2 (fm_lo _ (by decide)) (fm_hi _ (by decide)) hv0
  (repeat' ((fail_if_success (with_reducible show wpAny _ _ (call (Value.ref 127) _) _ _ _)); first | (k_unfold; (try dsimp only)) | (k_end; wrow_close) | walk1 | (dsimp only; walk1) | (leave1; walk_say "STEP leave1"; try dsimp only) | fail "no step"))
  rename News _ _ _ _ => N0
  rename Fr _ _ _ _ => F0
  (k_dflt (refine' Spec.use (let_trace_spec w a.x a.dx a.dT o.es o.ne o.oT o1 (adr_lt ok9 (i := 1) (j := 8) (by decide) (by decide)) l5 a7 _ q _ tx _ hq (trV (v.fmod 2)) (by exact lt_led (by assumption) (by k_mem)) gT n hn hT) ?kB ?kF ?kX ?kN ?kT ?kK ?kd ?ku ?_; (case kB => k_asm); (case kF => k_asm); (case kX => k_asm); (case kN => first | k_asm | exact Mine.News.sub (by k_asm) (by kqd_sub)); (case kT => k_asm); (case kK => exact rfl); (case kd => ktr_room); (case ku => ktr_units)); intro r9 tl9 led9 h9 tk9 F9 N9 K9 H9 P9)
  obtain ⟨⟨t0, rfl⟩, oT, t1, rfl, hT'⟩ := P9
  (have N10 := Mine.News.join N0 K9 N9 (tgt := (WL a { o with oT := oT })) (by repeat' (first | exact List.forall_mem_nil _ | (refine List.forall_mem_append.mpr ⟨fun p hp => Or.inl (List.mem_append.mpr (Or.inl hp)), ?_⟩) | (refine forall_cons ?_ ?_) | (exact Or.inl (by first | k_mem | exact List.mem_append.mpr (Or.inr (by k_mem)))) | (exact Or.inr ⟨by k_mem, by first | exact adr_nmem2 ok9 (i := 0) (js := [1, 0, 8]) (by decide) (by exact lt_led (by assumption) (by k_mem)) | exact adr_nmem2 ok9 (i := 1) (js := [1, 0, 8]) (by decide) (by exact lt_led (by assumption) (by k_mem)) | exact adr_nmem2 ok9 (i := 2) (js := [1, 0, 8]) (by decide) (by exact lt_led (by assumption) (by k_mem)) | exact adr_nmem2 ok9 (i := 3) (js := [1, 0, 8]) (by decide) (by exact lt_led (by assumption) (by k_mem)) | exact adr_nmem2 ok9 (i := 4) (js := [1, 0, 8]) (by decide) (by exact lt_led (by assumption) (by k_mem)) | exact adr_nmem2 ok9 (i := 5) (js := [1, 0, 8]) (by decide) (by exact lt_led (by assumption) (by k_mem)) | exact adr_nmem2 ok9 (i := 6) (js := [1, 0, 8]) (by decide) (by exact lt_led (by assumption) (by k_mem)) | exact adr_nmem2 ok9 (i := 7) (js := [1, 0, 8]) (by decide) (by exact lt_led (by assumption) (by k_mem)) | exact adr_nmem2 ok9 (i := 8) (js := [1, 0, 8]) (by decide) (by exact lt_led (by assumption) (by k_mem)) | exact adr_nmem2 ok9 (i := 9) (js := [1, 0, 8]) (by decide) (by exact lt_led (by assumption) (by k_mem))⟩))); clear N9)
  k_steps
  simp only [doneD, Int.reduceEq, reduceIte] at hret
  (exact Spec.close hret (by k_asm) (Keeps.of_fr hg (by k_asm)) ⟨[], _, ⟨{ o with oT := oT }, rfl, ⟨⟨gS, hS.mono, kS⟩, hK, ⟨gR, hR.mono, kR⟩, ⟨gW, hW.mono, kW⟩, Dd.put hT' kT (.some (.str _ _)), hI⟩, .str _ _, ⟨rfl, rfl, ⟨[], by simp, .nil⟩, ⟨[], by simp, .nil⟩⟩⟩, by first | k_asm | exact Mine.News.sub (by k_asm) (by kqd_sub), Fresh.nil⟩)
set_option maxHeartbeats 8000000 in
theorem done6 (w : World) : DoneSpec w 6 := by
  unfold DoneSpec
  intro a o ok at_ q tx tk tv hq v s0 n hn H hO hTr hI0
  (unfold Spec; intro p loose mean mg mb dp un gd cn cs a9 ccd cl outer A₀ base h₀ L m s Q E B F X N T hk hd hu hret)
  obtain ⟨a1, a2, a3, a4, a5, a6, a7, a8⟩ := at_
  have ok9 := ok
  obtain ⟨o1, o2, o3, o4, o5, o6, o7, o8, o9, l1, l2, l3, l4, l5⟩ := ok
  obtain ⟨⟨gS, hS, kS⟩, hK, ⟨gR, hR, kR⟩, ⟨gW, hW, kW⟩, ⟨gT, hT, kT⟩, hI⟩ := H
  dsimp only [WL] at N
  (w_top off; refine wpAny_call ?_; k_dflt (refine' enterR ?k1 ?k2 ?k3 ?k4 ?k5 ?kA ?kF ?kK ?k6 ?k7 ?k8 ?k9 ?kB ?_ ?c2 ?c3 ?c4 ?c5; (case kA => exact rfl); (case kF => exact rfl); (case kK => assumption); (case k1 => k_asm); (case k2 => k_asm); (case k3 => k_asm); (case k4 => k_asm); (case k5 => k_asm); (case k6 => k_is); (case k7 => k_is); (case k8 => ktr_room); (case k9 => exact BindsTo.of_eq rfl); (case c5 => decide); (case kB => exact locs rfl); (case c2 => exact rfl); (case c3 => exact rfl); (case c4 => exact rfl); k_whole; intro g L' h' hg FG' F' N' B' X' T'; (try dsimp only); (try k_fold)))
  (repeat' ((fail_if_success (with_reducible show wpAny _ _ (subscriptTail _ _ (Value.ref _) (Value.int (Int.fmod _ _) _)) _ _ _)); first | (k_unfold; (try dsimp only)) | (k_end; wrow_close) | walk1 | (dsimp only; walk1) | (leave1; walk_say "STEP leave1"; try dsimp only) | fail "no step"))
  k_dflt (refine pick_L (vs := [_, _]) (by k_asm) (by k_mem) (fm_lo _ (by decide)) (by show _ < (2 : Int); exact fm_hi _ (by decide)) (by show 2 ≤ 100000; decide) ?_)
  intro v0 hv0
  obtain ⟨ty, rfl⟩ := menu2 (fm_lo _ (by decide)) (fm_hi _ (by decide)) hv0
  (repeat' ((fail_if_success (with_reducible show wpAny _ _ (call (Value.ref 134) _) _ _ _)); first | (k_unfold; (try dsimp only)) | (k_end; wrow_close) | walk1 | (dsimp only; walk1) | (leave1; walk_say "STEP leave1"; try dsimp only) | fail "no step"))
  rename News _ _ _ _ => N0
  rename Fr _ _ _ _ => F0
  (k_dflt (refine' Spec.use (stop_trace_spec w a.x a.dx a.dT o.es o.ne o.oT o1 (adr_lt ok9 (i := 1) (j := 8) (by decide) (by decide)) l5 a7 _ q _ tx _ hq (trV (v.fmod 2)) (by exact lt_led (by assumption) (by k_mem)) gT n hn hT) ?kB ?kF ?kX ?kN ?kT ?kK ?kd ?ku ?_; (case kB => k_asm); (case kF => k_asm); (case kX => k_asm); (case kN => first | k_asm | exact Mine.News.sub (by k_asm) (by kqd_sub)); (case kT => k_asm); (case kK => exact rfl); (case kd => ktr_room); (case ku => ktr_units)); intro r9 tl9 led9 h9 tk9 F9 N9 K9 H9 P9)
  obtain ⟨⟨t0, rfl⟩, oT, rfl, hT'⟩ := P9
  (have N10 := Mine.News.join N0 K9 N9 (tgt := (WL a { o with oT := oT })) (by repeat' (first | exact List.forall_mem_nil _ | (refine List.forall_mem_append.mpr ⟨fun p hp => Or.inl (List.mem_append.mpr (Or.inl hp)), ?_⟩) | (refine forall_cons ?_ ?_) | (exact Or.inl (by first | k_mem | exact List.mem_append.mpr (Or.inr (by k_mem)))) | (exact Or.inr ⟨by k_mem, by first | exact adr_nmem2 ok9 (i := 0) (js := [1, 0, 8]) (by decide) (by exact lt_led (by assumption) (by k_mem)) | exact adr_nmem2 ok9 (i := 1) (js := [1, 0, 8]) (by decide) (by exact lt_led (by assumption) (by k_mem)) | exact adr_nmem2 ok9 (i := 2) (js := [1, 0, 8]) (by decide) (by exact lt_led (by assumption) (by k_mem)) | exact adr_nmem2 ok9 (i := 3) (js := [1, 0, 8]) (by decide) (by exact lt_led (by assumption) (by k_mem)) | exact adr_nmem2 ok9 (i := 4) (js := [1, 0, 8]) (by decide) (by exact lt_led (by assumption) (by k_mem)) | exact adr_nmem2 ok9 (i := 5) (js := [1, 0, 8]) (by decide) (by exact lt_led (by assumption) (by k_mem)) | exact adr_nmem2 ok9 (i := 6) (js := [1, 0, 8]) (by decide) (by exact lt_led (by assumption) (by k_mem)) | exact adr_nmem2 ok9 (i := 7) (js := [1, 0, 8]) (by decide) (by exact lt_led (by assumption) (by k_mem)) | exact adr_nmem2 ok9 (i := 8) (js := [1, 0, 8]) (by decide) (by exact lt_led (by assumption) (by k_mem)) | exact adr_nmem2 ok9 (i := 9) (js := [1, 0, 8]) (by decide) (by exact lt_led (by assumption) (by k_mem))⟩))); clear N9)
  k_steps
  simp only [doneD, Int.reduceEq, reduceIte] at hret
  (exact Spec.close hret (by k_asm) (Keeps.of_fr hg (by k_asm)) ⟨[], _, ⟨{ o with oT := oT }, rfl, ⟨⟨gS, hS.mono, kS⟩, hK, ⟨gR, hR.mono, kR⟩, ⟨gW, hW.mono, kW⟩, (Dd.put hT' kT .none).mono, hI⟩, .str _ _, ⟨rfl, rfl, ⟨[], by simp, .nil⟩, ⟨[], by simp, .nil⟩⟩⟩, by first | k_asm | exact Mine.News.sub (by k_asm) (by kqd_sub), Fresh.nil⟩)
theorem done_spec (w : World) {k : Int} (h0 : 0 ≤ k) (h1 : k < 7) : DoneSpec w k := by
  have : k = 0 ∨ k = 1 ∨ k = 2 ∨ k = 3 ∨ k = 4 ∨ k = 5 ∨ k = 6 := by omega
  rcases this with rfl | rfl | rfl | rfl | rfl | rfl | rfl
  · exact done0 w
  · exact done1 w
  · exact done2 w
  · exact done3 w
  · exact done4 w
  · exact done5 w
  · exact done6 w
end
section
local macro_rules | `(tactic| k_room) => `(tactic| ktr_room)
local macro_rules | `(tactic| walk_at "execs cons") => `(tactic| (k_here; (with_reducible refine gentoks fun tk => wpAny_execs_cons ?_); (try dsimp only); (try k_fold)))
local macro_rules | `(tactic| walk_at "execs nil") => `(tactic| (k_here; (with_reducible refine gentoks fun tk => wpAny_execs_nil ?_); (try dsimp only)))
theorem allLt_ne {d : Nat} {l : Led} (h : AllLt d l) : ∀ p ∈ l, p.1 ≠ d := fun p hp => Nat.ne_of_lt (ktn_ltOf h p hp)
local macro_rules | `(tactic| k_all) => `(tactic| exact allLt_ne (by assumption))
local macro_rules | `(tactic| k_lt $h:ident) => `(tactic| skip)
local macro_rules | `(tactic| k_ne) => `(tactic| (refine neN ?_; (try dsimp only); first | exact Nat.ne_of_gt (lt_led (by assumption) (by k_mem)) | exact Nat.ne_of_lt (lt_led (by assumption) (by k_mem)) | omega))
theorem getL_put {n n' : Str} {h : Int} {t : Tok} {v u : Value} (hne : n' ≠ n) : ∀ {es : List DictEntry}, getL n' es = some (some u) → getL n' (putL n h (.str n t) v es) = some (some u) := by
  have key : ∀ es : List DictEntry, ∀ e, es.find? (·.key.isStr n') = some e → ∃ e', (putL n h (.str n t) v es).find? (·.key.isStr n') = some e' ∧ e'.val = e.val := by
    intro es
    induction es with
    | nil => intro e he; cases he
    | cons a r ih =>
      intro e he
      unfold putL
      by_cases ha : a.key.isStr n = true
      · rw [if_pos ha]
        have hn : a.key.isStr n' = false := isStr_other hne a ha
        rw [List.find?_cons, hn] at he
        refine ⟨e, ?_, rfl⟩
        rw [List.find?_cons]
        show (match a.key.isStr n' with | true => _ | false => _) = _
        rw [hn]; exact he
      · rw [if_neg ha]
        rw [List.find?_cons] at he ⊢
        cases hq : a.key.isStr n' with
        | true => rw [hq] at he; cases he; exact ⟨a, rfl, rfl⟩
        | false => rw [hq] at he; exact ih e he
  intro es he
  unfold getL at he ⊢
  split at he
  · rename_i e hf
    obtain ⟨e', h1, h2⟩ := key es e hf
    rw [h1]
    show some (some e'.val) = _
    rw [h2]; exact he
  · split at he <;> cases he
theorem getL_put_self {n : Str} {h : Int} {t : Tok} {v : Value} : ∀ {es : List DictEntry}, getL n (putL n h (.str n t) v es) = some (some v) := by
  have key : ∀ es : List DictEntry, ∃ e', (putL n h (.str n t) v es).find? (·.key.isStr n) = some e' ∧ e'.val = v := by
    intro es
    induction es with
    | nil => exact ⟨⟨h, .str n t, v⟩, by simp [putL, Value.isStr], rfl⟩
    | cons a r ih =>
      unfold putL
      by_cases ha : a.key.isStr n = true
      · rw [if_pos ha]
        exact ⟨⟨a.hash, a.key, v⟩, by rw [List.find?_cons]; show (match a.key.isStr n with | true => _ | false => _) = _; rw [ha], rfl⟩
      · rw [if_neg ha]
        obtain ⟨e', h1, h2⟩ := ih
        refine ⟨e', ?_, h2⟩
        rw [List.find?_cons]
        have : a.key.isStr n = false := by simpa using ha
        rw [this]; exact h1
  intro es
  obtain ⟨e', h1, h2⟩ := key es
  unfold getL
  rw [h1]
  show some (some e'.val) = _
  rw [h2]
theorem putL_len {n : Str} {h : Int} {k v : Value} : ∀ {es : List DictEntry}, (putL n h k v es).length ≤ es.length + 1
  | [] => by simp [putL]
  | a :: r => by
    unfold putL
    split
    · simp
    · have := putL_len (n := n) (h := h) (k := k) (v := v) (es := r)
      simp; omega
theorem updOfF {d : Addr} {o o' : Obj} {l : Led} {g : Obj → Led} (U : UpdF d o l g) : Upd d o o' l (g o') := by
  induction U with
  | head h => exact .head h
  | tail h _ ih => exact .tail h ih
theorem putL_ref {n : Str} {h : Int} {t : Tok} {v : Value} : ∀ {es : List DictEntry}, es.any (·.refKey) = false → (putL n h (.str n t) v es).any (·.refKey) = false
  | [], _ => rfl
  | a :: r, e => by
    rw [List.any_cons, Bool.or_eq_false_iff] at e
    unfold putL
    split
    · rw [List.any_cons, Bool.or_eq_false_iff]; exact ⟨e.1, e.2⟩
    · rw [List.any_cons, Bool.or_eq_false_iff]; exact ⟨e.1, putL_ref e.2⟩
theorem getL_some {n : Str} {es : List DictEntry} (h : es.any (·.refKey) = false) : (getL n es).isSome = true := by
  unfold getL
  split
  · rfl
  · rw [h]; rfl
/-- the attributes ns stand in es with the values vs -/
structure AtD (ns : List Str) (vs : List Value) (k : Nat) (es : List DictEntry) : Prop where
  any : es.any (·.refKey) = false
  len : es.length ≤ k
  get : ∀ (i : Nat) (n : Str) (v : Value), ns[i]? = some n → vs[i]? = some v → getL n es = some (some v)
theorem AtD.nil : AtD [] [] 0 [] := ⟨rfl, Nat.le_refl _, fun _ _ _ h => nomatch h⟩
theorem AtD.put {ns : List Str} {vs : List Value} {k : Nat} {es : List DictEntry} {n : Str} {h : Int} {t : Tok} {v : Value} (A : AtD ns vs k es) (hn : (ns.all fun x => x != n) = true) : AtD (n :: ns) (v :: vs) (k + 1) (putL n h (.str n t) v es) := by
  refine ⟨putL_ref A.any, Nat.le_trans putL_len (Nat.succ_le_succ A.len), fun i m u hm hu => ?_⟩
  cases i with
  | zero => cases hm; cases hu; exact getL_put_self
  | succ i =>
    have hm' : ns[i]? = some m := hm
    have hne : m ≠ n := by
      have := List.all_eq_true.mp hn m (List.mem_of_getElem? hm')
      simpa using this
    exact getL_put hne (A.get i m u hm' hu)
theorem set_at {w : World} {A : Around} {E : Value → Shared → Prop} {s : Shared} {h₀ : Heap} {L x dx : Addr} {m : Str → Option Value} {news : Led} {g : Obj → Led} {K : Frag} {ox : Obj} {C : Addr} {name : Str} {es : List DictEntry} {n : Nat} {v : Value} {ns : List Str} {vs : List Value} {k : Nat} {Q : Unit → Shared → Prop}
    (F : Fr h₀ L s.heap m) (X₀ : K.In h₀) (N : News h₀ L s.heap news) (I : InstAt s.heap x ox C (some (dictOf es n))) (hd : ox.dict = some dx)
    (hs : findIn K (.ref C) "__setattr__" = some (some (.builtin "object.__setattr__"))) (hp : plainOver K C = true) (ht : takerIn K C name = some none) (hh : hasDictIn K C = true)
    (D : AtD ns vs k es) (hn : (ns.all fun y => y != name) = true) (U : UpdF dx (dictOf es n) news g) (hz : k ≤ 900)
    (h : ∀ h' es' n' tk, Fr h₀ L h' m → News h₀ L h' (g (dictOf es' n')) → AtD (name :: ns) (v :: vs) (k + 1) es' → Q () { s with heap := h', toks := tk }) :
    wpAny (model Pg w) A (setAttr (.ref x) name v) Q E s :=
  set_dict F X₀ N I hd hs hp ht hh (getL_some D.any) rfl (updOfF U) (Nat.le_trans putL_len (by have := D.len; omega)) fun h' F' N' => h h' _ _ _ F' N' (D.put hn)
theorem one_pair {w : World} {o : Obj} {a b : Str} {t t' : Tok} (h : o.IsDictOf (strKind Pg w) (strPairs [(.str a t, .str b t')])) : Dd w o (fun x => if x = a then some (.str b) else none) 1 :=
  ⟨fun x => if x = a then some (.str b t') else none, ⟨_, h, fun x => by
    by_cases e : x = a
    · subst e; simp [strPairs, valueAt]
    · have e' : ¬ a = x := fun q => e q.symm
      simp [strPairs, valueAt, e, e'], by simp [strPairs]⟩, fun x => by
    by_cases e : x = a
    · simp only [e, if_true]; exact .some (.str _ _)
    · simp only [e, if_false]; exact .none⟩
theorem no_pair {w : World} {o : Obj} (h : o.IsDictOf (strKind Pg w) []) : Sd w o (fun _ => none) 0 := ⟨[], h, fun _ => rfl, Nat.le_refl _⟩
/-- a world that has just been made -/
structure Made (w : World) (led : Led) (x dx dS dK lO lT dR dW dT : Nat) (es : List DictEntry) (ne : Nat) (oS oK oR oW oT : Obj) : Prop where
  m1 : (x, instObj 152 dx) ∈ led
  m2 : (dx, dictOf es ne) ∈ led
  a1 : getL (Str.ofString "store") es = some (some (.ref dS))
  a2 : getL (Str.ofString "keywords") es = some (some (.ref dK))
  a3 : getL (Str.ofString "outputs") es = some (some (.ref lO))
  a4 : getL (Str.ofString "traces") es = some (some (.ref lT))
  a5 : getL (Str.ofString "read_names") es = some (some (.ref dR))
  a6 : getL (Str.ofString "write_names") es = some (some (.ref dW))
  a7 : getL (Str.ofString "traced") es = some (some (.ref dT))
  a8 : (getL (Str.ofString "inputs") es).isSome = true
  m3 : (dS, oS) ∈ led
  m4 : (dK, oK) ∈ led
  m5 : (lO, listOf [].toArray 0) ∈ led
  m6 : (lT, listOf [].toArray 0) ∈ led
  m7 : (dR, oR) ∈ led
  m8 : (dW, oW) ∈ led
  m9 : (dT, oT) ∈ led
  hS : Sd w oS (fun _ => none) 0
  hK : Sd w oK (fun _ => none) 0
  hR : Dd w oR (fun x => if x = Str.ofString "INPUT" then some (sd "INPUT") else none) 1
  hW : Dd w oW (fun x => if x = Str.ofString "OUTPUT" then some (sd "OUTPUT") else none) 1
  hT : Sd w oT (fun _ => none) 0
  l1 : (dS == sysModules) = false
  l2 : (dK == sysModules) = false
  l3 : (dR == sysModules) = false
  l4 : (dW == sysModules) = false
  l5 : (dT == sysModules) = false
  hz : es.length ≤ 50
  o1 : dx < x
  o2 : x < dS
  o3 : dS < dK
  o4 : dK < lO
  o5 : lO < lT
  o6 : lT < dR
  o7 : dR < dW
  o8 : dW < dT
def WorldSpec (w : World) : Prop :=
  ∀ (p : Program) (loose : List Str) (mean : ExcName → Option Value) (mg mb : Str → Option Value)
    (dp un : Nat) (gd : Option (List Code)) (cn : Str) (cs : Scope) (a : Addr) (ccd : Value) (cl : List (Str × Addr)) (outer : List Env) (A₀ : Around) (base h₀ : Heap) (L : Addr) (m : Str → Option Value) (s : Shared)
    (Q E : Value → Shared → Prop) (news : Led),
    Below A₀ base outer h₀ → Fr h₀ L s.heap m → (Mine.hd.heap_1 w.params).In h₀ → News h₀ L s.heap news → Top p loose mean mg mb h₀ → cs.kind = .function → dp + 20 < recursionLimit → un + 8 * 20 < cLine →
    (∀ (x dx dS dK lO lT dR dW dT : Nat) (es : List DictEntry) (ne : Nat) (oS oK oR oW oT : Obj) (led : Led) (h' : Heap) (tk' : Nat), Fr h₀ L h' m → News h₀ L h' led → Made w led x dx dS dK lO lT dR dW dT es ne oS oK oR oW oT → (∀ p ∈ news, p ∈ led) → (∀ p ∈ news, @LT.lt Nat _ p.1 dx) →
      Q (.ref x) { s with heap := h', toks := tk' }) →
    wpAny (model PySem.Challenge.rw_sj0189_01.row.prog w) (ktrTop dp un gd cn cs L a ccd cl outer) (call (.ref 152) []) Q E s
local macro_rules | `(tactic| walk_at "setAttr ref") => `(tactic| (k_here; k_dflt (refine' set_at ?k1 ?k2 ?k3 ?k4 ?k5 ?k6 ?k7 ?k8 ?k9 ?kA ?kn ?kU ?kz ?_; (case k1 => k_asm); (case k2 => k_asm); (case k3 => k_asm); (case k4 => k_inst); (case k5 => exact rfl); (case k6 => k_is); (case k7 => k_is); (case k8 => k_is); (case k9 => k_is); (case kA => assumption); (case kn => decide +kernel); (case kU => k_updF); (case kz => decide)); intro h' es' n' tk' F' N' A'; (try dsimp only at N'); (try k_sweep)))
set_option maxHeartbeats 8000000 in
theorem world_spec (w : World) : WorldSpec w := by
  unfold WorldSpec
  intro p loose mean mg mb dp un gd cn cs a9 ccd cl outer A₀ base h₀ L m s Q E news B F X N T hk hd hu hret
  w_top off
  k_dflt (refine' call_cls ?k1 ?k2 ?k3 ?k4 ?k5 ?k6 ?_; (case k1 => k_asm); (case k2 => k_asm); (case k3 => k_asm); (case k4 => k_is); (case k5 => k_is); (case k6 => k_is); k_whole; intro x' d' h' F' N' lz l2; (have l1 := allLt_of lz); (try k_lt2 l2); (try k_sweep))
  k_dflt (refine' code_def ?k1 ?k2 ?k3 ?k4 ?k5 ?kA ?kF ?kK ?k6 ?k7 ?k8 ?k9 ?kB ?_ ?c2 ?c3 ?c4 ?c5; (case kA => exact rfl); (case kF => exact rfl); (case kK => assumption); (case k1 => k_asm); (case k2 => k_asm); (case k3 => k_asm); (case k4 => k_asm); (case k5 => k_asm); (case k6 => k_is); (case k7 => k_is); (case k8 => ktr_room); (case k9 => exact binds_K (by k_in) rfl (by k_is) rfl rfl rfl); (case c5 => decide); (case kB => exact locs rfl); (case c2 => exact rfl); (case c3 => exact rfl); (case c4 => exact rfl); k_whole; intro g' L' h' FG' F' N' B' X' T'; (try dsimp only); (try k_fold))
  have A0 := AtD.nil
  k_steps
  rename AtD _ _ _ _ => A1
  exact hret _ _ _ _ _ _ _ _ _ _ _ _ _ _ _ _ _ _ _ (by k_asm) (by k_asm) ⟨by k_mem, by k_mem, A1.get 20 _ _ rfl rfl, A1.get 17 _ _ rfl rfl, A1.get 14 _ _ rfl rfl, A1.get 13 _ _ rfl rfl, A1.get 12 _ _ rfl rfl, A1.get 11 _ _ rfl rfl, A1.get 10 _ _ rfl rfl, getL_some A1.any, by k_mem, by k_mem, by k_mem, by k_mem, by k_mem, by k_mem, by k_mem,
    no_pair (by assumption), no_pair (by assumption), one_pair (by assumption), one_pair (by assumption), no_pair (by assumption), by assumption, by assumption, by assumption, by assumption, by assumption, Nat.le_trans A1.len (by decide), (by first | assumption | exact ltN (lt_led (by assumption) (by k_mem)) | omega | (dsimp only; omega)), (by first | assumption | exact ltN (lt_led (by assumption) (by k_mem)) | omega | (dsimp only; omega)), (by first | assumption | exact ltN (lt_led (by assumption) (by k_mem)) | omega | (dsimp only; omega)), (by first | assumption | exact ltN (lt_led (by assumption) (by k_mem)) | omega | (dsimp only; omega)), (by first | assumption | exact ltN (lt_led (by assumption) (by k_mem)) | omega | (dsimp only; omega)), (by first | assumption | exact ltN (lt_led (by assumption) (by k_mem)) | omega | (dsimp only; omega)), (by first | assumption | exact ltN (lt_led (by assumption) (by k_mem)) | omega | (dsimp only; omega)), (by first | assumption | exact ltN (lt_led (by assumption) (by k_mem)) | omega | (dsimp only; omega))⟩
    (fun p hp => by repeat' (first | exact hp | apply List.Mem.tail)) lz
end
section
/-- how a turn ends -/
def TurnEnd2 (h₀ : Heap) (L : Addr) (I : Nat) (it : Obj) (J : (Str → Option Value) → Led → Prop) (s₁ : Shared) (Q : Flow → Shared → Prop) (f : Flow) (s₂ : Shared) : Prop :=
  match f with
  | .ret v => Q (.ret v) s₂
  | .brk => Q .next s₂
  | _ => ∃ h' tk m' nx, s₂ = { s₁ with heap := h', toks := tk } ∧ Fr h₀ L h' m' ∧ News h₀ L h' ((I, it) :: nx) ∧ (∀ p ∈ nx, p.1 ≠ I) ∧ J m' nx
section
variable {prog : Program} {w : World} {A : Around} {E : Value → Shared → Prop} {s : Shared} {env : Env} {h₀ : Heap} {target : PySem.Expr} {body : List Stmt} {Q : Flow → Shared → Prop}
theorem letGo_tuple {elts : List PySem.Expr} {x1} {pos : Pos} {I l : Addr} {i : Nat} {v : Value} {s : Shared} {Q : Unit → Shared → Prop} {E : Value → Shared → Prop} (hit : s.heap.IsListIter I l i) (hQ : Q () s) :
    wpAny (model prog w) A (letOwnedTupleGo (.Tuple elts x1 pos) (.ref I) v) Q E s := by
  cases v with
  | ref T => exact wpAny_letOwnedTupleGo_listiter hit hQ
  | _ => exact wpAny_pure hQ
theorem for_rule {l : Nat} {vs : List Value} {nn : Nat} {m₀ : Str → Option Value} {news : Led} (J : Nat → (Str → Option Value) → Led → Prop)
    (hgo : ∀ I v i (s : Shared) (Q : Unit → Shared → Prop) (E : Value → Shared → Prop), s.heap.IsListIter I l i → Q () s → wpAny (model prog w) A (letOwnedTupleGo target (.ref I) v) Q E s)
    (hh : A.handled = none) (hls : s.heap.get? l = some (listOf vs.toArray nn)) (hlL : l ≠ env.locals) (F : Fr h₀ env.locals s.heap m₀) (N : News h₀ env.locals s.heap news) (hj : J 0 m₀ news)
    (hJl : ∀ i m' nx h, J i m' nx → Fr h₀ env.locals h m' → News h₀ env.locals h nx → h.get? l = some (listOf vs.toArray nn))
    (turn : ∀ (i : Nat) (v : Value) (m₁ : Str → Option Value) (nx : Led) (h : Heap) (tk : Nat) (I : Nat) (it : Obj), vs[i]? = some v → J i m₁ nx → (∀ p ∈ nx, p.1 ≠ I) → I ≠ l → it.cls = .type "list_iterator" → Fr h₀ env.locals h m₁ → News h₀ env.locals h ((I, it) :: nx) →
      wpAny (model prog w) A (assign target env v) (fun _ s₃ => wpAny (model prog w) A (execs body env) (TurnEnd2 h₀ env.locals I it (J (i + 1)) { s with heap := h, toks := tk } Q) E s₃) E { s with heap := h, toks := tk })
    (done : ∀ m₁ nx h tk, J vs.length m₁ nx → Fr h₀ env.locals h m₁ → News h₀ env.locals h nx → Q .next { s with heap := h, toks := tk }) :
    wpAny (model prog w) A (pyIter (.ref l)) (fun it s₂ => TurnsAt prog w A h₀ env target body Q E it s₂) E s := by
  have hl : s.heap.IsList l vs.toArray := ⟨_, hls, rfl, nn, rfl⟩
  have hne : l ≠ s.heap.objs.size := Nat.ne_of_lt (Heap.lt_size hls)
  refine wpAny_pyIter_list hl ?_
  have W := Walks.list (prog := prog) (w := w) (A := A) hh s.heap.objs.size l hne vs.toArray
  have hlen : vs.toArray.size = vs.length := by simp
  rw [hlen] at W
  have KT := KTurns.ofWalks (target := target) W (fun i v s' Q' E' st q => hgo _ v i s' Q' E' st.1 q)
  refine ⟨_, _, _, vs.length, _, _, _, m₀, news, J, rfl, KT, ?_, ?_, ?_, ⟨⟨_, Heap.get?_push_size _ rfl, rfl, rfl⟩, hl.at fun o e => Heap.get?_push_of_some _ e⟩, F.push _, (fun p hp => ⟨Heap.get?_push_of_some _ (N p hp).1, (N p hp).2⟩), hj, ?_, ?_⟩
  · intro hm
    rcases List.mem_cons.mp hm with e | hm
    · exact absurd F.ns.lt (e ▸ Nat.lt_irrefl _)
    · exact hlL (List.mem_singleton.mp hm).symm
  · intro b hb
    rw [List.mem_singleton.mp hb]
    exact next_is_new F
  · intro p hp hI
    exact absurd (Heap.lt_size (N p hp).1) ((List.mem_singleton.mp hI) ▸ Nat.lt_irrefl _)
  · intro i v m₁ nx h₁ tk₁ own hi hP hJ hoff hown hget hfp hst F₁ N₁
    have hP' : vs[i]? = some v := by simpa using hP
    have hI0 : h₀.get? s.heap.objs.size = none := next_is_new F
    obtain ⟨⟨oI, hoI, hcI, _⟩, _⟩ := id hst
    have hIown : (s.heap.objs.size, oI) ∈ own := hfp _ (List.mem_cons.mpr (.inl rfl)) hI0 _ hoI
    have N₂ : News h₀ env.locals h₁ ((s.heap.objs.size, oI) :: nx) := fun p hp => by
      rcases List.mem_cons.mp hp with rfl | hp
      · exact N₁ _ (List.mem_append_left _ hIown)
      · exact N₁ _ (List.mem_append_right _ hp)
    refine wpAny_mono (turn i v m₁ nx h₁ tk₁ _ oI hP' hJ (fun p hp e => hoff p hp (List.mem_singleton.mpr e)) (fun e => hne e.symm) hcI F₁ N₂) (fun _ s₃ h₃ => wpAny_mono h₃ (fun f s₄ h₄ => ?_) fun _ _ e => e) fun _ _ e => e
    have fin : (∃ h' tk m' nx', s₄ = { s with heap := h', toks := tk } ∧ Fr h₀ env.locals h' m' ∧ News h₀ env.locals h' ((s.heap.objs.size, oI) :: nx') ∧ (∀ p ∈ nx', p.1 ≠ s.heap.objs.size) ∧ J (i + 1) m' nx') →
        LoopStepU h₀ env.locals [s.heap.objs.size] own (J (i + 1)) { s with heap := h₁, toks := tk₁ } .next s₄ := by
      rintro ⟨h', tk, m', nx', rfl, F', N', off', hJ'⟩
      have Nx : News h₀ env.locals h' nx' := fun p hp => N' p (.tail _ hp)
      have hl' := hJl _ _ _ _ hJ' F' Nx
      refine ⟨rfl, h', tk, m', nx', rfl, F', fun p hp => ?_, fun p hp hq => off' p hp (List.mem_singleton.mp hq), hJ'⟩
      rcases List.mem_append.mp hp with hp | hp
      · have hg : h₁.get? p.1 = some p.2 := hget p hp
        rcases List.mem_cons.mp (hown p hp) with e | e
        · rw [e, hoI] at hg
          have e2 : p = (s.heap.objs.size, oI) := Prod.ext e (Option.some.inj hg).symm
          rw [e2]
          exact N' _ (.head _)
        · have e := List.mem_singleton.mp e
          have hl₁ := hJl _ _ _ _ hJ F₁ (fun p hp => N₁ p (List.mem_append_right _ hp))
          rw [e, hl₁] at hg
          have e2 : p = (l, listOf vs.toArray nn) := Prod.ext e (Option.some.inj hg).symm
          have q := N₁ p (List.mem_append_left _ hp)
          rw [e2] at q ⊢
          exact ⟨hl', q.2⟩
      · exact Nx p hp
    cases f with
    | ret v => exact h₄
    | brk => exact h₄
    | next => exact fin h₄
    | cont => exact fin h₄
  · intro h' tk m' nx' F' N' _ hJ
    exact done m' nx' h' tk hJ F' N'
end
theorem len_B {w : World} {A : Around} {E : Value → Shared → Prop} {s : Shared} {h₀ : Heap} {L d : Addr} {m : Str → Option Value} {vs : List Value} {Q : Value → Shared → Prop} (F : Fr h₀ L s.heap m) (hl : h₀.IsList d vs.toArray) (hsz : vs.length ≤ 1000) (h : Q (.int (vs.length : Int) (s.toks + 1)) { s with toks := s.toks + 1 + 1 }) :
    wpAny (model Pg w) A (call (.builtin "len") [.ref d]) Q E s := kun_lenL (k := (vs.length : Int)) (hl.at fun o e => F.keep _ o e) (by simp) (by omega) h
theorem slice_L {w : World} {A : Around} {E : Value → Shared → Prop} {s : Shared} {h₀ : Heap} {L l : Addr} {m : Str → Option Value} {news : Led} {vs zs : List Value} {lo hi : Option Int} {vl vu : Value} {value slice : PySem.Expr} {Q : Value → Shared → Prop} (F : Fr h₀ L s.heap m) (N : News h₀ L s.heap news) (hl : s.heap.IsList l vs.toArray) (pl : IsPart vl lo) (pu : IsPart vu hi)
    (hz : vs.length ≤ 100000) (e : slicePick vs.toArray lo hi none = zs.toArray)
    (h : ∀ D h', Fr h₀ L h' m → News h₀ L h' ((D, listOf zs.toArray 0) :: news) → (∀ p ∈ news, p.1 < D) → Q (.ref D) { s with heap := h' })
    (hs : subscripted slice false (.ref l) (.ref s.heap.objs.size) = operate [.ref s.heap.objs.size, .ref l] (getItem (.ref l) (.ref s.heap.objs.size))) :
    wpAny (model Pg w) A (subscriptTail value slice (.ref l) (.ref s.heap.objs.size)) Q E { s with heap := s.heap.push { cls := .type "slice", data := .fields #[vl, vu, .none] } } :=
  kba_turn (value' := PySem.Expr.Name (PySem.Str.ofString "_") ⟨0, 0, 0, 0⟩) (fun _ => rfl) (kmk_slice F N hl pl pu (fun D h' F' N' l1 => h D h' F' (by rw [e] at N'; exact N') l1) hs (fun _ => rfl) (by rw [sizeLine_eq, List.size_toArray]; omega))
theorem pick_run2 {vs : List Value} {a b : Nat} (hab : b ≤ vs.length) (ha : a ≤ b) {x y : Int} (hx : x = (a : Int)) (hy : y = (b : Int)) : slicePick vs.toArray (some x) (some y) none = ((vs.drop a).take (b - a)).toArray := by
  subst hx hy
  have e : sliceBounds (some (a : Int)) (some (b : Int)) none vs.toArray.size = (((a : Nat) : Int), ((b : Nat) : Int), 1) := by
    simp only [sliceBounds, Option.getD_none, show (1 : Int) > 0 by decide, if_true, if_neg (show ¬ ((a : Int) < 0) by omega), if_neg (show ¬ ((b : Int) < 0) by omega), List.size_toArray]
    congr 1
    · omega
    · congr 1
      omega
  rw [kmk_pick_nat _ e]
theorem pick_from {us vs : List Value} {x : Int} (hx : x = (us.length : Int)) : slicePick (us ++ vs).toArray (some x) none none = vs.toArray := by
  subst hx
  have e : sliceBounds (some (us.length : Int)) none none (us ++ vs).toArray.size = (((us.length : Nat) : Int), (((us ++ vs).length : Nat) : Int), 1) := by
    simp only [sliceBounds, Option.getD_none, show (1 : Int) > 0 by decide, if_true, if_neg (show ¬ ((us.length : Int) < 0) by omega), List.size_toArray]
    congr 1
    simp only [List.length_append]
    omega
  rw [kmk_pick_nat _ e]
  simp
theorem fresh_off {g h : Heap} {L : Addr} {big tl : Led} (N0 : News g L h big) (H : Fresh h tl) : ∀ q ∈ big, ∀ p ∈ tl, p.1 ≠ q.1 := fun q hq p hp e => by
  have h1 := (N0 q hq).1
  rw [← e, H p hp] at h1
  cases h1
theorem notin_of {n : Led} {I : Addr} (h : ∀ p ∈ n, p.1 ≠ I) : I ∉ n.map (·.1) := fun q => by
  obtain ⟨p, hp, e⟩ := List.mem_map.mp q
  exact h p hp e
end
section
abbrev Deed := Str × Int × Int
def toldD (s : DS) (q : Str) : Dat := .tuple [(s.S q).getD (sd ""), (s.R q).getD (sd ""), (s.W q).getD (sd ""), (s.T q).getD (sd "")]
def cameD (rows : List Dat) (a b : Nat) : List Dat := (rows.drop (rows.length - a)).take (a - b)
def entryD (rows : List Dat) (s : DS) (d : Deed) : Dat :=
  .tuple [.str d.1, (doneD s d.1 d.2.1 d.2.2).heard, .list (cameD rows s.I.length (doneD s d.1 d.2.1 d.2.2).st.I.length), .list (doneD s d.1 d.2.1 d.2.2).outs, .list (doneD s d.1 d.2.1 d.2.2).trs, toldD (doneD s d.1 d.2.1 d.2.2).st d.1]
def storyD (rows : List Dat) : DS → List Deed → List Dat × DS
  | s, [] => ([], s)
  | s, d :: ds => (entryD rows s d :: (storyD rows (doneD s d.1 d.2.1 d.2.2).st ds).1, (storyD rows (doneD s d.1 d.2.1 d.2.2).st ds).2)
def ds0 (rows : List Dat) : DS := ⟨fun _ => none, fun x => if x = Str.ofString "INPUT" then some (sd "INPUT") else none, fun x => if x = Str.ofString "OUTPUT" then some (sd "OUTPUT") else none, fun _ => none, rows⟩
theorem storyD_snoc (rows : List Dat) (d : Deed) : ∀ (ds : List Deed) (s : DS), storyD rows s (ds ++ [d]) = ((storyD rows s ds).1 ++ [entryD rows (storyD rows s ds).2 d], (doneD (storyD rows s ds).2 d.1 d.2.1 d.2.2).st)
  | [], s => rfl
  | e :: ds, s => by
    rw [List.cons_append, storyD, storyD_snoc rows d ds]
    rfl
theorem doneD_I (s : DS) (q : Str) (k v : Int) : (doneD s q k v).st.I.length ≤ s.I.length := by
  unfold doneD
  split
  · exact Nat.le_refl _
  · split
    · split
      · split
        · rename_i h; rw [h]; exact Nat.le_refl _
        · rename_i h; rw [h]; simp
      · exact Nat.le_refl _
    · (repeat' split) <;> exact Nat.le_refl _
theorem storyD_I (rows : List Dat) : ∀ (ds : List Deed) (s : DS), (storyD rows s ds).2.I.length ≤ s.I.length
  | [], s => Nat.le_refl _
  | d :: ds, s => Nat.le_trans (storyD_I rows ds _) (doneD_I _ _ _ _)
theorem storyD_len (rows : List Dat) : ∀ (ds : List Deed) (s : DS), (storyD rows s ds).1.length = ds.length
  | [], s => rfl
  | d :: ds, s => by simp [storyD, storyD_len rows ds]
theorem doneD_outs (s : DS) (q : Str) (k v : Int) : (doneD s q k v).outs.length ≤ 1 ∧ (doneD s q k v).trs.length ≤ 1 := by
  unfold doneD traceOf
  (repeat' split) <;> simp
def deedD (d : Deed) : Dat := .tuple [.str d.1, .int d.2.1, .int d.2.2]
theorem dall_drop {n : Led} {vs : List Value} {ds : List Dat} (h : DatAll n vs ds) (k : Nat) : DatAll n (vs.drop k) (ds.drop k) := by
  induction k generalizing vs ds with
  | zero => exact h
  | succ k ih =>
    cases vs with
    | nil => cases h; exact .nil
    | cons v vs =>
      cases h with
      | cons a b => exact ih b
theorem dall_take {n : Led} {vs : List Value} {ds : List Dat} (h : DatAll n vs ds) (k : Nat) : DatAll n (vs.take k) (ds.take k) := by
  induction k generalizing vs ds with
  | zero => exact .nil
  | succ k ih =>
    cases vs with
    | nil => cases h; exact .nil
    | cons v vs =>
      cases h with
      | cons a b => exact .cons a (ih b)
theorem dall_came {n : Led} {vr : List Value} {rows : List Dat} (h : DatAll n vr rows) {a b a' b' : Nat} (ha : a = a') (hb : b = b') (hl : a ≤ vr.length) (hba : b ≤ a) : DatAll n ((vr.drop (vr.length - a)).take ((vr.length - b) - (vr.length - a))) (cameD rows a' b') := by
  subst ha hb
  unfold cameD
  have e : (vr.length - b) - (vr.length - a) = a - b := by omega
  rw [e, h.length]
  exact dall_take (dall_drop h _) _
theorem frame3 {m : Str → Option Value} {x1 x2 x3 : Str} {v1 v2 v3 : Value} (h1 : m x1 = some v1) (h2 : m x2 = some v2) (h3 : m x3 = some v3) : m = fun y => if y = x1 then some v1 else if y = x2 then some v2 else if y = x3 then some v3 else m y := by
  funext y
  by_cases e1 : y = x1
  · subst e1; simp [h1]
  · by_cases e2 : y = x2
    · subst e2; simp [e1, h2]
    · by_cases e3 : y = x3
      · subst e3; simp [e1, e2, h3]
      · simp [e1, e2, e3]
end
section
local macro_rules | `(tactic| k_all) => `(tactic| assumption)
local macro_rules | `(tactic| walk_at "call builtin:len") => `(tactic| (k_here; (with_reducible show wpAny _ _ (call (Value.builtin "len") [Value.ref _]) _ _ _); k_dflt (refine len_B (by k_asm) (by assumption) (by omega) ?_)))
set_option maxHeartbeats 8000000 in
theorem story_spec (w : World) (R : Led) (lr ld : Nat) (vr vd : List Value) (nr nd : Nat) (rows : List Dat) (deeds : List Deed) (hr : (lr, listOf vr.toArray nr) ∈ R) (hd9 : (ld, listOf vd.toArray nd) ∈ R)
    (hrows : DatAll [] vr rows) (hdeeds : DatAll R vd (deeds.map deedD)) (hok : ∀ d ∈ deeds, (d.1 == Str.ofString "") = false ∧ 0 ≤ d.2.1 ∧ d.2.1 < 7) (hs : rows.length ≤ 100) (hn9 : deeds.length ≤ 50) :
    Spec w 198 [.ref lr, .ref ld] 100 R (fun r tl u => u = tl ++ R ∧ DatIn tl r (.tuple [.list (storyD rows (ds0 rows) deeds).1, .list (storyD rows (ds0 rows) deeds).2.I])) := by
  (unfold Spec; intro p loose mean mg mb dp un gd cn cs a9 ccd cl outer A₀ base h₀ L m s Q E B F X N T hk hd hu hret)
  have NR := N
  clear N
  have N : News h₀ L s.heap [] := News.nil
  (w_top off; refine wpAny_call ?_; k_dflt (refine' enterR ?k1 ?k2 ?k3 ?k4 ?k5 ?kA ?kF ?kK ?k6 ?k7 ?k8 ?k9 ?kB ?_ ?c2 ?c3 ?c4 ?c5; (case kA => exact rfl); (case kF => exact rfl); (case kK => assumption); (case k1 => k_asm); (case k2 => k_asm); (case k3 => k_asm); (case k4 => k_asm); (case k5 => k_asm); (case k6 => k_is); (case k7 => k_is); (case k8 => ktr_room); (case k9 => exact BindsTo.of_eq rfl); (case c5 => decide); (case kB => exact locs rfl); (case c2 => exact rfl); (case c3 => exact rfl); (case c4 => exact rfl); k_whole; intro g L' h' hg FG' F' N' B' X' T'; (try dsimp only); (try k_fold)))
  have hgR : ∀ p ∈ R, g.get? p.1 = some p.2 := fun p hp => hg _ _ (NR p hp).1 (fun q => nomatch q)
  have hlr : g.IsList lr vr.toArray := ⟨_, hgR _ hr, rfl, nr, rfl⟩
  (repeat' ((fail_if_success (with_reducible show wpAny _ _ (call (Value.ref 152) _) _ _ _)); first | (k_unfold; (try dsimp only)) | (k_end; wrow_close) | walk1 | (dsimp only; walk1) | (leave1; walk_say "STEP leave1"; try dsimp only) | fail "no step"))
  k_dflt (refine' (world_spec w) _ _ _ _ _ _ _ _ _ _ _ _ _ _ _ _ _ _ _ _ _ _ [] ?kB ?kF ?kX ?kN ?kT ?kK ?kd ?ku ?_; (case kB => k_asm); (case kF => k_asm); (case kX => k_asm); (case kN => exact News.nil); (case kT => k_asm); (case kK => exact rfl); (case kd => ktr_room); (case ku => ktr_units))
  intro x dx dS dK lO lT dR dW dT es ne oS oK oR oW oT led h9 tk9 F9 N9 M9 hs9 hl9
  have N10 : News g L' h9 [(x, instObj 152 dx), (dx, dictOf es ne), (dS, oS), (dK, oK), (lO, listOf [].toArray 0), (lT, listOf [].toArray 0), (dR, oR), (dW, oW), (dT, oT)] :=
    Mine.News.sub N9 (by simp only [List.forall_mem_cons]; exact ⟨M9.m1, M9.m2, M9.m3, M9.m4, M9.m5, M9.m6, M9.m7, M9.m8, M9.m9, List.forall_mem_nil _⟩)
  clear N9
  obtain ⟨-, -, a1, a2, a3, a4, a5, a6, a7, a8, -, -, -, -, -, -, -, hS, hK, hR, hW, hT, l1, l2, l3, l4, l5, hz, o1, o2, o3, o4, o5, o6, o7, o8⟩ := M9
  (repeat' ((fail_if_success (with_reducible show wpAny _ _ (newList _) _ _ _)); first | (k_unfold; (try dsimp only)) | (k_end; wrow_close) | walk1 | (dsimp only; walk1) | (leave1; walk_say "STEP leave1"; try dsimp only) | fail "no step"))
  k_dflt (refine' newList_K ?k1 ?k2 ?_; (case k1 => k_asm); (case k2 => k_asm))
  intro fd h6 F6 N6 l6
  k_lt l6
  (repeat' ((fail_if_success (with_reducible show wpAny _ _ (call (Value.type "list") _) _ _ _)); first | (k_unfold; (try dsimp only)) | (k_end; wrow_close) | walk1 | (dsimp only; walk1) | (leave1; walk_say "STEP leave1"; try dsimp only) | fail "no step"))
  rename Fr _ _ _ _ => F0
  k_dflt (refine' list_copyK (by k_asm) (by k_asm) ⟨_, F0.keep _ _ (hgR _ hr), rfl, nr, rfl⟩ ?_ ?z; (case z => rw [sizeLine_eq, List.size_toArray, hrows.length]; omega))
  intro lI nI h8 F8 N8 l8
  k_lt l8
  (repeat' ((fail_if_success (with_reducible show wpAny _ _ (setAttr _ _ _) _ _ _)); first | (k_unfold; (try dsimp only)) | (k_end; wrow_close) | walk1 | (dsimp only; walk1) | (leave1; walk_say "STEP leave1"; try dsimp only) | fail "no step"))
  k_dflt (refine' set_dict ?k1 ?k2 ?k3 ?k4 ?k5 ?k6 ?k7 ?k8 ?k9 ?k10 rfl ?k12 ?k13 ?_; (case k1 => k_asm); (case k2 => k_asm); (case k3 => k_asm); (case k4 => k_inst); (case k5 => exact rfl); (case k6 => k_is); (case k7 => k_is); (case k8 => k_is); (case k9 => k_is); (case k10 => exact a8); (case k12 => k_upd); (case k13 => exact Nat.le_trans putL_len (by omega)))
  intro h7 F7 N7
  have b1 := fun t => getL_put (n := Str.ofString "inputs") (h := PyData.keyHash w.params (Str.ofString "inputs")) (t := t) (v := .ref lI) (by decide) a1
  have b2 := fun t => getL_put (n := Str.ofString "inputs") (h := PyData.keyHash w.params (Str.ofString "inputs")) (t := t) (v := .ref lI) (by decide) a2
  have b3 := fun t => getL_put (n := Str.ofString "inputs") (h := PyData.keyHash w.params (Str.ofString "inputs")) (t := t) (v := .ref lI) (by decide) a3
  have b4 := fun t => getL_put (n := Str.ofString "inputs") (h := PyData.keyHash w.params (Str.ofString "inputs")) (t := t) (v := .ref lI) (by decide) a4
  have b5 := fun t => getL_put (n := Str.ofString "inputs") (h := PyData.keyHash w.params (Str.ofString "inputs")) (t := t) (v := .ref lI) (by decide) a5
  have b6 := fun t => getL_put (n := Str.ofString "inputs") (h := PyData.keyHash w.params (Str.ofString "inputs")) (t := t) (v := .ref lI) (by decide) a6
  have b7 := fun t => getL_put (n := Str.ofString "inputs") (h := PyData.keyHash w.params (Str.ofString "inputs")) (t := t) (v := .ref lI) (by decide) a7
  have b8 := fun t => getL_put_self (n := Str.ofString "inputs") (h := PyData.keyHash w.params (Str.ofString "inputs")) (t := t) (v := .ref lI) (es := es)
  refine wpAny_execs_cons ?_
  rename Fr _ _ _ _ => F5
  with_unfolding_all refine' For_turns F5 ?_
  (repeat' ((fail_if_success (with_reducible show wpAny _ _ (pyIter _) _ _ _)); first | (k_unfold; (try dsimp only)) | (k_end; wrow_close) | walk1 | (dsimp only; walk1) | (leave1; walk_say "STEP leave1"; try dsimp only) | fail "no step"))
  rename Fr _ _ _ _ => F5
  rename News _ _ _ _ => N5
  obtain ⟨es2, ne2, at2, hes2⟩ : ∃ es2 ne2, WAttr ⟨x, dx, dS, dK, lO, lT, dR, dW, dT, lI⟩ es2 ∧ News g L' h7 [(fd, listOf [].toArray 0), (x, instObj 152 dx), (dx, dictOf es2 ne2), (dS, oS), (dK, oK), (lO, listOf [].toArray 0), (lT, listOf [].toArray 0), (dR, oR), (dW, oW), (dT, oT), (lI, listOf vr.toArray nI)] :=
    ⟨_, _, ⟨b1 _, b2 _, b3 _, b4 _, b5 _, b6 _, b7 _, b8 _⟩, Mine.News.sub N5 (by kqd_sub)⟩
  clear N5
  have ok : WA.Ok ⟨x, dx, dS, dK, lO, lT, dR, dW, dT, lI⟩ := ⟨o1, o2, o3, o4, o5, o6, o7, o8, (by show @LT.lt Nat _ dT lI; omega), l1, l2, l3, l4, l5⟩
  have q1 : @LT.lt Nat _ fd lI := by omega
  have q2 : @LT.lt Nat _ dT fd := by omega
  have hld : @Ne Nat ld L' := Nat.ne_of_lt (Nat.lt_of_lt_of_le (Heap.lt_size (hgR _ hd9)) F5.above)
  refine for_rule (l := ld) (vs := vd) (nn := nd) (fun i m nx => m (Str.ofString "rows") = some (.ref lr) ∧ m (Str.ofString "world") = some (.ref x) ∧ m (Str.ofString "found") = some (.ref fd) ∧
    ∃ (o : WO) (vf : List Value) (nf : Nat) (tl : Led), nx = (fd, listOf vf.toArray nf) :: (WL ⟨x, dx, dS, dK, lO, lT, dR, dW, dT, lI⟩ o ++ tl) ∧ o.es = es2 ∧ o.ne = ne2 ∧ Holds w o (storyD rows (ds0 rows) (deeds.take i)).2 (i + 1) ∧
      DatAll tl vf (storyD rows (ds0 rows) (deeds.take i)).1 ∧ (∀ p ∈ tl, p.1 ∉ ([x, dx, dS, dK, lO, lT, dR, dW, dT, lI] : List Addr)) ∧ (∀ p ∈ tl, p.1 ≠ fd) ∧ o.vO.length ≤ i ∧ o.vT.length ≤ i)
    (fun I v i s Q E h q => letGo_tuple h q) rfl (F5.keep _ _ (hgR _ hd9)) hld F5 hes2 ⟨rfl, rfl, rfl, ⟨es2, ne2, oS, oK, oR, oW, oT, [], 0, [], 0, vr, nI⟩, [], 0, [], rfl, rfl, rfl, ⟨⟨_, hS.mono, fun _ => .none⟩, hK, hR, hW, ⟨_, hT.mono, fun _ => .none⟩, hrows⟩, .nil, fun _ h => (nomatch h), fun _ h => (nomatch h), Nat.le_refl _, Nat.le_refl _⟩
    (fun _ _ _ _ _ F' _ => F'.keep _ _ (hgR _ hd9)) ?turn ?done
  case done =>
    rintro m₁ nx h tk ⟨hm1, hm2, hm3, o, vf, nf, tl, rfl, hoe, hone, H, hvf, hoff, hfd, hO, hTl⟩ F1 N1
    rw [frame3 hm1 hm2 hm3] at F1
    have F2 : Fr g L' h _ := F1
    have N2 : News g L' h _ := N1
    clear F1 N1
    have hvl := hdeeds.length
    rw [List.length_map] at hvl
    rw [hvl, List.take_length] at H hvf
    simp only [WL, List.cons_append, List.nil_append] at N2
    obtain ⟨c1, c2, c3, c4, c5, c6, c7, c8⟩ := at2
    rw [← hoe] at c1 c2 c3 c4 c5 c6 c7 c8
    dsimp only at c1 c2 c3 c4 c5 c6 c7 c8
    dsimp only
    (repeat' ((fail_if_success (with_reducible show wpAny _ _ (newTuple _) _ _ _)); first | (k_unfold; (try dsimp only)) | (k_end; wrow_close) | walk1 | (dsimp only; walk1) | (leave1; walk_say "STEP leave1"; try dsimp only) | fail "no step"))
    k_dflt (refine' kup_newTuple ?tF ?tN ?_ ?tz; (case tF => k_asm); (case tN => k_asm); (case tz => kmk_size))
    intro te h4 F4 N4 l14
    k_steps
    have F9 : Fr g L' h4 _ := F4
    rename News _ _ _ _ => N6
    have N7 : News g L' h4 ((te, tup [.ref fd, .ref lI]) :: (fd, listOf vf.toArray nf) :: (lI, listOf o.vI.toArray o.nI) :: tl) := Mine.News.sub N4 (by
      refine List.forall_mem_cons.mpr ⟨by k_mem, List.forall_mem_cons.mpr ⟨by k_mem, List.forall_mem_cons.mpr ⟨by k_mem, fun p hp => ?_⟩⟩⟩
      repeat' (first | exact hp | apply List.Mem.tail))
    have N5 : News _ _ h4 ((te, tup [.ref fd, .ref lI]) :: (fd, listOf vf.toArray nf) :: (lI, listOf o.vI.toArray o.nI) :: tl) := Mine.News.sub N6 (by
      refine List.forall_mem_cons.mpr ⟨by k_mem, List.forall_mem_cons.mpr ⟨by k_mem, List.forall_mem_cons.mpr ⟨by k_mem, fun p hp => ?_⟩⟩⟩
      repeat' (first | exact hp | apply List.Mem.tail))
    refine Spec.close hret (by k_asm) (fun b q e _ => Keeps.of_fr hg F9 b q e (fun z => nomatch z)) ⟨(te, tup [.ref fd, .ref lI]) :: (fd, listOf vf.toArray nf) :: (lI, listOf o.vI.toArray o.nI) :: tl, ((te, tup [.ref fd, .ref lI]) :: (fd, listOf vf.toArray nf) :: (lI, listOf o.vI.toArray o.nI) :: tl) ++ R, ⟨rfl, ?eD⟩, fun p hp => (List.mem_append.mp hp).elim (N5 p) (fun hp => ⟨F9.keep _ _ (hgR p hp), (NR p hp).2.1, (NR p hp).2.2⟩), fun p hp => fresh_of hg N7 hp (fun z => nomatch z)⟩
    case eD =>
      exact .tuple (.head _) (.cons (.list (by k_mem) (DatAll.mono (fun p hp => .tail _ (.tail _ (.tail _ hp))) hvf)) (.cons (.list (by k_mem) (dall_up H.I)) .nil))
  case turn =>
    rintro i v m₁ nx h tk I it hv ⟨hm1, hm2, hm3, o, vf, nf, tl, rfl, hoe, hone, H, hvf, hoff, hfd, hO, hTl⟩ hI hIl hit F1 N1
    have hi : i < deeds.length := by
      have := (List.getElem?_eq_some_iff.mp hv).1
      rw [hdeeds.length, List.length_map] at this
      exact this
    obtain ⟨v', hv', hD⟩ := hdeeds.get (k := i) (by rw [List.length_map]; exact hi)
    rw [hv] at hv'; cases hv'
    obtain ⟨hq, hk0, hk7⟩ := hok _ (List.getElem_mem hi)
    have hst : deeds.take (i + 1) = deeds.take i ++ [deeds[i]] := by rw [List.take_add_one, List.getElem?_eq_getElem hi]; rfl
    rw [List.getElem_map] at hD
    rw [hst, storyD_snoc]
    generalize deeds[i] = d at hD hq hk0 hk7
    obtain ⟨dq, dk, dv⟩ := d
    dsimp only at hq hk0 hk7
    unfold deedD at hD
    generalize e9 : (storyD rows (ds0 rows) (deeds.take i)) = st at H hvf
    cases hD with
    | tuple hT9 hD =>
      cases hD with
      | cons hd1 hD =>
        cases hD with
        | cons hd2 hD =>
          cases hD with
          | cons hd3 hD =>
            cases hD
            cases hd1; cases hd2; cases hd3
            rename_i T n9 t1 t2 t3
            have hTup : IsTup h T (List.toArray [.str dq t1, .int dk t2, .int dv t3]) := ⟨_, F1.keep _ _ (hgR _ hT9), rfl, n9, rfl⟩
            rw [frame3 hm1 hm2 hm3] at F1
            have F2 : Fr g L' h _ := F1
            have N2 : News g L' h _ := N1
            clear F1 N1
            simp only [WL, List.cons_append, List.nil_append] at N2
            have hIL := H.I.length
            have hst2 := storyD_I rows (deeds.take i) (ds0 rows)
            rw [e9] at hst2
            have hrl := hrows.length
            have at2' := at2
            obtain ⟨c1, c2, c3, c4, c5, c6, c7, c8⟩ := at2
            rw [← hoe] at c1 c2 c3 c4 c5 c6 c7 c8
            have z0 : o.vI.length ≤ rows.length := by rw [hIL]; exact hst2
            have z1 : o.vI.length ≤ 100000 := by rw [hIL]; exact Nat.le_trans hst2 (by show rows.length ≤ _; omega)
            have z2 : o.vO.length ≤ 100000 := by omega
            have z3 : o.vT.length ≤ 100000 := by omega
            dsimp only at c1 c2 c3 c4 c5 c6 c7 c8
            (repeat' ((fail_if_success (with_reducible show wpAny _ _ (call (Value.ref 184) _) _ _ _)); first | (k_unfold; (try dsimp only)) | (k_end; wrow_close) | walk1 | (dsimp only; walk1) | (leave1; walk_say "STEP leave1"; try dsimp only) | fail "no step"))
            rename News _ _ _ _ => N0
            rename Fr _ _ _ _ => F0
            have hn99 : i + 1 ≤ 100 := by omega
            (k_dflt (refine' Spec.use (done_spec w hk0 hk7 ⟨x, dx, dS, dK, lO, lT, dR, dW, dT, lI⟩ o ok (by rw [hoe]; exact at2') dq t1 t2 t3 hq dv st.2 (i + 1) hn99 H (by omega) (by omega) (by omega)) ?kB ?kF ?kX ?kN ?kT ?kK ?kd ?ku ?_; (case kB => k_asm); (case kF => k_asm); (case kX => k_asm); (case kN => first | k_asm | exact Mine.News.sub (by k_asm) (by kqd_sub)); (case kT => k_asm); (case kK => exact rfl); (case kd => ktr_room); (case ku => ktr_units)); intro r9 tl9 led9 h9 tk9 F9 N9 K9 H9 P9)
            obtain ⟨o', rfl, H', hr9, G⟩ := P9
            have hI1 : ∀ p ∈ WL ⟨x, dx, dS, dK, lO, lT, dR, dW, dT, lI⟩ o, p.1 ≠ I := fun p hp => hI p (.tail _ (List.mem_append.mpr (.inl hp)))
            have hI2 : ∀ p ∈ tl, p.1 ≠ I := fun p hp => hI p (.tail _ (List.mem_append.mpr (.inr hp)))
            have hI3 : fd ≠ I := hI _ (.head _)
            have hf9 : ∀ p ∈ tl9, p.1 ≠ fd := fresh_off N0 H9 (fd, listOf vf.toArray nf) (by k_mem)
            have hI9 : ∀ p ∈ tl9, p.1 ≠ I := fresh_off N0 H9 (I, it) (by k_mem)
            have ho9 : ∀ p ∈ tl9, p.1 ∉ ([x, dx, dS, dK, lO, lT, dR, dW, dT, lI] : List Addr) := fun p hp q => by
              simp only [List.mem_cons, List.not_mem_nil, or_false] at q
              rcases q with q | q | q | q | q | q | q | q | q | q <;> exact fresh_off N0 H9 (_, _) (by k_mem) p hp q
            obtain ⟨tl', e'⟩ : ∃ tl', tl' = tl9 ++ tl := ⟨_, rfl⟩
            have N10 : News g L' h9 ((I, it) :: (fd, listOf vf.toArray nf) :: (WL ⟨x, dx, dS, dK, lO, lT, dR, dW, dT, lI⟩ o' ++ tl')) := by
              subst e'
              refine Mine.News.join N0 K9 N9 (List.forall_mem_cons.mpr ⟨.inr ⟨by k_mem, notin_of hI1⟩, List.forall_mem_cons.mpr ⟨.inr ⟨by k_mem, nmem_of ?_⟩, List.forall_mem_append.mpr ⟨fun p hp => .inl (List.mem_append.mpr (.inr hp)), List.forall_mem_append.mpr ⟨fun p hp => .inl (List.mem_append.mpr (.inl hp)), fun p hp => .inr ⟨?_, hoff p hp⟩⟩⟩⟩⟩)
              · simp only [List.map_cons, List.map_nil, List.mem_cons, List.not_mem_nil, or_false, forall_eq_or_imp, forall_eq]; omega
              · repeat' (first | exact hp | apply List.Mem.tail)
            clear N9
            simp only [WL, List.cons_append, List.nil_append] at N10
            obtain ⟨ges, gne, ⟨wO, gO, gO2⟩, ⟨wT, gT, gT2⟩⟩ := G
            rw [← ges] at c1 c2 c3 c4 c5 c6 c7 c8
            have y1 := H'.I.length
            have y2 := doneD_I st.2 dq dk dv
            have y3 := doneD_outs st.2 dq dk dv
            have y4 : wO.length ≤ 1 := by rw [gO2.length]; exact y3.1
            have y5 : wT.length ≤ 1 := by rw [gT2.length]; exact y3.2
            have y6 : o'.vI.length ≤ o.vI.length := by rw [y1, hIL]; exact y2
            have y7 : o'.vI.length ≤ 1000 := by omega
            have y8 : o'.vI.length ≤ 100000 := by omega
            (repeat' ((fail_if_success (with_reducible show wpAny _ _ (subscriptTail _ _ (Value.ref _) (Value.ref _)) _ _ _)); first | (k_unfold; (try dsimp only)) | (k_end; wrow_close) | walk1 | (dsimp only; walk1) | (leave1; walk_say "STEP leave1"; try dsimp only) | fail "no step"))
            k_dflt (refine' slice_L (vs := vr) (zs := (vr.drop (vr.length - o.vI.length)).take ((vr.length - o'.vI.length) - (vr.length - o.vI.length))) ?sF ?sN ?sl ?sp ?sq ?sz ?se ?_ ?ss; (case sF => k_asm); (case sN => k_asm); (case sl => exact hlr.at fun o e => Fr.keep (by k_asm) _ o e); (case sp => exact IsPart.int _ _); (case sq => exact IsPart.int _ _); (case sz => omega); (case se => exact pick_run2 (by omega) (by omega) (by omega) (by omega)); (case ss => with_unfolding_all rfl))
            intro D1 h1 F1 N1 l11
            k_lt l11
            (repeat' ((fail_if_success (with_reducible show wpAny _ _ (subscriptTail _ _ (Value.ref _) (Value.ref _)) _ _ _)); first | (k_unfold; (try dsimp only)) | (k_end; wrow_close) | walk1 | (dsimp only; walk1) | (leave1; walk_say "STEP leave1"; try dsimp only) | fail "no step"))
            k_dflt (refine' slice_L (vs := o'.vO) (zs := wO) ?sF ?sN ?sl ?sp ?sq ?sz ?se ?_ ?ss; (case sF => k_asm); (case sN => k_asm); (case sl => exact News.isList (by k_asm) (by k_mem)); (case sp => exact IsPart.int _ _); (case sq => exact IsPart.none); (case sz => rw [gO, List.length_append]; omega); (case se => rw [gO]; exact pick_from rfl); (case ss => with_unfolding_all rfl))
            intro D2 h2 F2 N2 l12
            k_lt l12
            (repeat' ((fail_if_success (with_reducible show wpAny _ _ (subscriptTail _ _ (Value.ref _) (Value.ref _)) _ _ _)); first | (k_unfold; (try dsimp only)) | (k_end; wrow_close) | walk1 | (dsimp only; walk1) | (leave1; walk_say "STEP leave1"; try dsimp only) | fail "no step"))
            k_dflt (refine' slice_L (vs := o'.vT) (zs := wT) ?sF ?sN ?sl ?sp ?sq ?sz ?se ?_ ?ss; (case sF => k_asm); (case sN => k_asm); (case sl => exact News.isList (by k_asm) (by k_mem)); (case sp => exact IsPart.int _ _); (case sq => exact IsPart.none); (case sz => rw [gT, List.length_append]; omega); (case se => rw [gT]; exact pick_from rfl); (case ss => with_unfolding_all rfl))
            intro D3 h3 F3 N3 l13
            k_lt l13
            (repeat' ((fail_if_success (with_reducible show wpAny _ _ (call (Value.ref 191) _) _ _ _)); first | (k_unfold; (try dsimp only)) | (k_end; wrow_close) | walk1 | (dsimp only; walk1) | (leave1; walk_say "STEP leave1"; try dsimp only) | fail "no step"))
            have hIn : @Ne Nat I x ∧ @Ne Nat I dx ∧ @Ne Nat I dS ∧ @Ne Nat I dR ∧ @Ne Nat I dW ∧ @Ne Nat I dT := ⟨(hI1 (x, instObj 152 dx) (by k_mem)).symm, (hI1 (dx, dictOf o.es o.ne) (by k_mem)).symm, (hI1 (dS, o.oS) (by k_mem)).symm, (hI1 (dR, o.oR) (by k_mem)).symm, (hI1 (dW, o.oW) (by k_mem)).symm, (hI1 (dT, o.oT) (by k_mem)).symm⟩
            have hoff' : ∀ p ∈ tl', p.1 ∉ ([x, dx, dS, dK, lO, lT, dR, dW, dT, lI] : List Addr) := fun p hp => by
              subst e'
              rcases List.mem_append.mp hp with hp | hp
              · exact ho9 p hp
              · exact hoff p hp
            have hfd' : ∀ p ∈ tl', p.1 ≠ fd := fun p hp => by
              subst e'
              rcases List.mem_append.mp hp with hp | hp
              · exact hf9 p hp
              · exact hfd p hp
            have hI' : ∀ p ∈ tl', p.1 ≠ I := fun p hp => by
              subst e'
              rcases List.mem_append.mp hp with hp | hp
              · exact hI9 p hp
              · exact hI2 p hp
            obtain ⟨⟨jS, hS', kS⟩, hK', ⟨jR, hR', kR⟩, ⟨jW, hW', kW⟩, ⟨jT, hT', kT⟩, hII⟩ := id H'
            rename News _ _ _ _ => N0
            rename Fr _ _ _ _ => F0
            (k_dflt (refine' Spec.use (told_spec w x dx dS dR dW dT o'.es o'.ne o'.oS o'.oR o'.oW o'.oT o1 o2 (by omega) o7 o8 l1 l3 l4 l5 c1 c5 c6 c7 dq t1 jS jR jW jT _ hS' hR' hW' hT') ?kB ?kF ?kX ?kN ?kT ?kK ?kd ?ku ?_; (case kB => k_asm); (case kF => k_asm); (case kX => k_asm); (case kN => first | k_asm | exact Mine.News.sub (by k_asm) (by kqd_sub)); (case kT => k_asm); (case kK => exact rfl); (case kd => ktr_room); (case ku => ktr_units)); intro r9 tl9 led9 h9 tk9 F9 N9 K9 H9 P9)
            obtain ⟨tt, u1, u2, u3, u4, rfl, rfl, rfl⟩ := P9
            have N10 : News g L' h9 ((tt, tup [(jS dq).getD (.str (Str.ofString "") u1), (jR dq).getD (.str (Str.ofString "") u2), (jW dq).getD (.str (Str.ofString "") u3), (jT dq).getD (.str (Str.ofString "") u4)]) ::
                (D3, listOf wT.toArray 0) :: (D2, listOf wO.toArray 0) :: (D1, listOf ((vr.drop (vr.length - o.vI.length)).take ((vr.length - o'.vI.length) - (vr.length - o.vI.length))).toArray 0) :: (I, it) :: (fd, listOf vf.toArray nf) ::
                (x, instObj 152 dx) :: (dx, dictOf o'.es o'.ne) :: (dS, o'.oS) :: (dK, o'.oK) :: (lO, listOf o'.vO.toArray o'.nO) :: (lT, listOf o'.vT.toArray o'.nT) :: (dR, o'.oR) :: (dW, o'.oW) :: (dT, o'.oT) :: (lI, listOf o'.vI.toArray o'.nI) :: tl') := by
              refine Mine.News.join N0 K9 N9 ?_
              have tail : ∀ p ∈ tl', p ∈ ([(tt, tup [(jS dq).getD (.str (Str.ofString "") u1), (jR dq).getD (.str (Str.ofString "") u2), (jW dq).getD (.str (Str.ofString "") u3), (jT dq).getD (.str (Str.ofString "") u4)])] ++ [(x, instObj 152 dx), (dx, dictOf o'.es o'.ne), (dS, o'.oS), (dR, o'.oR), (dW, o'.oW), (dT, o'.oT)] : Led) ∨ (p ∈ ((D3, listOf wT.toArray 0) :: (D2, listOf wO.toArray 0) :: (D1, listOf ((vr.drop (vr.length - o.vI.length)).take ((vr.length - o'.vI.length) - (vr.length - o.vI.length))).toArray 0) :: (I, it) :: (fd, listOf vf.toArray nf) ::
                (x, instObj 152 dx) :: (dx, dictOf o'.es o'.ne) :: (dS, o'.oS) :: (dK, o'.oK) :: (lO, listOf o'.vO.toArray o'.nO) :: (lT, listOf o'.vT.toArray o'.nT) :: (dR, o'.oR) :: (dW, o'.oW) :: (dT, o'.oT) :: (lI, listOf o'.vI.toArray o'.nI) :: tl' : Led) ∧
                p.1 ∉ ([(x, instObj 152 dx), (dx, dictOf o'.es o'.ne), (dS, o'.oS), (dR, o'.oR), (dW, o'.oW), (dT, o'.oT)] : Led).map (·.1)) := fun p hp => .inr ⟨by repeat' (first | exact hp | apply List.Mem.tail), fun q => hoff' p hp (by
                  simp only [List.map_cons, List.map_nil, List.mem_cons, List.not_mem_nil, or_false] at q ⊢
                  rcases q with q | q | q | q | q | q <;> simp only [q, true_or, or_true])⟩
              repeat' (first | exact tail | (refine List.forall_mem_cons.mpr ⟨?_, ?_⟩) | (exact Or.inl (by k_mem)) | (exact Or.inr ⟨by k_mem, nmem_of (by simp only [List.map_cons, List.map_nil, List.mem_cons, List.not_mem_nil, or_false, forall_eq_or_imp, forall_eq]; omega)⟩))
            have hta : tt ∉ ([x, dx, dS, dK, lO, lT, dR, dW, dT, lI] : List Addr) := fun q => by
              simp only [List.mem_cons, List.not_mem_nil, or_false] at q
              rcases q with q | q | q | q | q | q | q | q | q | q <;> exact fresh_off N0 H9 (_, _) (by k_mem) _ (.head _) q
            have htt : @Ne Nat tt fd := fresh_off N0 H9 (fd, listOf vf.toArray nf) (by k_mem) _ (.head _)
            have httI : @Ne Nat tt I := fresh_off N0 H9 (I, it) (by k_mem) _ (.head _)
            clear N9
            have hIf : @Ne Nat I fd := fun e => hI3 e.symm
            have zf : vf.length ≤ 100000 := by
              have h1 := hvf.length
              have h2 := storyD_len rows (deeds.take i) (ds0 rows)
              rw [e9, List.length_take] at h2
              omega
            (repeat' ((fail_if_success (with_reducible show wpAny _ _ (newTuple _) _ _ _)); first | (k_unfold; (try dsimp only)) | (k_end; wrow_close) | walk1 | (dsimp only; walk1) | (leave1; walk_say "STEP leave1"; try dsimp only) | fail "no step"))
            k_dflt (refine' kup_newTuple ?tF ?tN ?_ ?tz; (case tF => k_asm); (case tN => k_asm); (case tz => kmk_size))
            intro te h4 F4 N4 l14
            k_lt l14
            k_steps
            rename News _ _ _ _ => Nz
            rename Fr _ _ _ _ => Fz
            refine ⟨_, _, _, (fd, listOf (vf ++ [Value.ref te]).toArray (nf + 1)) :: (WL ⟨x, dx, dS, dK, lO, lT, dR, dW, dT, lI⟩ o' ++ ((te, tup [.str dq t1, r9, .ref D1, .ref D2, .ref D3, .ref tt]) ::
              (tt, tup [(jS dq).getD (.str (Str.ofString "") u1), (jR dq).getD (.str (Str.ofString "") u2), (jW dq).getD (.str (Str.ofString "") u3), (jT dq).getD (.str (Str.ofString "") u4)]) ::
              (D3, listOf wT.toArray 0) :: (D2, listOf wO.toArray 0) :: (D1, listOf ((vr.drop (vr.length - o.vI.length)).take ((vr.length - o'.vI.length) - (vr.length - o.vI.length))).toArray 0) :: tl')),
              rfl, Fz, Mine.News.sub Nz ?eN, ?eO, rfl, rfl, rfl, o', vf ++ [Value.ref te], nf + 1, _, rfl, ges.trans hoe, gne.trans hone, H', ?eD, ?eA, ?eF, ?e1, ?e2⟩
            case eN =>
              have tail : ∀ p ∈ tl', p ∈ ((te, tup [.str dq t1, r9, .ref D1, .ref D2, .ref D3, .ref tt]) ::
                (tt, tup [(jS dq).getD (.str (Str.ofString "") u1), (jR dq).getD (.str (Str.ofString "") u2), (jW dq).getD (.str (Str.ofString "") u3), (jT dq).getD (.str (Str.ofString "") u4)]) ::
                (D3, listOf wT.toArray 0) :: (D2, listOf wO.toArray 0) :: (D1, listOf ((vr.drop (vr.length - o.vI.length)).take ((vr.length - o'.vI.length) - (vr.length - o.vI.length))).toArray 0) :: (I, it) ::
                (fd, listOf (vf ++ [Value.ref te]).toArray (nf + 1)) :: (x, instObj 152 dx) :: (dx, dictOf o'.es o'.ne) :: (dS, o'.oS) :: (dK, o'.oK) :: (lO, listOf o'.vO.toArray o'.nO) :: (lT, listOf o'.vT.toArray o'.nT) :: (dR, o'.oR) :: (dW, o'.oW) :: (dT, o'.oT) :: (lI, listOf o'.vI.toArray o'.nI) :: tl' : Led) := fun p hp => by
                repeat' (first | exact hp | apply List.Mem.tail)
              simp only [WL, List.cons_append, List.nil_append]
              repeat' (first | exact tail | (refine List.forall_mem_cons.mpr ⟨?_, ?_⟩) | k_mem)
            case eO =>
              simp only [WL, List.cons_append, List.nil_append]
              repeat' (first | exact hI' | (refine List.forall_mem_cons.mpr ⟨?_, ?_⟩))
              all_goals (refine neN ?_; dsimp only)
              · exact hI3
              · exact hI1 (x, instObj 152 dx) (by k_mem)
              · exact hI1 (dx, dictOf o.es o.ne) (by k_mem)
              · exact hI1 (dS, o.oS) (by k_mem)
              · exact hI1 (dK, o.oK) (by k_mem)
              · exact hI1 (lO, listOf o.vO.toArray o.nO) (by k_mem)
              · exact hI1 (lT, listOf o.vT.toArray o.nT) (by k_mem)
              · exact hI1 (dR, o.oR) (by k_mem)
              · exact hI1 (dW, o.oW) (by k_mem)
              · exact hI1 (dT, o.oT) (by k_mem)
              · exact hI1 (lI, listOf o.vI.toArray o.nI) (by k_mem)
              · omega
              · exact httI
              · omega
              · omega
              · omega
            case eD =>
              refine DatAll.append (DatAll.mono (fun p hp => ?_) hvf) (DatAll.one ?_)
              · subst e'
                exact .tail _ (.tail _ (.tail _ (.tail _ (.tail _ (List.mem_append.mpr (.inr hp))))))
              · refine .tuple (.head _) (.cons (.str _ _) (.cons (din_up hr9) (.cons (.list (by k_mem) (dall_up (dall_came hrows hIL y1 (by omega) y6))) (.cons (.list (by k_mem) (dall_up gO2)) (.cons (.list (by k_mem) (DatAll.mono (fun p hp => ?_) gT2)) (.cons (.tuple (by k_mem) ?_) .nil))))))
                · subst e'
                  exact .tail _ (.tail _ (.tail _ (.tail _ (.tail _ (List.mem_append.mpr (.inl hp))))))
                · exact .cons (din_up ((kS dq).getD (.str _ _))) (.cons (din_up ((kR dq).getD (.str _ _))) (.cons (din_up ((kW dq).getD (.str _ _))) (.cons (din_up ((kT dq).getD (.str _ _))) .nil)))
            case eA =>
              repeat' (first | exact hoff' | (refine List.forall_mem_cons.mpr ⟨?_, ?_⟩) | exact hta | exact nmem_of (by simp only [List.mem_cons, List.not_mem_nil, or_false, forall_eq_or_imp, forall_eq]; omega))
            case eF =>
              repeat' (first | exact hfd' | (refine List.forall_mem_cons.mpr ⟨?_, ?_⟩) | exact htt | (refine neN ?_; dsimp only; omega))
            case e1 => rw [gO, List.length_append]; omega
            case e2 => rw [gT, List.length_append]; omega
end
end Mine
namespace Mine
open LCg LCt
section
variable {prog : Program} {w : World} {A : Around} {E : Value → Shared → Prop} {s : Shared} {h₀ : Heap} {L : Addr} {m : Str → Option Value} {env : Env}
theorem comp_end_mono {s₁ : Shared} {I : Addr} {oI : Obj} {C : Addr} {oC : Obj} {D : Addr} {oD : Obj} {S : Led → Prop} {R R' : Value → Led → Prop} {y : Value} {s₂ : Shared} (h : ∀ n, R y n → R' y n) (x : CompEnd h₀ L m s₁ I oI C oC D oD S R y s₂) : CompEnd h₀ L m s₁ I oI C oC D oD S R' y s₂ :=
  let ⟨h', tk, n, a, b, c, d, e, f⟩ := x; ⟨h', tk, n, a, b, c, d, e, h n f⟩
theorem comp_ind {elt : PySem.Expr} {x : Str} {scope : Scope} {cl : List (Str × Addr)} {S : Led → Prop} {P : Nat → Value → Prop} {Fin : List Value → Led → Prop} {n : Nat} {news : Led} (J : Nat → List Value → Led → Prop) (h0 : J 0 [] news)
    (turn : ∀ i ys nw, i < n → J i ys nw → ∀ v I oI C oC D m₂ h tk (E' : Value → Shared → Prop), P i v → NsObj oC m₂ → m₂ x = some v → Fr h₀ L h m → News h₀ L h ((I, oI) :: (C, oC) :: (D, lst ys) :: nw) → Off3 I C D nw → ((@Ne Nat I C) ∧ (@Ne Nat I D) ∧ (@Ne Nat C D)) →
      wpAny (model prog w) A (eval elt (compEnvC scope cl C env)) (CompEnd h₀ L m { s with heap := h, toks := tk } I oI C oC D (lst ys) S (fun y nw' => J (i + 1) (ys ++ [y]) nw')) E' { s with heap := h, toks := tk })
    (fin : ∀ ys nw, J n ys nw → Fin ys nw) : CompRest prog w A h₀ L m env elt x scope cl s S P Fin n 0 [] news := by
  have key : ∀ k i ys nw, i + k = n → J i ys nw → CompRest prog w A h₀ L m env elt x scope cl s S P Fin k i ys nw := by
    intro k
    induction k with
    | zero => intro i ys nw e j; exact CompRest.zero (fin ys nw (by rw [← e]; exact j))
    | succ k ih =>
      intro i ys nw e j
      refine CompRest.succ fun v I oI C oC D m₂ h tk E' hP hC hx F N off ne => wpAny_mono (turn i ys nw (by omega) j v I oI C oC D m₂ h tk E' hP hC hx F N off ne) (fun y s₂ h₂ => comp_end_mono (fun n' q => ih (i + 1) _ _ (by omega) q) h₂) fun _ _ e => e
  exact key n 0 [] news (by omega) h0
theorem comp_same {elt : PySem.Expr} {x : Str} {scope : Scope} {cl : List (Str × Addr)} {S : Led → Prop} {P : Nat → Value → Prop} {Fin : List Value → Led → Prop} {n : Nat} {news : Led} (J : Nat → List Value → Prop) (h0 : J 0 [])
    (turn : ∀ i ys, i < n → J i ys → ∀ v I oI C oC D m₂ h tk (E' : Value → Shared → Prop), P i v → NsObj oC m₂ → m₂ x = some v → Fr h₀ L h m → News h₀ L h ((I, oI) :: (C, oC) :: (D, lst ys) :: news) → Off3 I C D news → ((@Ne Nat I C) ∧ (@Ne Nat I D) ∧ (@Ne Nat C D)) →
      wpAny (model prog w) A (eval elt (compEnvC scope cl C env)) (CompEnd h₀ L m { s with heap := h, toks := tk } I oI C oC D (lst ys) S (fun y nw' => nw' = news ∧ J (i + 1) (ys ++ [y]))) E' { s with heap := h, toks := tk })
    (fin : ∀ ys, J n ys → Fin ys news) : CompRest prog w A h₀ L m env elt x scope cl s S P Fin n 0 [] news :=
  comp_ind (fun i ys nw => nw = news ∧ J i ys) ⟨rfl, h0⟩ (fun i ys nw hi ⟨e, j⟩ => by subst e; exact turn i ys hi j) (fun ys nw ⟨e, j⟩ => by subst e; exact fin ys j)
theorem compT_ind {ct elt : PySem.Expr} {x : Str} {scope : Scope} {cl : List (Str × Addr)} {S : Led → Prop} {P : Nat → Value → Prop} {Fin : List Value → Led → Prop} {n : Nat} {news : Led} (J : Nat → List Value → Led → Prop) (h0 : J 0 [] news)
    (turn : ∀ i ys nw, i < n → J i ys nw → ∀ v I oI C oC D m₂ h tk (E' : Value → Shared → Prop), P i v → NsObj oC m₂ → m₂ x = some v → Fr h₀ L h m → News h₀ L h ((I, oI) :: (C, oC) :: (D, lst ys) :: nw) → Off3 I C D nw → ((@Ne Nat I C) ∧ (@Ne Nat I D) ∧ (@Ne Nat C D)) →
      wpAny (model prog w) A (isTrue ct (compEnvC scope cl C env) (eval ct (compEnvC scope cl C env))) (fun ok s' => if ok = true then
        wpAny (model prog w) A (eval elt (compEnvC scope cl C env)) (CompEnd h₀ L m { s with heap := h, toks := tk } I oI C oC D (lst ys) S (fun y nw' => J (i + 1) (ys ++ [y]) nw')) E' s'
        else CompEnd h₀ L m { s with heap := h, toks := tk } I oI C oC D (lst ys) S (fun _ nw' => J (i + 1) ys nw') Value.none s') E' { s with heap := h, toks := tk })
    (fin : ∀ ys nw, J n ys nw → Fin ys nw) : CompRestT prog w A h₀ L m env ct elt x scope cl s S P Fin n 0 [] news := by
  have key : ∀ k i ys nw, i + k = n → J i ys nw → CompRestT prog w A h₀ L m env ct elt x scope cl s S P Fin k i ys nw := by
    intro k
    induction k with
    | zero => intro i ys nw e j; exact CompRestT.zero (fin ys nw (by rw [← e]; exact j))
    | succ k ih =>
      intro i ys nw e j
      refine CompRestT.succ fun v I oI C oC D m₂ h tk E' hP hC hx F N off ne => wpAny_mono (turn i ys nw (by omega) j v I oI C oC D m₂ h tk E' hP hC hx F N off ne) (fun ok s₂ h₂ => ?_) fun _ _ e => e
      cases ok with
      | true =>
        simp only [if_true] at h₂ ⊢
        exact wpAny_mono h₂ (fun y s₃ h₃ => comp_end_mono (fun n' q => ih (i + 1) _ _ (by omega) q) h₃) fun _ _ e => e
      | false =>
        simp only [Bool.false_eq_true, if_false] at h₂ ⊢
        exact comp_end_mono (fun n' q => ih (i + 1) _ _ (by omega) q) h₂
  exact key n 0 [] news (by omega) h0
theorem compT_same {ct elt : PySem.Expr} {x : Str} {scope : Scope} {cl : List (Str × Addr)} {S : Led → Prop} {P : Nat → Value → Prop} {Fin : List Value → Led → Prop} {n : Nat} {news : Led} (J : Nat → List Value → Prop) (h0 : J 0 [])
    (turn : ∀ i ys, i < n → J i ys → ∀ v I oI C oC D m₂ h tk (E' : Value → Shared → Prop), P i v → NsObj oC m₂ → m₂ x = some v → Fr h₀ L h m → News h₀ L h ((I, oI) :: (C, oC) :: (D, lst ys) :: news) → Off3 I C D news → ((@Ne Nat I C) ∧ (@Ne Nat I D) ∧ (@Ne Nat C D)) →
      wpAny (model prog w) A (isTrue ct (compEnvC scope cl C env) (eval ct (compEnvC scope cl C env))) (fun ok s' => if ok = true then
        wpAny (model prog w) A (eval elt (compEnvC scope cl C env)) (CompEnd h₀ L m { s with heap := h, toks := tk } I oI C oC D (lst ys) S (fun y nw' => nw' = news ∧ J (i + 1) (ys ++ [y]))) E' s'
        else CompEnd h₀ L m { s with heap := h, toks := tk } I oI C oC D (lst ys) S (fun _ nw' => nw' = news ∧ J (i + 1) ys) Value.none s') E' { s with heap := h, toks := tk })
    (fin : ∀ ys, J n ys → Fin ys news) : CompRestT prog w A h₀ L m env ct elt x scope cl s S P Fin n 0 [] news :=
  compT_ind (fun i ys nw => nw = news ∧ J i ys) ⟨rfl, h0⟩ (fun i ys nw hi ⟨e, j⟩ => by subst e; exact turn i ys hi j) (fun ys nw ⟨e, j⟩ => by subst e; exact fin ys j)
theorem for_range {target : PySem.Expr} {body : List Stmt} {Q : Flow → Shared → Prop} {r : Addr} {a b : Int} {t u v : Tok} {n : Nat} {m₀ : Str → Option Value} {news : Led} (J : Nat → (Str → Option Value) → Led → Prop)
    (hgo : ∀ I v (s : Shared) (Q : Unit → Shared → Prop) (E : Value → Shared → Prop), Q () s → wpAny (model prog w) A (letOwnedTupleGo target (.ref I) v) Q E s)
    (hh : A.handled = none) (hr : IsRange s.heap r a b 1 t u v) (hsm : Builtin.Range.small a b 1 = true) (hn : Builtin.Range.rangeSize a b 1 = ((n : Nat) : Int)) (F : Fr h₀ env.locals s.heap m₀) (N : News h₀ env.locals s.heap news) (hj : J 0 m₀ news)
    (turn : ∀ (i : Nat) (tv : Tok) (m₁ : Str → Option Value) (nx : Led) (h : Heap) (tk : Nat) (I : Nat) (it : Obj), i < n → J i m₁ nx → (∀ p ∈ nx, p.1 ≠ I) → Fr h₀ env.locals h m₁ → News h₀ env.locals h ((I, it) :: nx) →
      wpAny (model prog w) A (assign target env (.int (a + (i : Int)) tv)) (fun _ s₃ => wpAny (model prog w) A (execs body env) (TurnEnd2 h₀ env.locals I it (J (i + 1)) { s with heap := h, toks := tk } Q) E s₃) E { s with heap := h, toks := tk })
    (done : ∀ m₁ nx h tk, J n m₁ nx → Fr h₀ env.locals h m₁ → News h₀ env.locals h nx → Q .next { s with heap := h, toks := tk }) :
    wpAny (model prog w) A (pyIter (.ref r)) (fun it s₂ => TurnsAt prog w A h₀ env target body Q E it s₂) E s := by
  refine wpAny_pyIter_range hr hsm ?_
  have W := range_walks (prog := prog) (w := w) (A := A) (I := s.heap.objs.size) hh a n
  have KT := KTurns.ofWalks (target := target) W.bound (fun i v s' Q' E' _ q => hgo _ v s' Q' E' q)
  refine ⟨_, _, _, n, _, _, _, m₀, news, J, rfl, KT, ?_, ?_, ?_, by show IsRangeIter _ _ _ _ _; rw [hn]; simpa using Heap.get?_push_size _ rfl, F.push _, (fun p hp => ⟨Heap.get?_push_of_some _ (N p hp).1, (N p hp).2⟩), hj, ?_, ?_⟩
  · intro hm
    exact absurd F.ns.lt ((List.mem_singleton.mp hm) ▸ Nat.lt_irrefl _)
  · intro b hb
    rw [List.mem_singleton.mp hb]
    exact next_is_new F
  · intro p hp hI
    exact absurd (Heap.lt_size (N p hp).1) ((List.mem_singleton.mp hI) ▸ Nat.lt_irrefl _)
  · intro i v m₁ nx h₁ tk₁ own hi hP hJ hoff hown hget hfp hst F₁ N₁
    obtain ⟨hin, tv, rfl⟩ := hP
    have hI0 : h₀.get? s.heap.objs.size = none := next_is_new F
    obtain ⟨oI, hoI⟩ : ∃ o, h₁.get? s.heap.objs.size = some o := ⟨_, hst⟩
    have hIown : (s.heap.objs.size, oI) ∈ own := hfp _ (List.mem_cons.mpr (.inl rfl)) hI0 _ hoI
    have N₂ : News h₀ env.locals h₁ ((s.heap.objs.size, oI) :: nx) := fun p hp => by
      rcases List.mem_cons.mp hp with rfl | hp
      · exact N₁ _ (List.mem_append_left _ hIown)
      · exact N₁ _ (List.mem_append_right _ hp)
    refine wpAny_mono (turn i tv m₁ nx h₁ tk₁ _ oI hin hJ (fun p hp e => hoff p hp (List.mem_singleton.mpr e)) F₁ N₂) (fun _ s₃ h₃ => wpAny_mono h₃ (fun f s₄ h₄ => ?_) fun _ _ e => e) fun _ _ e => e
    have fin : (∃ h' tk m' nx', s₄ = { s with heap := h', toks := tk } ∧ Fr h₀ env.locals h' m' ∧ News h₀ env.locals h' ((s.heap.objs.size, oI) :: nx') ∧ (∀ p ∈ nx', p.1 ≠ s.heap.objs.size) ∧ J (i + 1) m' nx') →
        LoopStepU h₀ env.locals [s.heap.objs.size] own (J (i + 1)) { s with heap := h₁, toks := tk₁ } .next s₄ := by
      rintro ⟨h', tk, m', nx', rfl, F', N', off', hJ'⟩
      have Nx : News h₀ env.locals h' nx' := fun p hp => N' p (.tail _ hp)
      refine ⟨rfl, h', tk, m', nx', rfl, F', fun p hp => ?_, fun p hp hq => off' p hp (List.mem_singleton.mp hq), hJ'⟩
      rcases List.mem_append.mp hp with hp | hp
      · have hg : h₁.get? p.1 = some p.2 := hget p hp
        have e := List.mem_singleton.mp (hown p hp)
        rw [e, hoI] at hg
        have e2 : p = (s.heap.objs.size, oI) := Prod.ext e (Option.some.inj hg).symm
        rw [e2]
        exact N' _ (.head _)
      · exact Nx p hp
    cases f with
    | ret v => exact h₄
    | brk => exact h₄
    | next => exact fin h₄
    | cont => exact fin h₄
  · intro h' tk m' nx' F' N' _ hJ
    exact done m' nx' h' tk hJ F' N'
end
theorem pick_to {vs : List Value} {n : Int} {k : Nat} (hn : n = (k : Int)) : slicePick vs.toArray none (some n) none = (vs.take k).toArray := by
  subst hn
  have e : sliceBounds none (some (k : Int)) none vs.toArray.size = (((0 : Nat) : Int), ((min k vs.length : Nat) : Int), 1) := by
    simp only [sliceBounds, Option.getD_none, show (1 : Int) > 0 by decide, if_true, if_neg (show ¬ ((k : Int) < 0) by omega), List.size_toArray]
    congr 1
    congr 1
    omega
  rw [kmk_pick_nat _ e]
  simp
theorem pick_drop {vs : List Value} {k : Nat} {x : Int} (hx : x = (k : Int)) (hk : k ≤ vs.length) : slicePick vs.toArray (some x) none none = (vs.drop k).toArray := by
  have h := Mine.pick_from (us := vs.take k) (vs := vs.drop k) (x := x) (by rw [hx, List.length_take]; omega)
  rwa [List.take_append_drop] at h
theorem slice_I {w : World} {A : Around} {E : Value → Shared → Prop} {s : Shared} {h₀ : Heap} {L l : Addr} {m : Str → Option Value} {news : Led} {vs : List Value} {ks : List Int} {k : Nat} {lo : Int} {vl : Value} {value slice : PySem.Expr} {Q : Value → Shared → Prop} (F : Fr h₀ L s.heap m) (N : News h₀ L s.heap news) (hl : s.heap.IsList l vs.toArray) (hv : IntsAre vs ks) (pl : IsPart vl (some lo))
    (hx : lo = (k : Int)) (hk : k ≤ vs.length) (hz : vs.length ≤ 100000)
    (hs : subscripted slice false (.ref l) (.ref s.heap.objs.size) = operate [.ref s.heap.objs.size, .ref l] (getItem (.ref l) (.ref s.heap.objs.size)))
    (h : ∀ D h' zs, IntsAre zs (ks.drop k) → Fr h₀ L h' m → News h₀ L h' ((D, listOf zs.toArray 0) :: news) → (∀ p ∈ news, p.1 < D) → Q (.ref D) { s with heap := h' }) :
    wpAny (model Mine.Pg w) A (subscriptTail value slice (.ref l) (.ref s.heap.objs.size)) Q E { s with heap := s.heap.push { cls := .type "slice", data := .fields #[vl, .none, .none] } } :=
  Mine.slice_L F N hl pl IsPart.none hz (Mine.pick_drop hx hk) (fun D h' => h D h' _ (hv.drop k)) hs
theorem frame1 {m : Str → Option Value} {x : Str} {v : Value} (h : m x = some v) : m = fun y => if y = x then some v else m y := by
  funext y
  by_cases e : y = x
  · subst e; simp [h]
  · simp [e]
def nameOf (i : Int) : Str := if i = 0 then Str.ofString "A" else if i = 1 then Str.ofString "INPUT" else Str.ofString "OUTPUT"
def deedOf (ks : List Int) (j : Nat) : Deed := (nameOf ((ks.getD (2 + 2 * j) 0).fmod 3), ((ks.getD (2 + 2 * j) 0).fdiv 3).fmod 7, ks.getD (3 + 2 * j) 0)
def deedsOf (ks : List Int) (n : Nat) : List Deed := (Str.ofString "A", 2, 0) :: (List.range n).map (deedOf ks)
theorem deedsOf_succ (ks : List Int) (n : Nat) : deedsOf ks (n + 1) = deedsOf ks n ++ [deedOf ks n] := by simp [deedsOf, List.range_succ]
theorem deedsOf_len (ks : List Int) (n : Nat) : (deedsOf ks n).length = n + 1 := by simp [deedsOf]
theorem nameOf_pick {t1 t2 t3 : Tok} {i : Int} {v0 : Value} (h0 : 0 ≤ i) (h1 : i < 3) (h : ([.str (Str.ofString "A") t1, .str (Str.ofString "INPUT") t2, .str (Str.ofString "OUTPUT") t3] : List Value)[i.toNat]? = some v0) : ∃ t, v0 = .str (nameOf i) t := by
  have : i = 0 ∨ i = 1 ∨ i = 2 := by omega
  rcases this with rfl | rfl | rfl <;> cases h <;> exact ⟨_, rfl⟩
def rowD (i : Nat) : Dat := .str (Str.ofString "row" ++ Str.ofString (toString (i : Int)))
end Mine
namespace Mine
theorem pick_T {w : World} {A : Around} {E : Value → Shared → Prop} {s : Shared} {l : Addr} {vs : List Value} {value slice : PySem.Expr} {i : Int} {t : Tok} {v0 : Value} {Q : Value → Shared → Prop}
    (ht : IsTup s.heap l vs.toArray) (h0 : 0 ≤ i) (h1 : i < vs.length) (hfit : i < 2 ^ 63) (hx : vs[i.toNat]? = some v0) (h : Q v0 s)
    (hs : subscripted slice false (.ref l) (.int i t) = operate [.ref l, .int i t] (getItem (.ref l) (.int i t)) := by with_unfolding_all rfl) : wpAny (model Pg w) A (subscriptTail value slice (.ref l) (.int i t)) Q E s :=
  item_tupleT ht (by omega) hfit (StrLaws.seqIndex_nonneg h0 h1) hx h hs
theorem flat_take {α β : Type} (f : α → List β) (l : List α) (i : Nat) : ((l.take i).flatMap f).length ≤ (l.flatMap f).length := by
  conv => rhs; rw [← List.take_append_drop i l]
  rw [List.flatMap_append, List.length_append]; omega
theorem din_plain {n : Led} {v : Value} {d : Dat} (h : DatIn n v d) (k : kqdOk 0 d = true) : DatIn [] v d := by
  cases h with
  | none => exact .none
  | bool b => simp [kqdOk] at k
  | int i t => exact .int i t
  | str x t => exact .str x t
  | bytes b t => simp [kqdOk] at k
  | tuple a b => simp [kqdOk] at k
  | list a b => simp [kqdOk] at k
theorem dall_plain {n : Led} : ∀ {vs : List Value} {ds : List Dat}, DatAll n vs ds → (∀ d ∈ ds, kqdOk 0 d = true) → DatAll [] vs ds
  | _, _, .nil, _ => .nil
  | _, _, .cons a b, k => .cons (din_plain a (k _ (.head _))) (dall_plain b fun d hd => k d (.tail _ hd))
theorem nameOf_ne (i : Int) : (nameOf i == Str.ofString "") = false := by
  unfold nameOf
  split
  · decide +kernel
  · split <;> decide +kernel
theorem nameOf_ok (i : Int) : PyData.strOk (nameOf i) = true := by
  unfold nameOf
  split
  · decide +kernel
  · split <;> decide +kernel
theorem deedsOf_ok (ks : List Int) (n : Nat) : ∀ d ∈ deedsOf ks n, ((d.1 == Str.ofString "") = false ∧ 0 ≤ d.2.1 ∧ d.2.1 < 7) ∧ PyData.strOk d.1 = true := by
  intro d hd
  rcases List.mem_cons.mp hd with rfl | hd
  · exact ⟨⟨by decide +kernel, by decide, by decide⟩, by decide +kernel⟩
  · obtain ⟨j, -, rfl⟩ := List.mem_map.mp hd
    exact ⟨⟨nameOf_ne _, Int.fmod_nonneg_of_pos _ (by decide +kernel), Int.fmod_lt_of_pos _ (by decide +kernel)⟩, nameOf_ok _⟩
theorem rowD_ok {B : Nat} (h : B < 5) : ∀ d ∈ (List.range B).map rowD, kqdOk 0 d = true := by
  intro d hd
  obtain ⟨j, hj, rfl⟩ := List.mem_map.mp hd
  have hj := List.mem_range.mp hj
  have : j = 0 ∨ j = 1 ∨ j = 2 ∨ j = 3 := by omega
  rcases this with rfl | rfl | rfl | rfl <;> decide +kernel
theorem din_list {n : Led} {v : Value} {ds : List Dat} (h : DatIn n v (.list ds)) : ∃ a vs k, v = .ref a ∧ (a, listOf vs.toArray k) ∈ n ∧ DatAll n vs ds := by cases h; exact ⟨_, _, _, rfl, by assumption, by assumption⟩
theorem din_tuple {n : Led} {v : Value} {ds : List Dat} (h : DatIn n v (.tuple ds)) : ∃ a vs k, v = .ref a ∧ (a, ({ cls := .type "tuple", data := .seq vs.toArray k } : Obj)) ∈ n ∧ DatAll n vs ds := by cases h; exact ⟨_, _, _, rfl, by assumption, by assumption⟩
theorem din_str {n : Led} {v : Value} {x : Str} (h : DatIn n v (.str x)) : ∃ t, v = .str x t := by cases h; exact ⟨_, rfl⟩
theorem din_int {n : Led} {v : Value} {x : Int} (h : DatIn n v (.int x)) : ∃ t, v = .int x t := by cases h; exact ⟨_, rfl⟩
theorem dall_cons {n : Led} {vs : List Value} {d : Dat} {ds : List Dat} (h : DatAll n vs (d :: ds)) : ∃ v us, vs = v :: us ∧ DatIn n v d ∧ DatAll n us ds := by cases h; exact ⟨_, _, rfl, by assumption, by assumption⟩
theorem dall_nil {n : Led} {vs : List Value} (h : DatAll n vs []) : vs = [] := by cases h; rfl
def told0 (i : Nat) : Dat := toldD (ds0 []) (nameOf (i : Int))
theorem told0_eq : (List.range 3).map told0 = [.tuple [sd "", sd "", sd "", sd ""], .tuple [sd "", sd "INPUT", sd "", sd ""], .tuple [sd "", sd "", sd "OUTPUT", sd ""]] := by
  have a : ¬ Str.ofString "A" = Str.ofString "INPUT" := by decide +kernel
  have b : ¬ Str.ofString "A" = Str.ofString "OUTPUT" := by decide +kernel
  have c : ¬ Str.ofString "INPUT" = Str.ofString "OUTPUT" := by decide +kernel
  have d : ¬ Str.ofString "OUTPUT" = Str.ofString "INPUT" := by decide +kernel
  have n0 : nameOf ((0 : Nat) : Int) = Str.ofString "A" := rfl
  have n1 : nameOf ((1 : Nat) : Int) = Str.ofString "INPUT" := rfl
  have n2 : nameOf ((2 : Nat) : Int) = Str.ofString "OUTPUT" := rfl
  show [told0 0, told0 1, told0 2] = _
  unfold told0
  rw [n0, n1, n2]
  simp [toldD, ds0, a, b, c, d]
theorem told0_ok : ∀ d ∈ ([.tuple [sd "", sd "", sd "", sd ""], .tuple [sd "", sd "INPUT", sd "", sd ""], .tuple [sd "", sd "", sd "OUTPUT", sd ""]] : List Dat), kqdOk 8 d = true := by
  have a : PyData.strOk (Str.ofString "") = true := by decide +kernel
  have b : PyData.strOk (Str.ofString "INPUT") = true := by decide +kernel
  have c : PyData.strOk (Str.ofString "OUTPUT") = true := by decide +kernel
  simp [kqdOk, sd, a, b, c]
theorem notin6 {a x dx dS dR dW dT : Nat} (h : a < dx) (o1 : dx < x) (o2 : x < dS) (o3 : dS < dR) (o4 : dR < dW) (o5 : dW < dT) : a ∉ ([x, dx, dS, dR, dW, dT] : List Nat) := by
  simp only [List.mem_cons, List.not_mem_nil, or_false]
  omega
/-- an entry of the story -/
structure Ent where
  q : Str
  heard : Dat
  came : List Dat
  outs : List Dat
  trs : List Dat
  a : Dat
  r : Str
  w : Str
  t : Dat
def Ent.dat (e : Ent) : Dat := .tuple [.str e.q, e.heard, .list e.came, .list e.outs, .list e.trs, .tuple [e.a, .str e.r, .str e.w, e.t]]
structure Ent.Ok (e : Ent) : Prop where
  one : e.came.length ≤ 1
  ex : e.r = Str.ofString "" ∨ e.w = Str.ofString ""
  came : ∀ d ∈ e.came, kqdOk 0 d = true
  dat : kqdOk 8 e.dat = true
def strOf : Option Dat → Str
  | some (.str x) => x
  | _ => Str.ofString ""
def entE (rows : List Dat) (s : DS) (d : Deed) : Ent :=
  ⟨d.1, (doneD s d.1 d.2.1 d.2.2).heard, cameD rows s.I.length (doneD s d.1 d.2.1 d.2.2).st.I.length, (doneD s d.1 d.2.1 d.2.2).outs, (doneD s d.1 d.2.1 d.2.2).trs,
    ((doneD s d.1 d.2.1 d.2.2).st.S d.1).getD (sd ""), strOf ((doneD s d.1 d.2.1 d.2.2).st.R d.1), strOf ((doneD s d.1 d.2.1 d.2.2).st.W d.1), ((doneD s d.1 d.2.1 d.2.2).st.T d.1).getD (sd "")⟩
def storyE (rows : List Dat) : DS → List Deed → List Ent
  | _, [] => []
  | s, d :: ds => entE rows s d :: storyE rows (doneD s d.1 d.2.1 d.2.2).st ds
structure Good (s : DS) : Prop where
  ex : ∀ q, s.R q = none ∨ s.W q = none
  R : ∀ q d, s.R q = some d → ∃ x, d = .str x ∧ PyData.strOk x = true
  W : ∀ q d, s.W q = some d → ∃ x, d = .str x ∧ PyData.strOk x = true
  T : ∀ q d, s.T q = some d → ∃ x, d = .str x ∧ PyData.strOk x = true
  S : ∀ q d, s.S q = some d → kqdOk 0 d = true
  I : ∀ d ∈ s.I, kqdOk 0 d = true
theorem put_all {P : Dat → Prop} {f : Str → Option Dat} {q₀ : Str} {o : Option Dat} (hf : ∀ q d, f q = some d → P d) (ho : ∀ d, o = some d → P d) : ∀ q d, put f q₀ o q = some d → P d := by
  intro q d h
  unfold put at h
  split at h
  · exact ho d h
  · exact hf q d h
theorem menuD_ok (i : Int) : kqdOk 0 (menuD i) = true := by
  unfold menuD
  (repeat' split) <;> decide +kernel
theorem menuX_ok (i : Int) : PyData.strOk (menuX i) = true := by
  unfold menuX
  (repeat' split) <;> decide +kernel
theorem sd_ok {x : String} (h : PyData.strOk (Str.ofString x) = true) : ∀ d, some (sd x) = some d → ∃ y, d = .str y ∧ PyData.strOk y = true := fun d e => ⟨_, (Option.some.inj e).symm, h⟩
theorem if_ok {c : Prop} [Decidable c] {x y : String} (h : PyData.strOk (Str.ofString x) = true) (k : PyData.strOk (Str.ofString y) = true) : ∀ d, some (if c then sd x else sd y) = some d → ∃ y, d = .str y ∧ PyData.strOk y = true := fun d e => by
  split at e
  · exact sd_ok h d e
  · exact sd_ok k d e
theorem none_ok {P : Dat → Prop} : ∀ d, (none : Option Dat) = some d → P d := fun _ e => nomatch e
theorem put_none {f : Str → Option Dat} {q q' : Str} (h : f q' = none) : put f q none q' = none := by unfold put; split <;> first | rfl | exact h
theorem good_done {s : DS} (g : Good s) (q : Str) (k v : Int) : Good (doneD s q k v).st := by
  unfold doneD
  split
  · exact ⟨g.ex, g.R, g.W, g.T, put_all g.S (fun d e => by cases e; exact menuD_ok _), g.I⟩
  split
  · split
    · split
      · exact g
      · rename_i r I h
        exact ⟨g.ex, g.R, g.W, g.T, put_all g.S (fun d e => by cases e; exact g.I _ (by rw [h]; exact .head _)), fun d hd => g.I _ (by rw [h]; exact .tail _ hd)⟩
    · exact g
  split
  · refine ⟨fun q' => ?_, put_all g.R (if_ok (by decide +kernel) (by decide +kernel)), put_all g.W none_ok, g.T, g.S, g.I⟩
    by_cases e : q' = q
    · exact .inr (by simp [put, e])
    · simpa [put, e] using g.ex q'
  split
  · refine ⟨fun q' => ?_, put_all g.R none_ok, put_all g.W (if_ok (by decide +kernel) (by decide +kernel)), g.T, g.S, g.I⟩
    by_cases e : q' = q
    · exact .inl (by simp [put, e])
    · simpa [put, e] using g.ex q'
  split
  · exact ⟨fun q' => (g.ex q').elim (fun h => .inl (put_none h)) fun h => .inr (put_none h), put_all g.R none_ok, put_all g.W none_ok, g.T, g.S, g.I⟩
  split
  · exact ⟨g.ex, g.R, g.W, put_all g.T (sd_ok (by decide +kernel)), g.S, g.I⟩
  · exact ⟨g.ex, g.R, g.W, put_all g.T none_ok, g.S, g.I⟩
theorem ok_up {d : Dat} (h : kqdOk 0 d = true) : ∀ n, kqdOk n d = true := by
  intro n
  cases n with
  | zero => exact h
  | succ n => cases d <;> simp_all [kqdOk]
theorem getD_ok {o : Option Dat} (h : ∀ d, o = some d → kqdOk 0 d = true) : kqdOk 0 (o.getD (sd "")) = true := by
  cases o with
  | none => decide +kernel
  | some d => exact h d rfl
theorem str_ok {o : Option Dat} (h : ∀ d, o = some d → ∃ x, d = .str x ∧ PyData.strOk x = true) : ∀ d, o = some d → kqdOk 0 d = true := fun d e => by
  obtain ⟨x, rfl, k⟩ := h d e
  exact k
theorem strOf_ok {o : Option Dat} (h : ∀ d, o = some d → ∃ x, d = .str x ∧ PyData.strOk x = true) : PyData.strOk (strOf o) = true ∧ o.getD (sd "") = .str (strOf o) := by
  cases o with
  | none => exact ⟨by decide +kernel, rfl⟩
  | some d =>
    obtain ⟨x, rfl, k⟩ := h d rfl
    exact ⟨k, rfl⟩
theorem trace_ok {f : Option Dat} {q : Str} {d : Dat} (hf : ∀ d, f = some d → ∃ x, d = .str x ∧ PyData.strOk x = true) (hq : PyData.strOk q = true) (hd : kqdOk 0 d = true) : ∀ t ∈ traceOf f q d, kqdOk 1 t = true := by
  unfold traceOf
  cases f with
  | none => intro t ht; cases ht
  | some d' =>
    intro t ht
    rw [List.mem_singleton.mp ht]
    simp only [kqdOk, List.all_cons, List.all_nil, Bool.and_true, Bool.and_eq_true]
    exact ⟨str_ok hf _ rfl, hq, hd⟩
theorem done_ok {s : DS} (g : Good s) {q : Str} (hq : PyData.strOk q = true) (k v : Int) : kqdOk 0 (doneD s q k v).heard = true ∧ (∀ d ∈ (doneD s q k v).outs, kqdOk 0 d = true) ∧ (∀ d ∈ (doneD s q k v).trs, kqdOk 1 d = true) := by
  have none0 : ∀ n, ∀ d ∈ ([] : List Dat), kqdOk n d = true := fun _ d hd => nomatch hd
  unfold doneD
  split
  · refine ⟨(show kqdOk 0 (sd "given") = true by decide +kernel), ?_, trace_ok (g.T q) hq (menuD_ok _)⟩
    split
    · intro d hd
      rw [List.mem_singleton.mp hd]
      exact menuX_ok _
    · exact none0 0
  split
  · split
    · split
      · exact ⟨rfl, none0 0, none0 1⟩
      · rename_i h
        exact ⟨g.I _ (by rw [h]; exact .head _), none0 0, none0 1⟩
    · exact ⟨getD_ok (g.S q), none0 0, none0 1⟩
  split
  · exact ⟨(show kqdOk 0 (sd "done") = true by decide +kernel), none0 0, none0 1⟩
  split
  · exact ⟨(show kqdOk 0 (sd "done") = true by decide +kernel), none0 0, none0 1⟩
  split
  · exact ⟨(show kqdOk 0 (sd "done") = true by decide +kernel), none0 0, none0 1⟩
  split
  · exact ⟨(show kqdOk 0 (sd "done") = true by decide +kernel), none0 0, none0 1⟩
  · exact ⟨(show kqdOk 0 (sd "done") = true by decide +kernel), none0 0, none0 1⟩
theorem came_eq {rows cs I I' ds : List Dat} (h : rows = cs ++ I) (h2 : I = ds ++ I') : cameD rows I.length I'.length = ds := by
  subst h h2
  unfold cameD
  have e : (cs ++ (ds ++ I')).length - (ds ++ I').length = cs.length := by simp
  rw [e, List.drop_left]
  have e2 : (ds ++ I').length - I'.length = ds.length := by simp
  rw [e2, List.take_left]
/-- what a deed reads -/
theorem done_I (s : DS) (q : Str) (k v : Int) : ∃ ds, s.I = ds ++ (doneD s q k v).st.I ∧ ds.length ≤ 1 := by
  unfold doneD
  split
  · exact ⟨[], rfl, by decide⟩
  split
  · split
    · split
      · exact ⟨[], rfl, by decide⟩
      · rename_i r I h
        exact ⟨[r], h, by simp⟩
    · exact ⟨[], rfl, by decide⟩
  (repeat' split) <;> exact ⟨[], rfl, by decide⟩
theorem ent_ok {rows cs : List Dat} {s : DS} (g : Good s) (h : rows = cs ++ s.I) (hr : ∀ d ∈ rows, kqdOk 0 d = true) {d : Deed} (hq : PyData.strOk d.1 = true) : (entE rows s d).Ok ∧ entryD rows s d = (entE rows s d).dat := by
  obtain ⟨ds, h1, h2⟩ := done_I s d.1 d.2.1 d.2.2
  have g' := good_done g d.1 d.2.1 d.2.2
  obtain ⟨k1, k2, k3⟩ := done_ok g hq d.2.1 d.2.2
  have hc := came_eq h h1
  have hcm : ∀ x ∈ cameD rows s.I.length (doneD s d.1 d.2.1 d.2.2).st.I.length, kqdOk 0 x = true := fun x hx => hr x (by rw [h, h1]; rw [hc] at hx; exact List.mem_append.mpr (.inr (List.mem_append.mpr (.inl hx))))
  obtain ⟨r1, r2⟩ := strOf_ok (g'.R d.1)
  obtain ⟨w1, w2⟩ := strOf_ok (g'.W d.1)
  have t1 := getD_ok (str_ok (g'.T d.1))
  have a1 := getD_ok (g'.S d.1)
  refine ⟨⟨?_, ?_, hcm, ?_⟩, ?_⟩
  · show (cameD _ _ _).length ≤ 1
    rw [hc]; exact h2
  · rcases g'.ex d.1 with e | e
    · exact .inl (by show strOf _ = _; rw [e]; rfl)
    · exact .inr (by show strOf _ = _; rw [e]; rfl)
  · unfold entE Ent.dat
    simp only [kqdOk, List.all_cons, List.all_nil, Bool.and_true, Bool.and_eq_true, List.all_eq_true]
    exact ⟨hq, ok_up k1 _, fun x hx => ok_up (hcm x hx) _, fun x hx => ok_up (k2 x hx) _, fun x hx => by
      have := k3 x hx
      revert this
      cases x <;> simp [kqdOk]
      · intro h1 y hy; exact ok_up (h1 y hy) _
      · intro h1 y hy; exact ok_up (h1 y hy) _, ok_up a1 _, r1, w1, ok_up t1 _⟩
  · unfold entryD entE Ent.dat toldD
    rw [r2, w2]
theorem story_ok {rows : List Dat} (hr : ∀ d ∈ rows, kqdOk 0 d = true) : ∀ (ds : List Deed) (s : DS) (cs : List Dat), Good s → rows = cs ++ s.I → (∀ d ∈ ds, PyData.strOk d.1 = true) →
    (storyD rows s ds).1 = (storyE rows s ds).map Ent.dat ∧ (∀ e ∈ storyE rows s ds, e.Ok) ∧ s.I = (storyE rows s ds).flatMap Ent.came ++ (storyD rows s ds).2.I
  | [], s, cs, g, h, hq => ⟨rfl, (fun e he => nomatch he), rfl⟩
  | d :: ds, s, cs, g, h, hq => by
    obtain ⟨es, h1, h2⟩ := done_I s d.1 d.2.1 d.2.2
    obtain ⟨o1, o2⟩ := ent_ok g h hr (hq d (.head _))
    obtain ⟨i1, i2, i3⟩ := story_ok hr ds _ (cs ++ es) (good_done g d.1 d.2.1 d.2.2) (by rw [List.append_assoc, ← h1]; exact h) (fun x hx => hq x (.tail _ hx))
    refine ⟨?_, ?_, ?_⟩
    · show entryD rows s d :: _ = (entE rows s d).dat :: _
      rw [o2, i1]
    · exact List.forall_mem_cons.mpr ⟨o1, i2⟩
    · show s.I = ((entE rows s d).came ++ (storyE rows _ ds).flatMap Ent.came) ++ (storyD rows (doneD s d.1 d.2.1 d.2.2).st ds).2.I
      have : (entE rows s d).came = es := came_eq h h1
      rw [this, List.append_assoc, ← i3]
      exact h1
theorem good_ds0 {rows : List Dat} (hr : ∀ d ∈ rows, kqdOk 0 d = true) : Good (ds0 rows) := by
  refine ⟨fun q => ?_, ?_, ?_, (fun q d e => nomatch e), (fun q d e => nomatch e), hr⟩
  · unfold ds0
    dsimp only
    by_cases e : q = Str.ofString "INPUT"
    · right; subst e; decide
    · left; rw [if_neg e]
  · intro q d e
    unfold ds0 at e
    dsimp only at e
    split at e
    · exact sd_ok (by decide +kernel) d e
    · cases e
  · intro q d e
    unfold ds0 at e
    dsimp only at e
    split at e
    · exact sd_ok (by decide +kernel) d e
    · cases e
/-- the state at one name -/
structure SameAt (q : Str) (s t : DS) : Prop where
  S : s.S q = t.S q
  R : s.R q = t.R q
  W : s.W q = t.W q
  T : s.T q = t.T q
theorem put_self {f : Str → Option Dat} {q : Str} {o : Option Dat} : put f q o q = o := by simp [put]
theorem put_other {f : Str → Option Dat} {q q' : Str} {o : Option Dat} (h : q' ≠ q) : put f q o q' = f q' := by simp [put, h]
theorem done_other {s : DS} {q q' : Str} (h : q' ≠ q) (k v : Int) : SameAt q' (doneD s q k v).st s := by
  unfold doneD
  split
  · exact ⟨put_other h, rfl, rfl, rfl⟩
  split
  · split
    · split
      · exact ⟨rfl, rfl, rfl, rfl⟩
      · exact ⟨put_other h, rfl, rfl, rfl⟩
    · exact ⟨rfl, rfl, rfl, rfl⟩
  split
  · exact ⟨rfl, put_other h, put_other h, rfl⟩
  split
  · exact ⟨rfl, put_other h, put_other h, rfl⟩
  split
  · exact ⟨rfl, put_other h, put_other h, rfl⟩
  split
  · exact ⟨rfl, rfl, rfl, put_other h⟩
  · exact ⟨rfl, rfl, rfl, put_other h⟩
/-- the same deed in two worlds that agree at its name and where the other's inputs begin with what is read -/
theorem done_same {s t : DS} {q : Str} (e : SameAt q s t) (k v : Int) {ds J : List Dat} (hs : s.I = ds ++ (doneD s q k v).st.I) (ht : t.I = ds ++ J) (hz : s.I = [] → t.I = []) :
    SameAt q (doneD s q k v).st (doneD t q k v).st ∧ (doneD t q k v).st.I = J ∧ (doneD t q k v).heard = (doneD s q k v).heard ∧ (doneD t q k v).outs = (doneD s q k v).outs ∧ (doneD t q k v).trs = (doneD s q k v).trs := by
  obtain ⟨eS, eR, eW, eT⟩ := id e
  have nil : ∀ {X : List Dat}, s.I = ds ++ X → X = s.I → ds = [] := fun h1 h2 => by
    rw [h2] at h1
    have := congrArg List.length h1
    rw [List.length_append] at this
    exact List.length_eq_zero_iff.mp (by omega)
  by_cases h0 : k = 0
  · have hd := nil hs (by unfold doneD; rw [if_pos h0])
    subst hd
    unfold doneD
    rw [if_pos h0, if_pos h0, eW, eT]
    exact ⟨⟨put_self.trans put_self.symm, eR, eW, eT⟩, ht, rfl, rfl, rfl⟩
  by_cases h1 : k = 1
  · by_cases hR : (s.R q).isSome = true
    · have hR' : (t.R q).isSome = true := by rw [← eR]; exact hR
      cases hI : s.I with
      | nil =>
        have hd := nil hs (by unfold doneD; rw [if_neg h0, if_pos h1, if_pos hR, hI]; exact hI)
        subst hd
        have ht' := hz hI
        unfold doneD
        rw [if_neg h0, if_neg h0, if_pos h1, if_pos h1, if_pos hR, if_pos hR', hI, ht']
        exact ⟨e, ht, rfl, rfl, rfl⟩
      | cons r I =>
        have hst : (doneD s q k v).st.I = I := by unfold doneD; rw [if_neg h0, if_pos h1, if_pos hR, hI]
        rw [hst, hI] at hs
        have hd : ds = [r] := by
          cases ds with
          | nil =>
            have := congrArg List.length hs
            simp at this
          | cons a b =>
            have h3 := (List.cons.inj hs).1
            have h4 : I = b ++ I := (List.cons.inj hs).2
            have h5 := congrArg List.length h4
            rw [List.length_append] at h5
            have hb : b = [] := List.length_eq_zero_iff.mp (by omega)
            rw [hb, h3]
        subst hd
        have ht' : t.I = r :: J := ht
        unfold doneD
        rw [if_neg h0, if_neg h0, if_pos h1, if_pos h1, if_pos hR, if_pos hR', hI, ht']
        exact ⟨⟨put_self.trans put_self.symm, eR, eW, eT⟩, rfl, rfl, rfl, rfl⟩
    · have hR' : ¬ (t.R q).isSome = true := by rw [← eR]; exact hR
      have hd := nil hs (by unfold doneD; rw [if_neg h0, if_pos h1, if_neg hR])
      subst hd
      unfold doneD
      rw [if_neg h0, if_neg h0, if_pos h1, if_pos h1, if_neg hR, if_neg hR', eS]
      exact ⟨e, ht, rfl, rfl, rfl⟩
  by_cases h2 : k = 2
  · have hd := nil hs (by unfold doneD; rw [if_neg h0, if_neg h1, if_pos h2])
    subst hd
    unfold doneD
    rw [if_neg h0, if_neg h0, if_neg h1, if_neg h1, if_pos h2, if_pos h2]
    exact ⟨⟨eS, put_self.trans put_self.symm, put_self.trans put_self.symm, eT⟩, ht, rfl, rfl, rfl⟩
  by_cases h3 : k = 3
  · have hd := nil hs (by unfold doneD; rw [if_neg h0, if_neg h1, if_neg h2, if_pos h3])
    subst hd
    unfold doneD
    rw [if_neg h0, if_neg h0, if_neg h1, if_neg h1, if_neg h2, if_neg h2, if_pos h3, if_pos h3]
    exact ⟨⟨eS, put_self.trans put_self.symm, put_self.trans put_self.symm, eT⟩, ht, rfl, rfl, rfl⟩
  by_cases h4 : k = 4
  · have hd := nil hs (by unfold doneD; rw [if_neg h0, if_neg h1, if_neg h2, if_neg h3, if_pos h4])
    subst hd
    unfold doneD
    rw [if_neg h0, if_neg h0, if_neg h1, if_neg h1, if_neg h2, if_neg h2, if_neg h3, if_neg h3, if_pos h4, if_pos h4]
    exact ⟨⟨eS, put_self.trans put_self.symm, put_self.trans put_self.symm, eT⟩, ht, rfl, rfl, rfl⟩
  by_cases h5 : k = 5
  · have hd := nil hs (by unfold doneD; rw [if_neg h0, if_neg h1, if_neg h2, if_neg h3, if_neg h4, if_pos h5])
    subst hd
    unfold doneD
    rw [if_neg h0, if_neg h0, if_neg h1, if_neg h1, if_neg h2, if_neg h2, if_neg h3, if_neg h3, if_neg h4, if_neg h4, if_pos h5, if_pos h5]
    exact ⟨⟨eS, eR, eW, put_self.trans put_self.symm⟩, ht, rfl, rfl, rfl⟩
  · have hd := nil hs (by unfold doneD; rw [if_neg h0, if_neg h1, if_neg h2, if_neg h3, if_neg h4, if_neg h5])
    subst hd
    unfold doneD
    rw [if_neg h0, if_neg h0, if_neg h1, if_neg h1, if_neg h2, if_neg h2, if_neg h3, if_neg h3, if_neg h4, if_neg h4, if_neg h5, if_neg h5]
    exact ⟨⟨eS, eR, eW, put_self.trans put_self.symm⟩, ht, rfl, rfl, rfl⟩
def ownE (q : Str) (e : Ent) : List Dat := if e.q = q then e.came else []
theorem own_nil {rows : List Dat} {q : Str} : ∀ (ds : List Deed) (s : DS) (cs : List Dat), rows = cs ++ s.I → s.I = [] → (storyE rows s ds).flatMap (ownE q) = []
  | [], _, _, _, _ => rfl
  | d :: ds, s, cs, h, hz => by
    obtain ⟨es, h1, h2⟩ := done_I s d.1 d.2.1 d.2.2
    rw [hz] at h1
    obtain ⟨z1, z2⟩ := List.append_eq_nil_iff.mp h1.symm
    have hc : (entE rows s d).came = [] := by
      have := came_eq h (show s.I = es ++ _ by rw [hz]; exact h1)
      rw [z1] at this
      exact this
    show ownE q (entE rows s d) ++ (storyE rows _ ds).flatMap (ownE q) = []
    rw [own_nil ds _ cs (by rw [z2, ← hz]; exact h) z2, List.append_nil]
    unfold ownE
    rw [hc]
    split <;> rfl
theorem story_proj {rows own : List Dat} {q : Str} : ∀ (ds : List Deed) (s t : DS) (cs co : List Dat), SameAt q s t → rows = cs ++ s.I → own = co ++ t.I → t.I = (storyE rows s ds).flatMap (ownE q) →
    storyE own t (ds.filter fun d => d.1 == q) = (storyE rows s ds).filter (fun e => e.q == q) ∧ (storyD own t (ds.filter fun d => d.1 == q)).2.I = []
  | [], s, t, cs, co, e, h, ho, ht => ⟨rfl, ht⟩
  | d :: ds, s, t, cs, co, e, h, ho, ht => by
    obtain ⟨es, h1, h2⟩ := done_I s d.1 d.2.1 d.2.2
    have hc : (entE rows s d).came = es := came_eq h h1
    have h' : rows = (cs ++ es) ++ (doneD s d.1 d.2.1 d.2.2).st.I := by rw [List.append_assoc, ← h1]; exact h
    have hx : t.I = ownE q (entE rows s d) ++ (storyE rows (doneD s d.1 d.2.1 d.2.2).st ds).flatMap (ownE q) := ht
    by_cases hq : d.1 = q
    · have hq' : (d.1 == q) = true := by rw [hq]; exact beq_self_eq_true q
      have ho1 : ownE q (entE rows s d) = es := by unfold ownE; rw [if_pos (show (entE rows s d).q = q from hq)]; exact hc
      rw [ho1] at hx
      subst hq
      obtain ⟨e', j1, j2, j3, j4⟩ := done_same e d.2.1 d.2.2 h1 hx (fun z => by rw [ht]; exact own_nil (d :: ds) s cs h z)
      obtain ⟨i1, i2⟩ := story_proj ds _ _ (own := own) (cs ++ es) (co ++ es) e' h' (by rw [j1, List.append_assoc, ← hx]; exact ho) j1
      have hc2 : (entE own t d).came = es := came_eq ho (by rw [j1]; exact hx)
      rw [List.filter_cons_of_pos (p := fun d' : Deed => d'.1 == d.1) (by exact beq_self_eq_true _)]
      constructor
      · show entE own t d :: storyE own _ _ = List.filter _ (entE rows s d :: _)
        rw [List.filter_cons_of_pos (by exact beq_self_eq_true _), i1]
        congr 1
        have : entE own t d = { entE rows s d with } := by
          unfold entE at hc hc2 ⊢
          dsimp only at hc hc2
          rw [hc, hc2, j2, j3, j4, e'.S, e'.R, e'.W, e'.T]
        exact this
      · exact i2
    · have hq' : ¬ (d.1 == q) = true := by simpa using hq
      have ho1 : ownE q (entE rows s d) = [] := by unfold ownE; rw [if_neg (show ¬ (entE rows s d).q = q from hq)]
      rw [ho1, List.nil_append] at hx
      have o := done_other (s := s) (fun e => hq e.symm) d.2.1 d.2.2 (q := d.1) (q' := q)
      obtain ⟨i1, i2⟩ := story_proj ds (doneD s d.1 d.2.1 d.2.2).st t (cs ++ es) co ⟨o.S.trans e.S, o.R.trans e.R, o.W.trans e.W, o.T.trans e.T⟩ h' ho hx
      rw [List.filter_cons_of_neg (p := fun d : Deed => d.1 == q) hq']
      constructor
      · show _ = List.filter _ (entE rows s d :: _)
        rw [List.filter_cons_of_neg (by exact hq'), i1]
      · exact i2
theorem story_mine {rows : List Dat} (hr : ∀ d ∈ rows, kqdOk 0 d = true) {deeds : List Deed} (hq : ∀ d ∈ deeds, PyData.strOk d.1 = true) (q : Str) :
    (storyD ((storyE rows (ds0 rows) deeds).flatMap (ownE q)) (ds0 ((storyE rows (ds0 rows) deeds).flatMap (ownE q))) (deeds.filter fun d => d.1 == q)).1 = ((storyE rows (ds0 rows) deeds).filter fun e => e.q == q).map Ent.dat ∧
    (storyD ((storyE rows (ds0 rows) deeds).flatMap (ownE q)) (ds0 ((storyE rows (ds0 rows) deeds).flatMap (ownE q))) (deeds.filter fun d => d.1 == q)).2.I = [] := by
  obtain ⟨-, o2, -⟩ := story_ok hr deeds (ds0 rows) [] (good_ds0 hr) rfl hq
  have hown : ∀ d ∈ (storyE rows (ds0 rows) deeds).flatMap (ownE q), kqdOk 0 d = true := by
    intro d hd
    obtain ⟨e, he, hd⟩ := List.mem_flatMap.mp hd
    unfold ownE at hd
    split at hd
    · exact (o2 e he).came d hd
    · cases hd
  obtain ⟨p1, p2⟩ := story_proj (rows := rows) (own := (storyE rows (ds0 rows) deeds).flatMap (ownE q)) (q := q) deeds (ds0 rows) (ds0 ((storyE rows (ds0 rows) deeds).flatMap (ownE q))) [] [] ⟨rfl, rfl, rfl, rfl⟩ rfl rfl rfl
  obtain ⟨m1, -, -⟩ := story_ok hown (deeds.filter fun d => d.1 == q) (ds0 _) [] (good_ds0 hown) rfl (fun d hd => hq d ((List.mem_filter.mp hd).1))
  exact ⟨by rw [m1, p1], p2⟩
theorem own_len {q : Str} : ∀ (es : List Ent), (es.flatMap (ownE q)).length ≤ (es.flatMap Ent.came).length
  | [] => Nat.le_refl _
  | e :: es => by
    have := own_len (q := q) es
    have h1 : (ownE q e).length ≤ e.came.length := by
      unfold ownE
      split
      · exact Nat.le_refl _
      · exact Nat.zero_le _
    rw [List.flatMap_cons, List.flatMap_cons, List.length_append, List.length_append]
    exact Nat.add_le_add h1 this
theorem take_flat {α β : Type} (f : α → List β) {l : List α} {i : Nat} (h : i < l.length) : (l.take (i + 1)).flatMap f = (l.take i).flatMap f ++ f l[i] := by
  rw [List.take_add_one, List.getElem?_eq_getElem h, List.flatMap_append]
  simp
theorem take_filter {α : Type} (p : α → Bool) {l : List α} {i : Nat} (h : i < l.length) : (l.take (i + 1)).filter p = (l.take i).filter p ++ (if p l[i] = true then [l[i]] else []) := by
  rw [List.take_add_one, List.getElem?_eq_getElem h, List.filter_append]
  congr 1
  by_cases hp : p l[i] = true <;> simp [hp]
theorem ent_open {n : Led} {v : Value} {e : Ent} (h : DatIn n v e.dat) : ∃ TE nT tq z2 lH vH nH z4 z5 z6, v = .ref TE ∧ (TE, ({ cls := .type "tuple", data := .seq (List.toArray [.str e.q tq, z2, .ref lH, z4, z5, z6]) nT } : Obj)) ∈ n ∧ (lH, listOf vH.toArray nH) ∈ n ∧ DatAll n vH e.came := by
  unfold Ent.dat at h
  obtain ⟨TE, vT, nT, rfl, hmE, hD⟩ := din_tuple h
  obtain ⟨z1, vT1, rfl, hD1, hD⟩ := dall_cons hD
  obtain ⟨z2, vT2, rfl, hD2, hD⟩ := dall_cons hD
  obtain ⟨z3, vT3, rfl, hD3, hD⟩ := dall_cons hD
  obtain ⟨z4, vT4, rfl, hD4, hD⟩ := dall_cons hD
  obtain ⟨z5, vT5, rfl, hD5, hD⟩ := dall_cons hD
  obtain ⟨z6, vT6, rfl, hD6, hD⟩ := dall_cons hD
  obtain rfl := dall_nil hD
  obtain ⟨tq, rfl⟩ := din_str hD1
  obtain ⟨lH, vH, nH, rfl, hmH, hDH⟩ := din_list hD3
  exact ⟨TE, nT, tq, z2, lH, vH, nH, z4, z5, z6, rfl, hmE, hmH, hDH⟩
theorem deed_open {n : Led} {v : Value} {d : Deed} (h : DatIn n v (deedD d)) : ∃ TE nT tq t2 t3, v = .ref TE ∧ (TE, ({ cls := .type "tuple", data := .seq (List.toArray [.str d.1 tq, .int d.2.1 t2, .int d.2.2 t3]) nT } : Obj)) ∈ n := by
  unfold deedD at h
  obtain ⟨TE, vT, nT, rfl, hmE, hD⟩ := din_tuple h
  obtain ⟨z1, vT1, rfl, hD1, hD⟩ := dall_cons hD
  obtain ⟨z2, vT2, rfl, hD2, hD⟩ := dall_cons hD
  obtain ⟨z3, vT3, rfl, hD3, hD⟩ := dall_cons hD
  obtain rfl := dall_nil hD
  obtain ⟨tq, rfl⟩ := din_str hD1
  obtain ⟨t2, rfl⟩ := din_int hD2
  obtain ⟨t3, rfl⟩ := din_int hD3
  exact ⟨TE, nT, tq, t2, t3, rfl, hmE⟩
open Classical in
theorem kqd_neD {prog : Program} {w : World} {A : Around} {E : Value → Shared → Prop} {s : Shared} {h₀ : Heap} {L : Addr} {a b : Value} {news n₁ n₂ : Led} {d e : Dat} {Q : Value → Shared → Prop} (N : News h₀ L s.heap news) (Da : DatIn n₁ a d) (sa : ∀ p ∈ n₁, p ∈ news) (Db : DatIn n₂ b e) (sb : ∀ p ∈ n₂, p ∈ news)
    (ha : kqdOk 10 d = true) (hb : kqdOk 10 e = true) (hu : A.units + 64 < cLine) (h : Q (.bool (!decide (d = e))) s) : wpAny (model prog w) A (compareOp .NotEq a b) Q E s := by
  obtain ⟨as, ra⟩ := kqd_in N 10 (Da.mono sa) ha
  obtain ⟨bs, rb⟩ := kqd_in N 10 (Db.mono sb) hb
  have la := kqd_lay 10 d ha
  have lb := kqd_lay 10 e hb
  have eq : PyData.eqv (kqdP d) (kqdP e) = decide (d = e) := by
    have q := kqd_eqv 10 d e 10 ha hb
    by_cases hq : d = e
    · rw [decide_eq_true hq]; exact q.mpr hq
    · rw [decide_eq_false hq]; exact Bool.eq_false_iff.mpr fun x => hq (q.mp x)
  refine ne_dataH ra rb ?_ ?_ hu (by rw [eq]; exact h)
  · unfold SeqAt.shaped; rw [la.1, Bool.true_and]; exact decide_eq_true (Nat.le_trans la.2 (by decide))
  · unfold SeqAt.shaped; rw [lb.1, Bool.true_and]; exact decide_eq_true (Nat.le_trans lb.2 (by decide))
open Classical in
theorem kqd_same {prog : Program} {w : World} {A : Around} {E : Value → Shared → Prop} {s : Shared} {h₀ : Heap} {L a b : Addr} {news n₁ n₂ : Led} {oa ob : Obj} {xs ys : List Value} {ka kb : Nat} {ds : List Dat} {Q : Value → Shared → Prop}
    (N : News h₀ L s.heap news) (ma : (a, oa) ∈ news) (ca : oa.cls = .type "list") (da : oa.data = .seq xs.toArray ka) (Da : DatAll n₁ xs ds) (sa : ∀ p ∈ n₁, p ∈ news)
    (mb : (b, ob) ∈ news) (cb : ob.cls = .type "list") (db : ob.data = .seq ys.toArray kb) (Db : DatAll n₂ ys ds) (sb : ∀ p ∈ n₂, p ∈ news)
    (ha : ∀ d ∈ ds, kqdOk 8 d = true) (hu : A.units + 64 < cLine) (h : Q (.bool false) s) : wpAny (model prog w) A (compareOp .NotEq (.ref a) (.ref b)) Q E s :=
  kqd_ne N ma ca da Da sa mb cb db Db sb ha ha hu (by rw [decide_eq_true rfl]; exact h)
open Classical in
theorem kqd_sameD {prog : Program} {w : World} {A : Around} {E : Value → Shared → Prop} {s : Shared} {h₀ : Heap} {L : Addr} {a b : Value} {news n₁ n₂ : Led} {d : Dat} {Q : Value → Shared → Prop} (N : News h₀ L s.heap news) (Da : DatIn n₁ a d) (sa : ∀ p ∈ n₁, p ∈ news) (Db : DatIn n₂ b d) (sb : ∀ p ∈ n₂, p ∈ news)
    (ha : kqdOk 10 d = true) (hu : A.units + 64 < cLine) (h : Q (.bool false) s) : wpAny (model prog w) A (compareOp .NotEq a b) Q E s :=
  kqd_neD N Da sa Db sb ha ha hu (by rw [decide_eq_true rfl]; exact h)
theorem law_post (args : List WData) : PySem.Challenge.rw_sj0189_01.row.claim.post args (.bool true) args = true := postW_of (X := true) (by wrow_shape) (by wtm_val) rfl
end Mine
namespace Mine
local macro_rules | `(tactic| k_all) => `(tactic| assumption)
local macro_rules | `(tactic| walk_at "execs cons") => `(tactic| (k_here; (with_reducible refine gentoks fun tk => wpAny_execs_cons ?_); try dsimp only))
local macro_rules | `(tactic| walk_at "execs nil") => `(tactic| (k_here; (with_reducible refine gentoks fun tk => wpAny_execs_nil ?_); try dsimp only))
set_option maxHeartbeats 8000000 in
theorem law_holds : PySem.Challenge.rw_sj0189_01.Holds := Mine.head rfl rfl rfl (by 
  w_top off
  intro w s₀ s₁ mg mb G Y fa o pm cd doc dV kV ho hd hcd hD hmg hg args vals as hpre hlay hrd hwl hlo
  have KX := kIn_of Y
  have X := (Ground.X G).1
  have V := (Ground.X G).2
  refine Ground.open G ?_
  intro T B D TE TW
  try (refine guard_noD D (by decide +kernel) ?_; clear D)
  obtain ⟨_, _, M⟩ := bmod_of_top T
  have TA := at_of_top T
  try (obtain ⟨_, _, he, B0⟩ := based_of_top T rfl hmg ho hd; have he' : cd = _ := he; subst he'; clear he)
  clear hmg
  wrow_args hpre hlay hrd hwl hlo
  refine enter_call ?_
  w_top on
  try refine codeAny_mono ?_ (fun _ _ g => GoodW.toG g)
  have K0 := below_caller (Top.heap T)
  w_call any ho hd hcd hD T F
  clear hd TA
  k_drop
  (all_goals try k_fold)
  rename Heap.IsList _ _ _ => hL
  rename IntsAre _ _ => hI
  rename List Int => ns
  rename Shared => s1
  rename Obj => cw
  rename ¬ _ => hC
  have hlen := hI.length
  (repeat' ((fail_if_success (with_reducible show wpAny _ _ (newList _) _ _ _)); first | (k_unfold; (try dsimp only)) | (k_end; wrow_close) | walk1 | (dsimp only; walk1) | (leave1; walk_say "STEP leave1"; try dsimp only) | fail "no step"))
  k_dflt (refine' newList_K ?k1 ?k2 ?_; (case k1 => k_asm); (case k2 => k_asm))
  intro lu h1 F1 N1 l1
  k_lt l1
  (repeat' ((fail_if_success (with_reducible show wpAny _ _ (newList _) _ _ _)); first | (k_unfold; (try dsimp only)) | (k_end; wrow_close) | walk1 | (dsimp only; walk1) | (leave1; walk_say "STEP leave1"; try dsimp only) | fail "no step"))
  k_dflt (refine' newList_K ?k1 ?k2 ?_; (case k1 => k_asm); (case k2 => k_asm))
  intro lw h2 F2 N2 l2
  k_lt l2
  (repeat' ((fail_if_success (with_reducible show wpAny _ _ (subscriptTail _ _ (Value.ref _) (Value.ref _)) _ _ _)); first | (k_unfold; (try dsimp only)) | (k_end; wrow_close) | walk1 | (dsimp only; walk1) | (leave1; walk_say "STEP leave1"; try dsimp only) | fail "no step"))
  k_dflt (refine' Mine.slice_L (zs := List.take 22 _) ?sF ?sN ?sl ?sp ?sq ?sz ?se ?_ ?ss; (case sF => k_asm); (case sN => k_asm); (case sl => exact hL.at fun o e => Fr.keep (by k_asm) _ o e); (case sp => exact IsPart.none); (case sq => exact IsPart.int _ _); (case sz => omega); (case se => exact Mine.pick_to rfl); (case ss => with_unfolding_all rfl))
  intro D1 h1 F1 N1 l11
  k_lt l11
  have hIt := IntsAre.take hI 22
  (repeat' ((fail_if_success (with_reducible show wpAny _ _ (subscriptTail _ _ (Value.ref _) (Value.ref _)) _ _ _)); first | (k_unfold; (try dsimp only)) | (k_end; wrow_close) | walk1 | (dsimp only; walk1) | (leave1; walk_say "STEP leave1"; try dsimp only) | fail "no step"))
  have hu : ∀ a1 a2 a3 a4 a5 a6 a7 a8 a9 b1 b2 b3 b4 b5 b6 b7 b8 b9 c1 c2 c3 c4 : Tok, IntsAre [.int 3 a1, .int 10 a2, .int 3 a3, .int 0 a4, .int 4 a5, .int 0 a6, .int 9 a7, .int 1 a8, .int 15 a9, .int 0 b1, .int 0 b2, .int 2 b3, .int 2 b4, .int 1 b5, .int 8 b6, .int 0 b7, .int 5 b8, .int 0 b9, .int 4 c1, .int 0 c2, .int 12 c3, .int 0 c4] [3, 10, 3, 0, 4, 0, 9, 1, 15, 0, 0, 2, 2, 1, 8, 0, 5, 0, 4, 0, 12, 0] := by
    intros
    repeat' constructor
  k_dflt (refine' Mine.slice_I ?sF ?sN ?sl ?sv ?sp ?sx ?sk ?sz ?ss ?_; (case sF => k_asm); (case sN => k_asm); (case sl => exact News.isList (by k_asm) (by k_mem)); (case sv => exact hu _ _ _ _ _ _ _ _ _ _ _ _ _ _ _ _ _ _ _ _ _ _); (case sp => exact IsPart.int _ _); (case sx => exact rfl); (case sz => exact (show (22 : Nat) ≤ 100000 by decide)); (case sk => show _ ≤ 22; rw [List.length_take]; exact Nat.min_le_left _ _);  (case ss => with_unfolding_all rfl))
  intro D2 h2 zs hzs F2 N2 l12
  k_lt l12
  rename IntsAre _ (List.map _ _) => hab
  (repeat' ((fail_if_success (with_reducible show wpAny _ _ (binaryOp _ (Value.ref _) (Value.ref _)) _ _ _)); first | (k_unfold; (try dsimp only)) | (k_end; wrow_close) | walk1 | (dsimp only; walk1) | (leave1; walk_say "STEP leave1"; try dsimp only) | fail "no step"))
  k_dflt (refine' kmk_add_ints ?k1 ?k2 ?k3 ?k4 ?k5 ?k6 ?_ ?k7; (case k1 => k_asm); (case k2 => k_asm); (case k3 => kmk_list); (case k4 => kmk_list); (case k5 => exact hab); (case k6 => exact hzs); (case k7 => rw [List.length_map, List.length_drop, sizeLine_eq]; show _ + (22 - _) ≤ _; rw [List.length_take]; omega))
  intro lc cs h3 F3 N3 l3 hcs
  k_lt l3
  have hks : (List.map (fun k' => if k' < 0 then -k' else k') (List.take 22 ns) ++ List.drop (List.take 22 ns).length [3, 10, 3, 0, 4, 0, 9, 1, 15, 0, 0, 2, 2, 1, 8, 0, 5, 0, 4, 0, 12, 0]).length = 22 := by
    rw [List.length_append, List.length_map, List.length_drop]; show _ + (22 - _) = _; rw [List.length_take]; omega
  generalize (List.map _ (List.take 22 ns) ++ List.drop (List.take 22 ns).length _) = ks at hcs hks
  obtain ⟨ta, tb, tc, N5⟩ : ∃ ta tb tc, News s1.heap s1.heap.objs.size h3 [(lc, listOf cs.toArray 0), (lw, listOf [.str (Str.ofString "A") ta, .str (Str.ofString "INPUT") tb, .str (Str.ofString "OUTPUT") tc].toArray 0), (s1.heap.objs.size + 1, cw)] := ⟨_, _, _, Mine.News.sub N3 (by kqd_sub)⟩
  clear N3
  clear N1 N2
  (repeat' ((fail_if_success (with_reducible show wpAny _ _ (exec (Stmt.Assign _ (PySem.Expr.ListComp _ _ _ _) _) _) _ _ _)); first | (k_unfold; (try dsimp only)) | (k_end; wrow_close) | walk1 | (dsimp only; walk1) | (leave1; walk_say "STEP leave1"; try dsimp only) | fail "no step"))
  k_dflt (refine LCg.Assign_ListComp_U (F₀ := by k_asm) (by rfl) (by with_unfolding_all rfl) (by with_unfolding_all rfl) (by decide) (by rfl) (by decide) (by rfl) (by rfl) (by rfl) ?_)
  (repeat' ((fail_if_success (with_reducible show LCg.CompSrc _ _ _ _ _ _ _ _ _ _ _ _ _ _)); first | (k_unfold; (try dsimp only)) | (k_end; wrow_close) | walk1 | (dsimp only; walk1) | (leave1; walk_say "STEP leave1"; try dsimp only) | fail "no step"))
  rename IsRange _ _ _ _ _ _ _ _ => hR
  have hB0 := Int.fmod_nonneg_of_pos (ks.getD (Int.toNat 0) 0) (show (0 : Int) < 5 by decide)
  have hB5 := Int.fmod_lt_of_pos (ks.getD (Int.toNat 0) 0) (show (0 : Int) < 5 by decide)
  generalize hB : (ks.getD (Int.toNat 0) 0).fmod 5 = B at hR hB0 hB5
  k_dflt (refine' LCg.CompSrc.range (n := B.toNat) ?k1 ?k2 ?k3 hR ?k4 ?k5 ?k6 ?_; (case k1 => rfl); (case k2 => k_asm); (case k3 => k_asm); (case k4 => exact small_one (by omega) (by omega) (by omega) (by omega)); (case k5 => rw [rangeSize_nat]; congr 1; omega); (case k6 => rw [sizeLine_eq]; omega))
  intro g5
  k_dflt (refine' Mine.comp_same (fun i ys => DatAll [] ys ((List.range i).map Mine.rowD)) .nil ?turn ?fin)
  case turn =>
    rintro i ys hi hys v I oI C oC D m₂ h tk E' ⟨t, rfl⟩ hC9 hx F N off ne
    simp only [LCg.Off3, and_true] at off
    (repeat' ((fail_if_success (with_reducible show wpAny _ _ (call (Value.type "str") _) _ _ _)); first | (k_unfold; (try dsimp only)) | (k_end; wrow_close) | walk1 | (dsimp only; walk1) | (leave1; walk_say "STEP leave1"; try dsimp only) | fail "no step"))
    have hi4 : i < 4 := by omega
    have e9 : (0 : Int) + (i : Int) = (i : Int) := Int.zero_add _
    rw [e9]
    (repeat' ((fail_if_success (with_reducible show LCg.CompEnd _ _ _ _ _ _ _ _ _ _ _ _ _ _)); first | (k_unfold; (try dsimp only)) | (k_end; wrow_close) | walk1 | (dsimp only; walk1) | (leave1; walk_say "STEP leave1"; try dsimp only) | fail "no step"))
    k_dflt (refine LCg.CompEnd.intro (by k_asm) N _ (fun p h => h) (by lcg_off) trivial ⟨rfl, ?_⟩)
    rw [List.range_succ, List.map_append]
    refine DatAll.append hys (DatAll.one ?_)
    exact .str _ _
  case fin =>
    intro ys hrows
    unfold LCg.FinA
    intro lr h5 tk5 F5 N5 o5
    dsimp only at F5 N5 ⊢
    rw [show LCg.lst ys = listOf ys.toArray ys.length from rfl] at N5
    simp only [LCg.Off1, and_true] at o5
    (repeat' ((fail_if_success (with_reducible show wpAny _ _ (newTuple _) _ _ _)); first | (k_unfold; (try dsimp only)) | (k_end; wrow_close) | walk1 | (dsimp only; walk1) | (leave1; walk_say "STEP leave1"; try dsimp only) | fail "no step"))
    k_dflt (refine' kup_newTuple ?tF ?tN ?_ ?tz; (case tF => k_asm); (case tN => k_asm); (case tz => kmk_size))
    intro T0 h6 F6 N6 l6
    k_lt l6
    (repeat' ((fail_if_success (with_reducible show wpAny _ _ (newList _) _ _ _)); first | (k_unfold; (try dsimp only)) | (k_end; wrow_close) | walk1 | (dsimp only; walk1) | (leave1; walk_say "STEP leave1"; try dsimp only) | fail "no step"))
    k_dflt (refine' newList_K ?k1 ?k2 ?_; (case k1 => k_asm); (case k2 => k_asm))
    intro ld h7 F7 N7 l7
    k_lt l7
    (repeat' ((fail_if_success (with_reducible show wpAny _ _ (execs (List.cons (Stmt.For _ _ _ _ _) _) _) _ _ _)); first | (k_unfold; (try dsimp only)) | (k_end; wrow_close) | walk1 | (dsimp only; walk1) | (leave1; walk_say "STEP leave1"; try dsimp only) | fail "no step"))
    refine wpAny_execs_cons ?_
    rename Fr _ _ _ _ => F8
    with_unfolding_all refine' For_turns F8 ?_
    (repeat' ((fail_if_success (with_reducible show wpAny _ _ (pyIter _) _ _ _)); first | (k_unfold; (try dsimp only)) | (k_end; wrow_close) | walk1 | (dsimp only; walk1) | (leave1; walk_say "STEP leave1"; try dsimp only) | fail "no step"))
    clear hR
    rename IsRange _ _ _ _ _ _ _ _ => hR
    rename Fr _ _ _ _ => F8
    rename News _ _ _ _ => N8
    have hB0 := Int.fmod_nonneg_of_pos (ks.getD (Int.toNat 1) 0) (show (0 : Int) < 11 by decide)
    have hB5 := Int.fmod_lt_of_pos (ks.getD (Int.toNat 1) 0) (show (0 : Int) < 11 by decide)
    generalize hBe : (ks.getD (Int.toNat 1) 0).fmod 11 = B1 at hR hB0 hB5
    obtain ⟨t6, t7, t8, N9⟩ : ∃ t6 t7 t8, News s1.heap s1.heap.objs.size _ [(ld, listOf [.ref T0].toArray 0), (lr, listOf ys.toArray ys.length), (lc, listOf cs.toArray 0), (lw, listOf [.str (Str.ofString "A") ta, .str (Str.ofString "INPUT") tb, .str (Str.ofString "OUTPUT") tc].toArray 0), (s1.heap.objs.size + 1, cw), (T0, Mine.tup [.str (Str.ofString "A") t6, .int 2 t7, .int 0 t8])] := ⟨_, _, _, Mine.News.sub N8 (by kqd_sub)⟩
    k_dflt (refine' Mine.for_range (n := B1.toNat) (fun i m nx => m (Str.ofString "cells") = some (.ref lc) ∧ m (Str.ofString "_law_words") = some (.ref lw) ∧ m (Str.ofString "rows") = some (.ref lr) ∧ m (Str.ofString "deeds") = some (.ref ld) ∧ 
      ∃ (vd : List Value) (nd : Nat) (tl : Mine.Led), nx = (ld, listOf vd.toArray nd) :: (lr, listOf ys.toArray ys.length) :: (lc, listOf cs.toArray 0) :: (lw, listOf [.str (Str.ofString "A") ta, .str (Str.ofString "INPUT") tb, .str (Str.ofString "OUTPUT") tc].toArray 0) :: (s1.heap.objs.size + 1, cw) :: tl ∧ DatAll tl vd ((Mine.deedsOf ks i).map Mine.deedD) ∧ (∀ p ∈ tl, p.1 ≠ ld) ∧ ∀ p ∈ tl, p.1 ≠ s1.heap.objs.size + 1) ?hgo ?hh hR ?hsm ?hn ?hF ?hN ?hj ?turn ?done)
    case hgo => intro I v s Q E q; with_unfolding_all exact wpAny_pure q
    case hh => rfl
    case hsm => exact small_one (by omega) (by omega) (by omega) (by omega)
    case hn => rw [rangeSize_nat]; congr 1; omega
    case hF => exact F8
    case hN => exact N9
    case hj => exact ⟨rfl, rfl, rfl, rfl, [_], _, [(T0, _)], rfl, .cons (.tuple (.head _) (.cons (.str _ _) (.cons (.int _ _) (.cons (.int _ _) .nil)))) .nil, (fun p hp => by rw [List.mem_singleton.mp hp]; exact Nat.ne_of_lt (by omega)), fun p hp => by rw [List.mem_singleton.mp hp]; exact Nat.ne_of_gt (by omega)⟩
    case done =>
      rintro m₁ nx h tk ⟨hm1, hm2, hm3, hm4, vd, nd, tl, rfl, hvd, htl, htc⟩ F1 N1
      rw [Mine.frame1 hm1, Mine.frame1 hm2, Mine.frame1 hm3, Mine.frame1 hm4] at F1
      dsimp only at F1 ⊢
      have F2 := F1
      have N2 := N1
      clear F1 N1
      (repeat' ((fail_if_success (with_reducible show wpAny _ _ (call (Value.ref 198) _) _ _ _)); first | (k_unfold; (try dsimp only)) | (k_end; wrow_close) | walk1 | (dsimp only; walk1) | (leave1; walk_say "STEP leave1"; try dsimp only) | fail "no step"))
      rename News _ _ _ _ => N0
      rename Fr _ _ _ _ => F0
      have hnB : (Mine.deedsOf ks B1.toNat).length ≤ 50 := by rw [Mine.deedsOf_len]; omega
      have hdk := Mine.deedsOf_ok ks B1.toNat
      have hrok := Mine.rowD_ok (B := B.toNat) (by omega)
      have hrl : ((List.range B.toNat).map Mine.rowD).length < 5 := by rw [List.length_map, List.length_range]; omega
      generalize (List.range B.toNat).map Mine.rowD = rows at hrows hrok hrl
      generalize Mine.deedsOf ks B1.toNat = deeds at hvd hnB hdk
      (k_dflt (refine' Spec.use (Mine.story_spec _ ((ld, listOf vd.toArray nd) :: (lr, listOf ys.toArray ys.length) :: (lc, listOf cs.toArray 0) :: (lw, listOf [.str (Str.ofString "A") ta, .str (Str.ofString "INPUT") tb, .str (Str.ofString "OUTPUT") tc].toArray 0) :: (s1.heap.objs.size + 1, cw) :: tl) lr ld ys vd ys.length nd rows deeds (.tail _ (.head _)) (.head _) hrows (DatAll.mono (fun p hp => .tail _ (.tail _ (.tail _ (.tail _ (.tail _ hp))))) hvd) (fun d hd => (hdk d hd).1) (by omega) hnB) ?kB ?kF ?kX ?kN ?kT ?kK ?kd ?ku ?_; (case kB => k_asm); (case kF => k_asm); (case kX => k_asm); (case kN => first | k_asm | exact Mine.News.sub (by k_asm) (by kqd_sub)); (case kT => k_asm); (case kK => exact rfl); (case kd => ktr_room); (case ku => ktr_units)); intro r9 tl9 led9 h9 tk9 F9 N9 K9 H9 P9)
      obtain ⟨rfl, hD⟩ := P9
      obtain ⟨TS, vT, nT, rfl, hmT, hD⟩ := Mine.din_tuple hD
      obtain ⟨z1, vT1, rfl, hD1, hD⟩ := Mine.dall_cons hD
      obtain ⟨z2, vT2, rfl, hD2, hD⟩ := Mine.dall_cons hD
      obtain rfl := Mine.dall_nil hD
      obtain ⟨lW, vW, nW, rfl, hmW, hW⟩ := Mine.din_list hD1
      obtain ⟨lL, vL, nL, rfl, hmL, hLf⟩ := Mine.din_list hD2
      have hce9 : ∀ p ∈ tl9, p.1 ≠ s1.heap.objs.size + 1 := fresh_off N0 H9 (s1.heap.objs.size + 1, cw) (by k_mem)
      have hTup : IsTup h9 TS (List.toArray [.ref lW, .ref lL]) := ⟨_, (N9 _ (List.mem_append_left _ hmT)).1, rfl, nT, rfl⟩
      obtain ⟨tl', e'⟩ : ∃ tl', tl' = tl9 ++ tl := ⟨_, rfl⟩
      have hR9 : ∀ p ∈ tl9, p ∈ tl' := fun p hp => by rw [e']; exact List.mem_append_left _ hp
      have hRt : ∀ p ∈ tl, p ∈ tl' := fun p hp => by rw [e']; exact List.mem_append_right _ hp
      have hcet : ∀ p ∈ tl', p.1 ≠ s1.heap.objs.size + 1 := fun p hp => by
        rw [e'] at hp
        exact (List.mem_append.mp hp).elim (hce9 p) (htc p)
      have N10 : News s1.heap s1.heap.objs.size h9 ((ld, listOf vd.toArray nd) :: (lr, listOf ys.toArray ys.length) :: (lc, listOf cs.toArray 0) :: (lw, listOf [.str (Str.ofString "A") ta, .str (Str.ofString "INPUT") tb, .str (Str.ofString "OUTPUT") tc].toArray 0) :: (s1.heap.objs.size + 1, cw) :: tl') := Mine.News.sub N9 (by
        refine List.forall_mem_cons.mpr ⟨List.mem_append_right _ (by k_mem), List.forall_mem_cons.mpr ⟨List.mem_append_right _ (by k_mem), List.forall_mem_cons.mpr ⟨List.mem_append_right _ (by k_mem), List.forall_mem_cons.mpr ⟨List.mem_append_right _ (by k_mem), List.forall_mem_cons.mpr ⟨List.mem_append_right _ (by k_mem), fun p hp => ?_⟩⟩⟩⟩⟩
        rw [e'] at hp
        exact (List.mem_append.mp hp).elim (fun hp => List.mem_append_left _ hp) fun hp => List.mem_append_right _ (.tail _ (.tail _ (.tail _ (.tail _ (.tail _ hp))))))
      clear N9 N0
      (repeat' ((fail_if_success (with_reducible show wpAny _ _ (newList _) _ _ _)); first | (k_unfold; (try dsimp only)) | (k_end; wrow_close) | walk1 | (dsimp only; walk1) | (leave1; walk_say "STEP leave1"; try dsimp only) | fail "no step"))
      k_dflt (refine' newList_K ?k1 ?k2 ?_; (case k1 => k_asm); (case k2 => k_asm))
      intro lca h7 F7 N7 l17
      have l17c : @LT.lt Nat _ (s1.heap.objs.size + 1) lca := l17 (s1.heap.objs.size + 1, cw) (by k_mem)
      obtain ⟨s1', s2', s3'⟩ := Mine.story_ok hrok deeds (Mine.ds0 rows) [] (Mine.good_ds0 hrok) rfl (fun d hd => (hdk d hd).2)
      have hmine := fun q => Mine.story_mine hrok (fun d hd => (hdk d hd).2) q
      have hel := congrArg List.length s1'
      rw [Mine.storyD_len, List.length_map] at hel
      rw [s1'] at hW
      generalize Mine.storyE rows (Mine.ds0 rows) deeds = es at hW s2' s3' hmine hel
      (repeat' ((fail_if_success (with_reducible show wpAny _ _ (execs (List.cons (Stmt.For _ _ _ _ _) _) _) _ _ _)); first | (k_unfold; (try dsimp only)) | (k_end; wrow_close) | walk1 | (dsimp only; walk1) | (leave1; walk_say "STEP leave1"; try dsimp only) | fail "no step"))
      refine wpAny_execs_cons ?_
      rename Fr _ _ _ _ => F8
      with_unfolding_all refine' For_turns F8 ?_
      (repeat' ((fail_if_success (with_reducible show wpAny _ _ (pyIter _) _ _ _)); first | (k_unfold; (try dsimp only)) | (k_end; wrow_close) | walk1 | (dsimp only; walk1) | (leave1; walk_say "STEP leave1"; try dsimp only) | fail "no step"))
      have hfl : ∀ i, ((es.take i).flatMap Ent.came).length < 5 := fun i => by
        have h1 := Mine.flat_take Ent.came es i
        have h2 := congrArg List.length s3'
        rw [List.length_append] at h2
        have h3 : (ds0 rows).I.length = rows.length := rfl
        omega
      have hWm : (lW, listOf vW.toArray nW) ∈ tl' := hR9 _ hmW
      rename Fr _ _ _ _ => F8
      rename News _ _ _ _ => N8
      k_dflt (refine' Mine.for_rule (l := lW) (vs := vW) (nn := nW) (fun i m nx => m (Str.ofString "_law_words") = some (.ref lw) ∧ m (Str.ofString "rows") = some (.ref lr) ∧ m (Str.ofString "deeds") = some (.ref ld) ∧ m (Str.ofString "whole") = some (.ref lW) ∧ m (Str.ofString "left") = some (.ref lL) ∧
        ∃ (ca : Nat) (vc : List Value) (nc : Nat) (co : Obj), m (Str.ofString "came") = some (.ref ca) ∧ nx = (ca, listOf vc.toArray nc) :: (ld, listOf vd.toArray nd) :: (lr, listOf ys.toArray ys.length) :: (lc, listOf cs.toArray 0) :: (lw, listOf [.str (Str.ofString "A") ta, .str (Str.ofString "INPUT") tb, .str (Str.ofString "OUTPUT") tc].toArray 0) :: (s1.heap.objs.size + 1, co) :: tl' ∧ DatAll [] vc ((es.take i).flatMap Ent.came) ∧ @LT.lt Nat _ (s1.heap.objs.size + 1) ca ∧ ∃ v₀, co.data = .cell v₀) ?hgo ?hh ?hls ?hlL ?hF ?hN ?hj ?hJl ?turnE ?doneE)
      case hgo => exact fun I v i s Q E h q => letGo_tuple h q
      case hh => rfl
      case hls => exact (N8 _ (.tail _ (.tail _ (.tail _ (.tail _ (.tail _ (.tail _ hWm))))))).1
      case hlL => exact (N8 _ (.tail _ (.tail _ (.tail _ (.tail _ (.tail _ (.tail _ hWm))))))).2.1
      case hF => exact F8
      case hN => exact N8
      case hj => exact ⟨rfl, rfl, rfl, rfl, rfl, _, [], _, cw, rfl, rfl, .nil, l17c, by (rename CellsAre _ _ _ => X9; obtain ⟨o, e, hd⟩ := X9.one; cases e; exact ⟨_, hd⟩)⟩
      case hJl =>
        rintro i m' nx h ⟨-, -, -, -, -, ca, vc, nc, co, -, rfl, -⟩ F N
        exact (N _ (.tail _ (.tail _ (.tail _ (.tail _ (.tail _ (.tail _ hWm))))))).1
      case doneE =>
        rintro m₁ nx h tk ⟨hm1, hm2, hm3, hm4, hm5, ca, vc, nc, co, hm6, rfl, hvc, hca, v₀, hco⟩ F1 N1
        rw [Mine.frame1 hm1, Mine.frame1 hm2, Mine.frame1 hm3, Mine.frame1 hm4, Mine.frame1 hm5, Mine.frame1 hm6] at F1
        dsimp only at F1 ⊢
        have hWl : vW.length = es.length := by rw [hW.length, List.length_map]
        rw [hWl, List.take_length] at hvc
        have hrow : es.flatMap Ent.came ++ (storyD rows (ds0 rows) deeds).2.I = rows := s3'.symm
        have hvcl := hvc.length
        have hLfl := hLf.length
        have hrowl := congrArg List.length hrow
        rw [List.length_append] at hrowl
        (repeat' ((fail_if_success (with_reducible show wpAny _ _ (binaryOp _ (Value.ref _) (Value.ref _)) _ _ _)); first | (k_unfold; (try dsimp only)) | (k_end; wrow_close) | walk1 | (dsimp only; walk1) | (leave1; walk_say "STEP leave1"; try dsimp only) | fail "no step"))
        rename Fr _ _ _ _ => F9
        rename News _ _ _ _ => N9
        have hL1 : News s1.heap s1.heap.objs.size _ [(ca, listOf vc.toArray nc)] := Mine.News.sub N9 (fun p hp => by rw [List.mem_singleton.mp hp]; k_mem)
        have hL2 : News s1.heap s1.heap.objs.size _ [(lL, listOf vL.toArray nL)] := Mine.News.sub N9 (fun p hp => by rw [List.mem_singleton.mp hp]; repeat' (first | exact hR9 _ hmL | apply List.Mem.tail))
        refine kmk_add_lit (its := vc.toArray) (its2 := vL.toArray) (zs := vc ++ vL) F9 N9 (by exact News.isList hL1 (.head _)) (by exact News.isList hL2 (.head _)) (by simp) ?_ (by rw [sizeLine_eq]; show vc.length + vL.length ≤ _; omega)
        clear hL1 hL2
        intro cb h8 F8' N8' l18
        (repeat' ((fail_if_success (with_reducible show wpAny _ _ (compareOp CmpOp.NotEq _ _) _ _ _)); first | (k_unfold; (try dsimp only)) | (k_end; wrow_close) | walk1 | (dsimp only; walk1) | (leave1; walk_say "STEP leave1"; try dsimp only) | fail "no step"))
        rename News _ _ _ _ => N9
        refine Mine.kqd_same (ds := rows) N9 (.head _) rfl rfl (by rw [← hrow]; exact DatAll.append (hvc.mono (news' := tl9) fun p h => absurd h List.not_mem_nil) hLf) (fun p hp => by repeat' (first | exact hR9 p hp | apply List.Mem.tail)) (.tail _ (.tail _ (.tail _ (.head _)))) rfl rfl hrows (fun p h => absurd h List.not_mem_nil) (fun d hd => Mine.ok_up (hrok d hd) _) (by ktr_units) ?_
        (repeat' ((fail_if_success (with_reducible show wpAny _ _ (eval (PySem.Expr.ListComp _ _ _ _) _) _ _ _)); first | (k_unfold; (try dsimp only)) | (k_end; wrow_close) | walk1 | (dsimp only; walk1) | (leave1; walk_say "STEP leave1"; try dsimp only) | fail "no step"))
        rename Fr _ _ _ _ => F10
        rename News _ _ _ _ => N10
        have NB : News s1.heap s1.heap.objs.size _ ((ld, listOf vd.toArray nd) :: (lr, listOf ys.toArray ys.length) :: (lc, listOf cs.toArray 0) :: (lw, listOf [.str (Str.ofString "A") ta, .str (Str.ofString "INPUT") tb, .str (Str.ofString "OUTPUT") tc].toArray 0) :: (s1.heap.objs.size + 1, co) :: tl') := Mine.News.sub N10 (by
          intro p hp
          repeat' (first | exact hp | apply List.Mem.tail))
        clear N9 N10
        refine LCg.ListComp_U F10 (by with_unfolding_all rfl) (by decide) (by rfl) (by decide) (by rfl) ?_
        (repeat' ((fail_if_success (with_reducible show LCg.CompSrc _ _ _ _ _ _ _ _ _ _ _ _ _ _)); first | (k_unfold; (try dsimp only)) | (k_end; wrow_close) | walk1 | (dsimp only; walk1) | (leave1; walk_say "STEP leave1"; try dsimp only) | fail "no step"))
        k_dflt (refine' LCg.CompSrc.ledger (its := [.str (Str.ofString "A") ta, .str (Str.ofString "INPUT") tb, .str (Str.ofString "OUTPUT") tc].toArray) (k := 0) ?k1 ?k2 ?k3 ?k4 ?k5 ?_; (case k1 => rfl); (case k2 => k_asm); (case k3 => exact NB); (case k4 => exact .tail _ (.tail _ (.tail _ (.head _)))); (case k5 => rw [sizeLine_eq]; show 3 ≤ _; decide))
        intro g5
        k_dflt (refine' Mine.comp_ind (fun i yt nw => ∃ tw, nw = tw ++ ((ld, listOf vd.toArray nd) :: (lr, listOf ys.toArray ys.length) :: (lc, listOf cs.toArray 0) :: (lw, listOf [.str (Str.ofString "A") ta, .str (Str.ofString "INPUT") tb, .str (Str.ofString "OUTPUT") tc].toArray 0) :: (s1.heap.objs.size + 1, co) :: tl') ∧ DatAll tw yt ((List.range i).map Mine.told0)) ⟨[], rfl, .nil⟩ ?turnG ?finG)
        case finG =>
          rintro yt nw ⟨tw, rfl, hyt⟩
          unfold LCg.FinE
          intro lt h5 tk5 F5 N5 o5
          replace hyt : DatAll tw yt ((List.range 3).map Mine.told0) := hyt
          rw [Mine.told0_eq] at hyt
          dsimp only at N5 ⊢
          (repeat' ((fail_if_success (with_reducible show wpAny _ _ (compareOp CmpOp.NotEq _ _) _ _ _)); first | (k_unfold; (try dsimp only)) | (k_end; wrow_close) | walk1 | (dsimp only; walk1) | (leave1; walk_say "STEP leave1"; try dsimp only) | fail "no step"))
          rename News _ _ _ _ => N9
          refine Mine.kqd_same (ds := [.tuple [sd "", sd "", sd "", sd ""], .tuple [sd "", sd "INPUT", sd "", sd ""], .tuple [sd "", sd "", sd "OUTPUT", sd ""]]) N9 (a := lt) (xs := yt) (ka := yt.length) (.tail _ (.tail _ (.tail _ (.tail _ (.head _))))) rfl rfl hyt (fun p hp => .tail _ (.tail _ (.tail _ (.tail _ (.tail _ (List.mem_append_left _ hp)))))) (.head _) rfl rfl (.cons (.tuple (.tail _ (.tail _ (.tail _ (.head _)))) (.cons (.str _ _) (.cons (.str _ _) (.cons (.str _ _) (.cons (.str _ _) .nil))))) (.cons (.tuple (.tail _ (.tail _ (.head _))) (.cons (.str _ _) (.cons (.str _ _) (.cons (.str _ _) (.cons (.str _ _) .nil))))) (.cons (.tuple (.tail _ (.head _)) (.cons (.str _ _) (.cons (.str _ _) (.cons (.str _ _) (.cons (.str _ _) .nil))))) .nil))) (fun p hp => hp) Mine.told0_ok (by ktr_units) ?_
          replace N9 : News s1.heap s1.heap.objs.size _ ((ld, listOf vd.toArray nd) :: (lr, listOf ys.toArray ys.length) :: (lc, listOf cs.toArray 0) :: (lw, listOf [.str (Str.ofString "A") ta, .str (Str.ofString "INPUT") tb, .str (Str.ofString "OUTPUT") tc].toArray 0) :: (s1.heap.objs.size + 1, co) :: tl') := Mine.News.sub N9 (fun p hp => .tail _ (.tail _ (.tail _ (.tail _ (.tail _ (List.mem_append_right _ hp))))))
          skip
          (repeat' ((fail_if_success (with_reducible show wpAny _ _ (execs (List.cons (Stmt.For _ _ _ _ _) _) _) _ _ _)); first | (k_unfold; (try dsimp only)) | (k_end; wrow_close) | walk1 | (dsimp only; walk1) | (leave1; walk_say "STEP leave1"; try dsimp only) | fail "no step"))
          refine wpAny_execs_cons ?_
          rename Fr _ _ _ _ => F11
          with_unfolding_all refine' For_turns F11 ?_
          (repeat' ((fail_if_success (with_reducible show wpAny _ _ (pyIter _) _ _ _)); first | (k_unfold; (try dsimp only)) | (k_end; wrow_close) | walk1 | (dsimp only; walk1) | (leave1; walk_say "STEP leave1"; try dsimp only) | fail "no step"))
          have hfo : ∀ q i, ((es.take i).flatMap (Mine.ownE q)).length < 5 := fun q i => Nat.lt_of_le_of_lt (Mine.own_len _) (hfl i)
          k_dflt (refine' Mine.for_rule (l := lw) (vs := [.str (Str.ofString "A") ta, .str (Str.ofString "INPUT") tb, .str (Str.ofString "OUTPUT") tc]) (nn := 0) (fun i m nx => m (Str.ofString "deeds") = some (.ref ld) ∧ m (Str.ofString "whole") = some (.ref lW) ∧ ∃ co, nx = ((ld, listOf vd.toArray nd) :: (lr, listOf ys.toArray ys.length) :: (lc, listOf cs.toArray 0) :: (lw, listOf [.str (Str.ofString "A") ta, .str (Str.ofString "INPUT") tb, .str (Str.ofString "OUTPUT") tc].toArray 0) :: (s1.heap.objs.size + 1, co) :: tl') ∧ ∃ v₀, co.data = .cell v₀) ?hgo ?hh ?hls ?hlL ?hF ?hN ?hj ?hJl ?turnH ?doneH)
          case hgo => intro I v i s Q E h q; with_unfolding_all exact wpAny_pure q
          case hh => rfl
          case hls => exact (N9 _ (.tail _ (.tail _ (.tail _ (.head _))))).1
          case hlL => exact (N9 _ (.tail _ (.tail _ (.tail _ (.head _))))).2.1
          case hF => k_asm
          case hN => exact N9
          case hj => exact ⟨rfl, rfl, co, rfl, v₀, hco⟩
          case hJl =>
            rintro i m' nx h ⟨-, -, co', rfl, -⟩ F N
            exact (N _ (.tail _ (.tail _ (.tail _ (.head _))))).1
          case doneH =>
            rintro m₂ nx h tk ⟨hm1, hm2, co2, rfl, v2, hco2⟩ F1 N1
            dsimp only
            (repeat' (first | walk1 | (dsimp only; walk1) | (leave1; try dsimp only)))
            dsimp only
            (repeat' (k_unfold; (try dsimp only)))
            exact goodW_bool F1 (by with_reducible assumption) (raisesW_false allW_false_nil) (Mine.law_post _)
          case turnH =>
            rintro i v m₂ nx h tk I it hv ⟨hm1, hm2, co2, rfl, v2, hco2⟩ hI hIl hit F1 N1
            have hi3 : i < 3 := (List.getElem?_eq_some_iff.mp hv).1
            obtain ⟨t0, rfl⟩ := Mine.nameOf_pick (i := (i : Int)) (by omega) (by omega) (show ([.str (Str.ofString "A") ta, .str (Str.ofString "INPUT") tb, .str (Str.ofString "OUTPUT") tc] : List Value)[((i : Int)).toNat]? = some v from by rw [Int.toNat_natCast]; exact hv)
            generalize Mine.nameOf (i : Int) = q
            rw [Mine.frame1 hm1, Mine.frame1 hm2] at F1
            dsimp only at F1
            have hI0 : @Ne Nat (s1.heap.objs.size + 1) I := hI (s1.heap.objs.size + 1, co2) (by k_mem)
            (repeat' ((fail_if_success (with_reducible show wpAny _ _ (newList _) _ _ _)); first | (k_unfold; (try dsimp only)) | (k_end; wrow_close) | walk1 | (dsimp only; walk1) | (leave1; walk_say "STEP leave1"; try dsimp only) | fail "no step"))
            rename Obj => co3
            have hco3 : co3.data = .cell (some (.str q t0)) := by assumption
            k_dflt (refine' newList_K ?k1 ?k2 ?_; (case k1 => k_asm); (case k2 => k_asm))
            intro lo h7 F7 N7 l17
            (repeat' ((fail_if_success (with_reducible show wpAny _ _ (execs (List.cons (Stmt.For _ _ _ _ _) _) _) _ _ _)); first | (k_unfold; (try dsimp only)) | (k_end; wrow_close) | walk1 | (dsimp only; walk1) | (leave1; walk_say "STEP leave1"; try dsimp only) | fail "no step"))
            refine wpAny_execs_cons ?_
            rename Fr _ _ _ _ => F11
            with_unfolding_all refine' For_turns F11 ?_
            (repeat' ((fail_if_success (with_reducible show wpAny _ _ (pyIter _) _ _ _)); first | (k_unfold; (try dsimp only)) | (k_end; wrow_close) | walk1 | (dsimp only; walk1) | (leave1; walk_say "STEP leave1"; try dsimp only) | fail "no step"))
            rename Fr _ _ _ _ => F11
            rename News _ _ _ _ => N11
            have hlo : @LT.lt Nat _ I lo := l17 (I, it) (by k_mem)
            k_dflt (refine' Mine.for_rule (l := lW) (vs := vW) (nn := nW) (fun j m nx => m (Str.ofString "deeds") = some (.ref ld) ∧ m (Str.ofString "whole") = some (.ref lW) ∧ ∃ (lo : Nat) (vo : List Value) (no : Nat), m (Str.ofString "own") = some (.ref lo) ∧ nx = (lo, listOf vo.toArray no) :: (I, it) :: ((ld, listOf vd.toArray nd) :: (lr, listOf ys.toArray ys.length) :: (lc, listOf cs.toArray 0) :: (lw, listOf [.str (Str.ofString "A") ta, .str (Str.ofString "INPUT") tb, .str (Str.ofString "OUTPUT") tc].toArray 0) :: (s1.heap.objs.size + 1, co3) :: tl') ∧ DatAll [] vo ((es.take j).flatMap (Mine.ownE q)) ∧ @LT.lt Nat _ I lo) ?hgo ?hh ?hls ?hlL ?hF ?hN ?hj ?hJl ?turnI ?doneI)
            case hgo => intro I v i s Q E h q; with_unfolding_all exact wpAny_pure q
            case hh => rfl
            case hls => exact (N11 _ (.tail _ (.tail _ (.tail _ (.tail _ (.tail _ (.tail _ (.tail _ hWm)))))))).1
            case hlL => exact (N11 _ (.tail _ (.tail _ (.tail _ (.tail _ (.tail _ (.tail _ (.tail _ hWm)))))))).2.1
            case hF => exact F11
            case hN => exact N11
            case hj => exact ⟨rfl, rfl, lo, [], _, rfl, rfl, .nil, hlo⟩
            case hJl =>
              rintro j m' nx h ⟨-, -, lo, vo, no, -, rfl, -⟩ F N
              exact (N _ (.tail _ (.tail _ (.tail _ (.tail _ (.tail _ (.tail _ (.tail _ hWm)))))))).1
            case doneI =>
              rintro m₃ nx h tk ⟨hm1, hm2, lo, vo, no, hm3, rfl, hvo, hlo⟩ F1 N1
              rw [Mine.frame1 hm1, Mine.frame1 hm2, Mine.frame1 hm3] at F1
              rw [hWl, List.take_length] at hvo
              dsimp only at F1 ⊢
              (repeat' ((fail_if_success (with_reducible show wpAny _ _ (eval (PySem.Expr.ListComp _ _ _ _) _) _ _ _)); first | (k_unfold; (try dsimp only)) | (k_end; wrow_close) | walk1 | (dsimp only; walk1) | (leave1; walk_say "STEP leave1"; try dsimp only) | fail "no step"))
              refine LCt.ListComp_T (by k_asm) (by with_unfolding_all rfl) (by decide) (by rfl) (by decide) (by rfl) ?_
              (repeat' ((fail_if_success (with_reducible show LCt.CompSrcT _ _ _ _ _ _ _ _ _ _ _ _ _ _ _)); first | (k_unfold; (try dsimp only)) | (k_end; wrow_close) | walk1 | (dsimp only; walk1) | (leave1; walk_say "STEP leave1"; try dsimp only) | fail "no step"))
              have hvdl := hvd.length
              rw [List.length_map] at hvdl
              k_dflt (refine' LCt.CompSrcT.ledger (its := vd.toArray) (k := nd) ?k1 ?k2 ?k3 ?k4 ?k5 ?_; (case k1 => rfl); (case k2 => k_asm); (case k3 => exact N1); (case k4 => exact .tail _ (.tail _ (.head _))); (case k5 => rw [sizeLine_eq, List.size_toArray]; omega))
              intro g5
              k_dflt (refine' Mine.compT_same (fun i yt => DatAll tl' yt (((deeds.take i).filter (fun d => d.1 == q)).map Mine.deedD)) .nil ?turnT ?finT)
              case turnT =>
                --<
                rintro i yt hi hyt v Ic oI C oC D m₄ h tk E' hv hC9 hx F N off ne
                have hi' : i < deeds.length := by rw [List.size_toArray] at hi; omega
                obtain ⟨v', hv', hD⟩ := hvd.get (k := i) (by rw [List.length_map]; exact hi')
                have hv2 : vd[i]? = some v := by simpa using hv
                rw [hv2] at hv'; cases hv'
                rw [List.getElem_map] at hD
                have htf := Mine.take_filter (fun d : Mine.Deed => d.1 == q) hi'
                generalize deeds[i] = d at hD htf
                obtain ⟨TE, nT, tq, t2, t3, rfl, hmE⟩ := Mine.deed_open hD
                (repeat' ((fail_if_success (with_reducible show wpAny _ _ (subscriptTail _ _ (Value.ref _) (Value.int _ _)) _ _ _)); first | (k_unfold; (try dsimp only)) | (k_end; wrow_close) | walk1 | (dsimp only; walk1) | (leave1; walk_say "STEP leave1"; try dsimp only) | fail "no step"))
                have hTE : IsTup h TE (List.toArray [.str d.1 tq, .int d.2.1 t2, .int d.2.2 t3]) := ⟨_, (N _ (by repeat' (first | exact hRt _ hmE | apply List.Mem.tail))).1, rfl, nT, rfl⟩
                refine Mine.pick_T hTE (by decide) (by show (0 : Int) < 3; decide) (by decide) rfl ?_
                (repeat' ((fail_if_success (with_reducible show wpAny _ _ (compareOp CmpOp.Eq _ _) _ _ _)); first | (k_unfold; (try dsimp only)) | (k_end; wrow_close) | walk1 | (dsimp only; walk1) | (leave1; walk_say "STEP leave1"; try dsimp only) | fail "no step"))
                refine PyProof.Rows.eq_str ?_
                by_cases hq : d.1 = q
                · rw [show (d.1 == q) = true from beq_iff_eq.mpr hq] at htf ⊢
                  (repeat' ((fail_if_success (with_reducible show LCg.CompEnd _ _ _ _ _ _ _ _ _ _ _ _ _ _)); first | (k_unfold; (try dsimp only)) | (k_end; wrow_close) | walk1 | (dsimp only; walk1) | (leave1; walk_say "STEP leave1"; try dsimp only) | fail "no step"))
                  k_dflt (refine LCg.CompEnd.intro (by k_asm) N _ (fun p h => h) off (.inr ⟨_, .tail _ (.tail _ (.head _)), rfl, _, rfl⟩) ⟨rfl, ?_⟩)
                  rw [htf, if_pos rfl, List.map_append]
                  exact DatAll.append hyt (DatAll.one (hD.mono hRt))
                · rw [show (d.1 == q) = false from beq_eq_false_iff_ne.mpr hq] at htf ⊢
                  (repeat' ((fail_if_success (with_reducible show LCg.CompEnd _ _ _ _ _ _ _ _ _ _ _ _ _ _)); first | (k_unfold; (try dsimp only)) | (k_end; wrow_close) | walk1 | (dsimp only; walk1) | (leave1; walk_say "STEP leave1"; try dsimp only) | fail "no step"))
                  k_dflt (refine LCg.CompEnd.intro (by k_asm) N _ (fun p h => h) off (.inr ⟨_, .tail _ (.tail _ (.head _)), rfl, _, rfl⟩) ⟨rfl, ?_⟩)
                  rw [htf, if_neg Bool.false_ne_true, List.append_nil]
                  exact hyt
                -->
              case finT =>
                intro yt hyt
                unfold LCg.FinE
                intro lf h5 tk5 F5 N5 o5
                rw [List.size_toArray, hvdl, List.take_length] at hyt
                dsimp only at N5 ⊢
                rw [show LCg.lst yt = listOf yt.toArray yt.length from rfl] at N5
                (repeat' ((fail_if_success (with_reducible show wpAny _ _ (call (Value.ref 198) _) _ _ _)); first | (k_unfold; (try dsimp only)) | (k_end; wrow_close) | walk1 | (dsimp only; walk1) | (leave1; walk_say "STEP leave1"; try dsimp only) | fail "no step"))
                have hown5 := hfo q es.length
                rw [List.take_length] at hown5
                have hdl5 := List.length_filter_le (fun d : Mine.Deed => d.1 == q) deeds
                have hownOk : ∀ d ∈ es.flatMap (Mine.ownE q), kqdOk 0 d = true := fun d hd => by
                  obtain ⟨e, he, hd⟩ := List.mem_flatMap.mp hd
                  unfold Mine.ownE at hd
                  split at hd
                  · exact (s2' e he).came d hd
                  · cases hd
                have hm9 := hmine q
                generalize es.flatMap (Mine.ownE q) = own at hvo hown5 hm9 hownOk
                (k_dflt (refine' Spec.use (Mine.story_spec _ ((lf, listOf yt.toArray yt.length) :: (lo, listOf vo.toArray no) :: (I, it) :: ((ld, listOf vd.toArray nd) :: (lr, listOf ys.toArray ys.length) :: (lc, listOf cs.toArray 0) :: (lw, listOf [.str (Str.ofString "A") ta, .str (Str.ofString "INPUT") tb, .str (Str.ofString "OUTPUT") tc].toArray 0) :: (s1.heap.objs.size + 1, co3) :: tl')) lo lf vo yt no yt.length own (deeds.filter (fun d => d.1 == q)) (.tail _ (.head _)) (.head _) hvo (hyt.mono (fun p hp => .tail _ (.tail _ (.tail _ (.tail _ (.tail _ (.tail _ (.tail _ (.tail _ hp))))))))) (fun d hd => (hdk d (List.mem_filter.mp hd).1).1) (Nat.le_trans (Nat.le_of_lt hown5) (by decide)) (Nat.le_trans hdl5 hnB)) ?kB ?kF ?kX ?kN ?kT ?kK ?kd ?ku ?_; (case kB => k_asm); (case kF => k_asm); (case kX => k_asm); (case kN => first | k_asm | exact Mine.News.sub (by k_asm) (by kqd_sub)); (case kT => k_asm); (case kK => exact rfl); (case kd => ktr_room); (case ku => ktr_units)); intro r9 tl9 led9 h9 tk9 F9 N9 K9 H9 P9)
                obtain ⟨rfl, hD⟩ := P9
                rw [hm9.1, hm9.2] at hD
                obtain ⟨TM, vM, nM, rfl, hmM, -⟩ := Mine.din_tuple hD
                obtain ⟨tx, ex⟩ : ∃ tx : Mine.Led, tx = tl9 ++ tl' := ⟨_, rfl⟩
                have hx1 : ∀ p ∈ tl9, p ∈ tx := fun p hp => by rw [ex]; exact List.mem_append_left _ hp
                have hx2 : ∀ p ∈ tl', p ∈ tx := fun p hp => by rw [ex]; exact List.mem_append_right _ hp
                have N10 : News s1.heap s1.heap.objs.size h9 ((I, it) :: ((ld, listOf vd.toArray nd) :: (lr, listOf ys.toArray ys.length) :: (lc, listOf cs.toArray 0) :: (lw, listOf [.str (Str.ofString "A") ta, .str (Str.ofString "INPUT") tb, .str (Str.ofString "OUTPUT") tc].toArray 0) :: (s1.heap.objs.size + 1, co3) :: tx)) := Mine.News.sub N9 (by
                  refine List.forall_mem_cons.mpr ⟨List.mem_append_right _ (by k_mem), List.forall_mem_cons.mpr ⟨List.mem_append_right _ (by k_mem), List.forall_mem_cons.mpr ⟨List.mem_append_right _ (by k_mem), List.forall_mem_cons.mpr ⟨List.mem_append_right _ (by k_mem), List.forall_mem_cons.mpr ⟨List.mem_append_right _ (by k_mem), List.forall_mem_cons.mpr ⟨List.mem_append_right _ (by k_mem), fun p hp => ?_⟩⟩⟩⟩⟩⟩
                  rw [ex] at hp
                  exact (List.mem_append.mp hp).elim (fun hp => List.mem_append_left _ hp) fun hp => List.mem_append_right _ (.tail _ (.tail _ (.tail _ (.tail _ (.tail _ (.tail _ (.tail _ (.tail _ hp)))))))))
                clear N9
                (repeat' ((fail_if_success (with_reducible show wpAny _ _ (eval (PySem.Expr.ListComp _ _ _ _) _) _ _ _)); first | (k_unfold; (try dsimp only)) | (k_end; wrow_close) | walk1 | (dsimp only; walk1) | (leave1; walk_say "STEP leave1"; try dsimp only) | fail "no step"))
                rename News _ _ _ _ => N11
                refine LCt.ListComp_T (by k_asm) (by with_unfolding_all rfl) (by decide) (by rfl) (by decide) (by rfl) ?_
                (repeat' ((fail_if_success (with_reducible show LCt.CompSrcT _ _ _ _ _ _ _ _ _ _ _ _ _ _ _)); first | (k_unfold; (try dsimp only)) | (k_end; wrow_close) | walk1 | (dsimp only; walk1) | (leave1; walk_say "STEP leave1"; try dsimp only) | fail "no step"))
                k_dflt (refine' LCt.CompSrcT.ledger (its := vW.toArray) (k := nW) ?k1 ?k2 ?k3 ?k4 ?k5 ?_; (case k1 => rfl); (case k2 => k_asm); (case k3 => exact N11); (case k4 => exact .tail _ (.tail _ (.tail _ (.tail _ (.tail _ (.tail _ (hx2 _ hWm))))))); (case k5 => rw [sizeLine_eq, List.size_toArray, hWl]; omega))
                intro g6
                k_dflt (refine' Mine.compT_same (fun i yt => DatAll tx yt (((es.take i).filter (fun e => e.q == q)).map Ent.dat)) .nil ?turnU ?finU)
                case turnU =>
                  rintro i yt hi hyt v Ic oI C oC D m₄ h tk E' hv hC9 hx F N off ne
                  have hi' : i < es.length := by rw [List.size_toArray, hWl] at hi; exact hi
                  obtain ⟨v', hv', hD⟩ := hW.get (k := i) (by rw [List.length_map]; exact hi')
                  have hv2 : vW[i]? = some v := by simpa using hv
                  rw [hv2] at hv'; cases hv'
                  rw [List.getElem_map] at hD
                  have htf := Mine.take_filter (fun e : Ent => e.q == q) hi'
                  generalize es[i] = e at hD htf
                  obtain ⟨TE, nT, tq, z2, lH, vH, nH, z4, z5, z6, rfl, hmE, hmH, hDH⟩ := Mine.ent_open hD
                  (repeat' ((fail_if_success (with_reducible show wpAny _ _ (subscriptTail _ _ (Value.ref _) (Value.int _ _)) _ _ _)); first | (k_unfold; (try dsimp only)) | (k_end; wrow_close) | walk1 | (dsimp only; walk1) | (leave1; walk_say "STEP leave1"; try dsimp only) | fail "no step"))
                  have hTE : IsTup h TE (List.toArray [.str e.q tq, z2, .ref lH, z4, z5, z6]) := ⟨_, (N _ (by repeat' (first | exact hx2 _ (hR9 _ hmE) | apply List.Mem.tail))).1, rfl, nT, rfl⟩
                  refine Mine.pick_T hTE (by decide) (by show (0 : Int) < 6; decide) (by decide) rfl ?_
                  (repeat' ((fail_if_success (with_reducible show wpAny _ _ (compareOp CmpOp.Eq _ _) _ _ _)); first | (k_unfold; (try dsimp only)) | (k_end; wrow_close) | walk1 | (dsimp only; walk1) | (leave1; walk_say "STEP leave1"; try dsimp only) | fail "no step"))
                  refine PyProof.Rows.eq_str ?_
                  by_cases hq : e.q = q
                  · rw [show (e.q == q) = true from beq_iff_eq.mpr hq] at htf ⊢
                    (repeat' ((fail_if_success (with_reducible show LCg.CompEnd _ _ _ _ _ _ _ _ _ _ _ _ _ _)); first | (k_unfold; (try dsimp only)) | (k_end; wrow_close) | walk1 | (dsimp only; walk1) | (leave1; walk_say "STEP leave1"; try dsimp only) | fail "no step"))
                    k_dflt (refine LCg.CompEnd.intro (by k_asm) N _ (fun p h => h) off (.inr ⟨_, .tail _ (.tail _ (.tail _ (.tail _ (.tail _ (.tail _ (hx2 _ hWm)))))), rfl, _, rfl⟩) ⟨rfl, ?_⟩)
                    rw [htf, if_pos rfl, List.map_append]
                    exact DatAll.append hyt (DatAll.one (hD.mono (fun p hp => hx2 p (hR9 p hp))))
                  · rw [show (e.q == q) = false from beq_eq_false_iff_ne.mpr hq] at htf ⊢
                    (repeat' ((fail_if_success (with_reducible show LCg.CompEnd _ _ _ _ _ _ _ _ _ _ _ _ _ _)); first | (k_unfold; (try dsimp only)) | (k_end; wrow_close) | walk1 | (dsimp only; walk1) | (leave1; walk_say "STEP leave1"; try dsimp only) | fail "no step"))
                    k_dflt (refine LCg.CompEnd.intro (by k_asm) N _ (fun p h => h) off (.inr ⟨_, .tail _ (.tail _ (.tail _ (.tail _ (.tail _ (.tail _ (hx2 _ hWm)))))), rfl, _, rfl⟩) ⟨rfl, ?_⟩)
                    rw [htf, if_neg Bool.false_ne_true, List.append_nil]
                    exact hyt
                case finU =>
                  intro yu hyu
                  unfold LCg.FinE
                  intro lf h5 tk5 F5 N5 o5
                  rw [List.size_toArray, hWl, List.take_length] at hyu
                  dsimp only at N5 ⊢
                  rw [show LCg.lst yu = listOf yu.toArray yu.length from rfl] at N5
                  (repeat' ((fail_if_success (with_reducible show wpAny _ _ (newList _) _ _ _)); first | (k_unfold; (try dsimp only)) | (k_end; wrow_close) | walk1 | (dsimp only; walk1) | (leave1; walk_say "STEP leave1"; try dsimp only) | fail "no step"))
                  k_dflt (refine' newList_K ?k1 ?k2 ?_; (case k1 => k_asm); (case k2 => k_asm))
                  intro lz h7 F7 N7 l17
                  (repeat' ((fail_if_success (with_reducible show wpAny _ _ (newTuple _) _ _ _)); first | (k_unfold; (try dsimp only)) | (k_end; wrow_close) | walk1 | (dsimp only; walk1) | (leave1; walk_say "STEP leave1"; try dsimp only) | fail "no step"))
                  k_dflt (refine' kup_newTuple ?tF ?tN ?_ ?tz; (case tF => k_asm); (case tN => k_asm); (case tz => kmk_size))
                  intro TZ h8 F8 N8 l18
                  (repeat' ((fail_if_success (with_reducible show wpAny _ _ (compareOp CmpOp.NotEq _ _) _ _ _)); first | (k_unfold; (try dsimp only)) | (k_end; wrow_close) | walk1 | (dsimp only; walk1) | (leave1; walk_say "STEP leave1"; try dsimp only) | fail "no step"))
                  rename News _ _ _ _ => N12
                  have hok8 : kqdOk 10 (.tuple [.list ((es.filter fun e => e.q == q).map Ent.dat), .list []]) = true := by
                    simp only [kqdOk, List.all_cons, List.all_nil, Bool.and_true, List.all_eq_true]
                    intro d hd
                    obtain ⟨e, he, rfl⟩ := List.mem_map.mp hd
                    exact (s2' e (List.mem_filter.mp he).1).dat
                  refine Mine.kqd_sameD N12 hD (fun p hp => by repeat' (first | exact hx1 p hp | apply List.Mem.tail)) (d := .tuple [.list ((es.filter fun e => e.q == q).map Ent.dat), .list []]) (.tuple (.head _) (.cons (.list (.tail _ (.tail _ (.head _))) (hyu.mono (fun p hp => by repeat' (first | exact hp | apply List.Mem.tail)))) (.cons (.list (.tail _ (.head _)) .nil) .nil))) (fun p hp => hp) hok8 (by ktr_units) ?_
                  (repeat' ((fail_if_success (with_reducible show Mine.TurnEnd2 _ _ _ _ _ _ _ _ _)); first | (k_unfold; (try dsimp only)) | (k_end; wrow_close) | walk1 | (dsimp only; walk1) | (leave1; walk_say "STEP leave1"; try dsimp only) | fail "no step"))
                  rename Fr _ _ _ _ => F12
                  refine ⟨_, _, _, _, rfl, F12, Mine.News.sub N12 (n' := (I, it) :: ((ld, listOf vd.toArray nd) :: (lr, listOf ys.toArray ys.length) :: (lc, listOf cs.toArray 0) :: (lw, listOf [.str (Str.ofString "A") ta, .str (Str.ofString "INPUT") tb, .str (Str.ofString "OUTPUT") tc].toArray 0) :: (s1.heap.objs.size + 1, co3) :: tl')) (by
                    refine List.forall_mem_cons.mpr ⟨by k_mem, List.forall_mem_cons.mpr ⟨by k_mem, List.forall_mem_cons.mpr ⟨by k_mem, List.forall_mem_cons.mpr ⟨by k_mem, List.forall_mem_cons.mpr ⟨by k_mem, List.forall_mem_cons.mpr ⟨by k_mem, fun p hp => ?_⟩⟩⟩⟩⟩⟩
                    repeat' (first | exact hx2 p hp | apply List.Mem.tail)), ?_, rfl, rfl, co3, rfl, _, hco3⟩
                  exact List.forall_mem_cons.mpr ⟨hI (ld, _) (by k_mem), List.forall_mem_cons.mpr ⟨hI (lr, _) (by k_mem), List.forall_mem_cons.mpr ⟨hI (lc, _) (by k_mem), List.forall_mem_cons.mpr ⟨hI (lw, _) (by k_mem), List.forall_mem_cons.mpr ⟨hI0, fun p hp => hI p (.tail _ (.tail _ (.tail _ (.tail _ (.tail _ hp)))))⟩⟩⟩⟩⟩
            case turnI =>
              --<
              rintro j v m₃ nx h tk I2 it2 hv ⟨hm1, hm2, lo, vo, no, hm3, rfl, hvo, hlo⟩ hI2 hIl2 hit2 F1 N1
              have hj : j < es.length := by
                have := (List.getElem?_eq_some_iff.mp hv).1
                rw [hW.length, List.length_map] at this
                exact this
              obtain ⟨v', hv', hD⟩ := hW.get (k := j) (by rw [List.length_map]; exact hj)
              rw [hv] at hv'; cases hv'
              have hok := s2' _ (List.getElem_mem hj)
              have hfo1 := hfo q (j + 1)
              rw [Mine.take_flat _ hj] at hfo1 ⊢
              rw [List.getElem_map] at hD
              generalize es[j] = e at hD hok hfo1
              obtain ⟨TE, nT, tq, z2, lH, vH, nH, z4, z5, z6, rfl, hmE, hmH, hDH⟩ := Mine.ent_open hD
              have hoff2 : @Ne Nat (s1.heap.objs.size + 1) I2 := hI2 (s1.heap.objs.size + 1, co3) (by k_mem)
              rw [Mine.frame1 hm1, Mine.frame1 hm2, Mine.frame1 hm3] at F1
              dsimp only at F1
              have hvol := hvo.length
              rw [List.length_append] at hfo1
              (repeat' ((fail_if_success (with_reducible show wpAny _ _ (subscriptTail _ _ (Value.ref _) (Value.int _ _)) _ _ _)); first | (k_unfold; (try dsimp only)) | (k_end; wrow_close) | walk1 | (dsimp only; walk1) | (leave1; walk_say "STEP leave1"; try dsimp only) | fail "no step"))
              rename News _ _ _ _ => N9
              have hTE : IsTup _ TE (List.toArray [.str e.q tq, z2, .ref lH, z4, z5, z6]) := ⟨_, (N9 _ (by repeat' (first | exact hR9 _ hmE | apply List.Mem.tail))).1, rfl, nT, rfl⟩
              refine Mine.pick_T hTE (by decide) (by show (0 : Int) < 6; decide) (by decide) rfl ?_
              (repeat' ((fail_if_success (with_reducible show wpAny _ _ (compareOp CmpOp.Eq _ _) _ _ _)); first | (k_unfold; (try dsimp only)) | (k_end; wrow_close) | walk1 | (dsimp only; walk1) | (leave1; walk_say "STEP leave1"; try dsimp only) | fail "no step"))
              refine PyProof.Rows.eq_str ?_
              by_cases hq : e.q = q
              · rw [show (e.q == q) = true from beq_iff_eq.mpr hq]
                (repeat' ((fail_if_success (with_reducible show wpAny _ _ (subscriptTail _ _ (Value.ref _) (Value.int _ _)) _ _ _)); first | (k_unfold; (try dsimp only)) | (k_end; wrow_close) | walk1 | (dsimp only; walk1) | (leave1; walk_say "STEP leave1"; try dsimp only) | fail "no step"))
                refine Mine.pick_T hTE (by decide) (by show (2 : Int) < 6; decide) (by decide) rfl ?_
                (repeat' ((fail_if_success (with_reducible show wpAny _ _ (binaryOp _ (Value.ref _) (Value.ref _)) _ _ _)); first | (k_unfold; (try dsimp only)) | (k_end; wrow_close) | walk1 | (dsimp only; walk1) | (leave1; walk_say "STEP leave1"; try dsimp only) | fail "no step"))
                rename Fr _ _ _ _ => F9
                rename News _ _ _ _ => N9
                have hL1 : News s1.heap s1.heap.objs.size _ [(lo, listOf vo.toArray no)] := Mine.News.sub N9 (fun p hp => by rw [List.mem_singleton.mp hp]; k_mem)
                have hL2 : News s1.heap s1.heap.objs.size _ [(lH, listOf (vH : List Value).toArray nH)] := Mine.News.sub N9 (fun p hp => by rw [List.mem_singleton.mp hp]; repeat' (first | exact hR9 _ hmH | apply List.Mem.tail))
                refine kmk_add_lit (its := vo.toArray) (its2 := (vH : List Value).toArray) (zs := vo ++ vH) F9 N9 (by exact News.isList hL1 (.head _)) (by exact News.isList hL2 (.head _)) (by simp) ?_ (by rw [sizeLine_eq]; show vo.length + (vH : List Value).length ≤ _; have := hDH.length; have := hok.one; omega)
                intro cb h8 F8' N8' l18
                have l18I : @LT.lt Nat _ I cb := l18 (I, it) (by k_mem)
                have l18J : @LT.lt Nat _ I2 cb := l18 (I2, it2) (by k_mem)
                clear hL1 hL2
                (repeat' ((fail_if_success (with_reducible show Mine.TurnEnd2 _ _ _ _ _ _ _ _ _)); first | (k_unfold; (try dsimp only)) | (k_end; wrow_close) | walk1 | (dsimp only; walk1) | (leave1; walk_say "STEP leave1"; try dsimp only) | fail "no step"))
                rename Fr _ _ _ _ => F12
                rename News _ _ _ _ => N12
                refine ⟨_, _, _, _, rfl, F12, Mine.News.sub N12 (n' := (I2, it2) :: (cb, listOf (vo ++ vH).toArray 0) :: (I, it) :: ((ld, listOf vd.toArray nd) :: (lr, listOf ys.toArray ys.length) :: (lc, listOf cs.toArray 0) :: (lw, listOf [.str (Str.ofString "A") ta, .str (Str.ofString "INPUT") tb, .str (Str.ofString "OUTPUT") tc].toArray 0) :: (s1.heap.objs.size + 1, co3) :: tl')) (by
                  refine List.forall_mem_cons.mpr ⟨by k_mem, List.forall_mem_cons.mpr ⟨by k_mem, List.forall_mem_cons.mpr ⟨by k_mem, fun p hp => ?_⟩⟩⟩
                  repeat' (first | exact hp | apply List.Mem.tail)), List.forall_mem_cons.mpr ⟨Nat.ne_of_gt l18J, fun p hp => hI2 p (.tail _ hp)⟩, rfl, rfl, cb, vo ++ vH, 0, rfl, rfl, ?_, l18I⟩
                rw [show Mine.ownE q e = e.came from if_pos hq]
                exact DatAll.append hvo (Mine.dall_plain hDH hok.came)
              · rw [show (e.q == q) = false from beq_eq_false_iff_ne.mpr hq]
                (repeat' ((fail_if_success (with_reducible show wpAny _ _ (newList _) _ _ _)); first | (k_unfold; (try dsimp only)) | (k_end; wrow_close) | walk1 | (dsimp only; walk1) | (leave1; walk_say "STEP leave1"; try dsimp only) | fail "no step"))
                k_dflt (refine' newList_K ?k1 ?k2 ?_; (case k1 => k_asm); (case k2 => k_asm))
                intro lz h7 F7 N7 l17
                (repeat' ((fail_if_success (with_reducible show wpAny _ _ (binaryOp _ (Value.ref _) (Value.ref _)) _ _ _)); first | (k_unfold; (try dsimp only)) | (k_end; wrow_close) | walk1 | (dsimp only; walk1) | (leave1; walk_say "STEP leave1"; try dsimp only) | fail "no step"))
                rename Fr _ _ _ _ => F9
                rename News _ _ _ _ => N9
                have hL1 : News s1.heap s1.heap.objs.size _ [(lo, listOf vo.toArray no)] := Mine.News.sub N9 (fun p hp => by rw [List.mem_singleton.mp hp]; k_mem)
                have hL2 : News s1.heap s1.heap.objs.size _ [(lz, listOf ([] : List Value).toArray 0)] := Mine.News.sub N9 (fun p hp => by rw [List.mem_singleton.mp hp]; k_mem)
                refine kmk_add_lit (its := vo.toArray) (its2 := ([] : List Value).toArray) (zs := vo ++ []) F9 N9 (by exact News.isList hL1 (.head _)) (by exact News.isList hL2 (.head _)) (by simp) ?_ (by rw [sizeLine_eq]; show vo.length + ([] : List Value).length ≤ _; show vo.length + 0 ≤ _; omega)
                intro cb h8 F8' N8' l18
                have l18I : @LT.lt Nat _ I cb := l18 (I, it) (by k_mem)
                have l18J : @LT.lt Nat _ I2 cb := l18 (I2, it2) (by k_mem)
                clear hL1 hL2
                (repeat' ((fail_if_success (with_reducible show Mine.TurnEnd2 _ _ _ _ _ _ _ _ _)); first | (k_unfold; (try dsimp only)) | (k_end; wrow_close) | walk1 | (dsimp only; walk1) | (leave1; walk_say "STEP leave1"; try dsimp only) | fail "no step"))
                rename Fr _ _ _ _ => F12
                rename News _ _ _ _ => N12
                refine ⟨_, _, _, _, rfl, F12, Mine.News.sub N12 (n' := (I2, it2) :: (cb, listOf (vo ++ []).toArray 0) :: (I, it) :: ((ld, listOf vd.toArray nd) :: (lr, listOf ys.toArray ys.length) :: (lc, listOf cs.toArray 0) :: (lw, listOf [.str (Str.ofString "A") ta, .str (Str.ofString "INPUT") tb, .str (Str.ofString "OUTPUT") tc].toArray 0) :: (s1.heap.objs.size + 1, co3) :: tl')) (by
                  refine List.forall_mem_cons.mpr ⟨by k_mem, List.forall_mem_cons.mpr ⟨by k_mem, List.forall_mem_cons.mpr ⟨by k_mem, fun p hp => ?_⟩⟩⟩
                  repeat' (first | exact hp | apply List.Mem.tail)), List.forall_mem_cons.mpr ⟨Nat.ne_of_gt l18J, fun p hp => hI2 p (.tail _ hp)⟩, rfl, rfl, cb, vo ++ [], 0, rfl, rfl, ?_, l18I⟩
                rw [show Mine.ownE q e = [] from if_neg hq]
                exact DatAll.append hvo .nil
              -->
        case turnG =>
          --<
          rintro i yt nw hi ⟨tw, rfl, hyt⟩ v I oI C oC D m₂ h tk E' hv hC9 hx F N off ne
          have hi3 : i < 3 := hi
          obtain ⟨t9, rfl⟩ := Mine.nameOf_pick (i := (i : Int)) (by omega) (by omega) (show ([.str (Str.ofString "A") ta, .str (Str.ofString "INPUT") tb, .str (Str.ofString "OUTPUT") tc] : List Value)[((i : Int)).toNat]? = some v from by rw [Int.toNat_natCast]; simpa using hv)
          (repeat' ((fail_if_success (with_reducible show wpAny _ _ (call (Value.ref 152) _) _ _ _)); first | (k_unfold; (try dsimp only)) | (k_end; wrow_close) | walk1 | (dsimp only; walk1) | (leave1; walk_say "STEP leave1"; try dsimp only) | fail "no step"))
          k_dflt (refine' (Mine.world_spec _) _ _ _ _ _ _ _ _ _ _ _ _ _ _ _ _ _ _ _ _ _ _ _ ?kB ?kF ?kX ?kN ?kT ?kK ?kd ?ku ?_; (case kB => k_asm); (case kF => k_asm); (case kX => k_asm); (case kN => k_asm); (case kT => k_asm); (case kK => exact rfl); (case kd => ktr_room); (case ku => ktr_units))
          intro x dx dS dK lO lT dR dW dT ess nee oS oK oR oW oT led h9 tk9 F9 N9 M9 hs9 hl9
          have N9c := Mine.News.sub N9 hs9
          (repeat' ((fail_if_success (with_reducible show wpAny _ _ (call (Value.ref 191) _) _ _ _)); first | (k_unfold; (try dsimp only)) | (k_end; wrow_close) | walk1 | (dsimp only; walk1) | (leave1; walk_say "STEP leave1"; try dsimp only) | fail "no step"))
          have NS : News s1.heap s1.heap.objs.size h9 [(x, instObj 152 dx), (dx, dictOf ess nee), (dS, oS), (dR, oR), (dW, oW), (dT, oT)] := Mine.News.sub N9 (by simp only [List.forall_mem_cons]; exact ⟨M9.m1, M9.m2, M9.m3, M9.m7, M9.m8, M9.m9, List.forall_mem_nil _⟩)
          obtain ⟨-, -, a1, -, -, -, a5, a6, a7, -, -, -, -, -, -, -, -, gS, -, gR, gW, gT, p1, -, p3, p4, p5, -, o1, o2, o3, o4, o5', o6, o7, o8⟩ := M9
          obtain ⟨jR, hjR, kR⟩ := gR
          obtain ⟨jW, hjW, kW⟩ := gW
          (k_dflt (refine' Spec.use (Mine.told_spec _ x dx dS dR dW dT ess nee oS oR oW oT o1 o2 (by omega) o7 o8 p1 p3 p4 p5 a1 a5 a6 a7 (Mine.nameOf (i : Int)) t9 (fun _ => none) jR jW (fun _ => none) 1 gS.mono hjR hjW gT.mono) ?kB ?kF ?kX ?kN ?kT ?kK ?kd ?ku ?_; (case kB => k_asm); (case kF => k_asm); (case kX => k_asm); (case kN => first | k_asm | exact Mine.News.sub (by k_asm) (by kqd_sub)); (case kT => k_asm); (case kK => exact rfl); (case kd => ktr_room); (case ku => ktr_units)); intro r9 tl9 led9 h9 tk9 F9 N9 K9 H9 P9)
          obtain ⟨tt, u1, u2, u3, u4, rfl, rfl, rfl⟩ := P9
          have N11 : News s1.heap s1.heap.objs.size h9 ((tt, tup [((fun _ => none : Str → Option Value) (Mine.nameOf (i : Int))).getD (.str (Str.ofString "") u1), (jR (Mine.nameOf (i : Int))).getD (.str (Str.ofString "") u2), (jW (Mine.nameOf (i : Int))).getD (.str (Str.ofString "") u3), ((fun _ => none : Str → Option Value) (Mine.nameOf (i : Int))).getD (.str (Str.ofString "") u4)]) :: (I, oI) :: (C, oC) :: (D, LCg.lst yt) :: (tw ++ ((ld, listOf vd.toArray nd) :: (lr, listOf ys.toArray ys.length) :: (lc, listOf cs.toArray 0) :: (lw, listOf [.str (Str.ofString "A") ta, .str (Str.ofString "INPUT") tb, .str (Str.ofString "OUTPUT") tc].toArray 0) :: (s1.heap.objs.size + 1, co) :: tl'))) := Mine.News.join N9c K9 N9 (List.forall_mem_cons.mpr ⟨.inl (.head _), fun p hp => .inr ⟨hp, Mine.notin6 (hl9 p hp) o1 o2 (Nat.lt_trans o3 (Nat.lt_trans o4 (Nat.lt_trans o5' o6))) o7 o8⟩⟩)
          have hof := fresh_off N9c H9
          clear N9 NS
          (repeat' ((fail_if_success (with_reducible show LCg.CompEnd _ _ _ _ _ _ _ _ _ _ _ _ _ _)); first | (k_unfold; (try dsimp only)) | (k_end; wrow_close) | walk1 | (dsimp only; walk1) | (leave1; walk_say "STEP leave1"; try dsimp only) | fail "no step"))
          k_dflt (refine LCg.CompEnd.intro (by k_asm) N11 ((tt, tup [((fun _ => none : Str → Option Value) (Mine.nameOf (i : Int))).getD (.str (Str.ofString "") u1), (jR (Mine.nameOf (i : Int))).getD (.str (Str.ofString "") u2), (jW (Mine.nameOf (i : Int))).getD (.str (Str.ofString "") u3), ((fun _ => none : Str → Option Value) (Mine.nameOf (i : Int))).getD (.str (Str.ofString "") u4)]) :: (tw ++ ((ld, listOf vd.toArray nd) :: (lr, listOf ys.toArray ys.length) :: (lc, listOf cs.toArray 0) :: (lw, listOf [.str (Str.ofString "A") ta, .str (Str.ofString "INPUT") tb, .str (Str.ofString "OUTPUT") tc].toArray 0) :: (s1.heap.objs.size + 1, co) :: tl'))) (List.forall_mem_cons.mpr ⟨by k_mem, List.forall_mem_cons.mpr ⟨by k_mem, List.forall_mem_cons.mpr ⟨by k_mem, List.forall_mem_cons.mpr ⟨by k_mem, fun p hp => .tail _ (.tail _ (.tail _ (.tail _ hp)))⟩⟩⟩⟩) ⟨⟨hof (I, oI) (by k_mem) _ (.head _), hof (C, oC) (by k_mem) _ (.head _), hof (D, LCg.lst yt) (by k_mem) _ (.head _)⟩, off⟩ (.inr ⟨_, .tail _ (List.mem_append_right _ (.tail _ (.tail _ (.tail _ (.head _))))), rfl, _, rfl⟩) ⟨(tt, tup [((fun _ => none : Str → Option Value) (Mine.nameOf (i : Int))).getD (.str (Str.ofString "") u1), (jR (Mine.nameOf (i : Int))).getD (.str (Str.ofString "") u2), (jW (Mine.nameOf (i : Int))).getD (.str (Str.ofString "") u3), ((fun _ => none : Str → Option Value) (Mine.nameOf (i : Int))).getD (.str (Str.ofString "") u4)]) :: tw, rfl, ?_⟩)
          rw [List.range_succ, List.map_append]
          refine DatAll.append (DatAll.mono (fun p hp => .tail _ hp) hyt) (DatAll.one (.tuple (.head _) ?_))
          exact .cons (.str _ _) (.cons (din_up ((kR _).getD (.str _ _))) (.cons (din_up ((kW _).getD (.str _ _))) (.cons (.str _ _) .nil)))
          -->
      case turnE =>
        --<
        rintro i v m₁ nx h tk I it hv ⟨hm1, hm2, hm3, hm4, hm5, ca, vc, nc, co, hm6, rfl, hvc, hca, v₀, hco⟩ hI hIl hit F1 N1
        have hi : i < es.length := by
          have := (List.getElem?_eq_some_iff.mp hv).1
          rw [hW.length, List.length_map] at this
          exact this
        obtain ⟨v', hv', hD⟩ := hW.get (k := i) (by rw [List.length_map]; exact hi)
        rw [hv] at hv'; cases hv'
        have hok := s2' _ (List.getElem_mem hi)
        have hst : es.take (i + 1) = es.take i ++ [es[i]] := by rw [List.take_add_one, List.getElem?_eq_getElem hi]; rfl
        rw [List.getElem_map] at hD
        rw [hst, List.flatMap_append]
        generalize es[i] = e at hD hok
        unfold Ent.dat at hD
        obtain ⟨TE, vT, nT, rfl, hmE, hD⟩ := Mine.din_tuple hD
        obtain ⟨z1, vT1, rfl, hD1, hD⟩ := Mine.dall_cons hD
        obtain ⟨z2, vT2, rfl, hD2, hD⟩ := Mine.dall_cons hD
        obtain ⟨z3, vT3, rfl, hD3, hD⟩ := Mine.dall_cons hD
        obtain ⟨z4, vT4, rfl, hD4, hD⟩ := Mine.dall_cons hD
        obtain ⟨z5, vT5, rfl, hD5, hD⟩ := Mine.dall_cons hD
        obtain ⟨z6, vT6, rfl, hD6, hD⟩ := Mine.dall_cons hD
        obtain rfl := Mine.dall_nil hD
        obtain ⟨tq, rfl⟩ := Mine.din_str hD1
        obtain ⟨lH, vH, nH, rfl, hmH, hDH⟩ := Mine.din_list hD3
        obtain ⟨TP, vP, nP, rfl, hmP, hDP⟩ := Mine.din_tuple hD6
        obtain ⟨y1, vP1, rfl, hE1, hDP⟩ := Mine.dall_cons hDP
        obtain ⟨y2, vP2, rfl, hE2, hDP⟩ := Mine.dall_cons hDP
        obtain ⟨y3, vP3, rfl, hE3, hDP⟩ := Mine.dall_cons hDP
        obtain ⟨y4, vP4, rfl, hE4, hDP⟩ := Mine.dall_cons hDP
        obtain rfl := Mine.dall_nil hDP
        obtain ⟨tr, rfl⟩ := Mine.din_str hE2
        obtain ⟨tw, rfl⟩ := Mine.din_str hE3
        rw [Mine.frame1 hm1, Mine.frame1 hm2, Mine.frame1 hm3, Mine.frame1 hm4, Mine.frame1 hm5, Mine.frame1 hm6] at F1
        dsimp only at F1
        have hTE : IsTup h TE (List.toArray [.str e.q tq, z2, .ref lH, z4, z5, .ref TP]) := ⟨_, (N1 _ (.tail _ (.tail _ (.tail _ (.tail _ (.tail _ (.tail _ (.tail _ (hR9 _ hmE))))))))).1, rfl, nT, rfl⟩
        have hTP : IsTup h TP (List.toArray [y1, .str e.r tr, .str e.w tw, y4]) := ⟨_, (N1 _ (.tail _ (.tail _ (.tail _ (.tail _ (.tail _ (.tail _ (.tail _ (hR9 _ hmP))))))))).1, rfl, nP, rfl⟩
        have hLH : h.IsList lH vH.toArray := ⟨_, (N1 _ (.tail _ (.tail _ (.tail _ (.tail _ (.tail _ (.tail _ (.tail _ (hR9 _ hmH))))))))).1, rfl, nH, rfl⟩
        have hI0 : @Ne Nat (s1.heap.objs.size + 1) I := hI (s1.heap.objs.size + 1, co) (by k_mem)
        (repeat' ((fail_if_success (with_reducible show wpAny _ _ (binaryOp _ (Value.ref _) (Value.ref _)) _ _ _)); first | (k_unfold; (try dsimp only)) | (k_end; wrow_close) | walk1 | (dsimp only; walk1) | (leave1; walk_say "STEP leave1"; try dsimp only) | fail "no step"))
        rename Obj => co2
        have hvl := hvc.length
        rename Fr _ _ _ _ => F9
        rename News _ _ _ _ => N9
        have hca' : News s1.heap s1.heap.objs.size _ [(ca, listOf vc.toArray nc)] := Mine.News.sub N9 (fun p hp => by rw [List.mem_singleton.mp hp]; k_mem)
        have hLH' : News s1.heap s1.heap.objs.size _ [(lH, listOf vH.toArray nH)] := Mine.News.sub N9 (fun p hp => by rw [List.mem_singleton.mp hp]; exact .tail _ (.tail _ (.tail _ (.tail _ (.tail _ (.tail _ (.tail _ (hR9 _ hmH))))))))
        refine kmk_add_lit (its := vc.toArray) (its2 := vH.toArray) (zs := vc ++ vH) F9 N9 (by exact News.isList hca' (.head _)) (by exact News.isList hLH' (.head _)) (by simp) ?_ (by rw [sizeLine_eq]; show vc.length + vH.length ≤ _; have := hfl i; have := hok.one; have := hDH.length; omega)
        intro cb h8 F8' N8' l18
        have l18c : @LT.lt Nat _ (s1.heap.objs.size + 1) cb := l18 (s1.heap.objs.size + 1, _) (by k_mem)
        (repeat' ((fail_if_success (with_reducible show wpAny _ _ (subscriptTail _ _ (Value.ref _) (Value.int _ _)) _ _ _)); first | (k_unfold; (try dsimp only)) | (k_end; wrow_close) | walk1 | (dsimp only; walk1) | (leave1; walk_say "STEP leave1"; try dsimp only) | fail "no step"))
        rename News _ _ _ _ => N9
        have hTP' : IsTup _ TP (List.toArray [y1, .str e.r tr, .str e.w tw, y4]) := ⟨_, (N9 _ (by repeat' (first | exact hR9 _ hmP | apply List.Mem.tail))).1, rfl, nP, rfl⟩
        have hLH2 : News s1.heap s1.heap.objs.size _ [(lH, listOf vH.toArray nH)] := Mine.News.sub N9 (fun p hp => by rw [List.mem_singleton.mp hp]; repeat' (first | exact hR9 _ hmH | apply List.Mem.tail))
        refine Mine.pick_T hTP' (by decide) (by show (1 : Int) < 4; decide) (by decide) rfl ?_
        (repeat' ((fail_if_success (with_reducible show wpAny _ _ (compareOp CmpOp.NotEq _ _) _ _ _)); first | (k_unfold; (try dsimp only)) | (k_end; wrow_close) | walk1 | (dsimp only; walk1) | (leave1; walk_say "STEP leave1"; try dsimp only) | fail "no step"))
        rename Fr _ _ _ _ => F12
        have N12 : News s1.heap s1.heap.objs.size _ ((I, it) :: (cb, listOf (vc ++ vH).toArray 0) :: (ld, listOf vd.toArray nd) :: (lr, listOf ys.toArray ys.length) :: (lc, listOf cs.toArray 0) :: (lw, listOf [.str (Str.ofString "A") ta, .str (Str.ofString "INPUT") tb, .str (Str.ofString "OUTPUT") tc].toArray 0) :: (s1.heap.objs.size + 1, co2) :: tl') := Mine.News.sub N9 (by
          refine List.forall_mem_cons.mpr ⟨by k_mem, List.forall_mem_cons.mpr ⟨by k_mem, List.forall_mem_cons.mpr ⟨by k_mem, List.forall_mem_cons.mpr ⟨by k_mem, List.forall_mem_cons.mpr ⟨by k_mem, List.forall_mem_cons.mpr ⟨by k_mem, List.forall_mem_cons.mpr ⟨by k_mem, fun p hp => ?_⟩⟩⟩⟩⟩⟩⟩
          repeat' (first | exact hp | apply List.Mem.tail))
        have hO12 : ∀ p ∈ (cb, listOf (vc ++ vH).toArray 0) :: (ld, listOf vd.toArray nd) :: (lr, listOf ys.toArray ys.length) :: (lc, listOf cs.toArray 0) :: (lw, listOf [.str (Str.ofString "A") ta, .str (Str.ofString "INPUT") tb, .str (Str.ofString "OUTPUT") tc].toArray 0) :: (s1.heap.objs.size + 1, co2) :: tl', p.1 ≠ I :=
          List.forall_mem_cons.mpr ⟨Nat.ne_of_gt (l18 (I, it) (by k_mem)), List.forall_mem_cons.mpr ⟨hI (ld, _) (by k_mem), List.forall_mem_cons.mpr ⟨hI (lr, _) (by k_mem), List.forall_mem_cons.mpr ⟨hI (lc, _) (by k_mem), List.forall_mem_cons.mpr ⟨hI (lw, _) (by k_mem), List.forall_mem_cons.mpr ⟨hI0, fun p hp => hI p (.tail _ (.tail _ (.tail _ (.tail _ (.tail _ (.tail _ hp))))))⟩⟩⟩⟩⟩⟩
        have hD12 : DatAll [] (vc ++ vH) ((es.take i).flatMap Ent.came ++ [e].flatMap Ent.came) := by
          rw [List.flatMap_singleton]
          exact DatAll.append hvc (Mine.dall_plain hDH hok.came)
        have hc12 : ∃ v₀, co2.data = .cell v₀ := ⟨_, by assumption⟩
        have hlen1 : vH.length ≤ 1 := by have := hok.one; have := hDH.length; omega
        by_cases hr : e.r = Str.ofString ""
        · refine PyProof.Rows.ne_str ?_
          rw [show (e.r != Str.ofString "") = false by rw [hr]; exact bne_self_eq_false _]
          (repeat' ((fail_if_success (with_reducible show wpAny _ _ (call (Value.builtin "len") _) _ _ _)); first | (k_unfold; (try dsimp only)) | (k_end; wrow_close) | walk1 | (dsimp only; walk1) | (leave1; walk_say "STEP leave1"; try dsimp only) | fail "no step"))
          refine kun_lenL (k := (vH.length : Int)) (by exact News.isList hLH2 (.head _)) (by simp) (by omega) ?_
          (repeat' ((fail_if_success (with_reducible show Mine.TurnEnd2 _ _ _ _ _ _ _ _ _)); first | (k_unfold; (try dsimp only)) | (k_end; wrow_close) | walk1 | (dsimp only; walk1) | (leave1; walk_say "STEP leave1"; try dsimp only) | fail "no step"))
          exact ⟨_, _, _, _, rfl, F12, N12, hO12, rfl, rfl, rfl, rfl, rfl, _, _, _, _, rfl, rfl, hD12, l18c, hc12⟩
        · have hw : e.w = Str.ofString "" := hok.ex.resolve_left hr
          refine PyProof.Rows.ne_str ?_
          rw [show (e.r != Str.ofString "") = true from bne_iff_ne.mpr hr]
          (repeat' ((fail_if_success (with_reducible show wpAny _ _ (subscriptTail _ _ (Value.ref _) (Value.int _ _)) _ _ _)); first | (k_unfold; (try dsimp only)) | (k_end; wrow_close) | walk1 | (dsimp only; walk1) | (leave1; walk_say "STEP leave1"; try dsimp only) | fail "no step"))
          refine Mine.pick_T hTP' (by decide) (by show (2 : Int) < 4; decide) (by decide) rfl ?_
          (repeat' ((fail_if_success (with_reducible show wpAny _ _ (compareOp CmpOp.NotEq _ _) _ _ _)); first | (k_unfold; (try dsimp only)) | (k_end; wrow_close) | walk1 | (dsimp only; walk1) | (leave1; walk_say "STEP leave1"; try dsimp only) | fail "no step"))
          refine PyProof.Rows.ne_str ?_
          rw [show (e.w != Str.ofString "") = false by rw [hw]; exact bne_self_eq_false _]
          (repeat' ((fail_if_success (with_reducible show wpAny _ _ (call (Value.builtin "len") _) _ _ _)); first | (k_unfold; (try dsimp only)) | (k_end; wrow_close) | walk1 | (dsimp only; walk1) | (leave1; walk_say "STEP leave1"; try dsimp only) | fail "no step"))
          refine kun_lenL (k := (vH.length : Int)) (by exact News.isList hLH2 (.head _)) (by simp) (by omega) ?_
          (repeat' ((fail_if_success (with_reducible show Mine.TurnEnd2 _ _ _ _ _ _ _ _ _)); first | (k_unfold; (try dsimp only)) | (k_end; wrow_close) | walk1 | (dsimp only; walk1) | (leave1; walk_say "STEP leave1"; try dsimp only) | fail "no step"))
          exact ⟨_, _, _, _, rfl, F12, N12, hO12, rfl, rfl, rfl, rfl, rfl, _, _, _, _, rfl, rfl, hD12, l18c, hc12⟩
        -->
    case turn =>
      --<
      rintro i tv m₁ nx h tk I it hi ⟨hm1, hm2, hm3, hm4, vd, nd, tl, rfl, hvd, htl, htc⟩ hI F1 N1
      rw [Mine.frame1 hm1, Mine.frame1 hm2, Mine.frame1 hm3, Mine.frame1 hm4] at F1
      dsimp only at F1
      have hi2 : 3 + 2 * i < 22 := by omega
      (repeat' ((fail_if_success (with_reducible show wpAny _ _ (subscriptTail _ _ (Value.ref lw) _) _ _ _)); first | (k_unfold; (try dsimp only)) | (k_end; wrow_close) | walk1 | (dsimp only; walk1) | (leave1; walk_say "STEP leave1"; try dsimp only) | fail "no step"))
      have ei : (2 + 2 * ((0 : Int) + (i : Int))).toNat = 2 + 2 * i := by omega
      have ej : (3 + 2 * ((0 : Int) + (i : Int))).toNat = 3 + 2 * i := by omega
      k_dflt (refine Mine.pick_L (vs := [_, _, _]) (by k_asm) (by k_mem) (Mine.fm_lo _ (by decide)) (by show _ < (3 : Int); exact Mine.fm_hi _ (by decide)) (by show 3 ≤ 100000; decide) ?_)
      intro v0 hv0
      obtain ⟨t0, rfl⟩ := Mine.nameOf_pick (Mine.fm_lo _ (by decide)) (Mine.fm_hi _ (by decide)) hv0
      (repeat' ((fail_if_success (with_reducible show wpAny _ _ (newTuple _) _ _ _)); first | (k_unfold; (try dsimp only)) | (k_end; wrow_close) | walk1 | (dsimp only; walk1) | (leave1; walk_say "STEP leave1"; try dsimp only) | fail "no step"))
      k_dflt (refine' kup_newTuple ?tF ?tN ?_ ?tz; (case tF => k_asm); (case tN => k_asm); (case tz => kmk_size))
      intro T1 h4 F4 N4 l4
      have l4' : @LT.lt Nat _ ld T1 := l4 (ld, _) (by k_mem)
      have hI0 : @Ne Nat ld I := hI (ld, _) (by k_mem)
      have hvl := hvd.length
      rw [List.length_map, Mine.deedsOf_len] at hvl
      (repeat' ((fail_if_success (with_reducible show wpAny _ _ (call (Value.builtin _) _) _ _ _)); first | (k_unfold; (try dsimp only)) | (k_end; wrow_close) | walk1 | (dsimp only; walk1) | (leave1; walk_say "STEP leave1"; try dsimp only) | fail "no step"))
      k_dflt (refine' Mine.append_L ?F ?N ?U ?z ?_; (case F => k_asm); (case N => k_asm); (case U => k_updF); (case z => omega))
      intro h' F' N'
      (repeat' ((fail_if_success (with_reducible show Mine.TurnEnd2 _ _ _ _ _ _ _ _ _)); first | (k_unfold; (try dsimp only)) | (k_end; wrow_close) | walk1 | (dsimp only; walk1) | (leave1; walk_say "STEP leave1"; try dsimp only) | fail "no step"))
      rename News _ _ _ _ => N6
      rw [ei, ej] at N6
      obtain ⟨q1, q2, N7⟩ : ∃ q1 q2, News s1.heap _ _ ((I, it) :: (ld, listOf (vd ++ [Value.ref T1]).toArray (nd + 1)) :: (lr, listOf ys.toArray ys.length) :: (lc, listOf cs.toArray 0) :: (lw, listOf [.str (Str.ofString "A") ta, .str (Str.ofString "INPUT") tb, .str (Str.ofString "OUTPUT") tc].toArray 0) :: (s1.heap.objs.size + 1, cw) :: (T1, Mine.tup [.str (Mine.nameOf ((ks.getD (2 + 2 * i) 0).fmod 3)) t0, .int (((ks.getD (2 + 2 * i) 0).fdiv 3).fmod 7) q1, .int (ks.getD (3 + 2 * i) 0) q2]) :: tl) := ⟨_, _, Mine.News.sub N6 (by
        refine List.forall_mem_cons.mpr ⟨by k_mem, List.forall_mem_cons.mpr ⟨by k_mem, List.forall_mem_cons.mpr ⟨by k_mem, List.forall_mem_cons.mpr ⟨by k_mem, List.forall_mem_cons.mpr ⟨by k_mem, List.forall_mem_cons.mpr ⟨by k_mem, List.forall_mem_cons.mpr ⟨by k_mem, fun p hp => ?_⟩⟩⟩⟩⟩⟩⟩
        repeat' (first | exact hp | apply List.Mem.tail))⟩
      refine ⟨_, _, _, _, rfl, by k_asm, N7, ?eO, rfl, rfl, rfl, rfl, vd ++ [Value.ref T1], nd + 1, _, rfl, ?eD, ?eT, ?eU⟩
      case eO =>
        have hI2 : ∀ p ∈ tl, p.1 ≠ I := fun p hp => hI p (by repeat' (first | exact hp | apply List.Mem.tail))
        have l4I : @LT.lt Nat _ I T1 := l4 (I, _) (by k_mem)
        refine List.forall_mem_cons.mpr ⟨hI0, List.forall_mem_cons.mpr ⟨hI (lr, _) (by k_mem), List.forall_mem_cons.mpr ⟨hI (lc, _) (by k_mem), List.forall_mem_cons.mpr ⟨hI (lw, _) (by k_mem), List.forall_mem_cons.mpr ⟨hI (s1.heap.objs.size + 1, _) (by k_mem), List.forall_mem_cons.mpr ⟨Nat.ne_of_gt l4I, hI2⟩⟩⟩⟩⟩⟩
      case eT => exact List.forall_mem_cons.mpr ⟨Nat.ne_of_gt l4', htl⟩
      case eU => exact List.forall_mem_cons.mpr ⟨Nat.ne_of_gt (by have := l4 (s1.heap.objs.size + 1, cw) (by k_mem); exact this), htc⟩
      case eD =>
        rw [Mine.deedsOf_succ, List.map_append]
        refine DatAll.append (DatAll.mono (fun p hp => .tail _ hp) hvd) (DatAll.one (.tuple (.head _) ?_))
        exact .cons (.str _ _) (.cons (.int _ _) (.cons (.int _ _) .nil))
      -->
      )
end Mine
theorem PySem.Challenge.cw_sj0189_01_holds : PySem.Challenge.rw_sj0189_01.Holds := by
  exact Mine.law_holds
