import PyProof.Rows.All
import Wide.All
import OpenK.AllK
import Wide.FinOn
import PySem.Challenge.RW_sa0210_01
open PySem PySem.W PyProof.Rows PySem.Calls PySem.Spec
set_option Elab.async false
set_option maxRecDepth 100000
set_option maxHeartbeats 4000000
namespace Mine
section
variable {tb : String → Option Builtin} {p : Program} {w : World} {n₀ : Nat} {ann : Option Value}
noncomputable def topRunG (thr : Thread → Bool) (ok : Nat → Option Value → Thread → Bool) (st : SharedT → Thread → Option (SharedT × Thread)) (n₀ : Nat) (ann : Option Value) : Nat → SharedT → Thread → Option SharedT
  | 0, _, _ => none
  | n + 1, s, t => match thr t with
    | true => some s
    | false => match ok n₀ ann t with
      | false => none
      | true => match st s t with
        | some (s', t') => topRunG thr ok st n₀ ann n s' t'
        | none => none
theorem topRun_ofT : ∀ {n : Nat} {s r : SharedT} {t : Thread}, topRunG through stepOk (stepT (denote tb) p w) n₀ ann n s t = some r → topRun tb p w n₀ ann n s.abs t = some r.abs
  | 0, _, _, _, h => by cases h
  | n + 1, s, r, t, h => by
    unfold topRunG at h
    unfold topRun
    cases he : through t with
    | true => rw [he] at h; cases h; rfl
    | false =>
      rw [he] at h
      cases hk : stepOk n₀ ann t with
      | false => rw [hk] at h; cases h
      | true =>
        rw [hk] at h
        cases hs : stepT (denote tb) p w s t with
        | none => rw [hs] at h; cases h
        | some r => obtain ⟨s₂, t₂⟩ := r; rw [hs] at h; rw [stepT_spec hs]; exact topRun_ofT h
end
noncomputable def insAll : List Obj → BT → Nat → Option (BT × Nat)
  | [], t, n => some (t, n)
  | o :: l, t, n => match ((t.ins n o).get n).isSome with
    | true => insAll l (t.ins n o) (n + 1)
    | false => none
theorem insAll_abs {life : Life} : ∀ {l : List Obj} {t : BT} {n : Nat} {t' : BT} {n' : Nat}, insAll l t n = some (t', n') → absHeap t' n' life = ⟨(absHeap t n life).objs ++ l.toArray, life⟩
  | [], t, n, t', n', h => by cases h; simp [absHeap]
  | o :: l, t, n, t', n', h => by
    unfold insAll at h
    cases e : ((t.ins n o).get n).isSome with
    | false => rw [e] at h; cases h
    | true => rw [e] at h; rw [insAll_abs h, absHeap_ins e]; simp [Heap.push]
theorem topFrom_ofT {p : Program} {w : World} {N M m₀ : Nat} {ann : Option Value} {H : Heap} {gs : Array GenState} {d : Drawn} {k : Nat} {os : OsState} {r : Shared}
    (z : (H.isNs mainGlobals && gs.size == 0, H.objs.size, H.nsMap mainGlobals "__annotations__") = (true, m₀, ann)) (le : Nat.ble M N = true) (t : topRun treeTable p w m₀ ann M ⟨H, gs, d, k, os⟩ (topStub p) = some r)
    (good : (staticsOk (importedModules p.main.body) H r.heap && namesBound p r.heap && gensDone r && laidKept H r.heap) = true) : topFrom treeTable p w N ⟨H, gs, d, k, os⟩ = some r := by
  injection z with z1 z
  injection z with z2 z3
  have far := topRun_mono (N - M) _ _ _ _ t
  rw [Nat.add_sub_cancel' (Nat.le_of_ble_eq_true le), ← z2, ← z3] at far
  simp only [topFrom, z1, far, Option.bind_some]
  rw [good]
theorem left_ofT {p q : Program} {loose : List Str} {Xt : Shared → Bool} {α : Type} {Yf : Shared → α} {Ya : World → α} {N : Nat} {g0 : Bool} {H₀ : Params → Heap} {gs₀ : Array GenState} {d₀ : Drawn} {k₀ : Nat} {m₀ : Nat} {ann : Option Value} {M : Nat}
    (opened : ∀ w : World, (fencedOpening treeTable p w N).map (fun s => (s.heap, s.gens, s.drawn, s.toks)) = some (H₀ w.params, gs₀, d₀, k₀))
    (size : ∀ w : World, ((H₀ w.params).isNs mainGlobals && gs₀.size == 0, (H₀ w.params).objs.size, (H₀ w.params).nsMap mainGlobals "__annotations__") = (true, m₀, ann)) (le : Nat.ble M N = true)
    (run : ∀ w : World, (fun os => (insAll (H₀ w.params).objs.toList .nil 0).bind fun x => (topRunG through stepOk (stepT (denote treeTable) p w) m₀ ann M ⟨x.1, x.2, (H₀ w.params).life, gs₀, d₀, k₀, os⟩ (topStub p)).map fun r =>
        ((staticsOk (importedModules p.main.body) (H₀ w.params) r.abs.heap && namesBound p r.abs.heap && gensDone r.abs && laidKept (H₀ w.params) r.abs.heap, openSeen q loose (importedModules p.main.body) Xt g0 r.abs), Yf r.abs)) = fun _ => some ((true, openGood q loose), Ya w)) :
    LeftO p q loose Xt Yf Ya N g0 := by
  intro w
  have start := opened w
  unfold openEnds
  cases hs : fencedOpening treeTable p w N with
  | none => rw [hs] at start; cases start
  | some s0 =>
    rw [hs] at start
    obtain ⟨h, gs, d, k, os⟩ := s0
    cases Option.some.inj start
    have walk := congrFun (run w) os
    dsimp only at walk
    cases hi : insAll (H₀ w.params).objs.toList .nil 0 with
    | none => rw [hi] at walk; cases walk
    | some x =>
      rw [hi, Option.bind_some] at walk
      cases hr : topRunG through stepOk (stepT (denote treeTable) p w) m₀ ann M ⟨x.1, x.2, (H₀ w.params).life, gs, d, k, os⟩ (topStub p) with
      | none => rw [hr] at walk; cases walk
      | some r =>
        rw [hr, Option.map_some, Option.some.injEq, Prod.mk.injEq, Prod.mk.injEq] at walk
        have tree : absHeap x.1 x.2 (H₀ w.params).life = H₀ w.params := by
          rw [insAll_abs (t' := x.1) (n' := x.2) hi]
          simp [absHeap, BT.list]
        have whole := topRun_ofT hr
        simp only [SharedT.abs, tree] at whole
        have top := topFrom_ofT (size w) le whole walk.1.1
        simp only [Option.bind_some, top, Option.map_some]
        exact congrArg some (Prod.ext walk.1.2 walk.2)
theorem said : OpenLaw.wellSaid PySem.Challenge.rw_sa0210_01 = true := by
  unfold OpenLaw.wellSaid OpenRow.wellSaid OpenRow.partSaid looksOpen
  repeat' with_reducible refine look_both ?_ ?_
  all_goals try rw [Fast.te11788848310118352699]
  all_goals try rw [Fast.te9807087744658564304]
  all_goals try rw [Fast.te12862048085361865435]
  all_goals try rw [Fast.te8377067652309620493]
  all_goals try rw [Fast.te18344453789297297638]
  all_goals try rw [Fast.te3471404346716756564]
  all_goals try rw [Fast.te14412699480532031325]
  all_goals try rw [Fast.te8326940854005059898]
  all_goals try rw [Fast.te17119622794617984870]
  all_goals try rw [Fast.te17868728402115742887]
  all_goals try rw [Fast.te9558739934217749035]
  all_goals try rw [Fast.te16286561074155671207]
  all_goals try rw [Fast.te13343964577679436407]
  all_goals try rw [Fast.te5923862056798008813]
  all_goals try rw [Fast.te17691160309236699985]
  all_goals try rw [Fast.te10792542408131684335]
  all_goals try rw [Fast.te797321630700447069]
  all_goals try rw [Fast.te6984425678791042302]
  all_goals try rw [Fast.te7723801398212525404]
  all_goals try rw [Fast.te13582783067957832011]
  all_goals try rw [Fast.te5318747976498570220]
  all_goals try rw [Fast.te4857012375875476094]
  all_goals try rw [Fast.te12749700546528644094]
  all_goals try rw [Fast.te10501279942588096481]
  all_goals try rw [Fast.te8179353310426384613]
  all_goals try rw [Fast.te12879404354523853263]
  all_goals try rw [Fast.te17095254045102204799]
  all_goals try rw [Fast.te9572597257264208301]
  all_goals try rw [Fast.te2368527892694137696]
  all_goals (as_aux_lemma => kernel_rfl)
noncomputable def vw : Program := PySem.W.view PySem.Challenge.pw_sa0210_01 [1, 2, 4, 5, 6, 7, 8, 9, 10, 11, 12, 13, 14, 15, 16, 17, 18, 20, 22, 23, 24, 25, 27, 28, 29, 30, 31, 32]
theorem opens : ∀ w : World, (fencedOpening treeTable PySem.Challenge.pw_sa0210_01 w 3340).map (fun s => (s.heap, s.gens, s.drawn, s.toks)) = some (boot_heap w.params, Array.mk [], boot_drawn, boot_toks) :=
  boot_open (by kernel_rfl) (by decide) (fun _ => by kernel_rfl)
theorem keepH {H : Hook} {r : OpenRow} (_h : H = H) (hw : r.toRowW.promised) (call : r.Holds) : r.Holds := call
section
local macro_rules | `(tactic| o_law) => `(tactic| refine holds_law Mine.said fun said => ?_)
local macro_rules | `(tactic| o_head $H) => `(tactic| (apply Mine.keepH (H := $H) rfl))
open_top hK for PySem.Challenge.rw_sa0210_01
end
noncomputable abbrev HK : Hook := kHook hK.heap_1 [2, 3, 15, 22, 24, 25, 27, 28, 29, 30, 31, 32, 35, 42, 44, 45, 47, 48, 49, 50, 51, 61, 63, 64, 66, 67, 68, 69, 70, 71, 72, 75, 77, 78, 80, 81, 82, 84, 85, 87, 88, 89, 91, 92, 94, 95, 96, 98, 99, 101, 102, 103, 105, 106, 108, 109, 110, 112, 113, 115, 116, 117, 119, 120, 122, 123, 124, 126, 127, 129, 130, 131, 133, 134, 136, 137, 138, 140, 141, 143, 144, 145, 147, 148, 150, 151, 159, 160, 162, 163, 165, 166, 167, 168, 169, 170, 171, 174, 176, 177, 179, 180, 181, 183, 184, 186, 187, 188, 189, 191, 192, 194, 195, 196, 199, 200, 201, 203, 204, 206, 207, 208, 211, 212, 213, 216, 217] (fun _ => by kernel_rfl)
noncomputable abbrev bootT (P : Params) : Option (BT × Nat) := insAll (boot_heap P).objs.toList .nil 0
noncomputable abbrev pw : Program := PySem.Challenge.pw_sa0210_01
theorem size0 (w : World) : ((boot_heap w.params).isNs mainGlobals && (Array.mk [] : Array GenState).size == 0, (boot_heap w.params).objs.size, (boot_heap w.params).nsMap mainGlobals "__annotations__") = (true, 11, some (.ref 6)) := by kernel_rfl
theorem runA (w : World) : (fun os => (bootT w.params).bind fun x => (topRunG through stepOk (stepT (denote treeTable) pw w) 11 (some (.ref 6)) 1628 ⟨x.1, x.2, (boot_heap w.params).life, Array.mk [], boot_drawn, boot_toks, os⟩ (topStub pw)).map fun r =>
    ((staticsOk (importedModules pw.main.body) (boot_heap w.params) r.abs.heap && namesBound pw r.abs.heap && gensDone r.abs && laidKept (boot_heap w.params) r.abs.heap, openSeen vw [] (importedModules pw.main.body) (fun s => xlAt Mine.vw [] s && recOk (RowW.records (OpenLaw.row PySem.Challenge.rw_sa0210_01).toRowW) s) true r.abs), HK.obs r.abs)) = fun _ => some ((true, openGood vw []), HK.val w) := by
  rw [Fast.te6613529449190102663, Fast.te10156331382660048174, Fast.te11892475500146522536, Fast.te14364793385576792824, Fast.te5923862056798008813, Fast.te4187177175401517315]; kernel_rfl
noncomputable abbrev xt (s : Shared) : Bool := xlAt Mine.vw [] s && recOk (RowW.records (OpenLaw.row PySem.Challenge.rw_sa0210_01).toRowW) s
theorem xtA (s : Shared) (e : xt s = true) : XL Mine.vw [] (s.heap.nsMap mainGlobals) s.heap := xl_of s (Bool.and_eq_true_iff.mp e).1
theorem xtB (s : Shared) (e : xt s = true) : RecFacts (RowW.records (OpenLaw.row PySem.Challenge.rw_sa0210_01).toRowW) s.heap := recFacts_of (Bool.and_eq_true_iff.mp e).2
theorem chO : (chainsOk vw && opensWell (OpenLaw.row PySem.Challenge.rw_sa0210_01).prog && (frees (OpenLaw.row PySem.Challenge.rw_sa0210_01).toRowW && (OpenLaw.row PySem.Challenge.rw_sa0210_01).within.isEmpty)) = true := by decide +kernel
theorem bareO : (OpenLaw.row PySem.Challenge.rw_sa0210_01).prog.bare := ⟨rfl, rfl, rfl, rfl, rfl, by decide +kernel⟩
theorem leftO : LeftO (OpenLaw.row PySem.Challenge.rw_sa0210_01).prog vw [] xt HK.obs HK.val 3340 true := left_ofT (p := pw) (H₀ := boot_heap) (gs₀ := Array.mk []) (d₀ := boot_drawn) (k₀ := boot_toks) opens size0 (by decide) runA
section
local macro_rules | `(tactic| o_law) => `(tactic| refine holds_law Mine.said fun said => ?_)
local macro_rules | `(tactic| o_head $H) => `(tactic| (apply holds_open Mine.leftO (Hook.of HK) (Hook.keeps HK) Mine.xtA XL.keeps (by rfl) (by rfl) (by rfl) Mine.xtB (by rfl) (by assumption) Mine.chO Mine.bareO))
open_top hd for PySem.Challenge.rw_sa0210_01
end
end Mine

namespace Mine
noncomputable abbrev PRG : Program := PySem.Challenge.rw_sa0210_01.row.prog
noncomputable abbrev TOP (mean : ExcName → Option Value) (mg mb : Str → Option Value) (h : Heap) : Prop :=
  Top vw (looseW vw []) mean mg mb h

/-- what a call of a def of the program is to do: it ends, with `Post` of the answer and of the new ledger; nothing else is changed -/
noncomputable def CallIs (w : World) (mean : ExcName → Option Value) (mg mb : Str → Option Value) (dd uu : Nat) (f : Addr) (vs : List Value) (news : List (Addr × Obj)) (Post : Value → List (Addr × Obj) → Prop) : Prop :=
  ∀ (dp un : Nat) (gd : Option (List Code)) (cn : Str) (cs : Scope) (a : Addr) (ccd : Value) (cl : List (Str × Addr)) (outer : List Env) (A₀ : Around) (base h₀ : Heap) (L : Addr) (m : Str → Option Value) (s : Shared) (Q : Value → Shared → Prop),
    Below A₀ base outer h₀ → Fr h₀ L s.heap m → (hK.heap_1 w.params).In h₀ → News h₀ L s.heap news → TOP mean mg mb h₀ → cs.kind = .function → dp + dd < recursionLimit → un + uu < cLine →
    (∀ r news' h' tk', Fr h₀ L h' m → News h₀ L h' news' → Post r news' → Q r { s with heap := h', toks := tk' }) →
    wpAny (model PRG w) (ktrTop dp un gd cn cs L a ccd cl outer) (call (.ref f) vs) Q (fun _ _ => False) s

/-- the end of a def's body -/
noncomputable def Done (g : Heap) (L : Addr) (s : Shared) (Post : Value → List (Addr × Obj) → Prop) (fl : Flow) (s' : Shared) : Prop :=
  ∃ h' tk' m' news', s' = { s with heap := h', toks := tk' } ∧ Fr g L h' m' ∧ News g L h' news' ∧ Post (match fl with | .ret v => v | _ => .none) news'

theorem to_done {M : Model} {A : Around} {t : Sem Flow} {g h₀ : Heap} {L' L : Addr} {m : Str → Option Value} {s s₁ : Shared} {Post : Value → List (Addr × Obj) → Prop} {R : Result → Shared → Prop} {Q : Value → Shared → Prop} {E : Value → Shared → Prop} {h₁ : Heap} {m₁ : Str → Option Value} (_F : Fr g L' h₁ m₁)
    (hret : ∀ r news' h' tk', Fr h₀ L h' m → News h₀ L h' news' → Post r news' → Q r { s with heap := h', toks := tk' })
    (hR : ∀ v s', Q v s' → R (.ok (.ret v)) s')
    (h : wpAny M A t (Done g L' s Post) (fun _ _ => False) s₁) :
    wpAny M A t (fun fl s' => LeaveK h₀ L m g R (match fl with | .ret v => v | _ => .none) s') E s₁ :=
  wpAny_mono h (fun fl s' hd => by
    obtain ⟨h', tk', m', news', rfl, F, N, hp⟩ := hd
    exact leaveK_ F N fun F' N' => hR _ _ (hret _ _ _ _ F' N' hp)) fun _ _ x => x.elim

section
variable {prog : Program} {w : World} {A : Around} {s : Shared} {env : Env} {h₀ : Heap}

noncomputable def TurnOn (h₀ : Heap) (L I : Addr) (oI : Obj) (J : (Str → Option Value) → List (Addr × Obj) → Prop) (s₁ s₂ : Shared) : Prop :=
  ∃ h' tk m' news', s₂ = { s₁ with heap := h', toks := tk } ∧ Fr h₀ L h' m' ∧ News h₀ L h' ((I, oI) :: news') ∧ (∀ p ∈ news', p.1 ≠ I) ∧ J m' news'
noncomputable def TurnEnd (h₀ : Heap) (L I : Addr) (oI : Obj) (J : (Str → Option Value) → List (Addr × Obj) → Prop) (s₁ : Shared) (Q : Flow → Shared → Prop) (f : Flow) (s₂ : Shared) : Prop :=
  match f with
  | .ret v => Q (.ret v) s₂
  | .brk => Q .next s₂
  | .next => TurnOn h₀ L I oI J s₁ s₂
  | .cont => TurnOn h₀ L I oI J s₁ s₂

theorem fr_off {h h' : Heap} {L I : Addr} {m : Str → Option Value} (F : Fr h₀ L h m) (hI : I ≠ L) (hI0 : h₀.get? I = none) (hk : ∀ b o, b ∉ [I] → h.get? b = some o → h'.get? b = some o) : Fr h₀ L h' m :=
  ⟨F.ns.at' fun o e => hk _ o (fun q => hI (List.mem_singleton.mp q).symm) e,
   fun b o e => hk b o (fun q => by rw [List.mem_singleton.mp q, hI0] at e; cases e) (F.keep b o e), F.above⟩
theorem news_off {h h' : Heap} {L I : Addr} {news : List (Addr × Obj)} (N : News h₀ L h news) (hn : ∀ p ∈ news, p.1 ≠ I) (hk : ∀ b o, b ∉ [I] → h.get? b = some o → h'.get? b = some o) : News h₀ L h' news :=
  fun p hp => ⟨hk _ _ (fun q => hn p hp (List.mem_singleton.mp q)) (N p hp).1, (N p hp).2⟩
theorem news_cons {h : Heap} {L a : Addr} {o : Obj} {news : List (Addr × Obj)} (e : h.get? a = some o) (hL : a ≠ L) (h0 : h₀.get? a = none) (N : News h₀ L h news) : News h₀ L h ((a, o) :: news) := fun p hp => by
  rcases List.mem_cons.mp hp with rfl | hp
  · exact ⟨e, hL, h0⟩
  · exact N p hp

theorem loop_core {R : Result → Shared → Prop} {E : Value → Shared → Prop} {target : Expr} {body : List Stmt} {I : Addr} {fp : List Addr} {n : Nat} {P : Nat → Value → Prop} {St : Nat → Heap → Prop} {m : Str → Option Value} {news : List (Addr × Obj)}
    (W : Walks prog w A I fp [I] n P St) (J : Nat → (Str → Option Value) → List (Addr × Obj) → Prop)
    (hfp : ∀ b ∈ fp, b = I ∨ ∃ o, ∀ i m' news', J i m' news' → (b, o) ∈ news')
    (hIL : I ≠ env.locals) (hI0 : h₀.get? I = none) (hn : ∀ p ∈ news, p.1 ≠ I) (hthere : ∀ i h, St i h → ∃ o, h.get? I = some o)
    (hst : St 0 s.heap) (F : Fr h₀ env.locals s.heap m) (N : News h₀ env.locals s.heap news) (h0 : J 0 m news)
    (hgo : ∀ i (s' : Shared) v (Q' : Unit → Shared → Prop) (E' : Value → Shared → Prop), P i v → St (i + 1) s'.heap → Q' () s' → wpAny (model prog w) A (letOwnedTupleGo target (.ref I) v) Q' E' s')
    (step : ∀ i v m₁ news₁ h tk oI, i < n → P i v → J i m₁ news₁ → (∀ p ∈ news₁, p.1 ≠ I) → Fr h₀ env.locals h m₁ → News h₀ env.locals h ((I, oI) :: news₁) →
      wpAny (model prog w) A (assign target env v) (fun _ s₂ => wpAny (model prog w) A (execs body env) (TurnEnd h₀ env.locals I oI (J (i + 1)) s fun f s' => R (.ok f) s') E s₂) E { s with heap := h, toks := tk })
    (hE : ∀ e s', E e s' → notedBy (model prog w) A env (fun e s' => R (.error e) s') e s')
    (done : ∀ h tk m' news', Fr h₀ env.locals h m' → News h₀ env.locals h news' → J n m' news' → R (.ok .next) { s with heap := h, toks := tk }) :
    codeAny (model prog w) A (.forLoop target (.ref I) body [] env) R s := by
  refine codeAny_forLoop_any
    (fun k s' => ∃ i h tk m' news', s' = { s with heap := h, toks := tk } ∧ St i h ∧ Fr h₀ env.locals h m' ∧ News h₀ env.locals h news' ∧ (∀ p ∈ news', p.1 ≠ I) ∧ J i m' news' ∧ i ≤ n ∧ k = n + 1 - i) ?_ (n + 1)
    ⟨0, s.heap, s.toks, m, news, rfl, hst, F, N, hn, h0, Nat.zero_le _, rfl⟩
  rintro k s' ⟨i, h, tk, m', news', rfl, hst', F', N', hn', hJ, hi, rfl⟩
  by_cases hlt : i < n
  · refine W.item i _ _ _ hlt hst' fun v h₁ tk₁ hP hst₁ hk₁ => ?_
    have F₁ := fr_off F' hIL hI0 hk₁
    have N₁ := news_off N' hn' hk₁
    obtain ⟨oI, hoI⟩ := hthere _ _ hst₁
    have N₂ := news_cons hoI hIL hI0 N₁
    refine hgo i _ v _ _ hP hst₁ ?_
    refine wpAny_mono (step i v m' news' h₁ tk₁ oI hlt hP hJ hn' F₁ N₂) (fun _ s₂ h₂ => wpAny_mono h₂ (fun f s₃ h₃ => ?_) hE) hE
    have next : TurnOn h₀ env.locals I oI (J (i + 1)) s s₃ → ∃ k', k' < n + 1 - i ∧ ∃ i h tk m' news', s₃ = { s with heap := h, toks := tk } ∧ St i h ∧ Fr h₀ env.locals h m' ∧ News h₀ env.locals h news' ∧ (∀ p ∈ news', p.1 ≠ I) ∧ J i m' news' ∧ i ≤ n ∧ k' = n + 1 - i := by
      rintro ⟨h', tk', m₂, news₂, rfl, F₃, N₃, hn₃, hJ₃⟩
      refine ⟨n + 1 - (i + 1), by omega, i + 1, h', tk', m₂, news₂, rfl, W.frame _ _ _ hst₁ (fun b hb o e => ?_), F₃, fun p hp => N₃ p (.tail _ hp), hn₃, hJ₃, hlt, rfl⟩
      rcases hfp b hb with hbI | ⟨o', ho'⟩
      · rw [hbI, hoI] at e; rw [hbI, ← e]
        exact (N₃ (I, oI) (.head _)).1
      · have e₁ := (N₁ (b, o') (ho' _ _ _ hJ)).1
        rw [e] at e₁; rw [e₁]
        exact (N₃ (b, o') (.tail _ (ho' _ _ _ hJ₃))).1
    cases f with
    | next => exact next h₃
    | cont => exact next h₃
    | brk => exact h₃
    | ret v => exact h₃
  · obtain rfl : i = n := by omega
    refine W.done _ _ _ hst' fun h₁ tk₁ hk₁ => wpAny_execs_nil ?_
    exact done h₁ tk₁ m' news' (fr_off F' hIL hI0 hk₁) (news_off N' hn' hk₁) hJ

noncomputable def LoopM (prog : Program) (w : World) (A : Around) (h₀ : Heap) (env : Env) (target : Expr) (body : List Stmt) (Q : Flow → Shared → Prop) (E : Value → Shared → Prop) (it : Value) (s₂ : Shared) : Prop :=
  ∃ (I : Addr) (fp : List Addr) (n : Nat) (P : Nat → Value → Prop) (St : Nat → Heap → Prop) (m : Str → Option Value) (news : List (Addr × Obj)) (J : Nat → (Str → Option Value) → List (Addr × Obj) → Prop),
    it = .ref I ∧ Walks prog w A I fp [I] n P St ∧ (∀ b ∈ fp, b = I ∨ ∃ o, ∀ i m' news', J i m' news' → (b, o) ∈ news') ∧ I ≠ env.locals ∧ h₀.get? I = none ∧ (∀ p ∈ news, p.1 ≠ I) ∧ (∀ i h, St i h → ∃ o, h.get? I = some o) ∧
    St 0 s₂.heap ∧ Fr h₀ env.locals s₂.heap m ∧ News h₀ env.locals s₂.heap news ∧ J 0 m news ∧
    (∀ i (s' : Shared) v (Q' : Unit → Shared → Prop) (E' : Value → Shared → Prop), P i v → St (i + 1) s'.heap → Q' () s' → wpAny (model prog w) A (letOwnedTupleGo target (.ref I) v) Q' E' s') ∧
    (∀ i v m₁ news₁ h tk oI, i < n → P i v → J i m₁ news₁ → (∀ p ∈ news₁, p.1 ≠ I) → Fr h₀ env.locals h m₁ → News h₀ env.locals h ((I, oI) :: news₁) →
      wpAny (model prog w) A (assign target env v) (fun _ s₃ => wpAny (model prog w) A (execs body env) (TurnEnd h₀ env.locals I oI (J (i + 1)) s₂ Q) E s₃) E { s₂ with heap := h, toks := tk }) ∧
    ∀ h tk m' news', Fr h₀ env.locals h m' → News h₀ env.locals h news' → J n m' news' → Q .next { s₂ with heap := h, toks := tk }

theorem For_M {Q : Flow → Shared → Prop} {E : Value → Shared → Prop} {target iter : Expr} {pos : Pos} {body : List Stmt} {m : Str → Option Value} (_F : Fr h₀ env.locals s.heap m)
    (hE : PassesOwn (model prog w) A env E) (hs : ∀ x, foldedSetIterable iter env x = pure x)
    (h : wpAny (model prog w) A (eval iter env) (fun xv s₁ => wpAny (model prog w) A (pyIter xv) (fun it s₂ => LoopM prog w A h₀ env target body Q E it s₂) E s₁) E s) :
    wpAny (model prog w) A (exec (.For target iter body [] pos) env) Q E s := by
  refine wpAny_For (wpAny_mono h (fun xv s₁ h₁ => wpAny_mono h₁ (fun it s₂ h₂ => ?_) fun _ _ e => e) fun _ _ e => e) hs
  obtain ⟨I, fp, n, P, St, m, news, J, rfl, W, hfp, hIL, hI0, hn, hth, hst, F, N, h0, hgo, step, done⟩ := h₂
  exact loop_core (R := fun r s' => match r with | .ok f => Q f s' | .error e => cameBackBy (model prog w) A env E e s') W J hfp hIL hI0 hn hth hst F N h0 hgo step hE done

/-- the targets that are served -/
noncomputable def TargetOk (items : List Value) : Expr → Prop
  | .Name .. => True
  | .Tuple .. => ∀ v ∈ items, ∃ a, v = .ref a
  | _ => False

theorem fresh_new {L : Addr} {m : Str → Option Value} (F : Fr h₀ L s.heap m) : h₀.get? s.heap.objs.size = none := by
  cases q : h₀.get? s.heap.objs.size with
  | none => rfl
  | some o => exact absurd (Heap.lt_size (F.keep _ _ q)) (Nat.lt_irrefl _)

theorem iterM_str {Q : Flow → Shared → Prop} {E : Value → Shared → Prop} {x : Str} {px : Pos} {body : List Stmt} {z : Str} {t : Tok} {m : Str → Option Value} {news : List (Addr × Obj)}
    (J : Nat → (Str → Option Value) → List (Addr × Obj) → Prop) (hh : A.handled = none)
    (F : Fr h₀ env.locals s.heap m) (N : News h₀ env.locals s.heap news) (h0 : J 0 m news)
    (step : ∀ i c u m₁ news₁ h tk I oI, z.cps[i]? = some c → J i m₁ news₁ → (∀ p ∈ news₁, p.1 ≠ I) → (∀ p ∈ news, p.1 < I) → Fr h₀ env.locals h m₁ → News h₀ env.locals h ((I, oI) :: news₁) →
      wpAny (model prog w) A (assign (.Name x px) env (.str ⟨#[c]⟩ u)) (fun _ s₃ => wpAny (model prog w) A (execs body env) (TurnEnd h₀ env.locals I oI (J (i + 1)) s Q) E s₃) E { s with heap := h, toks := tk })
    (done : ∀ h tk m' news', Fr h₀ env.locals h m' → News h₀ env.locals h news' → J z.cps.size m' news' → Q .next { s with heap := h, toks := tk }) :
    wpAny (model prog w) A (pyIter (.str z t)) (fun it s₂ => LoopM prog w A h₀ env (.Name x px) body Q E it s₂) E s := by
  have below : ∀ p ∈ news, p.1 < s.heap.objs.size := fun p hp => Heap.lt_size (N p hp).1
  have go : ∀ (o : Obj) (St : Nat → Heap → Prop), Walks prog w A s.heap.objs.size [s.heap.objs.size] [s.heap.objs.size] z.cps.size (SignAt z) St → (∀ i h, St i h → ∃ o, h.get? s.heap.objs.size = some o) → St 0 (s.heap.push o) →
      LoopM prog w A h₀ env (.Name x px) body Q E (.ref s.heap.objs.size) { s with heap := s.heap.push o } := fun o St W hth hst => by
    refine ⟨_, _, _, _, _, m, news, J, rfl, W, fun b hb => .inl (List.mem_singleton.mp hb), Nat.ne_of_gt F.ns.lt, fresh_new F, fun p hp => Nat.ne_of_lt (below p hp), hth, hst, F.push _,
      (fun p hp => ⟨Heap.get?_push_of_some _ (N p hp).1, (N p hp).2⟩), h0, fun i s' v Q' E' hP hst hQ => wpAny_pure hQ, ?_, fun h tk m' news' F' N' hJ => done h tk m' news' F' N' hJ⟩
    rintro i v m₁ news₁ h tk oI hi ⟨c, u, hc, rfl⟩ hJ hoff F₁ N₁
    exact step i c u m₁ news₁ h tk _ oI hc hJ hoff below F₁ N₁
  cases ha : z.cps.all (· < 128)
  · exact wpAny_pyIter_wide ha (go _ _ (Walks.strWide hh _ z t) (fun i h ⟨o, ho, _⟩ => ⟨o, ho⟩) ⟨_, Heap.get?_push_size _ rfl, rfl, rfl⟩)
  · exact wpAny_pyIter_ascii ha (go _ _ (Walks.strAscii hh _ z t) (fun i h ⟨o, ho, _⟩ => ⟨o, ho⟩) ⟨_, Heap.get?_push_size _ rfl, rfl, rfl⟩)
end
end Mine

namespace Mine
section
variable {prog : Program} {w : World} {A : Around} {s : Shared} {env : Env} {h₀ : Heap}

theorem compLoop_any {elt target iter : Expr} {scope : Scope} {pos : Pos} {it acc : Value} {R : Result → Shared → Prop} (Inv : Nat → Shared → Prop)
    (turn : ∀ n s, Inv n s → wpAny (model prog w) A (pyNext it) (fun r s₁ => match r with
      | none => R (.ok .next) s₁
      | some v => wpAny (model prog w) A (letOwnedTupleGo target it v) (fun _ s₂ => wpAny (model prog w) A (assign target env v) (fun _ s₃ =>
          wpAny (model prog w) A (eval elt env) (fun x s₄ => wpAny (model prog w) A (call (.builtin "list.append") [acc, x]) (fun _ s₅ => ∃ k, k < n ∧ Inv k s₅) (fun _ _ => False) s₄) (fun _ _ => False) s₃) (fun _ _ => False) s₂) (fun _ _ => False) s₁) (fun _ _ => False) s)
    (n : Nat) (h : Inv n s) : codeAny (model prog w) A (.compLoop (.ListComp elt [⟨target, iter, [], 0⟩] scope pos) 0 it acc env) R s := by
  refine codeAny_loop rfl Inv (fun n s hI => ?_) n h
  show wpAny _ A ((compTurn (.ListComp elt [⟨target, iter, [], 0⟩] scope pos) 0 it acc env).onRaise (fun x => do noteFrame x env; theTreesLotGoes x)) _ _ s
  refine wpAny_noted (wpAny_noRaise ?_)
  rw [compTurn_list]
  refine wpAny_bind (wpAny_standAt (wpAny_bind (wpAny_mono (turn n s hI) (fun r s₁ h₁ => ?_) fun _ _ h' => h')))
  cases r with
  | none => exact wpAny_pure h₁
  | some v =>
    refine wpAny_bind (wpAny_mono h₁ (fun _ s₂ h₂ => ?_) fun _ _ h' => h')
    refine wpAny_bind (wpAny_mono h₂ (fun _ s₃ h₃ => wpAny_bind (wpAny_mono (wpAny_tests_nil (Q := fun ok s₄ => ok = true ∧ s₄ = s₃) ⟨rfl, rfl⟩) (fun ok s₄ h₄ => ?_) fun _ _ h' => h')) fun _ _ h' => h')
    obtain ⟨rfl, rfl⟩ := h₄
    exact wpAny_bind (wpAny_bind (wpAny_mono h₃ (fun x s₅ h₅ => wpAny_bind (wpAny_mono h₅ (fun _ s₆ h₆ => wpAny_pure (wpAny_pure ⟨rfl, h₆⟩)) fun _ _ h' => h')) fun _ _ h' => h'))

/-- the end of a comprehension's element -/
noncomputable def EltEnd (h₀ : Heap) (L : Addr) (m : Str → Option Value) (C : Addr) (hd : List (Addr × Obj)) (s : Shared) (J : Value → List (Addr × Obj) → Prop) (y : Value) (s' : Shared) : Prop :=
  ∃ h' tk news' mC, s' = { s with heap := h', toks := tk } ∧ Fr h₀ L h' m ∧ h'.Ns C mC ∧ News h₀ L h' (hd ++ news') ∧ (∀ p ∈ news', p.1 ≠ C ∧ ∀ q ∈ hd, p.1 ≠ q.1) ∧ J y news'

noncomputable def CompM (prog : Program) (w : World) (A : Around) (h₀ : Heap) (L : Addr) (m : Str → Option Value) (env : Env) (elt target : Expr) (scope : Scope) (cl : List (Str × Addr)) (Q : Value → Shared → Prop) (it : Value) (s₂ : Shared) : Prop :=
  ∃ (I : Addr) (fp : List Addr) (n : Nat) (P : Nat → Value → Prop) (St : Nat → Heap → Prop) (news : List (Addr × Obj)) (J : Nat → List Value → List (Addr × Obj) → Prop),
    it = .ref I ∧ Walks prog w A I fp [I] n P St ∧ (∀ b ∈ fp, b = I ∨ ∃ o, ∀ i ys news', J i ys news' → (b, o) ∈ news') ∧ (∀ b ∈ fp, b < s₂.heap.objs.size) ∧ n < 1000000 ∧ I ≠ L ∧ h₀.get? I = none ∧ (∀ p ∈ news, p.1 ≠ I) ∧ (∀ i h, St i h → ∃ o, h.get? I = some o) ∧
    St 0 s₂.heap ∧ Fr h₀ L s₂.heap m ∧ News h₀ L s₂.heap news ∧ J 0 [] news ∧ (∀ i ys news', J i ys news' → ys.length = i) ∧
    (∀ i (s' : Shared) v (Q' : Unit → Shared → Prop) (E' : Value → Shared → Prop), P i v → St (i + 1) s'.heap → Q' () s' → wpAny (model prog w) A (letOwnedTupleGo target (.ref I) v) Q' E' s') ∧
    (∀ i v ys news₁ h tk C D oI oD mC, i < n → P i v → J i ys news₁ → Fr h₀ L h m → h.Ns C mC → News h₀ L h ((I, oI) :: (D, oD) :: news₁) → C ≠ L → h₀.get? C = none → I ≠ C → D ≠ C → I ≠ D → (∀ p ∈ news₁, p.1 ≠ C ∧ p.1 ≠ I ∧ p.1 ≠ D) → (∀ p ∈ news, p.1 < C ∧ p.1 < D) →
      wpAny (model prog w) A (assign target (compEnvC scope cl C env) v) (fun _ s₃ => wpAny (model prog w) A (eval elt (compEnvC scope cl C env)) (EltEnd h₀ L m C [(I, oI), (D, oD)] s₂ fun y => J (i + 1) (ys ++ [y])) (fun _ _ => False) s₃) (fun _ _ => False) { s₂ with heap := h, toks := tk }) ∧
    ∀ h tk D ys news', Fr h₀ L h m → News h₀ L h ((D, W.listOf ys.toArray n) :: news') → (∀ p ∈ news', p.1 ≠ D) → (∀ p ∈ news, p.1 < D) → J n ys news' → Q (.ref D) { s₂ with heap := h, toks := tk }

theorem comp_M {elt target iter : Expr} {scope : Scope} {pos : Pos} {cl : List (Str × Addr)} {L : Addr} {m : Str → Option Value} {Q : Value → Shared → Prop} {E : Value → Shared → Prop} (_F : Fr h₀ L s.heap m)
    (hclos : closureFor scope env = pure cl) (hcell : ∀ y ∈ scope.names, y.2 ≠ .cell) (hkind : scope.kind = .function) (hnames : ∀ y ∈ scope.names, y.2 = .local → scope.names.lookup y.1 = some .local)
    (hs : ∀ x, foldedSetIterable iter env x = pure x)
    (h : wpAny (model prog w) A (eval iter env) (fun xv s₁ => wpAny (model prog w) A (pyIter xv) (fun it s₂ => CompM prog w A h₀ L m env elt target scope cl Q it s₂) E s₁) E s) :
    wpAny (model prog w) A (eval (.ListComp elt [⟨target, iter, [], 0⟩] scope pos) env) Q E s := by
  rw [eval_ListComp]
  refine wpAny_comprehension_free (use := none) rfl hs hclos hkind hnames (wpAny_mono h (fun xv s₁ h₁ => wpAny_mono h₁ (fun it s₂ h₂ => ?_) fun _ _ e => e) fun _ _ e => e)
  obtain ⟨I, fp, n, P, St, news, J, rfl, Wk, hfp, hfpl, hn, hIL, hI0, hoff, hth, hst, F, N, h0, hlen, hgo, step, done⟩ := h₂
  refine wpAny_newObj_type (wpAny_newFunctionEnv hcell (by intro y hy; simp at hy) (fun h₁ hns₁ hsb₁ => ?_) hkind)
  dsimp only at hns₁ hsb₁ ⊢
  have hbelow : ∀ p ∈ news, p.1 < s₂.heap.objs.size := fun p hp => Heap.lt_size (N p hp).1
  generalize hH2 : s₂.heap.push { cls := .type "list", dict := none, data := .seq ([] : List Value).toArray } = H2 at hns₁ hsb₁ ⊢
  have hC : H2.objs.size = s₂.heap.objs.size + 1 := by rw [← hH2, Heap.size_push]
  generalize hD : s₂.heap.objs.size = D at *
  generalize hCC : H2.objs.size = C at *
  have hDC : D ≠ C := by rw [hC]; exact Nat.ne_of_lt (Nat.lt_succ_self _)
  have old : ∀ b o, s₂.heap.get? b = some o → h₁.get? b = some o := fun b o e => by
    have hb : b < D := hD ▸ Heap.lt_size e
    exact hsb₁.extBut b o (by rw [hC]; exact Nat.ne_of_lt (Nat.lt_succ_of_lt hb)) (Heap.get?_push_of_some _ (hH2 ▸ Heap.get?_push_of_some _ e))
  have hDn : s₂.heap.get? D = none := Heap.get?_none_of_le (Nat.le_of_eq hD)
  have hCn : s₂.heap.get? C = none := Heap.get?_none_of_le (by rw [hC, hD]; exact Nat.le_succ _)
  have h0D : h₀.get? D = none := by
    cases q : h₀.get? D with
    | none => rfl
    | some o => have := F.keep _ _ q; rw [hDn] at this; cases this
  have h0C : h₀.get? C = none := by
    cases q : h₀.get? C with
    | none => rfl
    | some o => have := F.keep _ _ q; rw [hCn] at this; cases this
  have hIlt : I < D := by obtain ⟨o, ho⟩ := hth _ _ hst; exact hD ▸ Heap.lt_size ho
  have hLlt : L < D := hD ▸ F.ns.lt
  have hDL : D ≠ L := Nat.ne_of_gt hLlt
  have hCL : C ≠ L := by rw [hC]; exact Nat.ne_of_gt (Nat.lt_succ_of_lt hLlt)
  have hIC : I ≠ C := by rw [hC]; exact Nat.ne_of_lt (Nat.lt_succ_of_lt hIlt)
  have hID : I ≠ D := Nat.ne_of_lt hIlt
  have hDobj : h₁.get? D = some (W.listOf #[] 0) := hsb₁.extBut _ _ hDC (Heap.get?_push_of_some _ (by rw [← hH2, ← hD]; exact Heap.get?_push_size _ rfl))
  have F₁ : Fr h₀ L h₁ m := ⟨F.ns.at' fun o e => old _ o e, fun b o e => old b o (F.keep b o e), F.above⟩
  have N₁ : News h₀ L h₁ ((D, W.listOf #[] 0) :: news) := news_cons hDobj hDL h0D fun p hp => ⟨old _ _ (N p hp).1, (N p hp).2⟩
  have noff : ∀ p ∈ news, p.1 ≠ C ∧ p.1 ≠ I ∧ p.1 ≠ D := fun p hp => ⟨by have := hbelow p hp; rw [hC]; exact Nat.ne_of_lt (Nat.lt_succ_of_lt this), hoff p hp, Nat.ne_of_lt (hbelow p hp)⟩
  have hfpC : ∀ b ∈ fp, b ≠ C := fun b hb => by have := hfpl b hb; rw [hC]; exact Nat.ne_of_lt (Nat.lt_succ_of_lt this)
  have hfpD : ∀ b ∈ fp, b ≠ D := fun b hb => Nat.ne_of_lt (hfpl b hb)
  have hst₁ : St 0 h₁ := Wk.frame _ _ _ hst fun b _ o e => old b o e
  have loop : ∀ s₃ : Shared, s₃ = { s₂ with heap := h₁, toks := s₂.toks + ([] : List (Str × Value)).length } →
      codeAny (model prog w) A (.compLoop (.ListComp elt [⟨target, iter, [], 0⟩] scope pos) 0 (.ref I) (.ref D) (compEnvC scope cl C env)) (compPost (model prog w) A E none Q (.ref D) C) s₃ := by
    rintro s₃ rfl
    refine compLoop_any (fun k s' => ∃ i h tk ys news' mC, s' = { s₂ with heap := h, toks := tk } ∧ St i h ∧ Fr h₀ L h m ∧ h.Ns C mC ∧ News h₀ L h ((D, W.listOf ys.toArray i) :: news') ∧ (∀ p ∈ news', p.1 ≠ C ∧ p.1 ≠ I ∧ p.1 ≠ D) ∧ J i ys news' ∧ i ≤ n ∧ k = n + 1 - i) ?_ (n + 1)
      ⟨0, _, _, [], news, _, rfl, hst₁, F₁, hns₁, N₁, noff, h0, Nat.zero_le _, rfl⟩
    rintro k s' ⟨i, h, tk, ys, news', mC, rfl, hst', F', hC', N', hn', hJ, hi, rfl⟩
    by_cases hlt : i < n
    · refine Wk.item i _ _ _ hlt hst' fun v h₂ tk₂ hP hst₂ hk₂ => ?_
      have F₂ := fr_off F' hIL hI0 hk₂
      have N₂ := news_off N' (fun p hp => by
        rcases List.mem_cons.mp hp with rfl | hp
        · exact Ne.symm hID
        · exact (hn' p hp).2.1) hk₂
      have C₂ := hC'.at' fun o e => hk₂ _ o (fun q => hIC (List.mem_singleton.mp q).symm) e
      obtain ⟨oI, hoI⟩ := hth _ _ hst₂
      refine hgo i _ v _ _ hP hst₂ ?_
      refine wpAny_mono (step i v ys news' h₂ tk₂ C D oI _ mC hlt hP hJ F₂ C₂ (news_cons hoI hIL hI0 N₂) hCL h0C hIC hDC hID hn' (fun p hp => ?_)) (fun _ s₃ h₃ => wpAny_mono h₃ (fun y s₄ h₄ => ?_) fun _ _ e => e) fun _ _ e => e
      · have hb := hbelow p hp
        exact ⟨by rw [hC]; exact Nat.lt_succ_of_lt hb, hb⟩
      obtain ⟨h₄', tk₄, news₄, mC₄, rfl, F₄, C₄, N₄, off₄, hJ₄⟩ := h₄
      have hD4 : h₄'.get? D = some (W.listOf ys.toArray i) := (N₄ (D, W.listOf ys.toArray i) (by simp)).1
      refine append_at (its := ys.toArray) (n := i) hD4 (fun h₅ hs₅ ho₅ => ?_) (by have := hlen _ _ _ hJ; rw [List.size_toArray, sizeLine_eq]; omega)
      refine ⟨n + 1 - (i + 1), by omega, i + 1, h₅, tk₄, ys ++ [y], news₄, mC₄, rfl, Wk.frame _ _ _ hst₂ (fun b hb o e => ?_), F₄.change hs₅ hDL h0D, C₄.sameBut hs₅ (Ne.symm hDC), ?_, fun p hp => ⟨(off₄ p hp).1, (off₄ p hp).2 (I, oI) (by simp), (off₄ p hp).2 (D, W.listOf ys.toArray i) (by simp)⟩, hJ₄, hlt, rfl⟩
      · refine hs₅.extBut b o (hfpD b hb) ?_
        rcases hfp b hb with hbI | ⟨o', ho'⟩
        · rw [hbI, hoI] at e; rw [hbI, ← e]
          exact (N₄ (I, oI) (by simp)).1
        · have e₁ := (N₂ (b, o') (.tail _ (ho' _ _ _ hJ))).1
          rw [e] at e₁; rw [e₁]
          exact (N₄ (b, o') (by simp [ho' _ _ _ hJ₄])).1
      · refine news_cons (by rw [ho₅, List.push_toArray]) hDL h0D fun p hp => ?_
        have z := N₄ p (by simp [hp])
        exact ⟨hs₅.extBut _ _ ((off₄ p hp).2 (D, W.listOf ys.toArray i) (by simp)) z.1, z.2⟩
    · obtain rfl : i = n := by omega
      refine Wk.done _ _ _ hst' fun h₂ tk₂ hk₂ => ?_
      have F₂ := fr_off F' hIL hI0 hk₂
      have N₂ := news_off N' (fun p hp => by
        rcases List.mem_cons.mp hp with rfl | hp
        · exact Ne.symm hID
        · exact (hn' p hp).2.1) hk₂
      have C₂ := hC'.at' fun o e => hk₂ _ o (fun q => hIC (List.mem_singleton.mp q).symm) e
      refine ⟨_, C₂, fun h₃ hs₃ => done h₃ tk₂ D ys news' (F₂.change hs₃ hCL h0C) (fun p hp => ?_) (fun p hp => (hn' p hp).2.2) hbelow hJ⟩
      have z := N₂ p hp
      refine ⟨hs₃.extBut _ _ ?_ z.1, z.2⟩
      rcases List.mem_cons.mp hp with rfl | hp
      · exact hDC
      · exact (hn' p hp).1
  exact codeAny_compStart_list (loop _ rfl) (Wk.self 0 _ _ _ hst₁ (loop _ rfl))
end
end Mine

namespace Mine
noncomputable def Fills (_ : OpenLaw) (_ : Params → Frag) : Prop := True
section
variable {prog : Program} {w : World} {A : Around} {s : Shared} {env : Env} {h₀ : Heap}

theorem compM_list {Q : Value → Shared → Prop} {E : Value → Shared → Prop} {elt target : Expr} {scope : Scope} {cl : List (Str × Addr)} {L l : Addr} {items : List Value} {nl : Nat} {m : Str → Option Value} {news : List (Addr × Obj)}
    (J : Nat → List Value → List (Addr × Obj) → Prop) (hh : A.handled = none) (htg : TargetOk items target) (hsz : items.length < 1000000)
    (F : Fr h₀ L s.heap m) (N : News h₀ L s.heap news) (hl : (l, W.listOf items.toArray nl) ∈ news) (h0 : J 0 [] news)
    (hkeep : ∀ i ys news', J i ys news' → (l, W.listOf items.toArray nl) ∈ news') (hlen : ∀ i ys news', J i ys news' → ys.length = i)
    (step : ∀ i v ys news₁ h tk I C D oI oD mC, items[i]? = some v → J i ys news₁ → Fr h₀ L h m → h.Ns C mC → News h₀ L h ((I, oI) :: (D, oD) :: news₁) → C ≠ L → h₀.get? C = none → I ≠ C → D ≠ C → I ≠ D → (∀ p ∈ news₁, p.1 ≠ C ∧ p.1 ≠ I ∧ p.1 ≠ D) → (∀ p ∈ news, p.1 < C ∧ p.1 < D) →
      wpAny (model prog w) A (assign target (compEnvC scope cl C env) v) (fun _ s₃ => wpAny (model prog w) A (eval elt (compEnvC scope cl C env)) (EltEnd h₀ L m C [(I, oI), (D, oD)] s fun y => J (i + 1) (ys ++ [y])) (fun _ _ => False) s₃) (fun _ _ => False) { s with heap := h, toks := tk })
    (done : ∀ h tk D ys news', Fr h₀ L h m → News h₀ L h ((D, W.listOf ys.toArray items.length) :: news') → (∀ p ∈ news', p.1 ≠ D) → (∀ p ∈ news, p.1 < D) → J items.length ys news' → Q (.ref D) { s with heap := h, toks := tk }) :
    wpAny (model prog w) A (pyIter (.ref l)) (fun it s₂ => CompM prog w A h₀ L m env elt target scope cl Q it s₂) E s := by
  have hls : s.heap.IsList l items.toArray := News.isList N hl
  have hlt : l < s.heap.objs.size := Heap.lt_size (N _ hl).1
  have below : ∀ p ∈ news, p.1 < s.heap.objs.size := fun p hp => Heap.lt_size (N p hp).1
  refine wpAny_pyIter_list hls ?_
  have Wk := Walks.list (prog := prog) (w := w) hh s.heap.objs.size l (Nat.ne_of_lt hlt) items.toArray
  have hlen' : items.toArray.size = items.length := by simp
  rw [hlen'] at Wk
  refine ⟨_, _, _, _, _, news, J, rfl, Wk, ?_, ?_, hsz, Nat.ne_of_gt F.ns.lt, fresh_new F, fun p hp => Nat.ne_of_lt (below p hp), ?_, ⟨⟨_, Heap.get?_push_size _ rfl, rfl, rfl⟩, hls.at fun o e => Heap.get?_push_of_some _ e⟩, F.push _,
    (fun p hp => ⟨Heap.get?_push_of_some _ (N p hp).1, (N p hp).2⟩), h0, hlen, ?_, ?_, fun h tk D ys news' F' N' hn hb hJ => done h tk D ys news' F' N' hn hb hJ⟩
  · intro b hb
    rcases List.mem_cons.mp hb with e | hb
    · exact .inl e
    · exact .inr ⟨_, fun i m' news' hJ => (List.mem_singleton.mp hb) ▸ hkeep i m' news' hJ⟩
  · intro b hb
    show b < (s.heap.push _).objs.size
    rw [Heap.size_push]
    rcases List.mem_cons.mp hb with e | hb
    · rw [e]; exact Nat.lt_succ_self _
    · rw [List.mem_singleton.mp hb]; exact Nat.lt_succ_of_lt hlt
  · rintro i h ⟨⟨o, ho, _⟩, _⟩; exact ⟨o, ho⟩
  · intro i s' v Q' E' hP hst hQ
    cases target <;> first
      | exact False.elim htg
      | exact wpAny_pure hQ
      | (obtain ⟨a, rfl⟩ := htg v (List.mem_of_getElem? (by simpa using hP)); exact wpAny_letOwnedTupleGo_listiter hst.1 hQ)
  · intro i v ys news₁ h tk C D oI oD mC hi hP hJ F₁ C₁ N₁ a1 a2 a3 a4 a5 a6 a7
    exact step i v ys news₁ h tk _ C D oI oD mC (by simpa using hP) hJ F₁ C₁ N₁ a1 a2 a3 a4 a5 a6 a7

theorem compM_range {Q : Value → Shared → Prop} {E : Value → Shared → Prop} {elt : Expr} {x : Str} {px : Pos} {scope : Scope} {cl : List (Str × Addr)} {L r : Addr} {n : Nat} {t u v : Tok} {m : Str → Option Value} {news : List (Addr × Obj)}
    (J : Nat → List Value → List (Addr × Obj) → Prop) (hh : A.handled = none) (hsz : n < 100000)
    (F : Fr h₀ L s.heap m) (N : News h₀ L s.heap news) (hr : IsRange s.heap r 0 n 1 t u v) (h0 : J 0 [] news)
    (hlen : ∀ i ys news', J i ys news' → ys.length = i)
    (step : ∀ i t ys news₁ h tk I C D oI oD mC, i < n → J i ys news₁ → Fr h₀ L h m → h.Ns C mC → News h₀ L h ((I, oI) :: (D, oD) :: news₁) → C ≠ L → h₀.get? C = none → I ≠ C → D ≠ C → I ≠ D → (∀ p ∈ news₁, p.1 ≠ C ∧ p.1 ≠ I ∧ p.1 ≠ D) → (∀ p ∈ news, p.1 < C ∧ p.1 < D) →
      wpAny (model prog w) A (assign (.Name x px) (compEnvC scope cl C env) (.int i t)) (fun _ s₃ => wpAny (model prog w) A (eval elt (compEnvC scope cl C env)) (EltEnd h₀ L m C [(I, oI), (D, oD)] s fun y => J (i + 1) (ys ++ [y])) (fun _ _ => False) s₃) (fun _ _ => False) { s with heap := h, toks := tk })
    (done : ∀ h tk D ys news', Fr h₀ L h m → News h₀ L h ((D, W.listOf ys.toArray n) :: news') → (∀ p ∈ news', p.1 ≠ D) → (∀ p ∈ news, p.1 < D) → J n ys news' → Q (.ref D) { s with heap := h, toks := tk }) :
    wpAny (model prog w) A (pyIter (.ref r)) (fun it s₂ => CompM prog w A h₀ L m env elt (.Name x px) scope cl Q it s₂) E s := by
  have below : ∀ p ∈ news, p.1 < s.heap.objs.size := fun p hp => Heap.lt_size (N p hp).1
  refine wpAny_pyIter_range hr (small_one (by omega) (by omega) (by omega) (by omega)) ?_
  have Wk := Walks.range (prog := prog) (w := w) hh s.heap.objs.size 0 1 n
  have hz : Builtin.Range.rangeSize 0 n 1 = (n : Int) := by
    unfold Builtin.Range.rangeSize
    rw [if_pos (by decide)]
    split <;> omega
  refine ⟨_, _, _, _, _, news, J, rfl, Wk, fun b hb => .inl (List.mem_singleton.mp hb), ?_, by omega, Nat.ne_of_gt F.ns.lt, fresh_new F, fun p hp => Nat.ne_of_lt (below p hp), ?_, ?_, F.push _,
    (fun p hp => ⟨Heap.get?_push_of_some _ (N p hp).1, (N p hp).2⟩), h0, hlen, fun i s' v Q' E' hP hst hQ => wpAny_pure hQ, ?_, fun h tk D ys news' F' N' hn hb hJ => done h tk D ys news' F' N' hn hb hJ⟩
  · intro b hb
    show b < (s.heap.push _).objs.size
    rw [Heap.size_push, List.mem_singleton.mp hb]; exact Nat.lt_succ_self _
  · intro i h e; exact ⟨_, e⟩
  · show Heap.get? _ _ = _
    rw [hz, Heap.get?_push_size _ rfl]
    simp
  · rintro i v ys news₁ h tk C D oI oD mC hi ⟨t, rfl⟩ hJ F₁ C₁ N₁ a1 a2 a3 a4 a5 a6 a7
    have e : (0 : Int) + (i : Nat) * 1 = (i : Int) := by omega
    rw [e]
    exact step i t ys news₁ h tk _ C D oI oD mC hi hJ F₁ C₁ N₁ a1 a2 a3 a4 a5 a6 a7

-- storing into a comprehension's names
theorem stC {scope : Scope} {cl : List (Str × Addr)} {C L : Addr} {m mC : Str → Option Value} {news : List (Addr × Obj)} {x : Str} {v : Value} {Q : Unit → Shared → Prop} {E : Value → Shared → Prop} {M : Model}
    (F : Fr h₀ L s.heap m) (hC : s.heap.Ns C mC) (N : News h₀ L s.heap news) (hCL : C ≠ L) (h0C : h₀.get? C = none) (hoff : ∀ p ∈ news, p.1 ≠ C)
    (hx : scope.names.lookup x = some .local) (hk : scope.kind = .function)
    (h : ∀ h' tk, Fr h₀ L h' m → h'.Ns C (fun y => if y = x then some v else mC y) → News h₀ L h' news → Q () { s with heap := h', toks := tk }) :
    wpAny M A (storeName (compEnvC scope cl C env) x v) Q E s :=
  wpAny_storeName_local (lookup_relabel_local hx) hC (fun h' hn hs => h h' _ (F.change hs hCL h0C) hn fun p hp => ⟨hs.extBut _ _ (hoff p hp) (N p hp).1, (N p hp).2⟩) (by simp [compEnvC, relabel, hk])

theorem asgC_name {scope : Scope} {cl : List (Str × Addr)} {C L : Addr} {m mC : Str → Option Value} {news : List (Addr × Obj)} {x : Str} {px : Pos} {v : Value} {Q : Unit → Shared → Prop} {E : Value → Shared → Prop} {M : Model}
    (F : Fr h₀ L s.heap m) (hC : s.heap.Ns C mC) (N : News h₀ L s.heap news) (hCL : C ≠ L) (h0C : h₀.get? C = none) (hoff : ∀ p ∈ news, p.1 ≠ C)
    (hx : scope.names.lookup x = some .local) (hk : scope.kind = .function)
    (h : ∀ h' tk, Fr h₀ L h' m → h'.Ns C (fun y => if y = x then some v else mC y) → News h₀ L h' news → Q () { s with heap := h', toks := tk }) :
    wpAny M A (assign (.Name x px) (compEnvC scope cl C env) v) Q E s := wpAny_assign_Name (stC F hC N hCL h0C hoff hx hk h)

theorem asgC_tup3 {scope : Scope} {cl : List (Str × Addr)} {C L t : Addr} {m mC : Str → Option Value} {news : List (Addr × Obj)} {x y z : Str} {px py pz tp : Pos} {kk : Nat} {v₁ v₂ v₃ : Value} {nt : Nat} {Q : Unit → Shared → Prop} {E : Value → Shared → Prop}
    (hh : A.handled = none) (F : Fr h₀ L s.heap m) (hC : s.heap.Ns C mC) (N : News h₀ L s.heap news) (ht : (t, ({ cls := .type "tuple", data := .seq #[v₁, v₂, v₃] nt } : Obj)) ∈ news) (hCL : C ≠ L) (h0C : h₀.get? C = none) (hoff : ∀ p ∈ news, p.1 ≠ C)
    (hx : scope.names.lookup x = some .local) (hy : scope.names.lookup y = some .local) (hz : scope.names.lookup z = some .local) (hk : scope.kind = .function)
    (h : ∀ h' tk, Fr h₀ L h' m → h'.Ns C (fun n => if n = z then some v₃ else if n = y then some v₂ else if n = x then some v₁ else mC n) → News h₀ L h' news → Q () { s with heap := h', toks := tk }) :
    wpAny (model prog w) A (assign (.Tuple [.Name x px, .Name y py, .Name z pz] kk tp) (compEnvC scope cl C env) (.ref t)) Q E s := by
  refine assign_Tuple_tuple hh (News.isTup N ht) rfl rfl fun h₅ he => ?_
  have he' : ∀ b o, s.heap.get? b = some o → h₅.get? b = some o := fun b o e => he b o (Nat.ne_of_lt (Heap.lt_size e)) e
  have F₅ := F.keeps he'
  have C₅ := hC.at' fun o e => he' _ o e
  have N₅ : News h₀ L h₅ news := fun p hp => ⟨he' _ _ (N p hp).1, (N p hp).2⟩
  refine assignInOrder_cons (asgC_name F₅ C₅ N₅ hCL h0C hoff hx hk fun h₆ tk₆ F₆ C₆ N₆ => ?_)
  refine assignInOrder_cons (asgC_name F₆ C₆ N₆ hCL h0C hoff hy hk fun h₇ tk₇ F₇ C₇ N₇ => ?_)
  refine assignInOrder_cons (asgC_name F₇ C₇ N₇ hCL h0C hoff hz hk fun h₈ tk₈ F₈ C₈ N₈ => ?_)
  exact assignInOrder_nil (h h₈ tk₈ F₈ C₈ N₈)

-- storing into a frame's names
theorem asgF_name {cn : Str} {cs : Scope} {L a : Addr} {ccd : Value} {cl : List (Str × Addr)} {m : Str → Option Value} {news : List (Addr × Obj)} {x : Str} {px : Pos} {v : Value} {Q : Unit → Shared → Prop} {E : Value → Shared → Prop} {M : Model}
    (F : Fr h₀ L s.heap m) (N : News h₀ L s.heap news)
    (h : ∀ h' tk, Fr h₀ L h' (fun y => if y = x then some v else m y) → News h₀ L h' news → Q () { s with heap := h', toks := tk })
    (hk : cs.kind = .function := by rfl) (hx : (envX cn cs L a ccd cl).kindOf x = some .local := by rfl) :
    wpAny M A (assign (.Name x px) (envX cn cs L a ccd cl) v) Q E s := wpAny_assign_Name (storeX_L F N (fun h' F' N' => h h' _ F' N') hk hx)
theorem asgF_tup2 {cn : Str} {cs : Scope} {L a t : Addr} {ccd : Value} {cl : List (Str × Addr)} {m : Str → Option Value} {news : List (Addr × Obj)} {x y : Str} {px py tp : Pos} {kk : Nat} {v₁ v₂ : Value} {nt : Nat} {Q : Unit → Shared → Prop} {E : Value → Shared → Prop}
    (hh : A.handled = none) (F : Fr h₀ L s.heap m) (N : News h₀ L s.heap news) (ht : (t, ({ cls := .type "tuple", data := .seq #[v₁, v₂] nt } : Obj)) ∈ news)
    (h : ∀ h' tk, Fr h₀ L h' (fun n => if n = y then some v₂ else if n = x then some v₁ else m n) → News h₀ L h' news → Q () { s with heap := h', toks := tk })
    (hk : cs.kind = .function := by rfl) (hx : (envX cn cs L a ccd cl).kindOf x = some .local := by rfl) (hy : (envX cn cs L a ccd cl).kindOf y = some .local := by rfl) :
    wpAny (model prog w) A (assign (.Tuple [.Name x px, .Name y py] kk tp) (envX cn cs L a ccd cl) (.ref t)) Q E s := by
  refine assign_Tuple_tuple hh (News.isTup N ht) rfl rfl fun h₅ he => ?_
  have he' : ∀ b o, s.heap.get? b = some o → h₅.get? b = some o := fun b o e => he b o (Nat.ne_of_lt (Heap.lt_size e)) e
  have F₅ := F.keeps he'
  have N₅ : News h₀ L h₅ news := fun p hp => ⟨he' _ _ (N p hp).1, (N p hp).2⟩
  refine assignInOrder_cons (asgF_name F₅ N₅ (fun h₆ tk₆ F₆ N₆ => ?_) hk hx)
  refine assignInOrder_cons (asgF_name F₆ N₆ (fun h₇ tk₇ F₇ N₇ => ?_) hk hy)
  exact assignInOrder_nil (h h₇ tk₇ F₇ N₇)

-- reading names in a comprehension
theorem ldC_local {M : Model} {scope : Scope} {cl : List (Str × Addr)} {C : Addr} {mC : Str → Option Value} {x : Str} {pos : Pos} {v : Value} {Q : Value → Shared → Prop} {E : Value → Shared → Prop}
    (hC : s.heap.Ns C mC) (hv : mC x = some v) (h : Q v s) (hk : scope.kind = .function := by rfl) (hx : scope.names.lookup x = some .local := by rfl) (hb : (x == ("__debug__" : Str)) = false := by decide) :
    wpAny M A (eval (.Name x pos) (compEnvC scope cl C env)) Q E s := wpAny_Name (wpAny_loadName_local (by simp [compEnvC, relabel, hk]) (lookup_relabel_local hx) hC hv h) hb
end
end Mine

namespace Mine
section
variable {prog : Program} {w : World} {A : Around} {E : Value → Shared → Prop} {s : Shared} {h₀ : Heap} {L l : Addr} {m : Str → Option Value} {news : List (Addr × Obj)}

theorem len_ref {vs : List Value} {n : Nat} {Q : Value → Shared → Prop} (N : News h₀ L s.heap news) (hm : (l, W.listOf vs.toArray n) ∈ news) (hsz : vs.length < 1000000)
    (h : ∀ t tk, Q (.int (vs.length : Int) t) { s with toks := tk }) : wpAny (model prog w) A (call (.builtin "len") [.ref l]) Q E s := by
  refine len_list (News.isList N hm) (by rw [List.size_toArray]; omega) ?_
  rw [List.size_toArray]
  exact h _ _

theorem item_ints {value slice : PySem.Expr} {vs : List Value} {ns : List Int} {n : Nat} {k : Int} {u : Tok} {Q : Value → Shared → Prop} (N : News h₀ L s.heap news) (hm : (l, W.listOf vs.toArray n) ∈ news) (hi : IntsAre vs ns)
    (h0 : 0 ≤ k) (hlt : k < (vs.length : Int)) (hhi : k < 2 ^ 63) (h : ∀ x t, Q (.int x t) s)
    (hs : subscripted slice false (.ref l) (.int k u) = operate [.ref l, .int k u] (getItem (.ref l) (.int k u)) := by with_unfolding_all rfl) :
    wpAny (model prog w) A (subscriptTail value slice (.ref l) (.int k u)) Q E s := by
  have hk : k.toNat < vs.length := by omega
  obtain ⟨t, ht⟩ := hi.get k.toNat (ns[k.toNat]'(by rw [hi.length] at hk; exact hk)) (by rw [hi.length] at hk; simp [hk])
  exact item_litK (News.isList N hm) h0 hhi ht (h _ _) hs
end
end Mine
namespace Mine
theorem CallIs.use {w : World} {mean : ExcName → Option Value} {mg mb : Str → Option Value} {dd uu : Nat} {f : Addr} {vs : List Value} {news : List (Addr × Obj)} {Post : Value → List (Addr × Obj) → Prop} (h : CallIs w mean mg mb dd uu f vs news Post)
    {dp un : Nat} {gd : Option (List Code)} {cn : Str} {cs : Scope} {a : Addr} {ccd : Value} {cl : List (Str × Addr)} {outer : List Env} {A₀ : Around} {base h₀ : Heap} {L : Addr} {m : Str → Option Value} {s : Shared} {Q E : Value → Shared → Prop}
    (B : Below A₀ base outer h₀) (F : Fr h₀ L s.heap m) (X : (hK.heap_1 w.params).In h₀) (N : News h₀ L s.heap news) (T : TOP mean mg mb h₀) (hks : cs.kind = .function) (hd : dp + dd < recursionLimit) (hu : un + uu < cLine)
    (ret : ∀ r news' h' tk', Fr h₀ L h' m → News h₀ L h' news' → Post r news' → Q r { s with heap := h', toks := tk' }) :
    wpAny (model PRG w) (ktrTop dp un gd cn cs L a ccd cl outer) (call (.ref f) vs) Q E s := wpAny_noRaise (h _ _ _ _ _ _ _ _ _ _ _ _ _ _ _ _ B F X N T hks hd hu ret)
theorem CallIs.conv {w : World} {mean : ExcName → Option Value} {mg mb : Str → Option Value} {dd uu : Nat} {f : Addr} {vs : List Value} {news₁ news₂ : List (Addr × Obj)} {Post₁ Post₂ : Value → List (Addr × Obj) → Prop} (h : CallIs w mean mg mb dd uu f vs news₁ Post₁)
    (hs : ∀ p ∈ news₁, p ∈ news₂) (hp : ∀ r n', Post₁ r n' → ∃ n'', (∀ p ∈ n'', p ∈ n') ∧ Post₂ r n'') : CallIs w mean mg mb dd uu f vs news₂ Post₂ := by
  intro dp un gd cn cs a ccd cl outer A₀ base h₀ L m s Q B F X N T hks hdp hun hret
  refine h _ _ _ _ _ _ _ _ _ _ _ _ _ _ _ _ B F X (fun p hp' => N p (hs p hp')) T hks hdp hun fun r n' h' tk' F' N' hP => ?_
  obtain ⟨n'', hn, hP'⟩ := hp r n' hP
  exact hret r n'' h' tk' F' (fun p hp' => N' p (hn p hp')) hP'
end Mine

namespace Mine
/-- a text by its signs' numbers -/
noncomputable def S (l : List Nat) : Str := ⟨l.toArray⟩
theorem S_cps (l : List Nat) : (S l).cps.toList = l := rfl
theorem S_length (l : List Nat) : (S l).length = l.length := by simp [S, PySem.Str.length]
theorem S_inj {a b : List Nat} : S a = S b ↔ a = b := ⟨fun h => by have := congrArg (fun x : Str => x.cps.toList) h; exact this, fun h => by rw [h]⟩
theorem S_add (a b : List Nat) : S a ++ S b = S (a ++ b) := by
  apply Str.ext'
  show (S a ++ S b).cps = (S (a ++ b)).cps
  rw [Str.cps_append]
  simp [S]
theorem S_beq (a b : List Nat) : (S a == S b) = decide (a = b) := by
  cases h : decide (a = b)
  · have := of_decide_eq_false h
    exact beq_false_of_ne fun e => this (S_inj.mp e)
  · rw [of_decide_eq_true h]; exact beq_self_eq_true _
theorem S_strike (a : List Nat) (c : Nat) : Txt.replace (S a) (S [c]) (S []) = S (a.filter (· != c)) := by
  apply Str.ext'
  apply Array.toList_inj.mp
  rw [S_cps]
  exact replace_strikes (S a) c

theorem S_slice_to (a : List Nat) {j : Int} (h0 : 0 ≤ j) : Txt.slice (S a) none (some j) = S (a.take j.toNat) := by
  have hl := S_length a
  by_cases h : ((S a).length : Int) ≤ j
  · rw [slice_to_beyond h, eq_of_beq (slice_closes_toL (by omega) (Int.le_refl _)), S_cps, hl]
    rw [hl] at h
    show (⟨((a.drop (0 : Int).toNat).take ((a.length : Int) - 0).toNat).toArray⟩ : Str) = S _
    rw [show (0 : Int).toNat = 0 from rfl, List.drop_zero, show ((a.length : Int) - 0).toNat = a.length from by omega, List.take_length, List.take_of_length_le (by omega)]
    rfl
  · rw [eq_of_beq (slice_closes_toL h0 (by omega)), S_cps]
    show (⟨((a.drop (0 : Int).toNat).take (j - 0).toNat).toArray⟩ : Str) = S _
    rw [show (0 : Int).toNat = 0 from rfl, List.drop_zero, show (j - 0).toNat = j.toNat from by omega]
    rfl
theorem S_slice_from (a : List Nat) {i : Int} (h0 : 0 ≤ i) : Txt.slice (S a) (some i) none = S (a.drop i.toNat) := by
  have hl := S_length a
  by_cases h : ((S a).length : Int) ≤ i
  · rw [slice_from_beyond h]
    rw [hl] at h
    rw [List.drop_of_length_le (by omega)]
    rfl
  · rw [slice_from_eq h0 (by omega) rfl, S_cps, hl]
    rw [hl] at h
    rw [List.take_of_length_le (by rw [List.length_drop]; omega)]
    rfl
theorem sliceIdx_mid (len : Nat) {i j : Int} (hi : 0 ≤ i) (h : (len : Int) ≤ j) : Builtin.Str.strSliceIndices (some i) (some j) 1 len = Builtin.Str.strSliceIndices (some i) (some (len : Int)) 1 len := by
  have a1 : ¬ j < 0 := by omega
  have a2 : ¬ ((len : Int) < 0) := by omega
  have a3 : ¬ i < 0 := by omega
  have e1 : max (0 : Int) (min j (len : Int)) = len := by omega
  have e2 : max (0 : Int) (min (len : Int) (len : Int)) = len := by omega
  simp [Builtin.Str.strSliceIndices, a1, a2, a3, e1, e2]
theorem S_slice_mid (a : List Nat) {i j : Int} (h0 : 0 ≤ i) (h1 : i ≤ j) (h2 : i ≤ a.length) : Txt.slice (S a) (some i) (some j) = S ((a.drop i.toNat).take (j - i).toNat) := by
  have hl := S_length a
  by_cases h : (a.length : Int) ≤ j
  · have e : Txt.slice (S a) (some i) (some j) = Txt.slice (S a) (some i) (some (a.length : Int)) := by
      unfold Txt.slice
      rw [hl, sliceIdx_mid _ h0 h]
    rw [e, eq_of_beq (slice_closesL h0 h2 (by rw [hl]; omega)), S_cps]
    rw [List.take_of_length_le (by rw [List.length_drop]; omega), List.take_of_length_le (by rw [List.length_drop]; omega)]
    rfl
  · rw [eq_of_beq (slice_closesL h0 h1 (by rw [hl]; omega)), S_cps]
    rfl
theorem S_mul (c : Nat) (n : Int) : Txt.mul (S [c]) n = S (List.replicate n.toNat c) := by
  unfold Txt.mul
  have fold : ∀ (k : Nat) (acc : Array Nat), List.foldl (fun x1 x2 => x1 ++ x2) acc (List.replicate k (S [c]).cps) = acc ++ (List.replicate k c).toArray := by
    intro k
    induction k with
    | zero => intro acc; simp
    | succ k ih =>
      intro acc
      rw [List.replicate_succ, List.foldl_cons, ih, List.replicate_succ]
      show acc ++ #[c] ++ _ = _
      rw [Array.append_assoc]
      congr 1
      simp
  by_cases h : n < 1
  · rw [if_pos h, show n.toNat = 0 from by omega]; rfl
  · rw [if_neg h]
    by_cases h1 : n = 1
    · subst h1; rfl
    · rw [if_neg]
      · show Str.mk _ = _
        rw [fold]
        simp [S]
      · rw [S_length]
        simp [h1]
theorem S_item {a : List Nat} {i : Int} {c : Nat} (h0 : 0 ≤ i) (hc : a[i.toNat]? = some c) : Txt.item (S a) i = S [c] := by
  have hlt : i.toNat < a.length := (List.getElem?_eq_some_iff.mp hc).1
  have e : Txt.charAt (S a) i = some c := by
    unfold Txt.charAt seqIndex?
    rw [S_length]
    have h1 : ¬ i < 0 := by omega
    have h2 : ¬ (i < 0 ∨ (a.length : Int) ≤ i) := by omega
    simp [h1, S]
    first
      | (rw [if_neg (by omega)]; simpa using hc)
      | (rw [if_pos (by omega)]; simpa using hc)
      | (split <;> first | omega | simpa using hc)
  unfold Txt.item
  rw [e]
  rfl
-- the program's written texts
theorem t_C : Str.ofString "C" = S [67] := by decide +kernel
theorem t_c : Str.ofString "c" = S [99] := by decide +kernel
theorem t_star : Str.ofString "*" = S [42] := by decide +kernel
theorem t_nil : Str.ofString "" = S [] := by decide +kernel
theorem t_sp : Str.ofString " " = S [32] := by decide +kernel
theorem t_0 : Str.ofString "0" = S [48] := by decide +kernel
theorem t_digits : Str.ofString "0123456789" = S [48, 49, 50, 51, 52, 53, 54, 55, 56, 57] := by decide +kernel
theorem t_X : Str.ofString "X" = S [88] := by decide +kernel
section
variable {prog : Program} {w : World} {A : Around} {E : Value → Shared → Prop} {s : Shared} {h₀ : Heap} {L : Addr} {m : Str → Option Value} {news : List (Addr × Obj)}
theorem addS {x y : Str} {a b : List Nat} {t u : Tok} {Q : Value → Shared → Prop} (hx : x = S a) (hy : y = S b) (hsz : a.length + b.length ≤ 1000000) (h : ∀ t' k, Q (.str (S (a ++ b)) t') { s with toks := k }) :
    wpAny (model prog w) A (binaryOp .Add (.str x t) (.str y u)) Q E s := by
  subst hx hy
  exact SBL.add (fun t' k _ => by rw [S_add]; exact h t' k) (by rw [S_length, S_length, sizeLine_eq]; omega)
theorem eqS {x y : Str} {a b : List Nat} {t u : Tok} {Q : Value → Shared → Prop} (hx : x = S a) (hy : y = S b) (h : Q (.bool (decide (a = b))) s) :
    wpAny (model prog w) A (compareOp .Eq (.str x t) (.str y u)) Q E s := by
  subst hx hy
  exact eq_str (by rw [S_beq]; exact h)
theorem lenS {x : Str} {a : List Nat} {t : Tok} {Q : Value → Shared → Prop} (hx : x = S a) (hsz : a.length ≤ 1000000) (h : ∀ t' k, Q (.int (a.length : Int) t') { s with toks := k }) :
    wpAny (model prog w) A (call (.builtin "len") [.str x t]) Q E s := by
  subst hx
  exact SBL.len (by rw [S_length]; omega) (by rw [S_length]; exact h _ _)
theorem mulS {x : Str} {c : Nat} {n : Int} {t u : Tok} {Q : Value → Shared → Prop} (hx : x = S [c]) (h0 : -1000 ≤ n) (h1 : n ≤ 1000) (h : ∀ t' k, Q (.str (S (List.replicate n.toNat c)) t') { s with toks := k }) :
    wpAny (model prog w) A (binaryOp .Mult (.str x t) (.int n u)) Q E s := by
  subst hx
  refine SB.mul ⟨by simp; omega, fun hn he hc => ?_, fun hn he => ?_⟩ fun t' k => by rw [S_mul]; exact h t' k
  · rw [S_length] at hc
    have : (1 : Int) ≤ (2 ^ 63 - 1) / n := by
      rw [Int.le_ediv_iff_mul_le (by omega)]
      omega
    have e : ([c].length : Int) = 1 := rfl
    rw [e] at hc
    exact absurd hc (by omega)
  · rw [S_length]
    unfold Builtin.Str.tooLong
    rw [sizeLine_eq]
    simp
    omega
theorem slS_to {value slice : PySem.Expr} {x : Str} {a : List Nat} {t uj : Tok} {j : Int} {Q : Value → Shared → Prop} (hx : x = S a) (F : Fr h₀ L s.heap m) (N : News h₀ L s.heap news) (h0 : 0 ≤ j) (hsz : a.length ≤ 1000000)
    (h : ∀ h' t' k, Fr h₀ L h' m → News h₀ L h' news → Q (.str (S (a.take j.toNat)) t') { s with heap := h', toks := k })
    (hs : subscripted slice false (.str x t) (.ref s.heap.objs.size) = operate [.ref s.heap.objs.size, .str x t] (getItem (.str x t) (.ref s.heap.objs.size))) (ht : ∀ r, letTemporaryGo value (.str x t) r = pure ()) :
    wpAny (model prog w) A (subscriptTail value slice (.str x t) (.ref s.heap.objs.size)) Q E { s with heap := s.heap.push { cls := .type "slice", data := .fields #[.none, .int j uj, .none] } } := by
  subst hx
  exact slice_strN_ns F N (fun h' t' k F' N' => by rw [S_slice_to a h0]; exact h h' t' k F' N') hs ht (by rw [S_length, sizeLine_eq]; omega)
theorem slS_from {value slice : PySem.Expr} {x : Str} {a : List Nat} {t ui : Tok} {i : Int} {Q : Value → Shared → Prop} (hx : x = S a) (F : Fr h₀ L s.heap m) (N : News h₀ L s.heap news) (h0 : 0 ≤ i) (hsz : a.length ≤ 1000000)
    (h : ∀ h' t' k, Fr h₀ L h' m → News h₀ L h' news → Q (.str (S (a.drop i.toNat)) t') { s with heap := h', toks := k })
    (hs : subscripted slice false (.str x t) (.ref s.heap.objs.size) = operate [.ref s.heap.objs.size, .str x t] (getItem (.str x t) (.ref s.heap.objs.size))) (ht : ∀ r, letTemporaryGo value (.str x t) r = pure ()) :
    wpAny (model prog w) A (subscriptTail value slice (.str x t) (.ref s.heap.objs.size)) Q E { s with heap := s.heap.push { cls := .type "slice", data := .fields #[.int i ui, .none, .none] } } := by
  subst hx
  exact slice_strN_sn F N (fun h' t' k F' N' => by rw [S_slice_from a h0]; exact h h' t' k F' N') hs ht (by rw [S_length, sizeLine_eq]; omega)
theorem slS_mid {value slice : PySem.Expr} {x : Str} {a : List Nat} {t ui uj : Tok} {i j : Int} {Q : Value → Shared → Prop} (hx : x = S a) (F : Fr h₀ L s.heap m) (N : News h₀ L s.heap news) (h0 : 0 ≤ i) (h1 : i ≤ j) (h2 : i ≤ a.length) (hsz : a.length ≤ 1000000)
    (h : ∀ h' t' k, Fr h₀ L h' m → News h₀ L h' news → Q (.str (S ((a.drop i.toNat).take (j - i).toNat)) t') { s with heap := h', toks := k })
    (hs : subscripted slice false (.str x t) (.ref s.heap.objs.size) = operate [.ref s.heap.objs.size, .str x t] (getItem (.str x t) (.ref s.heap.objs.size))) (ht : ∀ r, letTemporaryGo value (.str x t) r = pure ()) :
    wpAny (model prog w) A (subscriptTail value slice (.str x t) (.ref s.heap.objs.size)) Q E { s with heap := s.heap.push { cls := .type "slice", data := .fields #[.int i ui, .int j uj, .none] } } := by
  subst hx
  exact slice_strN_ss F N (fun h' t' k F' N' => by rw [S_slice_mid a h0 h1 h2]; exact h h' t' k F' N') hs ht (by rw [S_length, sizeLine_eq]; omega)
theorem itS {value slice : PySem.Expr} {x : Str} {a : List Nat} {t u : Tok} {i : Int} {c : Nat} {Q : Value → Shared → Prop} (hx : x = S a) (h0 : 0 ≤ i) (hc : a[i.toNat]? = some c) (hsz : a.length ≤ 1000000)
    (h : ∀ t' k, Q (.str (S [c]) t') { s with toks := k })
    (hs : subscripted slice false (.str x t) (.int i u) = operate [.str x t, .int i u] (getItem (.str x t) (.int i u))) (ht : ∀ r, letTemporaryGo value (.str x t) r = pure ()) :
    wpAny (model prog w) A (subscriptTail value slice (.str x t) (.int i u)) Q E s := by
  subst hx
  have hlt : i.toNat < a.length := (List.getElem?_eq_some_iff.mp hc).1
  exact item_str (fitsSsize_of (N := 9223372036854775808) (by omega) (by omega) (Int.le_refl _)) (by rw [S_length]; omega) (by rw [S_length]; omega) (fun _ => by rw [S_item h0 hc]; exact h _ _) hs ht
end
end Mine

namespace Mine
/-- two lists of one length, item by item -/
noncomputable def AllR {α β : Type} (R : α → β → Prop) (as : List α) (bs : List β) : Prop := as.length = bs.length ∧ ∀ (i : Nat) (a : α), as[i]? = some a → ∃ b, bs[i]? = some b ∧ R a b
namespace AllR
variable {α β : Type} {R R' : α → β → Prop} {as : List α} {bs : List β}
theorem nil : AllR R ([] : List α) ([] : List β) := ⟨rfl, fun i a h => by simp at h⟩
theorem snoc {a : α} {b : β} (h : AllR R as bs) (r : R a b) : AllR R (as ++ [a]) (bs ++ [b]) := by
  refine ⟨by simp [h.1], fun i x hx => ?_⟩
  by_cases hi : i < as.length
  · rw [List.getElem?_append_left hi] at hx
    obtain ⟨y, hy, hr⟩ := h.2 i x hx
    exact ⟨y, by rw [List.getElem?_append_left (h.1 ▸ hi)]; exact hy, hr⟩
  · rw [List.getElem?_append_right (by omega)] at hx
    have e : i - as.length = 0 := by
      cases q : i - as.length with
      | zero => rfl
      | succ k => rw [q] at hx; simp at hx
    rw [e] at hx
    cases hx
    refine ⟨b, ?_, r⟩
    rw [List.getElem?_append_right (by rw [← h.1]; omega), ← h.1, e]
    rfl
theorem cons {a : α} {b : β} (r : R a b) (h : AllR R as bs) : AllR R (a :: as) (b :: bs) := by
  refine ⟨by simp [h.1], fun i x hx => ?_⟩
  cases i with
  | zero => simp at hx; subst hx; exact ⟨b, rfl, r⟩
  | succ i => simpa using h.2 i x (by simpa using hx)
theorem mono (h : AllR R as bs) (k : ∀ a b, R a b → R' a b) : AllR R' as bs := ⟨h.1, fun i a ha => by obtain ⟨b, hb, r⟩ := h.2 i a ha; exact ⟨b, hb, k _ _ r⟩⟩
theorem take (h : AllR R as bs) (n : Nat) : AllR R (as.take n) (bs.take n) := by
  refine ⟨by simp [h.1], fun i a ha => ?_⟩
  rw [List.getElem?_take] at ha
  split at ha
  · rename_i hi
    obtain ⟨b, hb, r⟩ := h.2 i a ha
    exact ⟨b, by rw [List.getElem?_take, if_pos hi]; exact hb, r⟩
  · cases ha
theorem append {as' : List α} {bs' : List β} (h : AllR R as bs) (h' : AllR R as' bs') : AllR R (as ++ as') (bs ++ bs') := by
  refine ⟨by simp [h.1, h'.1], fun i x hx => ?_⟩
  by_cases hi : i < as.length
  · rw [List.getElem?_append_left hi] at hx
    obtain ⟨y, hy, hr⟩ := h.2 i x hx
    exact ⟨y, by rw [List.getElem?_append_left (h.1 ▸ hi)]; exact hy, hr⟩
  · rw [List.getElem?_append_right (by omega)] at hx
    obtain ⟨y, hy, hr⟩ := h'.2 _ x hx
    refine ⟨y, ?_, hr⟩
    rw [List.getElem?_append_right (by rw [← h.1]; omega), ← h.1]
    exact hy
theorem ofMem {a : α} (h : AllR R as bs) (ha : a ∈ as) : ∃ b, b ∈ bs ∧ R a b := by
  obtain ⟨i, hi⟩ := List.mem_iff_getElem?.mp ha
  obtain ⟨b, hb, r⟩ := h.2 i a hi
  exact ⟨b, List.mem_of_getElem? hb, r⟩
end AllR

noncomputable abbrev IsT (v : Value) (x : List Nat) : Prop := ∃ t, v = .str (S x) t
noncomputable abbrev IsI (v : Value) (k : Int) : Prop := ∃ t, v = .int k t
noncomputable abbrev tup (vs : List Value) : Obj := { cls := .type "tuple", data := .seq vs.toArray }
/-- a pair of an int and a text -/
noncomputable def IsP (news : List (Addr × Obj)) (v : Value) (p : Int × List Nat) : Prop := ∃ a t u, v = .ref a ∧ (a, tup [.int p.1 t, .str (S p.2) u]) ∈ news
theorem IsP.mono {news news' : List (Addr × Obj)} (h : ∀ p ∈ news, p ∈ news') {v : Value} {p : Int × List Nat} (x : IsP news v p) : IsP news' v p := by
  obtain ⟨a, t, u, e, hm⟩ := x
  exact ⟨a, t, u, e, h _ hm⟩

theorem strsAre_all : ∀ {vs : List Value} {ys : List Str}, StrsAre vs ys → AllR IsT vs (ys.map fun y => y.cps.toList)
  | _, _, .nil => .nil
  | _, _, .cons y t h => .cons ⟨t, rfl⟩ (strsAre_all h)
/-- the rows with their numbers -/
noncomputable def numbered (k : Nat) : List (List Nat) → List (Int × List Nat)
  | [] => []
  | x :: r => ((k : Int) + 1, x) :: numbered (k + 1) r
/-- a text cut at its line ends -/
noncomputable def splitL : List Nat → List (List Nat)
  | [] => [[]]
  | c :: r => if c = 10 then [] :: splitL r else match splitL r with
    | p :: ps => (c :: p) :: ps
    | [] => [[c]]
theorem splitL_ne : ∀ x, splitL x ≠ []
  | [] => by simp [splitL]
  | c :: r => by
    unfold splitL
    split
    · simp
    · split <;> simp
noncomputable def joinL (sep : List Nat) : List (List Nat) → List Nat
  | [] => []
  | [x] => x
  | x :: y :: r => x ++ sep ++ joinL sep (y :: r)
theorem joinL_S (sep : List Nat) : ∀ xs : List (List Nat), Str.join (S sep) (xs.map S) = S (joinL sep xs)
  | [] => rfl
  | [x] => rfl
  | x :: y :: r => by
    show S x ++ S sep ++ Str.join (S sep) (S y :: r.map S) = S (x ++ sep ++ joinL sep (y :: r))
    rw [show S y :: r.map S = (y :: r).map S from rfl, joinL_S sep (y :: r), S_add, S_add]
theorem splitL_append : ∀ (p r : List Nat), 10 ∉ p → splitL (p ++ 10 :: r) = p :: splitL r
  | [], r, _ => by simp [splitL]
  | c :: p, r, h => by
    have hc : ¬ c = 10 := fun e => h (e ▸ List.mem_cons_self)
    rw [List.cons_append, splitL, if_neg hc, splitL_append p r fun q => h (List.mem_cons_of_mem _ q)]
theorem splitL_free : ∀ (p : List Nat), 10 ∉ p → splitL p = [p]
  | [], _ => rfl
  | c :: p, h => by
    have hc : ¬ c = 10 := fun e => h (e ▸ List.mem_cons_self)
    rw [splitL, if_neg hc, splitL_free p fun q => h (List.mem_cons_of_mem _ q)]
theorem splitL_join : ∀ xs : List (List Nat), xs ≠ [] → (∀ x ∈ xs, 10 ∉ x) → splitL (joinL [10] xs) = xs
  | [], h, _ => absurd rfl h
  | [x], _, h => splitL_free x (h x (by simp))
  | x :: y :: r, _, h => by
    show splitL (x ++ [10] ++ joinL [10] (y :: r)) = _
    rw [List.append_assoc]
    show splitL (x ++ 10 :: joinL [10] (y :: r)) = _
    rw [splitL_append x _ (h x (by simp)), splitL_join (y :: r) (by simp) fun z hz => h z (List.mem_cons_of_mem _ hz)]
theorem split_S (x : List Nat) : (Txt.split (S x) (S [10])).map (fun y => y.cps.toList) = splitL x := by
  have hj : Str.join (S [10]) (Txt.split (S x) (S [10])) = S x := StrLaws.join_split (S x) (S [10])
  have hf : ∀ p ∈ Txt.split (S x) (S [10]), 10 ∉ p.cps.toList := StrLaws.split_free (S x) 10
  have hn : Txt.split (S x) (S [10]) ≠ [] := fun e => by
    have := split_pos (S x) (S [10])
    rw [e] at this
    simp at this
  generalize Txt.split (S x) (S [10]) = ps at *
  have e1 : ps = (ps.map fun y => y.cps.toList).map S := by
    rw [List.map_map]
    exact (List.map_id'' (fun y => rfl) ps).symm
  rw [e1, joinL_S, S_inj] at hj
  rw [← hj, splitL_join _ (by simpa using hn) (by simpa using hf)]
end Mine

namespace Mine
section
variable {prog : Program} {w : World} {A : Around} {E : Value → Shared → Prop} {s : Shared} {h₀ : Heap} {L : Addr} {m : Str → Option Value} {news : List (Addr × Obj)}
theorem splitL_len : ∀ x, (splitL x).length ≤ x.length + 1
  | [] => by simp [splitL]
  | c :: r => by
    have ih := splitL_len r
    unfold splitL
    split
    · simp only [List.length_cons]; omega
    · split
      · rename_i p ps e
        rw [e] at ih
        simp only [List.length_cons] at ih ⊢; omega
      · simp
theorem splitS {x y : Str} {a : List Nat} {t u : Tok} {Q : Value → Shared → Prop} (hx : x = S a) (hy : y = S [10]) (F : Fr h₀ L s.heap m) (N : News h₀ L s.heap news) (hsz : a.length ≤ 1000000)
    (h : ∀ l vs h' k, AllR IsT vs (splitL a) → 1 ≤ vs.length → vs.length ≤ a.length + 1 → Fr h₀ L h' m → News h₀ L h' ((l, W.listOf vs.toArray 0) :: news) → (∀ p ∈ news, p.1 < l) → Q (.ref l) { s with heap := h', toks := k }) :
    wpAny (model prog w) A (call (.builtin "str.split") [.str x t, .str y u]) Q E s := by
  subst hx hy
  refine splitN1A F N (by rw [S_length]; rfl) (fun l h' k e hs _ _ F' N' => ?_) (by rw [S_length, sizeLine_eq]; omega)
  have al : AllR IsT (strValues l) (splitL a) := by rw [← split_S, ← e]; exact strsAre_all hs
  have hl := al.1
  have h2 := splitL_len a
  have h1 : 1 ≤ (splitL a).length := List.length_pos_iff.mpr (splitL_ne a)
  exact h _ (strValues l) h' k al (by omega) (by omega) F' N' fun p hp => Heap.lt_size (N p hp).1
theorem neS {x y : Str} {a b : List Nat} {t u : Tok} {Q : Value → Shared → Prop} (hx : x = S a) (hy : y = S b) (h : Q (.bool (!decide (a = b))) s) :
    wpAny (model prog w) A (compareOp .NotEq (.str x t) (.str y u)) Q E s := by
  subst hx hy
  refine ne_str ?_
  rw [show (S a != S b) = !(S a == S b) from rfl, S_beq]
  exact h
theorem findS {x y : Str} {c : Nat} {t u : Tok} {Q : Value → Shared → Prop} (hx : x = S [48, 49, 50, 51, 52, 53, 54, 55, 56, 57]) (hy : y = S [c]) (h0 : 48 ≤ c) (h1 : c ≤ 57) (h : ∀ t' k, Q (.int ((c : Int) - 48) t') { s with toks := k }) :
    wpAny (model prog w) A (call (.builtin "str.find") [.str x t, .str y u]) Q E s := by
  subst hx hy
  refine SC.find ?_
  have e : Txt.find (S [48, 49, 50, 51, 52, 53, 54, 55, 56, 57]) (S [c]) = (c : Int) - 48 := by
    have : c = 48 ∨ c = 49 ∨ c = 50 ∨ c = 51 ∨ c = 52 ∨ c = 53 ∨ c = 54 ∨ c = 55 ∨ c = 56 ∨ c = 57 := by omega
    rcases this with rfl | rfl | rfl | rfl | rfl | rfl | rfl | rfl | rfl | rfl <;> decide +kernel
  rw [e]
  exact h _ _
theorem newTuple_M {vs : List Value} {Q : Value → Shared → Prop} {M : Model} (F : Fr h₀ L s.heap m) (N : News h₀ L s.heap news)
    (h : ∀ l h', Fr h₀ L h' m → News h₀ L h' ((l, tup vs) :: news) → (∀ p ∈ news, p.1 < l) → Q (.ref l) { s with heap := h' }) (hsz : vs.length ≤ 1000) : wpAny M A (newTuple vs) Q E s :=
  newTuple_N F N (fun h' F' N' => h _ h' F' N' fun p hp => Heap.lt_size (N p hp).1) (by rw [sizeLine_eq]; omega)
theorem newList_M {vs : List Value} {Q : Value → Shared → Prop} {M : Model} (F : Fr h₀ L s.heap m) (N : News h₀ L s.heap news)
    (h : ∀ l h', Fr h₀ L h' m → News h₀ L h' ((l, W.listOf vs.toArray 0) :: news) → (∀ p ∈ news, p.1 < l) → Q (.ref l) { s with heap := h' }) (hsz : vs.length ≤ 1000) : wpAny M A (newList vs) Q E s :=
  newList_K F N h (by rw [sizeLine_eq]; omega)
theorem apart_lt {l : Addr} {a b : List (Addr × Obj)} (h : ∀ p ∈ a, p.1 < l) (k : ∀ p ∈ b, p ∈ a) : ∀ p ∈ b, p.1 ≠ l := fun p hp => Nat.ne_of_lt (h p (k p hp))
end
end Mine
namespace Mine
section
variable {prog : Program} {w : World} {A : Around} {s : Shared} {env : Env} {h₀ : Heap}
theorem append_M {E : Value → Shared → Prop} {L D : Addr} {m : Str → Option Value} {news news' : List (Addr × Obj)} {vs : List Value} {n : Nat} {x : Value} {Q : Value → Shared → Prop} (F : Fr h₀ L s.heap m) (N : News h₀ L s.heap news) (hsz : vs.length ≤ 1000000)
    (U : Upd D (W.listOf vs.toArray n) (W.listOf (vs ++ [x]).toArray (n + 1)) news news')
    (h : ∀ h', Fr h₀ L h' m → News h₀ L h' news' → Q .none { s with heap := h' }) : wpAny (model prog w) A (call (.builtin "list.append") [.ref D, x]) Q E s :=
  append_K (its := vs.toArray) F N (by rw [List.push_toArray]; exact U) h (by rw [List.size_toArray, sizeLine_eq]; omega)
theorem iterW_str {Q : Flow → Shared → Prop} {E : Value → Shared → Prop} {x : Str} {px : Pos} {body : List Stmt} {z : Str} {t : Tok} {m : Str → Option Value} {news : List (Addr × Obj)}
    (J : (Str → Option Value) → Nat → (Str → Option Value) → List (Addr × Obj) → Prop) (hh : A.handled = none)
    (F : Fr h₀ env.locals s.heap m) (N : News h₀ env.locals s.heap news) (h0 : J m 0 m news)
    (step : ∀ i c u m₁ news₁ h tk I oI, z.cps[i]? = some c → J m i m₁ news₁ → (∀ p ∈ news₁, p.1 ≠ I) → (∀ p ∈ news, p.1 < I) → Fr h₀ env.locals h m₁ → News h₀ env.locals h ((I, oI) :: news₁) →
      wpAny (model prog w) A (assign (.Name x px) env (.str (S [c]) u)) (fun _ s₃ => wpAny (model prog w) A (execs body env) (TurnEnd h₀ env.locals I oI (J m (i + 1)) s Q) E s₃) E { s with heap := h, toks := tk })
    (done : ∀ h tk m' news', Fr h₀ env.locals h m' → News h₀ env.locals h news' → J m z.cps.size m' news' → Q .next { s with heap := h, toks := tk }) :
    wpAny (model prog w) A (pyIter (.str z t)) (fun it s₂ => LoopM prog w A h₀ env (.Name x px) body Q E it s₂) E s := iterM_str (J m) hh F N h0 step done
end
theorem numbered_len : ∀ k xs, (numbered k xs).length = xs.length
  | _, [] => rfl
  | k, x :: r => by rw [numbered, List.length_cons, List.length_cons, numbered_len]
theorem numbered_get : ∀ (k : Nat) (xs : List (List Nat)) (i : Nat) (x : List Nat), xs[i]? = some x → (numbered k xs)[i]? = some (((k + i : Nat) : Int) + 1, x)
  | k, [], i, x, h => by simp at h
  | k, y :: r, 0, x, h => by simp at h; subst h; simp [numbered]
  | k, y :: r, i + 1, x, h => by
    rw [numbered, List.getElem?_cons_succ, numbered_get (k + 1) r i x (by simpa using h)]
    congr 3
    omega
/-- the names' map after a turn: some names are forgotten, some hold what is said -/
noncomputable def mkN : List (Str × Value) → (Str → Option Value) → Str → Option Value
  | [], m, w => m w
  | (x, v) :: ns, m, w => if w = x then some v else mkN ns m w
noncomputable def mk : List Str → List (Str × Value) → (Str → Option Value) → (Str → Option Value) → Str → Option Value
  | [], ns, _, m, w => mkN ns m w
  | x :: ts, ns, u, m, w => if w = x then u w else mk ts ns u m w
noncomputable def NamedOk (m : Str → Option Value) : List (Str × Value) → Prop
  | [] => True
  | (x, v) :: r => m x = some v ∧ NamedOk m r
theorem mkN_eq {m1 m : Str → Option Value} {w : Str} : ∀ {ns : List (Str × Value)}, NamedOk m1 ns → (w ∉ ns.map (·.1) → m1 w = m w) → m1 w = mkN ns m w
  | [], _, h => h (by simp)
  | (x, v) :: ns, hn, h => by
    unfold mkN
    split
    · rename_i e; rw [e]; exact hn.1
    · rename_i e
      exact mkN_eq hn.2 fun q => h (by rw [List.map_cons, List.mem_cons]; exact fun o => o.elim e q)
theorem mk_at {m1 m : Str → Option Value} {w : Str} {ns : List (Str × Value)} (hn : NamedOk m1 ns) : ∀ {ts : List Str}, (w ∉ ts → w ∉ ns.map (·.1) → m1 w = m w) → m1 w = mk ts ns m1 m w
  | [], h => mkN_eq hn (h (by simp))
  | x :: ts, h => by
    unfold mk
    split
    · rfl
    · rename_i e
      exact mk_at hn fun q => h fun o => (List.mem_cons.mp o).elim e q
theorem mk_eq {m1 m : Str → Option Value} {ts : List Str} {ns : List (Str × Value)} (hn : NamedOk m1 ns) (h : ∀ w, w ∉ ts → w ∉ ns.map (·.1) → m1 w = m w) : m1 = mk ts ns m1 m := funext fun w => mk_at hn (h w)
theorem take_snoc {α : Type} {xs : List α} {i : Nat} {x : α} (h : xs[i]? = some x) : xs.take (i + 1) = xs.take i ++ [x] := by
  rw [List.take_add_one, h]; rfl
end Mine

namespace Mine
noncomputable def padL (b : List Nat) (width : Int) : List Nat := if (b.length : Int) < width then b ++ List.replicate (width - b.length).toNat 32 else b
structure CardD where
  line : Int
  label : List Nat
  mark : Nat
  body : List Nat
/-- a Card of the program's -/
noncomputable def IsCard (news : List (Addr × Obj)) (v : Value) (c : CardD) : Prop :=
  ∃ (x d : Addr) (h1 h2 h3 h4 : Int) (k1 k2 k3 k4 t1 t2 t3 t4 : Tok), v = .ref x ∧ (x, instObj 70 d) ∈ news ∧
    (d, dictOf [⟨h1, .str (Str.ofString "line") k1, .int c.line t1⟩, ⟨h2, .str (Str.ofString "label") k2, .str (S c.label) t2⟩, ⟨h3, .str (Str.ofString "mark") k3, .str (S [c.mark]) t3⟩, ⟨h4, .str (Str.ofString "body") k4, .str (S c.body) t4⟩] 4) ∈ news
end Mine
namespace Mine
/-- a Limits of the program's: its columns and continuations -/
noncomputable def IsLim (news : List (Addr × Obj)) (v : Value) (cols conts : Int) : Prop :=
  ∃ (x d : Addr) (h1 h2 h3 h4 h5 h6 h7 h8 : Int) (k1 k2 k3 k4 k5 k6 k7 k8 : Tok) (v1 v2 v3 v4 v5 v8 : Value) (t6 t7 : Tok), v = .ref x ∧ (x, instObj 169 d) ∈ news ∧
    (d, dictOf [⟨h1, .str (Str.ofString "width") k1, v1⟩, ⟨h2, .str (Str.ofString "real_digits") k2, v2⟩, ⟨h3, .str (Str.ofString "double_digits") k3, v3⟩, ⟨h4, .str (Str.ofString "top_exponent") k4, v4⟩, ⟨h5, .str (Str.ofString "steps") k5, v5⟩,
      ⟨h6, .str (Str.ofString "continuations") k6, .int conts t6⟩, ⟨h7, .str (Str.ofString "columns") k7, .int cols t7⟩, ⟨h8, .str (Str.ofString "depth") k8, v8⟩] 8) ∈ news
theorem IsLim.mono {news news' : List (Addr × Obj)} (h : ∀ p ∈ news, p ∈ news') {v : Value} {c k : Int} (x : IsLim news v c k) : IsLim news' v c k := by
  obtain ⟨x, d, h1, h2, h3, h4, h5, h6, h7, h8, k1, k2, k3, k4, k5, k6, k7, k8, v1, v2, v3, v4, v5, v8, t6, t7, e, a, b⟩ := x
  exact ⟨x, d, h1, h2, h3, h4, h5, h6, h7, h8, k1, k2, k3, k4, k5, k6, k7, k8, v1, v2, v3, v4, v5, v8, t6, t7, e, h _ a, h _ b⟩
noncomputable def seenOf (cols : Nat) (x : List Nat) : List Nat := if (x.take cols).length < 6 then x.take cols ++ List.replicate (6 - (x.take cols).length) 32 else x.take cols
noncomputable def cardOf (cols : Nat) (p : Int × List Nat) : CardD := ⟨p.1, (seenOf cols p.2).take 5, ((seenOf cols p.2)[5]?).getD 0, (seenOf cols p.2).drop 6⟩
end Mine
namespace Mine
theorem splitL_part : ∀ (x : List Nat), ∀ p ∈ splitL x, p.length ≤ x.length
  | [], p, hp => by simp [splitL] at hp; simp [hp]
  | c :: r, p, hp => by
    have ih := splitL_part r
    unfold splitL at hp
    split at hp
    · rcases List.mem_cons.mp hp with rfl | hp
      · simp
      · have := ih p hp; simp only [List.length_cons]; omega
    · split at hp
      · rename_i q qs e
        rcases List.mem_cons.mp hp with rfl | hp
        · have := ih q (by rw [e]; simp); simp only [List.length_cons]; omega
        · have := ih p (by rw [e]; simp [hp]); simp only [List.length_cons]; omega
      · simp at hp; subst hp; simp
theorem numbered_mem : ∀ (k : Nat) (xs : List (List Nat)) (p : Int × List Nat), p ∈ numbered k xs → p.2 ∈ xs
  | _, [], p, h => by simp [numbered] at h
  | k, x :: r, p, h => by
    rw [numbered] at h
    rcases List.mem_cons.mp h with rfl | h
    · simp
    · exact List.mem_cons_of_mem _ (numbered_mem (k + 1) r p h)
end Mine
namespace Mine
section
variable {prog : Program} {w : World} {A : Around} {E : Value → Shared → Prop} {s : Shared} {h₀ : Heap} {L : Addr} {m : Str → Option Value} {news : List (Addr × Obj)}
theorem range_M {n : Int} {t : Tok} {Q : Value → Shared → Prop} (F : Fr h₀ L s.heap m) (N : News h₀ L s.heap news) (hn : 0 ≤ n)
    (h : ∀ r (k : Nat) h' tk t₁ u₁ v₁, (k : Int) = n → IsRange h' r 0 k 1 t₁ u₁ v₁ → Fr h₀ L h' m → News h₀ L h' news → Q (.ref r) { s with heap := h', toks := tk }) :
    wpAny (model prog w) A (call (.type "range") [.int n t]) Q E s := by
  obtain ⟨k, rfl⟩ : ∃ k : Nat, n = k := ⟨n.toNat, by omega⟩
  exact range1_rows F N fun h' tk t₁ u₁ v₁ hr F' N' _ => h _ k h' tk t₁ u₁ v₁ rfl hr F' N'
end
noncomputable def pieces (w : Int) (cs : List CardD) : List (List Nat) := cs.mapIdx fun j c => if j + 1 < cs.length then padL c.body w else c.body
theorem pieces_get {w : Int} {cs : List CardD} {i : Nat} {c : CardD} (h : cs[i]? = some c) : (pieces w cs)[i]? = some (if i + 1 < cs.length then padL c.body w else c.body) := by
  unfold pieces
  rw [List.getElem?_mapIdx, h]; rfl
theorem padL_len {b : List Nat} {w : Int} {k : Nat} (hb : b.length ≤ k) (hw : w ≤ k) : (padL b w).length ≤ k := by
  unfold padL
  split
  · rw [List.length_append, List.length_replicate]; omega
  · exact hb
theorem flatten_len {k : Nat} : ∀ {ps : List (List Nat)}, (∀ p ∈ ps, p.length ≤ k) → ps.flatten.length ≤ ps.length * k
  | [], _ => by simp
  | p :: ps, h => by
    have h1 := h p (by simp)
    have h2 := flatten_len (ps := ps) fun q hq => h q (by simp [hq])
    rw [List.flatten_cons, List.length_append, List.length_cons, Nat.add_mul]
    omega
theorem pieces_len {w : Int} {cs : List CardD} {k : Nat} (hb : ∀ c ∈ cs, c.body.length ≤ k) (hw : w ≤ k) : ∀ p ∈ pieces w cs, p.length ≤ k := by
  intro p hp
  obtain ⟨i, hi⟩ := List.mem_iff_getElem?.mp hp
  have hl : i < cs.length := by have := (List.getElem?_eq_some_iff.mp hi).1; unfold pieces at this; simpa using this
  have hc : cs[i]? = some cs[i] := by simp [hl]
  rw [pieces_get hc] at hi
  cases hi
  have := hb cs[i] (List.getElem_mem hl)
  split
  · exact padL_len this hw
  · exact this
noncomputable def jtext (w : Int) (cs : List CardD) : List Nat := (pieces w cs).flatten
end Mine

section s19
-- lines of my own for the walk
local macro_rules | `(tactic| k_all) => `(tactic| with_reducible assumption)
local macro_rules | `(tactic| k_mem) => `(tactic| assumption)
local macro_rules | `(tactic| walk_at "exec For Name Name cons nil") => `(tactic| (k_here; (with_reducible rename Fr _ _ _ _ => kF9); with_unfolding_all refine' Mine.For_M kF9 ?kE ?kS ?_; (case kE => exact PassesOwn.never); (case kS => (intro _; rfl)); k_whole))
local macro_rules | `(tactic| walk_at "call builtin:len") => `(tactic| (k_here; (with_reducible show wpAny _ _ (call (Value.builtin "len") [Value.ref _]) _ _ _); k_dflt (refine' Mine.len_ref ?k1 ?k2 ?k3 ?_; (case k1 => k_asm); (case k2 => k_mem); (case k3 => first | (simp only [List.length_cons, List.length_nil]; done) | omega); k_whole); intro _ _))
local macro_rules | `(tactic| walk_at "subscriptTail") => `(tactic| (k_here; (with_reducible show wpAny _ _ (subscriptTail _ _ (Value.ref _) (Value.int _ _)) _ _ _); k_dflt (refine' Mine.item_ints ?k1 ?k2 ?k3 ?k4 ?k5 ?k6 ?_ ?k7; (case k1 => k_asm); (case k2 => k_mem); (case k3 => assumption); (case k4 => omega); (case k5 => omega); (case k6 => omega); (case k7 => with_unfolding_all rfl); k_whole); intro _ _))
local macro_rules | `(tactic| walk_at "S") => `(tactic| first | with_reducible exact rfl | with_reducible exact Mine.t_C | with_reducible exact Mine.t_c | with_reducible exact Mine.t_star | with_reducible exact Mine.t_nil | with_reducible exact Mine.t_sp | with_reducible exact Mine.t_nl | with_reducible exact Mine.t_0 | with_reducible exact Mine.t_END | with_reducible exact Mine.t_digits | with_reducible exact Mine.t_plus | with_reducible exact Mine.t_X | with_reducible exact Mine.t_body | with_reducible exact Mine.t_sp0 | with_reducible exact Mine.t_marks | with_reducible exact Mine.t_Z9 | with_reducible exact Mine.t_sp5)
local macro_rules | `(tactic| walk_at "sz") => `(tactic| first | omega | (simp only [List.length_append, List.length_take, List.length_drop, List.length_replicate, List.length_cons, List.length_nil, Int.toNat_natCast]; omega))
local macro_rules | `(tactic| walk_at "binaryOp Add str str") => `(tactic| (k_here; (with_reducible show wpAny _ _ (binaryOp _ (Value.str _ _) (Value.str _ _)) _ _ _); k_dflt (refine' Mine.addS ?k1 ?k2 ?k3 ?_; (case k1 => walk_at "S"); (case k2 => walk_at "S"); (case k3 => walk_at "sz"); k_whole); intro _ _))
local macro_rules | `(tactic| walk_at "binaryOp Mult str int") => `(tactic| (k_here; (with_reducible show wpAny _ _ (binaryOp _ (Value.str _ _) (Value.int _ _)) _ _ _); k_dflt (refine' Mine.mulS ?k1 ?k2 ?k3 ?_; (case k1 => walk_at "S"); (case k2 => walk_at "sz"); (case k3 => walk_at "sz"); k_whole); intro _ _))
local macro_rules | `(tactic| walk_at "compareOp Eq str str") => `(tactic| (k_here; (with_reducible show wpAny _ _ (compareOp _ (Value.str _ _) (Value.str _ _)) _ _ _); k_dflt (refine' Mine.eqS ?k1 ?k2 ?_; (case k1 => walk_at "S"); (case k2 => walk_at "S"); k_whole)))
local macro_rules | `(tactic| walk_at "call builtin:len") => `(tactic| (k_here; (with_reducible show wpAny _ _ (call (Value.builtin "len") [Value.str _ _]) _ _ _); k_dflt (refine' Mine.lenS ?k1 ?k2 ?_; (case k1 => walk_at "S"); (case k2 => walk_at "sz"); k_whole); intro _ _))
local macro_rules | `(tactic| walk_at "subscriptTail") => `(tactic| (k_here; (with_reducible show wpAny _ _ (subscriptTail _ (Expr.Slice none (some _) none _) (Value.str _ _) _) _ _ _); k_dflt (refine' Mine.slS_to (s := ⟨_, _, _, _, _⟩) ?k1 ?k2 ?k3 ?k4 ?k5 ?_ ?k6 ?k7; (case k1 => walk_at "S"); (case k2 => k_asm); (case k3 => k_asm); (case k4 => walk_at "sz"); (case k5 => walk_at "sz"); (case k6 => with_unfolding_all rfl); (case k7 => intro _; rfl); k_whole); intro _ _ _ _ _; (try k_sweep)))
local macro_rules | `(tactic| walk_at "subscriptTail") => `(tactic| (k_here; (with_reducible show wpAny _ _ (subscriptTail _ (Expr.Slice (some _) none none _) (Value.str _ _) _) _ _ _); k_dflt (refine' Mine.slS_from (s := ⟨_, _, _, _, _⟩) ?k1 ?k2 ?k3 ?k4 ?k5 ?_ ?k6 ?k7; (case k1 => walk_at "S"); (case k2 => k_asm); (case k3 => k_asm); (case k4 => walk_at "sz"); (case k5 => walk_at "sz"); (case k6 => with_unfolding_all rfl); (case k7 => intro _; rfl); k_whole); intro _ _ _ _ _; (try k_sweep)))
local macro_rules | `(tactic| walk_at "subscriptTail") => `(tactic| (k_here; (with_reducible show wpAny _ _ (subscriptTail _ (Expr.Slice (some _) (some _) none _) (Value.str _ _) _) _ _ _); k_dflt (refine' Mine.slS_mid (s := ⟨_, _, _, _, _⟩) ?k1 ?k2 ?k3 ?k4 ?k4b ?k4c ?k5 ?_ ?k6 ?k7; (case k1 => walk_at "S"); (case k2 => k_asm); (case k3 => k_asm); (case k4 => walk_at "sz"); (case k4b => walk_at "sz"); (case k4c => walk_at "sz"); (case k5 => walk_at "sz"); (case k6 => with_unfolding_all rfl); (case k7 => intro _; rfl); k_whole); intro _ _ _ _ _; (try k_sweep)))
local macro_rules | `(tactic| k_room) => `(tactic| ktr_room)
local macro_rules | `(tactic| walk_at "sub9") => `(tactic| (intro p9 hp9; first | exact hp9 | (simp only [List.mem_cons, List.mem_append] at hp9 ⊢; simp only [hp9, true_or, or_true]; done) | (simp only [List.mem_cons, List.mem_append] at hp9 ⊢; rcases hp9 with hp9 | hp9 <;> simp only [hp9, true_or, or_true] <;> done) | (simp only [List.mem_cons, List.mem_append] at hp9 ⊢; rcases hp9 with hp9 | hp9 | hp9 <;> simp only [hp9, true_or, or_true] <;> done)))

section s1
namespace Mine
theorem wb_spec {w : World} {mean : ExcName → Option Value} {mg mb : Str → Option Value} {x : List Nat} {t : Tok} {news : List (Addr × Obj)} (hx : x.length ≤ 10000) :
    CallIs w mean mg mb 5 50 88 [.str (S x) t] news (fun r news' => ∃ t', r = .str (S (x.filter (· != 32))) t' ∧ news' = news) := by
  intro dp un gd cn cs a ccd cl outer A₀ base h₀ L m s Q B F X N T hks hdp hun hret
  w_top off
  have fill9 : Mine.Fills PySem.Challenge.rw_sa0210_01 Mine.hK.heap_1 := by (k_fill; exact True.intro)
  refine wpAny_call ?_
  k_dflt (refine' code_def ?k1 ?k2 ?k3 ?k4 ?k5 ?kA ?kF ?kK ?k6 ?k7 ?k8 ?k9 ?kB ?_ ?c2 ?c3 ?c4 ?c5; (case kA => exact rfl); (case kF => exact rfl); (case kK => assumption); (case k1 => k_asm); (case k2 => k_asm); (case k3 => k_asm); (case k4 => k_asm); (case k5 => k_asm); (case k6 => k_is); (case k7 => k_is); (case k8 => ktr_room); (case k9 => first | exact BindsTo.of_eq rfl | exact binds_K (by k_in) rfl (by k_is) rfl rfl rfl); (case c5 => decide); (case kB => exact locs rfl); (case c2 => exact rfl); (case c3 => exact rfl); (case c4 => exact rfl); k_whole)
  intro g' L' h' FG' F' N' B' X' T'
  try dsimp only
  refine to_done F' hret (fun _ _ h => h) ?_
  clear FG'
  clear F X N T B hret
  refine wpAny_execs_cons ?_
  k_steps
  refine SC.replaceW ?h1 ?h2 ?h3 ?h4 ?h5 ?h6 fun t' k => ?h7
  case h1 => show s.toks + 1 ≠ 0; omega
  case h2 => show s.toks + 2 ≠ 0; omega
  case h3 => show s.toks + 1 ≠ s.toks + 2; omega
  case h4 => decide +kernel
  case h5 => rw [S_length]; omega
  case h6 => decide +kernel
  case h7 => exact ⟨_, _, _, _, rfl, by assumption, by assumption, t', by rw [show Str.ofString " " = S [32] from by decide +kernel, show Str.ofString "" = S [] from by decide +kernel, S_strike], rfl⟩
end Mine

end s1

local macro_rules | `(tactic| k_all) => `(tactic| (refine Mine.apart_lt (by assumption) ?_; walk_at "sub9"))
local macro_rules | `(tactic| walk_at "newTuple") => `(tactic| (k_here; k_dflt (refine' Mine.newTuple_M ?k1 ?k2 ?_ ?k3; (case k1 => k_asm); (case k2 => k_asm); (case k3 => (simp only [List.length_cons, List.length_nil]; decide)); k_whole); intro _ _ _ _ lt9; (have lt8 := lt9); (try k_lt lt8); (try k_sweep)))
local macro_rules | `(tactic| walk_at "newList") => `(tactic| (k_here; k_dflt (refine' Mine.newList_M ?k1 ?k2 ?_ ?k3; (case k1 => k_asm); (case k2 => k_asm); (case k3 => (simp only [List.length_cons, List.length_nil]; decide)); k_whole); intro _ _ _ _ lt9; (have lt8 := lt9); (try k_lt lt8); (try k_sweep)))
local macro_rules | `(tactic| walk_at "subscriptTail") => `(tactic| (k_here; (with_reducible show wpAny _ _ (subscriptTail _ _ (Value.ref _) (Value.int _ _)) _ _ _); k_dflt (refine' Mine.itemT ?k1 ?k2 ?k3 ?k4 ?k5 ?k6 ?_ ?k7; (case k1 => k_asm); (case k2 => k_mem); (case k3 => assumption); (case k4 => omega); (case k5 => omega); (case k6 => omega); (case k7 => with_unfolding_all rfl); k_whole); intro _ _ _))
local macro_rules | `(tactic| walk_at "compareOp NotEq str str") => `(tactic| (k_here; k_dflt (refine' Mine.neS ?k1 ?k2 ?_; (case k1 => walk_at "S"); (case k2 => walk_at "S"); k_whole)))
local macro_rules | `(tactic| walk_at "call builtin:str.find") => `(tactic| (k_here; k_dflt (refine' Mine.findS ?k1 ?k2 ?k3 ?k4 ?_; (case k1 => walk_at "S"); (case k2 => walk_at "S"); (case k3 => omega); (case k4 => omega); k_whole); intro _ _))
local macro_rules | `(tactic| k_mem) => `(tactic| (first | assumption | (refine List.mem_append_left _ ?_; k_mem) | (refine List.mem_append_right _ ?_; k_mem)))
local macro_rules | `(tactic| walk_at "call ref") => `(tactic| (k_here; (with_reducible show wpAny _ _ (call (Value.ref 70) _) _ _ _); k_dflt (refine' call_cls ?k1 ?k2 ?k3 ?k4 ?k5 ?k6 ?_; (case k1 => k_asm); (case k2 => k_asm); (case k3 => k_asm); (case k4 => k_is); (case k5 => k_is); (case k6 => k_is); k_whole; intro x' d' h' F' N' l1 l2; (have lt9 := l1); (try k_lt l1); (try k_lt2 l2); (try k_sweep); k_enter)))
local macro_rules | `(tactic| walk_at "call type:range") => `(tactic| (k_here; k_dflt (refine' Mine.range_M ?k1 ?k2 ?k3 ?_; (case k1 => k_asm); (case k2 => k_asm); (case k3 => omega); k_whole); intro _ _ _ _ _ _ _ _ _ _ _; (try k_sweep)))
local macro_rules | `(tactic| walk_at "subscriptTail") => `(tactic| (k_here; (with_reducible show wpAny _ _ (subscriptTail _ _ (Value.ref _) (Value.int _ _)) _ _ _); k_dflt (refine' Mine.itemC ?k1 ?k2 ?k3 ?k4 ?k5 ?k6 ?_ ?k7; (case k1 => k_asm); (case k2 => k_mem); (case k3 => assumption); (case k4 => assumption); (case k5 => omega); (case k6 => omega); (case k7 => with_unfolding_all rfl); k_whole); intro _ _ _ _ _ _ _ _ _ _ _ _ _ _ _ _ _))

section s2
namespace Mine
theorem snip_spec {w : World} {mean : ExcName → Option Value} {mg mb : Str → Option Value} {c l : Addr} {k many : Int} {tk tm : Tok} {n : Nat} {vs : List Value} {ns : List Int} {nl : Nat} {rest : List (Addr × Obj)}
    (hl : (l, W.listOf vs.toArray nl) ∈ rest) (hi : IntsAre vs ns) (hlen : vs.length ≤ 60) (hne : ∀ p ∈ rest, p.1 ≠ c) (hk : 0 ≤ k) (hk2 : k < 1000000) (hm : 0 < many) (hm2 : many < 1000000) :
    CallIs w mean mg mb 5 50 195 [.ref c, .int many tm] ((c, W.listOf #[.ref l, .int k tk] n) :: rest)
      (fun r news' => ∃ v t tk', r = .int v t ∧ 0 ≤ v ∧ v < many ∧ news' = (c, W.listOf #[.ref l, .int (k + 1) tk'] n) :: rest) := by
  intro dp un gd cn cs a ccd cl outer A₀ base h₀ L m s Q B F X N T hks hdp hun hret
  w_top off
  have fill9 : Mine.Fills PySem.Challenge.rw_sa0210_01 Mine.hK.heap_1 := by (k_fill; exact True.intro)
  refine wpAny_call ?_
  k_dflt (refine' code_def ?k1 ?k2 ?k3 ?k4 ?k5 ?kA ?kF ?kK ?k6 ?k7 ?k8 ?k9 ?kB ?_ ?c2 ?c3 ?c4 ?c5; (case kA => exact rfl); (case kF => exact rfl); (case kK => assumption); (case k1 => k_asm); (case k2 => k_asm); (case k3 => k_asm); (case k4 => k_asm); (case k5 => k_asm); (case k6 => k_is); (case k7 => k_is); (case k8 => ktr_room); (case k9 => first | exact BindsTo.of_eq rfl | exact binds_K (by k_in) rfl (by k_is) rfl rfl rfl); (case c5 => decide); (case kB => exact locs rfl); (case c2 => exact rfl); (case c3 => exact rfl); (case c4 => exact rfl); k_whole)
  intro g' L' h' FG' F' N' B' X' T'
  try dsimp only
  refine to_done F' hret (fun _ _ h => h) ?_
  clear FG'
  clear F X N T B hret
  k_steps
  all_goals exact ⟨_, _, _, _, rfl, by assumption, by assumption, _, _, _, rfl, Int.fmod_nonneg_of_pos _ hm, Int.fmod_lt_of_pos _ hm, rfl⟩
end Mine

end s2

section s3
namespace Mine
noncomputable def isCont (c : CardD) : Bool := !decide (c.mark = 32) && !decide (c.mark = 48)
theorem icont_spec {w : World} {mean : ExcName → Option Value} {mg mb : Str → Option Value} {v : Value} {c : CardD} {news : List (Addr × Obj)} (hc : IsCard news v c) :
    CallIs w mean mg mb 5 50 109 [v] news (fun r news' => r = .bool (isCont c) ∧ news' = news) := by
  intro dp un gd cn cs a ccd cl outer A₀ base h₀ L m s Q B F X N T hks hdp hun hret
  obtain ⟨x, d, h1, h2, h3, h4, k1, k2, k3, k4, t1, t2, t3, t4, rfl, hm1, hm2⟩ := hc
  w_top off
  have fill9 : Mine.Fills PySem.Challenge.rw_sa0210_01 Mine.hK.heap_1 := by (k_fill; exact True.intro)
  refine wpAny_call ?_
  k_dflt (refine' code_def ?k1 ?k2 ?k3 ?k4 ?k5 ?kA ?kF ?kK ?k6 ?k7 ?k8 ?k9 ?kB ?_ ?c2 ?c3 ?c4 ?c5; (case kA => exact rfl); (case kF => exact rfl); (case kK => assumption); (case k1 => k_asm); (case k2 => k_asm); (case k3 => k_asm); (case k4 => k_asm); (case k5 => k_asm); (case k6 => k_is); (case k7 => k_is); (case k8 => ktr_room); (case k9 => first | exact BindsTo.of_eq rfl | exact binds_K (by k_in) rfl (by k_is) rfl rfl rfl); (case c5 => decide); (case kB => exact locs rfl); (case c2 => exact rfl); (case c3 => exact rfl); (case c4 => exact rfl); k_whole)
  intro g' L' h' FG' F' N' B' X' T'
  try dsimp only
  refine to_done F' hret (fun _ _ h => h) ?_
  clear FG'
  clear F X N T B hret
  k_steps
  all_goals (try dsimp only)
  all_goals (refine ⟨_, _, _, _, rfl, by assumption, by assumption, ?_, rfl⟩; (try dsimp only); simp_all [isCont])
end Mine

end s3

section s4
namespace Mine
theorem padded_spec {w : World} {mean : ExcName → Option Value} {mg mb : Str → Option Value} {b : List Nat} {width : Int} {t u : Tok} {news : List (Addr × Obj)} (hb : b.length ≤ 500) (hw : 0 ≤ width) (hw2 : width ≤ 500) :
    CallIs w mean mg mb 5 50 123 [.str (S b) t, .int width u] news (fun r news' => ∃ t', r = .str (S (padL b width)) t' ∧ news' = news) := by
  intro dp un gd cn cs a ccd cl outer A₀ base h₀ L m s Q B F X N T hks hdp hun hret
  w_top off
  have fill9 : Mine.Fills PySem.Challenge.rw_sa0210_01 Mine.hK.heap_1 := by (k_fill; exact True.intro)
  refine wpAny_call ?_
  k_dflt (refine' code_def ?k1 ?k2 ?k3 ?k4 ?k5 ?kA ?kF ?kK ?k6 ?k7 ?k8 ?k9 ?kB ?_ ?c2 ?c3 ?c4 ?c5; (case kA => exact rfl); (case kF => exact rfl); (case kK => assumption); (case k1 => k_asm); (case k2 => k_asm); (case k3 => k_asm); (case k4 => k_asm); (case k5 => k_asm); (case k6 => k_is); (case k7 => k_is); (case k8 => ktr_room); (case k9 => first | exact BindsTo.of_eq rfl | exact binds_K (by k_in) rfl (by k_is) rfl rfl rfl); (case c5 => decide); (case kB => exact locs rfl); (case c2 => exact rfl); (case c3 => exact rfl); (case c4 => exact rfl); k_whole)
  intro g' L' h' FG' F' N' B' X' T'
  try dsimp only
  refine to_done F' hret (fun _ _ h => h) ?_
  clear FG'
  clear F X N T B hret
  k_steps
  all_goals (try dsimp only)
  all_goals (refine ⟨_, _, _, _, rfl, by assumption, by assumption, _, congrArg (fun z => Value.str (S z) _) ?_, rfl⟩; simp_all [padL])
end Mine

end s4

section s7
local macro_rules | `(tactic| walk_at "call ref") => `(tactic| (k_here; (with_reducible show wpAny _ _ (call (Value.ref 88) _) _ _ _); k_dflt (refine' Mine.CallIs.use (Mine.wb_spec ?p1) ?k1 ?k2 ?k3 ?k4 ?k5 ?k6 ?k7 ?k8 ?_; (case k1 => k_asm); (case k2 => k_asm); (case k3 => k_asm); (case k4 => k_asm); (case k5 => k_asm); (case k6 => first | exact rfl | assumption); (case k7 => ktr_room); (case k8 => ktr_units); (case p1 => walk_at "sz"); k_whole); (rintro r9 n9 h9 tk9 F9 N9 ⟨t9, e9, e8⟩; subst e9; replace e8 := e8.symm; subst e8; (try dsimp only); (try k_sweep))))

section s5
namespace Mine
noncomputable def isCom (x : List Nat) (c : Nat) : Bool := decide (x.take 1 = [67]) || decide (x.take 1 = [99]) || decide (x.take 1 = [42]) || decide ((x.take c).filter (· != 32) = [])
theorem ic_spec {w : World} {mean : ExcName → Option Value} {mg mb : Str → Option Value} {x : List Nat} {c : Int} {t u : Tok} {news : List (Addr × Obj)} (hx : x.length ≤ 10000) (hc : 0 ≤ c) (hc2 : c < 1000):
    CallIs w mean mg mb 10 100 95 [.str (S x) t, .int c u] news (fun r news' => r = .bool (isCom x c.toNat) ∧ news' = news) := by
  intro dp un gd cn cs a ccd cl outer A₀ base h₀ L m s Q B F X N T hks hdp hun hret
  w_top off
  have fill9 : Mine.Fills PySem.Challenge.rw_sa0210_01 Mine.hK.heap_1 := by (k_fill; exact True.intro)
  refine wpAny_call ?_
  k_dflt (refine' code_def ?k1 ?k2 ?k3 ?k4 ?k5 ?kA ?kF ?kK ?k6 ?k7 ?k8 ?k9 ?kB ?_ ?c2 ?c3 ?c4 ?c5; (case kA => exact rfl); (case kF => exact rfl); (case kK => assumption); (case k1 => k_asm); (case k2 => k_asm); (case k3 => k_asm); (case k4 => k_asm); (case k5 => k_asm); (case k6 => k_is); (case k7 => k_is); (case k8 => ktr_room); (case k9 => first | exact BindsTo.of_eq rfl | exact binds_K (by k_in) rfl (by k_is) rfl rfl rfl); (case c5 => decide); (case kB => exact locs rfl); (case c2 => exact rfl); (case c3 => exact rfl); (case c4 => exact rfl); k_whole)
  intro g' L' h' FG' F' N' B' X' T'
  try dsimp only
  refine to_done F' hret (fun _ _ h => h) ?_
  clear FG'
  clear F X N T B hret
  k_steps
  all_goals (try dsimp only)
  all_goals (refine ⟨_, _, _, _, rfl, by assumption, by assumption, ?_, rfl⟩; (try dsimp only); simp_all [isCom])
end Mine

end s5

section s6
namespace Mine
noncomputable def digits (l : List Nat) : Bool := l.all fun c => decide (48 ≤ c) && decide (c ≤ 57)
noncomputable def valOf (l : List Nat) : Int := l.foldl (fun (a : Int) (c : Nat) => a * 10 + ((c : Int) - 48)) 0
theorem valOf_snoc (l : List Nat) (c : Nat) : valOf (l ++ [c]) = valOf l * 10 + ((c : Int) - 48) := by unfold valOf; rw [List.foldl_append]; rfl
theorem valOf_go : ∀ (l : List Nat) (a : Int) (k : Nat), digits l = true → 0 ≤ a → a < 10 ^ k → 0 ≤ l.foldl (fun (a : Int) (c : Nat) => a * 10 + ((c : Int) - 48)) a ∧ l.foldl (fun (a : Int) (c : Nat) => a * 10 + ((c : Int) - 48)) a < 10 ^ (k + l.length)
  | [], a, k, _, h0, h1 => ⟨h0, h1⟩
  | c :: r, a, k, hd, h0, h1 => by
    unfold digits at hd
    rw [List.all_cons, Bool.and_eq_true, Bool.and_eq_true, decide_eq_true_eq, decide_eq_true_eq] at hd
    have := valOf_go r (a * 10 + ((c : Int) - 48)) (k + 1) hd.2 (by omega) (by rw [Int.pow_succ]; omega)
    rw [List.foldl_cons, List.length_cons, show k + (r.length + 1) = k + 1 + r.length from by omega]
    exact this
theorem valOf_bound {l : List Nat} (hd : digits l = true) (hl : l.length ≤ 5) : 0 ≤ valOf l ∧ valOf l ≤ 99999 := by
  have h := valOf_go l 0 0 hd (Int.le_refl _) (by decide)
  refine ⟨h.1, ?_⟩
  have h2 := h.2
  have : l.length = 0 ∨ l.length = 1 ∨ l.length = 2 ∨ l.length = 3 ∨ l.length = 4 ∨ l.length = 5 := by omega
  unfold valOf
  rcases this with e | e | e | e | e | e <;> rw [e] at h2 <;> simp at h2 <;> omega
theorem digits_take {l : List Nat} (h : digits l = true) (i : Nat) : digits (l.take i) = true := by
  unfold digits at *
  rw [List.all_eq_true] at *
  exact fun x hx => h x (List.mem_of_mem_take hx)
theorem digits_get {l : List Nat} (h : digits l = true) {i c : Nat} (hc : l[i]? = some c) : 48 ≤ c ∧ c ≤ 57 := by
  unfold digits at h
  rw [List.all_eq_true] at h
  have := h c (List.mem_of_getElem? hc)
  simpa using this
theorem rl_spec {w : World} {mean : ExcName → Option Value} {mg mb : Str → Option Value} {v : Value} {c : CardD} {news : List (Addr × Obj)} (hc : IsCard news v c) (hl : c.label.length ≤ 5)
    (hd : digits (c.label.filter (· != 32)) = true) (hz : c.label.filter (· != 32) = [] ∨ valOf (c.label.filter (· != 32)) ≠ 0) :
    CallIs w mean mg mb 10 100 116 [v] news (fun r news' => ∃ t, r = .int (valOf (c.label.filter (· != 32))) t ∧ news' = news) := by
  intro dp un gd cn cs a ccd cl outer A₀ base h₀ L m s Q B F X N T hks hdp hun hret
  obtain ⟨x, d, h1, h2, h3, h4, k1, k2, k3, k4, t1, t2, t3, t4, rfl, hm1, hm2⟩ := hc
  w_top off
  have fill9 : Mine.Fills PySem.Challenge.rw_sa0210_01 Mine.hK.heap_1 := by (k_fill; exact True.intro)
  refine wpAny_call ?_
  k_dflt (refine' code_def ?k1 ?k2 ?k3 ?k4 ?k5 ?kA ?kF ?kK ?k6 ?k7 ?k8 ?k9 ?kB ?_ ?c2 ?c3 ?c4 ?c5; (case kA => exact rfl); (case kF => exact rfl); (case kK => assumption); (case k1 => k_asm); (case k2 => k_asm); (case k3 => k_asm); (case k4 => k_asm); (case k5 => k_asm); (case k6 => k_is); (case k7 => k_is); (case k8 => ktr_room); (case k9 => first | exact BindsTo.of_eq rfl | exact binds_K (by k_in) rfl (by k_is) rfl rfl rfl); (case c5 => decide); (case kB => exact locs rfl); (case c2 => exact rfl); (case c3 => exact rfl); (case c4 => exact rfl); k_whole)
  intro g' L' h' FG' F' N' B' X' T'
  try dsimp only
  refine to_done F' hret (fun _ _ h => h) ?_
  clear FG'
  clear F X N T B hret
  k_steps
  · rename_i a0
    have e0 : c.label.filter (· != 32) = [] := of_decide_eq_true a0
    exact ⟨_, _, _, _, rfl, by assumption, by assumption, _, by rw [e0]; rfl, rfl⟩
  · rename_i a0 _ kF N
    generalize hds : c.label.filter (· != 32) = ds at *
    have hdl : ds.length ≤ 5 := by rw [← hds]; exact Nat.le_trans (List.length_filter_le _ _) hl
    refine iterW_str (fun m i m' news' => ∃ (u : Str → Option Value) (t : Tok), m' = mk [Str.ofString "digit", Str.ofString "sign"] [(Str.ofString "label", .int (valOf (ds.take i)) t)] u m ∧ news' = news) rfl kF N ?_ ?_ ?_
    · refine ⟨_, _, mk_eq ⟨rfl, trivial⟩ ?_, rfl⟩
      intro w9 h9 k9
      simp only [List.mem_cons, List.mem_nil_iff, List.map_cons, List.map_nil, List.not_mem_nil, or_false, not_or] at h9 k9
      first | rfl | (simp only [Mine.mk, Mine.mkN, h9, k9, if_false]; done) | (simp [Mine.mk, Mine.mkN, h9, k9]; done)
    · rintro i ch ut m' news' h₁ tk₁ I oI hv ⟨u, t, rfl, rfl⟩ hoff hbelow F₁ N₁
      have hv' : ds[i]? = some ch := by simpa [S] using hv
      have hc := digits_get hd hv'
      have hb := valOf_bound (digits_take hd i) (Nat.le_trans (List.length_take_le' _ _) hdl)
      have hsn : valOf (ds.take (i + 1)) = valOf (ds.take i) * 10 + ((ch : Int) - 48) := by rw [take_snoc hv', valOf_snoc]
      rw [hsn]
      generalize valOf (ds.take i) = val at *
      refine asgF_name F₁ N₁ (fun h₂ tk₂ F₂ N₂ => ?_)
      k_steps
      refine ⟨_, _, _, news', rfl, by assumption, by assumption, hoff, ⟨_, _, mk_eq ⟨rfl, trivial⟩ ?_, rfl⟩⟩
      intro w9 h9 k9
      simp only [List.mem_cons, List.mem_nil_iff, List.map_cons, List.map_nil, List.not_mem_nil, or_false, not_or] at h9 k9
      first | rfl | (simp only [Mine.mk, Mine.mkN, h9, k9, if_false]; done) | (simp [Mine.mk, Mine.mkN, h9, k9]; done)
    · rintro h₁ tk₁ m₁ news₁ F₁ N₁ ⟨u, t, rfl, rfl⟩
      have hne : ds ≠ [] := of_decide_eq_false a0
      have hnz : valOf ds ≠ 0 := hz.resolve_left hne
      have hful : ds.take (S ds).cps.size = ds := List.take_of_length_le (Nat.le_of_eq (by simp [S]))
      rw [hful] at F₁
      generalize valOf ds = val at *
      k_steps
      all_goals first | exact ⟨_, _, _, _, rfl, by assumption, by assumption, _, rfl, rfl⟩ | (exfalso; simp_all; done) | (exfalso; omega)
end Mine

end s6

end s7

section s8
namespace Mine
theorem card_new {w : World} {mean : ExcName → Option Value} {mg mb : Str → Option Value} {k : Int} {lab b : List Nat} {mk : Nat} {t1 t2 t3 t4 : Tok} {news : List (Addr × Obj)} :
    CallIs w mean mg mb 5 50 70 [.int k t1, .str (S lab) t2, .str (S [mk]) t3, .str (S b) t4] news (fun r n' => IsCard n' r ⟨k, lab, mk, b⟩ ∧ ∀ p ∈ news, p ∈ n') := by
  intro dp un gd cn cs a ccd cl outer A₀ base h₀ L m s Q B F X N T hks hdp hun hret
  w_top off
  have fill9 : Mine.Fills PySem.Challenge.rw_sa0210_01 Mine.hK.heap_1 := by (k_fill; exact True.intro)
  k_dflt (refine' call_cls ?k1 ?k2 ?k3 ?k4 ?k5 ?k6 ?_; (case k1 => k_asm); (case k2 => k_asm); (case k3 => k_asm); (case k4 => k_is); (case k5 => k_is); (case k6 => k_is); k_whole)
  intro x' d' h9 F9 N9 l1 l2
  (try k_lt l1)
  (try k_lt2 l2)
  (try k_sweep)
  k_dflt (refine' code_def ?k1 ?k2 ?k3 ?k4 ?k5 ?kA ?kF ?kK ?k6 ?k7 ?k8 ?k9 ?kB ?_ ?c2 ?c3 ?c4 ?c5; (case kA => exact rfl); (case kF => exact rfl); (case kK => assumption); (case k1 => k_asm); (case k2 => k_asm); (case k3 => k_asm); (case k4 => k_asm); (case k5 => k_asm); (case k6 => k_is); (case k7 => k_is); (case k8 => ktr_room); (case k9 => first | exact BindsTo.of_eq rfl | exact binds_K (by k_in) rfl (by k_is) rfl rfl rfl); (case c5 => decide); (case kB => exact locs rfl); (case c2 => exact rfl); (case c3 => exact rfl); (case c4 => exact rfl); k_whole)
  intro g' L' h' FG' F' N' B' X' T'
  k_steps
  exact hret _ _ _ _ (by assumption) (by assumption) ⟨⟨x', d', _, _, _, _, _, _, _, _, _, _, _, _, rfl, .head _, .tail _ (.head _)⟩, fun p hp => .tail _ (.tail _ hp)⟩
end Mine

end s8

namespace Mine
noncomputable abbrev T3 := Int × Int × List Nat
noncomputable def IsT3 (news : List (Addr × Obj)) (v : Value) (p : T3) : Prop := ∃ a t1 t2 t3, v = .ref a ∧ (a, tup [.int p.1 t1, .int p.2.1 t2, .str (S p.2.2) t3]) ∈ news
structure LabelOk (c : CardD) : Prop where
  len : c.label.length ≤ 5
  dig : digits (c.label.filter (· != 32)) = true
  nz : c.label.filter (· != 32) = [] ∨ valOf (c.label.filter (· != 32)) ≠ 0
noncomputable def labOf (c : CardD) : Int := valOf (c.label.filter (· != 32))
structure JoinOk (w : Int) (c0 : CardD) (r : List CardD) : Prop where
  lab : LabelOk c0
  ne : (jtext w (c0 :: r)).filter (· != 32) ≠ []
  fin : r.length + 1 ≤ 1 ∨ (jtext w (c0 :: r)).filter (· != 32) ≠ [69, 78, 68]
noncomputable def joinT (w : Int) (c0 : CardD) (r : List CardD) : T3 := (c0.line, labOf c0, jtext w (c0 :: r))
/-- how `statements_of` goes through cards: what is out, the rows held, the cards to come, the answer -/
inductive Runs (w k : Int) : List T3 → List CardD → List CardD → List T3 → Prop
  | nil {out} : Runs w k out [] [] out
  | last {out c0 r} : JoinOk w c0 r → Runs w k out (c0 :: r) [] (out ++ [joinT w c0 r])
  | cont {out c0 r c cs res} : isCont c = true → c.label.filter (· != 32) = [] → ((r.length : Int) + 1 ≤ k) → c0.body.filter (· != 32) ≠ [69, 78, 68] → Runs w k out (c0 :: r ++ [c]) cs res → Runs w k out (c0 :: r) (c :: cs) res
  | start {out c cs res} : isCont c = false → LabelOk c → Runs w k out [c] cs res → Runs w k out [] (c :: cs) res
  | next {out c0 r c cs res} : isCont c = false → JoinOk w c0 r → LabelOk c → Runs w k (out ++ [joinT w c0 r]) [c] cs res → Runs w k out (c0 :: r) (c :: cs) res
end Mine

namespace Mine
section
variable {prog : Program} {w : World} {A : Around} {s : Shared} {env : Env} {h₀ : Heap}
theorem strI {a : Int} {t : Tok} {lt : List Nat} {Q : Value → Shared → Prop} {E : Value → Shared → Prop} (h0 : 0 ≤ a) (h1 : a < 1000000) (ht : Str.ofString (toString a) = S lt) (h : ∀ t' k, Q (.str (S lt) t') { s with toks := k }) :
    wpAny (model prog w) A (call (.type "str") [.int a t]) Q E s := by
  refine P.str_of_int ?_ ?_
  · have : a.natAbs < 2 ^ 20 := by omega
    by_cases hz : a.natAbs = 0
    · rw [hz]; decide
    · have := (Nat.log2_lt hz).mpr this
      omega
  · have e : ((toString a : String) : Str) = S lt := ht
    rw [e]; exact h _ _
end
noncomputable def rowTail (w : Nat) (x : List Nat) (j : Nat) : List Nat := [32, 32, 32, 32, 32, 43] ++ (x.drop (w + w * j)).take w
noncomputable def rowHead (w : Nat) (lt x : List Nat) : List Nat := lt ++ List.replicate (6 - lt.length) 32 ++ x.take w
noncomputable def rowsTo (w : Nat) (lt x : List Nat) (i : Nat) : List (List Nat) := rowHead w lt x :: (List.range i).map (rowTail w x)
theorem rowsTo_snoc (w : Nat) (lt x : List Nat) (i : Nat) : rowsTo w lt x (i + 1) = rowsTo w lt x i ++ [rowTail w x i] := by
  unfold rowsTo
  rw [List.range_succ, List.map_append]; rfl
theorem rowsTo_len (w : Nat) (lt x : List Nat) (i : Nat) : (rowsTo w lt x i).length = i + 1 := by simp [rowsTo]
noncomputable def fixedL (w : Nat) (lt x : List Nat) : List (List Nat) := rowsTo w lt x ((x.length - 1) / w)
theorem fixed_at {w n i : Nat} (hw : 1 ≤ w) (h1 : i = 0 ∨ w * i < n) (h2 : n ≤ w + w * i) : (n - 1) / w = i := by
  by_cases hi : i = 0
  · subst hi
    exact Nat.div_eq_of_lt (by simp at h2; omega)
  · have h3 := h1.resolve_left hi
    have e1 : i * w = w * i := Nat.mul_comm _ _
    have e2 : (i + 1) * w = w + w * i := by rw [Nat.mul_comm, Nat.mul_succ]; omega
    exact Nat.div_eq_of_lt_le (by omega) (by rw [e2]; omega)
theorem fixed_le {w i : Nat} {n k : Int} (h1 : i = 0 ∨ ((w * i : Nat) : Int) < n) (h2 : n ≤ w * (k + 1)) (hk : 0 ≤ k) : (i : Int) ≤ k := by
  rcases h1 with rfl | h1
  · simpa using hk
  · have h3 : (w : Int) * (i : Int) < (w : Int) * (k + 1) := by rw [Int.natCast_mul] at h1; omega
    have := Int.lt_of_mul_lt_mul_left h3 (by omega)
    omega
end Mine

namespace Mine
theorem strsAre_of : ∀ {vs : List Value} {xs : List (List Nat)}, AllR IsT vs xs → StrsAre vs (xs.map S)
  | [], [], _ => .nil
  | v :: vs, x :: xs, h => by
    obtain ⟨y, hy, t, rfl⟩ := h.2 0 v rfl
    cases hy
    exact .cons _ t (strsAre_of ⟨Nat.succ.inj h.1, fun i a ha => h.2 (i + 1) a ha⟩)
  | [], _ :: _, h => by cases h.1
  | _ :: _, [], h => by cases h.1
section
variable {prog : Program} {w : World} {A : Around} {E : Value → Shared → Prop} {s : Shared} {h₀ : Heap} {L : Addr} {m : Str → Option Value} {news : List (Addr × Obj)}
theorem joinS_M {D : Addr} {vs : List Value} {n : Nat} {sep : List Nat} {x : Str} {t : Tok} {xs : List (List Nat)} {Q : Value → Shared → Prop} (N : News h₀ L s.heap news) (hm : (D, W.listOf vs.toArray n) ∈ news) (hr : AllR IsT vs xs) (hx : x = S sep)
    (hb : xs.flatten.length + xs.length * sep.length ≤ 1000000) (h : ∀ t' k, Q (.str (S (joinL sep xs)) t') { s with toks := k }) : wpAny (model prog w) A (call (.builtin "str.join") [.str x t, .ref D]) Q E s := by
  subst hx
  refine join_list (ys := xs.map S) (News.isList N hm) (strsAre_of hr) ?_ fun t' k => ?_
  · rw [List.map_map, List.length_map, S_length]
    have e : (xs.map (fun y => (S y).length)).sum = xs.flatten.length := by
      rw [List.length_flatten]
      congr 1
    show (xs.map (fun y => (S y).length)).sum + _ ≤ _
    rw [e]; omega
  · have e : Txt.join (S sep) (xs.map S) = S (joinL sep xs) := (StrLaws.glued_eq_join _ _).trans (joinL_S sep xs)
    rw [e]
    exact h t' k
end
theorem allLt_mem {d : Addr} {l : List (Addr × Obj)} (h : W.AllLt d l) (p : Addr × Obj) (hp : p ∈ l) : p.1 < d := by
  induction l with
  | nil => cases hp
  | cons q r ih =>
    rcases List.mem_cons.mp hp with e | hp
    · rw [e]; exact h.1
    · exact ih h.2 hp
theorem joinL_nil : ∀ xs : List (List Nat), joinL [] xs = xs.flatten
  | [] => rfl
  | [x] => by simp [joinL]
  | x :: y :: r => by
    show x ++ [] ++ joinL [] (y :: r) = _
    rw [joinL_nil (y :: r)]; simp
end Mine

namespace Mine
noncomputable def marks9 : List Nat := [43, 49, 42, 38, 57, 65, 67]
section
variable {prog : Program} {w : World} {A : Around} {E : Value → Shared → Prop} {s : Shared}
theorem stripS {x y : Str} {a b : List Nat} {t u : Tok} {Q : Value → Shared → Prop} (hx : x = S a) (hy : y = S [32]) (hb : Txt.stripChars (S a) (S [32]) = S b) (hsz : a.length ≤ 1000000) (h : ∀ t' k, Q (.str (S b) t') { s with toks := k }) :
    wpAny (model prog w) A (call (.builtin "str.strip") [.str x t, .str y u]) Q E s := by
  subst hx; subst hy
  exact SCL.stripChars (fun t' k _ => by rw [hb]; exact h t' k) (by rw [S_length, sizeLine_eq]; omega)
end
noncomputable def AltOf (cols : Nat) (card lt y : List Nat) : Prop := ∃ base, (y = base ∨ base.length = cols ∧ y = base ++ [90, 57, 39]) ∧
  ((card[5]? = some 32 ∧ ∃ (ah m : Nat), ah + lt.length ≤ 5 ∧ (m = 32 ∨ m = 48) ∧ base = (List.replicate ah 32 ++ lt ++ [32, 32, 32, 32, 32]).take 5 ++ [m] ++ card.drop 6) ∨
   (card[5]? = some 43 ∧ ∃ m ∈ marks9, base = card.take 5 ++ [m] ++ card.drop 6))
end Mine

namespace Mine
/-- what a class line is to hold of the built-in exceptions -/
structure MroOk (bm : List Value) : Prop where
  hasE : bm.contains (.type "Exception") = true
  hasB : bm.contains (.type "BaseException") = true
  noA : bm.contains (.type "AttributeError") = false
  noN : bm.contains (.type "NameError") = false
/-- what a class that is made by Exception.__new__ answers to those who look at it -/
structure ELook (M : Model) (h : Heap) (C : Addr) (bm : List Value) : Prop where
  ok : MroOk bm
  ty : Looks M h (isType (.ref C)) true
  line : Looks M h (mroOf (.ref C)) (.ref C :: bm)
  sub : ∀ b, Looks M h (isSubtype (.ref C) b) ((Value.ref C :: bm).contains b)
  made : Looks M h (Bind.madeBy (.ref C)) (some "Exception.__new__")
  base : Looks M h (Bind.staticBase (.ref C)) (.ref C)
  here : Looks M h (Bind.madeHere "BaseException.__new__" (.ref C)) ()
section
variable {M : Model} {h : Heap} {C : Addr} {bm : List Value}
theorem ELook.isE (L : ELook M h C bm) : Looks M h (isSubtype (.ref C) (.type "Exception")) true := by
  have := L.sub (.type "Exception")
  rwa [List.contains_cons, L.ok.hasE, Bool.or_true] at this
theorem ELook.notA (L : ELook M h C bm) : Looks M h (isSubtype (.ref C) (.type "AttributeError")) false := by
  have := L.sub (.type "AttributeError")
  rwa [List.contains_cons, L.ok.noA, Bool.or_false] at this
theorem ELook.notN (L : ELook M h C bm) : Looks M h (isSubtype (.ref C) (.type "NameError")) false := by
  have := L.sub (.type "NameError")
  rwa [List.contains_cons, L.ok.noN, Bool.or_false] at this
theorem ELook.self (L : ELook M h C bm) : Looks M h (isSubtype (.ref C) (.ref C)) true := by
  have := L.sub (.ref C)
  rwa [List.contains_cons, beq_self_eq_true, Bool.true_or] at this
end
theorem elook {M : Model} {h : Heap} {C : Addr} {bm : List Value} {nm q : Str} {N : Addr} {bs : List Value} {hdct : Bool} {sn : List Str} {sub : List Value} {ab : Bool} {col : Option Bool} {dd : Option Addr} {k0 k1 k2 k3 k5 : Option Value}
    (K : MroOk bm) (hC : h.get? C = some (excClassObj nm q C N bs bm hdct sn sub ab col dd k0 k1 k2 k3 k5 "Exception.__new__")) : ELook M h C bm where
  ok := K
  ty := by
    unfold isType
    exact (Looks.ld hC).andThen .now
  line _ _ _ _ k z := wpAny_mroOf_exc (k _ _ hC) z
  sub _ _ _ _ _ k z := wpAny_isSubtype_exc (k _ _ hC) z
  made _ _ _ _ k z := wpAny_madeBy_exc (k _ _ hC) z
  base _ _ _ _ k z := wpAny_staticBase_exc (k _ _ hC) z
  here _ _ _ _ k z := wpAny_madeHere_exc PySem.F.excBase_Exception.canon (k _ _ hC) z
theorem ELook.check {M : Model} {A : Around} {E : Value → Shared → Prop} {s : Shared} {C : Addr} {bm : List Value} {rest : List Value} {Q : Unit → Shared → Prop} (L : ELook M s.heap C bm) (hq : Q () s) :
    wpAny M A (checkBuiltinCall "Exception.__new__" ⟨.ref C :: rest, []⟩) Q E s := by
  have F := PySem.F.excBase_Exception
  have e1 := L.isE
  have e2 := L.base
  have e3 := L.made
  have e4 := L.ty
  obtain ⟨h, g, d, t, os⟩ := s
  simp only [checkBuiltinCall, F.newKind, F.newSplit, F.newRow]
  repeat (first | simp only [bne_self_eq_false, Bool.false_eq_true, if_false, Bool.not_true] | lk)
  exact hq
/-- an exception with its arguments, as it is born -/
noncomputable abbrev argT (l : List Value) : Obj := { cls := .type "tuple", data := .seq l.toArray }
noncomputable abbrev rawE (C t : Addr) : Obj := { cls := .ref C, data := .fields #[.ref t, .none, .none, .none, .bool false, .none] }
noncomputable abbrev born (h : Heap) (C : Addr) (l : List Value) : Heap := (h.push (argT l)).push (rawE C h.objs.size)
theorem born_keeps {h : Heap} {C : Addr} {l : List Value} (b : Addr) (o : Obj) (e : h.get? b = some o) : (born h C l).get? b = some o := Heap.get?_push_of_some _ (Heap.get?_push_of_some _ e)
theorem born_at (h : Heap) (C : Addr) (l : List Value) : (born h C l).get? (h.objs.size + 1) = some (rawE C h.objs.size) := by heap_get
theorem born_made (h : Heap) (C : Addr) (l : List Value) : Heap.MadeExcOf h (born h C l) (h.objs.size + 1) (.ref C) l where
  keeps := born_keeps
  new := Heap.get?_none_of_le (Nat.le_succ _)
  there := ⟨_, born_at h C l, Heap.get?_none_of_le (Nat.le_refl _), Heap.get?_push_of_some _ (Heap.get?_push_at rfl rfl)⟩
theorem born_ns {h : Heap} {C N : Addr} {l : List Value} {mN : Str → Option Value} (G : h.Ns N mN) : (born h C l).Ns N mN := G.keeps born_keeps
section
variable {prog : Program} {w : World} {A : Around} {h : Heap} {g : Array GenState} {d : Drawn} {t : Nat} {os : OsState} {C : Addr} {bm : List Value} {nm q : Str} {N : Addr} {bs : List Value} {hdct : Bool} {sn : List Str} {sub : List Value} {ab : Bool} {col : Option Bool} {dd : Option Addr} {k0 k1 k2 k3 k5 : Option Value}
theorem x_new {R : Result → Shared → Prop} (K : MroOk bm) {rest : List Value} (hC : h.get? C = some (excClassObj nm q C N bs bm hdct sn sub ab col dd k0 k1 k2 k3 k5 "Exception.__new__"))
    (hq : R (.ok (.ret (.ref (h.objs.size + 1)))) ⟨born h C rest, g, d, t, os⟩) (hr : rest.length ≤ sizeLine) :
    codeAny (model prog w) A (.builtin "Exception.__new__" ⟨.ref C :: rest, []⟩) R ⟨h, g, d, t, os⟩ := by
  have F := PySem.F.excBase_Exception
  have L : ELook (model prog w) h C bm := elook K hC
  have e1 := L.isE
  have e2 := L.here
  have e3 := L.ty
  have e4 := L.notA
  have e5 := L.notN
  have hends := F.ends
  refine codeAny_builtinAt F.entry ?_
  unfold Builtin.«BaseException.__new__»
  refine PySem.wpAt_bind (show PySem.wpAt _ _ _ (stack >>= _) _ _ _ from PySem.wpAt_bind (PySem.wpAt_stack fun p below => PySem.wpAt_of_wpAny ?_))
  simp only [hends, if_true]
  refine wpAny_pure (PySem.wpAt_of_wpAny ?_)
  rw [F.owner]
  repeat (first | simp only [bne_self_eq_false, Bool.false_eq_true, if_false, Bool.not_true] | lk)
  rw [if_neg (by rw [List.size_toArray]; omega)]
  have hC2 := Heap.get?_push_of_some (rawE C h.objs.size) (Heap.get?_push_of_some (argT rest) hC)
  show wpAny _ _ (alloc (argT rest) >>= fun a => pure (Value.ref a)) _ _ _
  refine wpAny_bind (wpAny_alloc (wpAny_pure (wpAny_bind (wpAny_bind ?_))))
  show wpAny _ _ (alloc (rawE C h.objs.size)) _ _ _
  refine wpAny_alloc (wpAny_bind (wpAny_bind (wpAny_load hC2 ?_)))
  have hq2 : R (.ok (.ret (.ref (h.push (argT rest)).objs.size))) ⟨born h C rest, g, d, t, os⟩ := by
    rw [Heap.size_push]
    exact hq
  exact wpAny_pure (wpAny_pure (wpAny_pure hq2))
theorem init_look {M : Model} {mN : Str → Option Value} {name : Str} {v : Value} (K : MroOk bm) (hC : h.get? C = some (excClassObj nm q C N bs bm hdct sn sub ab col dd k0 k1 k2 k3 k5 "Exception.__new__")) (G : h.Ns N mN) (hi : mN name = some v) :
    Looks M h (typeLookup (.ref C) name) (some v) := by
  have own : Looks M h (classOwn (.ref C) name) (some v) := fun _ _ _ _ k z => wpAny_classOwn_exc (k _ _ hC) (G.keeps k) (hi ▸ z)
  have along : Looks M h (lookupAlong (.ref C :: bm) name) (some v) := by
    rw [lookupAlong_cons]
    exact own.andThen .now
  exact (elook K hC).line.andThen along
theorem x_type_call {E : Value → Shared → Prop} (K : MroOk bm) {mN : Str → Option Value} {rest : List Value} {fI : Addr} {oI : Obj} {Q : Fin → Shared → Prop}
    (hC : h.get? C = some (excClassObj nm q C N bs bm hdct sn sub ab col dd k0 k1 k2 k3 k5 "Exception.__new__")) (G : h.Ns N mN) (hi : mN "__init__" = some (.ref fI)) (hfI : h.get? fI = some oI) (hfc : oI.cls = .type "function")
    (hq : wpAny (model prog w) A (call (.ref fI) (.ref (h.objs.size + 1) :: rest)) (fun r s' => r = .none ∧ Q (.done (.ret (.ref (h.objs.size + 1)))) s') E ⟨born h C rest, g, d, t, os⟩) (hr : rest.length ≤ sizeLine) :
    wpAny (model prog w) A (Builtin.«type.__call__» ⟨.ref C :: rest, []⟩) Q E ⟨h, g, d, t, os⟩ := by
  have L : ELook (model prog w) h C bm := elook K hC
  have e1 := L.line
  have e2 := L.made
  unfold Builtin.«type.__call__»
  repeat (first | simp only [List.isEmpty_cons, Bool.false_eq_true, if_false] | with_reducible refine wpAny_call ?_ | lk)
  refine codeAny_call_builtin_code (Code.quiet_builtin _ PySem.F.excBase_Exception.quiet) (L.check (x_new K hC ?_ hr))
  have a1 : Looks (model prog w) (born h C rest) (typeOf (.ref (h.objs.size + 1))) (.ref C) := (Looks.ld (born_at h C rest)).andThen .now
  have a2 := L.self.keeps (born_keeps (C := C) (l := rest))
  have a3 := (init_look (M := model prog w) K hC G hi).keeps (born_keeps (C := C) (l := rest))
  have a4 : Looks (model prog w) (born h C rest) (bindSpecial (.ref fI) (.ref (h.objs.size + 1))) (.ref fI, [.ref (h.objs.size + 1)]) := by
    have ft : Looks (model prog w) (born h C rest) (typeOf (.ref fI)) (.type "function") := by
      rw [← hfc]
      exact (Looks.ld (born_keeps _ _ hfI)).andThen .now
    exact ft.andThen (Looks.of_pure (by kernel_rfl))
  show wpAny _ _ _ _ _ _
  unfold isInstance callSpecial? specialOf
  repeat (first | simp only [Bool.not_true, Bool.false_eq_true, if_false, List.cons_append, List.nil_append] | with_reducible refine wpAny_mono hq (fun r s' z => ?_) (fun _ _ z => z) | lk)
  obtain ⟨rfl, z⟩ := z
  exact wpAny_pure z
theorem x_call {E : Value → Shared → Prop} (K : MroOk bm) {mN : Str → Option Value} {rest : List Value} {fI : Addr} {oI : Obj} {Q : Value → Shared → Prop}
    (hC : h.get? C = some (excClassObj nm q C N bs bm hdct sn sub ab col dd k0 k1 k2 k3 k5 "Exception.__new__")) (G : h.Ns N mN) (hi : mN "__init__" = some (.ref fI)) (hfI : h.get? fI = some oI) (hfc : oI.cls = .type "function")
    (hq : ∀ h' e, Heap.MadeExcOf h h' e (.ref C) rest →
      wpAny (model prog w) (A.under (.builtin "type.__call__" ⟨.ref C :: rest, []⟩)) (call (.ref fI) (.ref e :: rest)) (fun r s' => r = .none ∧ Q (.ref e) s') E ⟨h', g, d, t, os⟩) (hr : rest.length ≤ sizeLine) :
    wpAny (model prog w) A (call (.ref C) rest) Q E ⟨h, g, d, t, os⟩ := by
  have c1 : Looks (model prog w) h (typeOf (.ref C)) (.type "type") := (Looks.ld hC).andThen .now
  have c2 : Looks (model prog w) h (specialOf (.ref C) "__call__") (some (.builtin "type.__call__")) := c1.andThen (Looks.of_pure tc_lookup)
  have c3 : Looks (model prog w) h (isInstance (.ref C) (.type "type")) true := c1.andThen (Looks.of_pure tc_sub)
  have c4 : Looks (model prog w) h (bindSpecial (.builtin "type.__call__") (.ref C)) (.builtin "type.__call__", [.ref C]) := Looks.of_pure (tc_bind _)
  refine wpAny_call (codeAny_of_tree (show wpAny _ _ (callAny (.ref C) _) _ _ _ from nd_load hC ?_))
  show wpAny _ _ (callAny.viaDunder (.ref C) _) _ _ _
  unfold callAny.viaDunder
  repeat lk
  refine ⟨rfl, ?_⟩
  exact codeAny_call_builtin_at (Code.quiet_builtin _ (by decide +kernel)) entry_typeCall (check_slot tc_kind tc_split c3 (tc_args _ _ _) (x_type_call K hC G hi hfI hfc (hq _ _ (born_made h C rest)) hr))
end
end Mine

namespace Mine
open Builtin Builtin.ObjectAttr
noncomputable def excMro : List Value := [.ref 51, .ref 31, .type "Exception", .type "BaseException", .type "object"]
noncomputable def excOver (K : Frag) (C : Addr) : Bool := (clsIn K C).any fun cd => cd.mro == excMro
noncomputable abbrev excO (t : Addr) (d : Option Addr) : Obj := { cls := .ref 51, dict := d, data := .fields #[.ref t, .none, .none, .none, .bool false, .none] }
section
variable {prog : Program} {w : World} {A : Around} {E : Value → Shared → Prop} {s : Shared} {h₀ : Heap} {L x C : Addr} {m : Str → Option Value} {news : List (Addr × Obj)} {K : Frag} {R : Result → Shared → Prop}
theorem xsa_open {ox : Obj} {od : Option Obj} {name : Str} {tk : Tok} {v : Value} (X : K.In s.heap) (I : InstAt s.heap x ox C od) (hp : excOver K C = true) (ht : takerIn K C name = some none)
    (h : ∀ b, wpAny (model prog w) A.in1 (storeInOwnDict (.ref x) (.ref C) (.str name tk) name v b)
      (fun fin s' => match fin with | .done f => R (.ok f) s' | .again c' => c'.quiet = true ∧ codeAny (model prog w) A c' R s') (fun e s' => R (.error e) s') s) :
    codeAny (model prog w) A (.call (.builtin "object.__setattr__") ⟨[.ref x, .str name tk, v], []⟩) R s := by
  obtain ⟨cd, hc, ho⟩ := any_some hp
  have eqm : cd.mro = excMro := beq_iff_eq.mp ho
  have typ := I.type (M := model prog w)
  have line : Looks (model prog w) s.heap (mroOf (.ref C)) excMro := eqm ▸ (looks_clsIn X hc).andThen .now
  have isO : Looks (model prog w) s.heap (isInstance (.ref x) (.type "object")) true := typ.andThen (looks_mroIn X (by simp only [mroIn, hc, Option.bind_some, eqm]; rfl))
  have pass : refuseLoop (.ref x) "__setattr__" excMro = pure () := by
    simp only [excMro, refuseLoop_ref]
    exact PySem.F.store_Exception.passes _
  cases hf : findIn K (.ref C) name with
  | none => simp only [takerIn, hf, Option.bind_none] at ht; cases ht
  | some attr =>
    have find := looks_findIn (M := model prog w) X hf
    simp only [takerIn, hf, Option.bind_some] at ht
    have take : Looks (model prog w) s.heap (storeTaker? attr) none := by
      cases attr with
      | none => exact .now
      | some a =>
        simp only [Option.map_eq_some_iff] at ht
        obtain ⟨b, hb, hn⟩ := ht
        cases b with
        | true => cases hn
        | false => exact (looks_takesIn X hb).andThen .now
    have SO := PySem.F.store_object
    refine codeAny_call_builtin SO.slot.plain SO.entry (check_slot (i := "object.__setattr__") (owner := "object") (n := "__setattr__") (self := .ref x) (rest := [.str name tk, v]) (kw := []) SO.kind SO.split isO (SO.args (.ref x) (.str name tk) v) ?_)
    rw [osa_eq, refuse_eq]
    obtain ⟨hh, g, d, t, os⟩ := s
    refine wpAny_bind (wpAny_bind (typ.at (wpAny_bind (line.at ?_))))
    rw [pass]
    exact wpAny_pure (wpAny_bind (typ.at (wpAny_bind (find.at (wpAny_bind (take.at (h _)))))))
theorem dict_plain {name : Str} {es : List DictEntry} (hl : (getL name es).isSome = true) : aRefKeyMayBeTheName name es.toArray = false := by
  rw [aRefKeyMayBeTheName_at, List.any_toArray, List.any_toArray]
  cases ha : es.any (·.key.isStr name) with
  | true => rfl
  | false =>
    have hf : es.find? (·.key.isStr name) = none := List.find?_eq_none.mpr fun e he => by
      have := List.any_eq_false.mp ha e he
      simpa using this
    unfold getL at hl
    rw [hf] at hl
    cases hr : es.any (·.refKey) with
    | false => rfl
    | true => rw [hr] at hl; cases hl
theorem sid {Q : Fin → Shared → Prop} {dx : Addr} {es es' : List DictEntry} {n : Nat} {name : Str} {tk : Tok} {v : Value} {pre post : List (Addr × Obj)} (F : Fr h₀ L s.heap m) (N : News h₀ L s.heap (pre ++ (dx, dictOf es n) :: post))
    (hl : (getL name es).isSome = true) (h1 : ∀ p ∈ pre, p.1 ≠ dx) (h2 : ∀ p ∈ post, p.1 ≠ dx) (e : putL name (PyData.keyHash w.params name) (.str name s.toks) v es = es') (hz : es'.length ≤ 1000)
    (h : ∀ h', Fr h₀ L h' m → News h₀ L h' (pre ++ (dx, dictOf es' (putN name es n)) :: post) → Q (.done (.ret .none)) { s with heap := h', toks := s.toks + 1 }) :
    wpAny (model prog w) A (storeInDict dx (.str name tk) name v) Q E s := by
  obtain ⟨U1, U2⟩ := news_upd (f := Obj.putName name (PyData.keyHash w.params name) (.str name s.toks) v) F N h1 h2 (by rw [putName_dict, e] : _ = dictOf es' (putN name es n)) rfl
  have old := (N (dx, dictOf es n) (by simp)).1
  have new := (U2 (dx, dictOf es' (putN name es n)) (by simp)).1
  have small : (dictOf es' (putN name es n)).data.pastItsLine = none := pastItsLine_dict (by rw [List.size_toArray, sizeLine_eq]; omega)
  have put : wpAny (model prog w) A (nsSet dx name v) (fun _ s' => Q (.done (.ret .none)) s' ∧ s'.heap.get? dx = some (dictOf es' (putN name es n))) E s := by
    unfold nsSet
    have at9 : s.heap.get? dx = some (dictOf es n) := old
    refine wpAny_bind (wpAny_bind (wpAny_askSetting (wpAny_pure (wpAny_bind (wpAny_mkText ?_)))))
    refine wpAny_bind (wpAny_loadPart at9 ?_)
    show wpAny _ _ (if aRefKeyMayBeTheName name es.toArray = true then _ else _) _ _ _
    rw [dict_plain hl]
    exact wpAny_updatePart at9 ⟨h _ U1 U2, new⟩
  refine wpAny_bind (wpAny_pure (wpAny_bind (wpAny_mono put (fun _ s' z => wpAny_bind (wpAny_lookBehind z.2 small (wpAny_pure z.1))) fun _ _ z => z)))
theorem set_exc2 {Q : Unit → Shared → Prop} {dx t : Addr} {es es' : List DictEntry} {n : Nat} {name : Str} {v : Value} {post : List (Addr × Obj)} (F : Fr h₀ L s.heap m) (X₀ : K.In h₀) (N : News h₀ L s.heap ((dx, dictOf es n) :: (x, excO t (some dx)) :: post))
    (hs : findIn K (.ref 51) "__setattr__" = some (some (.builtin "object.__setattr__"))) (hp : excOver K 51 = true) (ht : takerIn K 51 name = some none) (hh : hasDictIn K 51 = true)
    (hl : (getL name es).isSome = true) (hxd : x ≠ dx) (h2 : ∀ p ∈ post, p.1 ≠ dx) (e : putL name (PyData.keyHash w.params name) (.str name (s.toks + 1)) v es = es') (hz : es'.length ≤ 1000)
    (h : ∀ h', Fr h₀ L h' m → News h₀ L h' ((dx, dictOf es' (putN name es n)) :: (x, excO t (some dx)) :: post) → Q () { s with heap := h', toks := s.toks + 2 }) :
    wpAny (model prog w) A (setAttr (.ref x) name v) Q E s := by
  have X := X₀.keeps F.keep
  have hx := (N (x, excO t (some dx)) (by simp)).1
  have hdx := (N (dx, dictOf es n) (by simp)).1
  have I : InstAt s.heap x (excO t (some dx)) 51 (some (dictOf es n)) := ⟨hx, rfl, rfl, hdx⟩
  refine set_plain X I hs (xsa_open (s := { s with toks := s.toks + 1 }) X I hp ht fun b => ?_)
  obtain ⟨cd, hc, hd'⟩ := any_some hh
  refine wpAny_bind (wpAny_pure (wpAny_bind (wpAny_bind (wpAny_loadPart hx (wpAny_bind (Looks.here (s := { s with toks := s.toks + 1 }) (looks_clsIn X hc) ?_))))))
  rw [hd']
  refine wpAny_pure (a := some dx) ?_
  refine sid (s := { s with toks := s.toks + 1 }) (pre := []) F N hl (by simp) ?_ e hz fun h' F' N' => h h' F' N'
  intro p hp'
  rcases List.mem_cons.mp hp' with rfl | hp'
  · exact hxd
  · exact h2 p hp'
theorem set_exc1 {Q : Unit → Shared → Prop} {t : Addr} {name : Str} {v : Value} {post : List (Addr × Obj)} (F : Fr h₀ L s.heap m) (X₀ : K.In h₀) (N : News h₀ L s.heap ((x, excO t none) :: post))
    (hs : findIn K (.ref 51) "__setattr__" = some (some (.builtin "object.__setattr__"))) (hp : excOver K 51 = true) (ht : takerIn K 51 name = some none) (hh : hasDictIn K 51 = true) (h2 : ∀ p ∈ post, p.1 ≠ x)
    (h : ∀ D h', Fr h₀ L h' m → News h₀ L h' ((D, dictOf [⟨PyData.keyHash w.params name, .str name (s.toks + 1), v⟩] 1) :: (x, excO t (some D)) :: post) → (∀ p ∈ (x, excO t none) :: post, p.1 < D) → Q () { s with heap := h', toks := s.toks + 2 }) :
    wpAny (model prog w) A (setAttr (.ref x) name v) Q E s := by
  have X := X₀.keeps F.keep
  have hx := (N (x, excO t none) (by simp)).1
  have I : InstAt s.heap x (excO t none) 51 none := ⟨hx, rfl, rfl, trivial⟩
  refine set_plain X I hs (xsa_open (s := { s with toks := s.toks + 1 }) X I hp ht fun b => ?_)
  obtain ⟨cd, hc, hd'⟩ := any_some hh
  refine wpAny_bind (wpAny_pure (wpAny_bind (wpAny_bind (wpAny_loadPart hx (wpAny_bind (Looks.here (s := { s with toks := s.toks + 1 }) (looks_clsIn X hc) ?_))))))
  rw [hd']
  dsimp only
  rw [if_neg (by simp [typeHasDict])]
  have N₁ := News.push F N { cls := .type "dict", data := .dict #[] }
  have F₁ := F.push { cls := .type "dict", data := .dict #[] }
  have hlt : ∀ p ∈ (x, excO t none) :: post, p.1 < s.heap.objs.size := fun p hp => Heap.lt_size (N p hp).1
  obtain ⟨U1, U2⟩ := news_upd (d := x) (o := excO t none) (o' := excO t (some s.heap.objs.size)) (f := fun o => { o with dict := some s.heap.objs.size }) (pre := [(s.heap.objs.size, dictOf [] 0)]) (post := post) F₁ N₁ (by
    intro p hp'
    rw [List.mem_singleton.mp hp']
    exact Nat.ne_of_gt (hlt (x, excO t none) (by simp))) h2 rfl rfl
  refine wpAny_bind (wpAny_alloc ?_)
  refine wpAny_bind (wpAny_update (N₁ (x, excO t none) (by simp)).1 ?_)
  refine wpAny_pure ?_
  refine sid (s := { s with heap := _, toks := s.toks + 1 }) (pre := []) U1 U2 rfl (by simp) ?_ rfl (by simp [putL]) fun h' F' N' => h _ h' F' N' hlt
  intro p hp'
  rcases List.mem_cons.mp hp' with rfl | hp'
  · exact Nat.ne_of_lt (hlt (x, excO t none) (by simp))
  · exact Nat.ne_of_lt (hlt p (by simp [hp']))
end
end Mine

namespace Mine
open Builtin Builtin.ObjectAttr
section
variable {prog : Program} {w : World} {A : Around} {E : Value → Shared → Prop} {s : Shared} {h₀ : Heap} {L e : Addr} {m : Str → Option Value} {news : List (Addr × Obj)} {K : Frag}
theorem x_check_init {M : Model} {rest : List Value} {Q : Unit → Shared → Prop} (sub : Looks M s.heap (isInstance (.ref e) (.type "Exception")) true) {oe : Obj} {C : Addr} {cc : Value} {dd : Option Addr} {cd : ClassData} {sl : Array (Option Value)} (he : s.heap.get? e = some oe) (hcls : oe.cls = .ref C) (hC : s.heap.get? C = some ⟨cc, dd, .cls cd, sl⟩) (hq : Q () s) :
    wpAny M A (checkBuiltinCall "Exception.__init__" ⟨.ref e :: rest, []⟩) Q E s := by
  have FF := PySem.F.excBase_Exception
  have hshort := FF.noStar
  simp only [checkBuiltinCall, FF.initKind, FF.initSplit, FF.initRow]
  refine wpAny_bind (sub.here ?_)
  obtain ⟨hp9, g, d, tk, os⟩ := s
  have he' : hp9.get? e = some oe := he
  have hC' : hp9.get? C = some ⟨cc, dd, .cls cd, sl⟩ := hC
  repeat (first | (with_reducible refine wpAny_loadPart_at he' ?_; rw [hcls]) | with_reducible refine wpAny_loadPart_at hC' ?_ | wp_step)
  refine wpAny_onRaise ?_
  rw [show ∀ (a b : String) (n : Nat), Bind.check ⟨.positional, "*", "Exception", .self, [⟨"args", .varPos, false⟩]⟩ a b n (List.map (fun x => x.fst) ({ pos := Value.ref e :: rest } : Args).kw) = pure () from
    fun a b n => check_star_args _ _ _ _ _ _]
  exact wpAny_pure hq
theorem exc_init {Q : Value → Shared → Prop} {t : Addr} {v : Value} {post : List (Addr × Obj)} (F : Fr h₀ L s.heap m) (X₀ : K.In h₀) (N : News h₀ L s.heap ((e, excO t none) :: post)) (hp : excOver K 51 = true) (h2 : ∀ p ∈ post, p.1 ≠ e)
    (h : ∀ t' h', Fr h₀ L h' m → News h₀ L h' ((e, excO t' none) :: (t', tup [v]) :: post) → (∀ p ∈ (e, excO t none) :: post, p.1 < t') → Q .none { s with heap := h' }) :
    wpAny (model prog w) A (call (.builtin "Exception.__init__") [.ref e, v]) Q E s := by
  have X := X₀.keeps F.keep
  have FF := PySem.F.excBase_Exception
  have hx := (N (e, excO t none) (by simp)).1
  have I : InstAt s.heap e (excO t none) 51 none := ⟨hx, rfl, rfl, trivial⟩
  obtain ⟨cd, hc, ho⟩ := any_some hp
  have hC9 : ∃ cc dd sl, s.heap.get? 51 = some ⟨cc, dd, .cls cd, sl⟩ := by
    unfold clsIn at hc
    split at hc
    · rename_i ho; cases hc; exact ⟨_, _, _, X _ _ ho⟩
    · cases hc
  obtain ⟨cc9, dd9, sl9, hC9⟩ := hC9
  have hmro : cd.mro = excMro := beq_iff_eq.mp ho
  have sub : Looks (model prog w) s.heap (isInstance (.ref e) (.type "Exception")) true := I.type.andThen (looks_mroIn X (by unfold mroIn; rw [hc, Option.bind_some, hmro]; rfl))
  refine wpAny_call (codeAny_call_builtin FF.init.plain FF.initEntry (x_check_init sub hx rfl hC9 ?_))
  have hlt : ∀ p ∈ (e, excO t none) :: post, p.1 < s.heap.objs.size := fun p hp => Heap.lt_size (N p hp).1
  have N₁ := News.push F N (tup [v])
  have F₁ := F.push (tup [v])
  obtain ⟨U1, U2⟩ := news_upd (d := e) (o := excO t none) (o' := excO s.heap.objs.size none) (f := Obj.mapFields fun x => x.setIfInBounds 0 (Value.ref s.heap.objs.size)) (pre := [(s.heap.objs.size, tup [v])]) (post := post) F₁ N₁ (by
    intro p hp'
    rw [List.mem_singleton.mp hp']
    exact Nat.ne_of_gt (hlt (e, excO t none) (by simp))) h2 rfl rfl
  obtain ⟨hp9, g, d, tk, os⟩ := s
  have hget : hp9.get? e = some { cls := .ref 51, data := .fields #[.ref t, .none, .none, .none, .bool false, .none] } := hx
  wp_walk
  refine h _ _ U1 (fun p hp => U2 p ?_) hlt
  simp only [List.mem_cons, List.cons_append, List.mem_append, List.nil_append] at hp ⊢; grind
end
end Mine

namespace Mine
theorem ov51 {w : World} : excOver (hK.heap_1 w.params) 51 = true := by
  w_top off
  have fill9 : Mine.Fills PySem.Challenge.rw_sa0210_01 Mine.hK.heap_1 := by (k_fill; exact True.intro)
  have e2 : ∃ cd, clsIn (hK.heap_1 w.params) 51 = some cd ∧ (cd.mro == excMro) = true := ⟨_, by k_is, by rfl⟩
  obtain ⟨cd, h1, h2⟩ := e2
  unfold excOver
  rw [h1]
  exact h2
end Mine

section s13
local macro_rules | `(tactic| walk_at "getMethod") => `(tactic| (k_here; (with_reducible show wpAny _ _ (getMethod (Value.type _) _ _) _ _ _); k_dflt (refine' method_type ?k1 ?k2 ?k3 ?k4 ?k5 ?k6 ?_; (case k1 => k_asm); (case k2 => k_asm); (case k3 => first | exact rfl | kernel_rfl); (case k4 => decide +kernel); (case k5 => k_is); (case k6 => decide +kernel); k_whole)))
local macro_rules | `(tactic| walk_at "call builtin:Exception.__init__") => `(tactic| (k_here; k_dflt (refine' Mine.exc_init ?k1 ?k2 ?k3 ?k4 ?k5 ?_; (case k1 => k_asm); (case k2 => k_asm); (case k3 => k_asm); (case k4 => exact Mine.ov51); (case k5 => k_all); k_whole); intro _ _ _ _ lt9; (have lt8 := lt9); (try k_lt lt8); (try k_sweep)))

section s9
namespace Mine
theorem i28 {w : World} {mean : ExcName → Option Value} {mg mb : Str → Option Value} {e t : Addr} {x : List Nat} {u : Tok} {post : List (Addr × Obj)} (h2 : ∀ p ∈ post, p.1 ≠ e) :
    CallIs w mean mg mb 10 100 28 [.ref e, .str (S x) u] ((e, excO t none) :: post) (fun r news' => r = .none ∧ ∃ t' D k, news' = (D, dictOf [⟨PyData.keyHash w.params (Str.ofString "text"), .str (Str.ofString "text") k, .str (S x) u⟩] 1) :: (e, excO t' (some D)) :: (t', tup [.str (S x) u]) :: post ∧ e < t' ∧ t' < D ∧ (∀ p ∈ post, p.1 < t')) := by
  intro dp un gd cn cs a ccd cl outer A₀ base h₀ L m s Q B F X N T hks hdp hun hret
  w_top off
  have fill9 : Mine.Fills PySem.Challenge.rw_sa0210_01 Mine.hK.heap_1 := by (k_fill; exact True.intro)
  refine wpAny_call ?_
  k_dflt (refine' code_def ?k1 ?k2 ?k3 ?k4 ?k5 ?kA ?kF ?kK ?k6 ?k7 ?k8 ?k9 ?kB ?_ ?c2 ?c3 ?c4 ?c5; (case kA => exact rfl); (case kF => exact rfl); (case kK => assumption); (case k1 => k_asm); (case k2 => k_asm); (case k3 => k_asm); (case k4 => k_asm); (case k5 => k_asm); (case k6 => k_is); (case k7 => k_is); (case k8 => ktr_room); (case k9 => first | exact BindsTo.of_eq rfl | exact binds_K (by k_in) rfl (by k_is) rfl rfl rfl); (case c5 => decide); (case kB => exact locs rfl); (case c2 => exact rfl); (case c3 => exact rfl); (case c4 => exact rfl); k_whole)
  intro g' L' h' FG' F' N' B' X' T'
  try dsimp only
  refine to_done F' hret (fun _ _ h => h) ?_
  clear FG'
  clear F X N T B hret
  k_steps
  rename_i t1 _ F1 N1 lt1 _
  refine set_exc1 F1 X' N1 (by k_is) ov51 (by k_is) (by k_is) ?_ (fun D h9 F9 N9 lt9 => ?_)
  · intro p hp
    rcases List.mem_cons.mp hp with rfl | hp
    · exact Nat.ne_of_gt (lt1 (e, excO t none) (by simp))
    · exact h2 p hp
  k_steps
  exact ⟨_, _, _, _, rfl, F9, N9, rfl, t1, D, _, rfl, lt1 (e, excO t none) (by simp), lt9 (t1, tup [.str (S x) u]) (by simp), fun p hp => lt1 p (by simp [hp])⟩
end Mine

end s9

section s12
local macro_rules | `(tactic| walk_at "call ref") => `(tactic| (k_here; (with_reducible show wpAny _ _ (call (Value.ref 28) _) _ _ _); k_dflt (refine' Mine.CallIs.use (Mine.i28 ?p0) ?k1 ?k2 ?k3 ?k4 ?k5 ?k6 ?k7 ?k8 ?_; (case k1 => k_asm); (case k2 => k_asm); (case k3 => k_asm); (case k4 => k_asm); (case k5 => k_asm); (case k6 => first | exact rfl | assumption); (case k7 => ktr_room); (case k8 => ktr_units); (case p0 => k_all); k_whole); (rintro r9 n9 h9 tk9 F9 N9 ⟨e9, t8, D8, k8, e8, o1, o2, o3⟩; subst e9; subst e8; (try dsimp only); (try k_sweep))))

section s10
namespace Mine
theorem i48 {w : World} {mean : ExcName → Option Value} {mg mb : Str → Option Value} {e t : Addr} {k : Int} {tk : Tok} {x : List Nat} {u : Tok} {post : List (Addr × Obj)} (h2 : ∀ p ∈ post, p.1 ≠ e) :
    CallIs w mean mg mb 20 200 48 [.ref e, .int k tk, .str (S x) u] ((e, excO t none) :: post) (fun r news' => r = .none ∧ ∃ t' D es, news' = (D, dictOf es 2) :: (e, excO t' (some D)) :: (t', tup [.str (S x) u]) :: post ∧ e < t' ∧ t' < D ∧ (∀ p ∈ post, p.1 < t')) := by
  intro dp un gd cn cs a ccd cl outer A₀ base h₀ L m s Q B F X N T hks hdp hun hret
  w_top off
  have fill9 : Mine.Fills PySem.Challenge.rw_sa0210_01 Mine.hK.heap_1 := by (k_fill; exact True.intro)
  refine wpAny_call ?_
  k_dflt (refine' code_def ?k1 ?k2 ?k3 ?k4 ?k5 ?kA ?kF ?kK ?k6 ?k7 ?k8 ?k9 ?kB ?_ ?c2 ?c3 ?c4 ?c5; (case kA => exact rfl); (case kF => exact rfl); (case kK => assumption); (case k1 => k_asm); (case k2 => k_asm); (case k3 => k_asm); (case k4 => k_asm); (case k5 => k_asm); (case k6 => k_is); (case k7 => k_is); (case k8 => ktr_room); (case k9 => first | exact BindsTo.of_eq rfl | exact binds_K (by k_in) rfl (by k_is) rfl rfl rfl); (case c5 => decide); (case kB => exact locs rfl); (case c2 => exact rfl); (case c3 => exact rfl); (case c4 => exact rfl); k_whole)
  intro g' L' h' FG' F' N' B' X' T'
  try dsimp only
  refine to_done F' hret (fun _ _ h => h) ?_
  clear FG'
  clear F X N T B hret
  k_steps
  rename_i h9 _ F9 t8 D8 k8 o1 o2 o3 N9
  refine set_exc2 F9 X' N9 (by k_is) ov51 (by k_is) (by k_is) rfl (Nat.ne_of_lt (Nat.lt_trans o1 o2)) ?_ rfl (by simp [putL]; split <;> simp) (fun h7 F7 N7 => ?_)
  · intro p hp
    rcases List.mem_cons.mp hp with rfl | hp
    · exact Nat.ne_of_lt o2
    · exact Nat.ne_of_lt (Nat.lt_trans (o3 p hp) o2)
  k_steps
  exact ⟨_, _, _, _, rfl, F7, N7, rfl, t8, D8, _, rfl, o1, o2, o3⟩
end Mine

end s10

section s11
namespace Mine
theorem und {dp un : Nat} {gd : Option (List Code)} {cn : Str} {cs : Scope} {a L : Addr} {ccd : Value} {cl : List (Str × Addr)} {outer : List Env} {rest : List Value} :
    ∃ k u, (ktrTop dp un gd cn cs L a ccd cl outer).under (.builtin "type.__call__" ⟨.ref 51 :: rest, []⟩) = ktrTop (dp + k) (un + u) gd cn cs L a ccd cl outer ∧ k ≤ 4 ∧ u ≤ 4 := by
  refine ⟨(Code.builtin "type.__call__" ⟨.ref 51 :: rest, []⟩).weight, (Code.builtin "type.__call__" ⟨.ref 51 :: rest, []⟩).cUnits, ?_, ?_, ?_⟩
  · rfl
  · exact Nat.le_of_ble_eq_true (by kernel_rfl)
  · exact Nat.le_of_ble_eq_true (by kernel_rfl)
theorem ns_some {K : Frag} {h : Heap} {N : Addr} {mg : Str → Option Value} {n : Str} {v : Value} (X : K.In h) (G : h.Ns N mg) (e : nsIn K N n = some (some v)) : mg n = some v := by
  obtain ⟨o, es, ep, ho, hd, _, hf⟩ := G
  unfold nsIn at e
  split at e
  · rename_i c d es' n' sl q
    have := X _ _ q
    rw [ho] at this
    cases this
    cases hd
    split at e
    · rename_i en he
      have hv : en.val = v := Option.some.inj (Option.some.inj e)
      rw [← hf, ← hv]
      unfold nsFind findBy
      rw [← Array.find?_toList, he]
      rfl
    · split at e <;> cases e
  · cases e
theorem facts51 {w : World} {h₀ : Heap} (X : (hK.heap_1 w.params).In h₀) : ∃ nm q N bs hdct sn sub ab col dd k0 k1 k2 k3 k5 oI mN, h₀.get? 51 = some (excClassObj nm q 51 N bs [.ref 31, .type "Exception", .type "BaseException", .type "object"] hdct sn sub ab col dd k0 k1 k2 k3 k5 "Exception.__new__") ∧
    h₀.Ns N mN ∧ mN "__init__" = some (.ref 48) ∧ h₀.get? 48 = some oI ∧ oI.cls = .type "function" := by
  w_top off
  have fill9 : Mine.Fills PySem.Challenge.rw_sa0210_01 Mine.hK.heap_1 := by (k_fill; exact True.intro)
  have e1 : ∃ nm q N bs hdct sn sub ab col dd k0 k1 k2 k3 k5, (hK.heap_1 w.params).lookup 51 = some (excClassObj nm q 51 N bs [.ref 31, .type "Exception", .type "BaseException", .type "object"] hdct sn sub ab col dd k0 k1 k2 k3 k5 "Exception.__new__") ∧ nsIn (hK.heap_1 w.params) N "__init__" = some (some (.ref 48)) ∧
    ∃ es n c d sl, (hK.heap_1 w.params).lookup N = some ⟨c, d, .dict es n, sl⟩ ∧ (es.all fun e => match e.key with | .str _ _ => true | _ => false) = true := ⟨_, _, _, _, _, _, _, _, _, _, _, _, _, _, _, by k_is, by k_is, _, _, _, _, _, by k_is, by rw [← Array.all_toList]; rfl⟩
  obtain ⟨nm, q, N, bs, hdct, sn, sub, ab, col, dd, k0, k1, k2, k3, k5, h1, h2, es, n, c, d, sl, h3, h4⟩ := e1
  have e2 : ∃ c d dt sl, (hK.heap_1 w.params).lookup 48 = some ⟨c, d, dt, sl⟩ ∧ c = .type "function" := ⟨_, _, _, _, by k_is, rfl⟩
  obtain ⟨c2, d2, dt2, sl2, h5, h6⟩ := e2
  have hok : nsOkIn (hK.heap_1 w.params) N = true := by unfold nsOkIn; rw [h3]; exact h4
  have G := Heap.Ns.of_isNs (isNs_of_in X hok)
  exact ⟨nm, q, N, bs, hdct, sn, sub, ab, col, dd, k0, k1, k2, k3, k5, _, _, X _ _ h1, G, ns_some X G h2, X _ _ h5, h6⟩
theorem mk51 {w : World} {mean : ExcName → Option Value} {mg mb : Str → Option Value} {k : Int} {tk : Tok} {x : List Nat} {u : Tok} {news : List (Addr × Obj)} :
    CallIs w mean mg mb 30 300 51 [.int k tk, .str (S x) u] news (fun r news' => ∃ e t t' D es, r = .ref e ∧ news' = (D, dictOf es 2) :: (e, excO t' (some D)) :: (t', tup [.str (S x) u]) :: (t, tup [.int k tk, .str (S x) u]) :: news ∧ (∀ p ∈ news, p.1 ≠ t ∧ p.1 ≠ e ∧ p.1 < t') ∧ t ≠ e ∧ e < t' ∧ t < t' ∧ t' < D) := by
  intro dp un gd cn cs a ccd cl outer A₀ base h₀ L m s Q B F X N T hks hdp hun hret
  obtain ⟨nm, q, Ns, bs, hdct, sn, sub, ab, col, dd, k0, k1, k2, k3, k5, oI, mN, hC, G, hi, hf, hfc⟩ := facts51 (X.keeps F.keep)
  obtain ⟨hp9, g, d, tk9, os⟩ := s
  refine x_call (bm := [.ref 31, .type "Exception", .type "BaseException", .type "object"]) ⟨by decide, by decide, by decide, by decide⟩ hC G hi hf hfc (fun h' e M => ?_) (by rw [sizeLine_eq]; show 2 ≤ 16777216; decide)
  obtain ⟨k9, u9, eu, hk9, hu9⟩ := und (dp := dp) (un := un) (gd := gd) (cn := cn) (cs := cs) (a := a) (L := L) (ccd := ccd) (cl := cl) (outer := outer) (rest := [.int k tk, .str (S x) u])
  rw [eu]
  obtain ⟨t, he, htn, ht⟩ := M.there
  have hnL : ∀ b : Addr, hp9.get? b = none → b ≠ L := fun b hb q => by
    obtain ⟨o, _, _, ho, _⟩ := F.ns
    rw [q] at hb
    have ho' : hp9.get? L = some o := ho
    rw [hb] at ho'; cases ho'
  have hn0 : ∀ b : Addr, hp9.get? b = none → h₀.get? b = none := fun b hb => by
    cases q : h₀.get? b with
    | none => rfl
    | some o => have := F.keep b o q; rw [show (⟨hp9, g, d, tk9, os⟩ : Shared).heap.get? b = hp9.get? b from rfl, hb] at this; cases this
  have hnN : ∀ b : Addr, hp9.get? b = none → ∀ p ∈ news, p.1 ≠ b := fun b hb p hp q => by
    have := (N p hp).1
    rw [q, show (⟨hp9, g, d, tk9, os⟩ : Shared).heap.get? b = hp9.get? b from rfl, hb] at this; cases this
  have hte : t ≠ e := fun q => by rw [q, he] at ht; cases ht
  have F' : Fr h₀ L h' m := F.keeps M.keeps
  have N' : News h₀ L h' ((e, excO t none) :: (t, tup [.int k tk, .str (S x) u]) :: news) :=
    news_cons he (hnL e M.new) (hn0 e M.new) (news_cons ht (hnL t htn) (hn0 t htn) fun p hp => ⟨M.keeps _ _ (N p hp).1, (N p hp).2⟩)
  refine CallIs.use (s := ⟨h', g, d, tk9, os⟩) (i48 (t := t) (post := (t, tup [.int k tk, .str (S x) u]) :: news) ?_) B F' X N' T hks (by omega) (by omega) ?_
  · intro p hp
    rcases List.mem_cons.mp hp with rfl | hp
    · exact hte
    · exact hnN e M.new p hp
  · rintro r news' h7 tk7 F7 N7 ⟨rfl, t', D, es, rfl, o1, o2, o3⟩
    exact ⟨rfl, hret _ _ _ _ F7 N7 ⟨e, t, t', D, es, rfl, rfl, fun p hp => ⟨hnN t htn p hp, hnN e M.new p hp, o3 p (.tail _ hp)⟩, hte, o1, o3 (t, tup [.int k tk, .str (S x) u]) (.head _), o2⟩⟩
end Mine

end s11

end s12

end s13

namespace Mine
section
variable {M : Model} {A : Around} {E : Value → Shared → Prop} {s' : Shared} {base g : Heap} {outer : List Env} {L a e t D : Addr} {m : Str → Option Value} {name : Str} {scope : Scope} {cd : Value} {Q : Unit → Shared → Prop} {news rest : List (Addr × Obj)} {vs : List Value}
theorem leave_exc (K : Below A base outer g) (F : Fr g L s'.heap m) (N : News g L s'.heap ((e, excO t (some D)) :: (t, tup vs) :: rest)) (Nl : News g L s'.heap news) (hap : ∀ q ∈ news, q.1 ≠ e ∧ q.1 ≠ t)
    (hQ : ∀ h', RaisedK base outer e (.ref 51) t vs news h' → g.UpToSlots h' → Q () { s' with heap := h' }) (hk : scope.kind = .function := by rfl) :
    wpAny M (A.deeper (envOf name scope L a cd)) (leaving (envOf name scope L a cd) (.ref e)) Q E s' := by
  have K' := K.push (name := name) (a := a) (cd := cd) F hk
  have he := N (e, excO t (some D)) (by simp)
  have ht := N (t, tup vs) (by simp)
  have be : base.get? e = none := fresh_of_stays K.stays he.2.2
  have bt : base.get? t = none := fresh_of_stays K.stays ht.2.2
  generalize has : (envOf name scope L a cd :: outer).filterMap (·.frame) ++ [e, t] = as
  have hin : ∀ env ∈ (envOf name scope L a cd :: outer), ∀ b, env.frame = some b → b ∈ as := fun env he b hb => by
    rw [← has]; exact List.mem_append_left _ (List.mem_filterMap.mpr ⟨env, he, hb⟩)
  have st : base.StaysIn (hideAll s'.heap as) := fun b o q => hideAll_get _ (K'.stays b o q) fun hm => by
    rw [← has] at hm
    rcases List.mem_append.mp hm with hm | hm
    · rw [(K'.frames.mem hm).1] at q; cases q
    · rcases List.mem_cons.mp hm with hm | hm
      · rw [hm, be] at q; cases q
      · rw [List.mem_singleton.mp hm, bt] at q; cases q
  have hl : ∀ q ∈ news, (hideAll s'.heap as).get? q.1 = some q.2 ∧ base.get? q.1 = none := fun q hq => by
    refine ⟨hideAll_get _ (Nl q hq).1 fun hm => ?_, fresh_of_stays K.stays (Nl q hq).2.2⟩
    rw [← has] at hm
    rcases List.mem_append.mp hm with hm | hm
    · obtain ⟨env, he, hf⟩ := List.mem_filterMap.mp hm
      rcases List.mem_cons.mp he with rfl | he
      · exact (Nl q hq).2.1 (Option.some.inj hf).symm
      · obtain ⟨o, ho, _⟩ := (K.frames.mem (List.mem_filterMap.mpr ⟨env, he, hf⟩)).2
        rw [(Nl q hq).2.2] at ho; cases ho
    · rcases List.mem_cons.mp hm with hm | hm
      · exact (hap q hq).1 hm
      · exact (hap q hq).2 (List.mem_singleton.mp hm)
  have Be : (hideAll s'.heap as).get? e = none := hideAll_none _ (by rw [← has]; simp)
  have Bt : (hideAll s'.heap as).get? t = none := hideAll_none _ (by rw [← has]; simp)
  refine wpAny_leaving_firstW (base := hideAll s'.heap as) (a0 := .ref t) K'.stack (funFrames_hide K'.frames hin) rfl he.1 (fun b o q => of_hideAll _ q) Be rfl rfl rfl fun h' hL => ?_
  obtain ⟨k1, ⟨_, _, k2⟩, k3, k4⟩ := hL
  exact hQ h' ⟨⟨_, st, hl, ⟨k1, Be, k2, k3⟩, Bt⟩, Heap.TupAt.of_slots ⟨_, _, ht.1, rfl, rfl⟩ k4⟩ ((Heap.UpToSlots.of_keeps F.keep).trans k4)
end
section
variable {M : Model} {A : Around} {E : Value → Shared → Prop} {env : Env}
variable {nm q : Str} {C N : Addr} {bs bm : List Value} {hdct : Bool} {sn : List Str} {sub : List Value} {ab : Bool} {col : Option Bool} {dd : Option Addr} {k0 k1 k2 k3 k5 : Option Value} {newId : String}
end
end Mine

namespace Mine
section
variable {prog : Program} {w : World} {A : Around} {s : Shared} {env : Env} {h₀ : Heap}
end
end Mine

namespace Mine
noncomputable def RaisePt (E : Value → Shared → Prop) (v : Value) (s : Shared) : Prop := ∃ (e t : Addr) (d dd : Option Addr) (nm q : Str) (N : Addr) (bs : List Value) (hdct : Bool) (sn : List Str) (sub : List Value) (ab : Bool) (col : Option Bool) (k0 k1 k2 k3 k5 : Option Value),
  v = .ref e ∧ s.heap.get? 51 = some (excClassObj nm q 51 N bs [.ref 31, .type "Exception", .type "BaseException", .type "object"] hdct sn sub ab col dd k0 k1 k2 k3 k5 "Exception.__new__") ∧
    s.heap.get? e = some { cls := .ref 51, dict := d, data := .fields #[.ref t, .none, .none, .none, .bool false, .none] } ∧ E (.ref e) s
section
variable {M : Model} {A : Around} {E : Value → Shared → Prop} {env : Env}
theorem y_raiseStmt {s : Shared} {x : Sem Value} {Q : Flow → Shared → Prop} (hh : A.handled = none) (h : wpAny M A x (RaisePt E) E s) : wpAny M A (raiseStmt env (some x) none) Q E s := by
  have hcB : (Value.ref 51 :: [.ref 31, .type "Exception", .type "BaseException", .type "object"]).contains (.type "BaseException") = true := by decide
  unfold raiseStmt
  refine wpAny_bind (wpAny_mono h (fun v s₁ h₁ => ?_) fun _ _ x => x)
  obtain ⟨e, t, d9, dd, nm, q, N, bs, hdct, sn, sub, ab, col, k0, k1, k2, k3, k5, rfl, hC, he, hE⟩ := h₁
  obtain ⟨hp, g, d, tk, os⟩ := s₁
  repeat (first | with_reducible refine wpAny_loadPart_at he ?_ | with_reducible refine wpAny_loadPart_at hC ?_ | (with_reducible refine wpAny_isSubtype_exc hC ?_; rw [hcB]) | wp_step)
  exact wpAny_raiseNew_none hh hE
variable {prog : Program} {w : World} {s : Shared}
theorem Raise_x {x : Str} {np cpos pos : Pos} {args : List Expr} {Q : Flow → Shared → Prop} (hh : A.handled = none)
    (h : wpAny (model prog w) A (eval (.Call (.Name x np) args [] cpos) env) (RaisePt E) E s) :
    wpAny (model prog w) A (exec (.Raise (some (.Call (.Name x np) args [] cpos)) none pos) env) Q E s := by
  rw [arm_exec_Raise]
  first
    | refine wpAny_bind (wpAny_standAt (y_raiseStmt hh (wpAny_bind (wpAny_mono h (fun v s₃ h₃ => wpAny_bind (wpAny_standAt (wpAny_pure h₃))) fun _ _ x => x))))
    | (simp only [evalOpt, Option.map]; refine wpAny_bind (wpAny_standAt (y_raiseStmt hh (wpAny_bind (wpAny_mono h (fun v s₃ h₃ => wpAny_bind (wpAny_standAt (wpAny_pure h₃))) fun _ _ x => x)))))
    | (refine wpAny_bind (wpAny_standAt (y_raiseStmt hh ?_)); exact h)
    | (refine wpAny_bind (wpAny_standAt (y_raiseStmt hh h)))
end
end Mine

namespace Mine
noncomputable def LabIn (k : Int) : Prop := k = 0 ∨ k = 7 ∨ k = 40 ∨ k = 99999
noncomputable def labT (k : Int) : List Nat := if k = 7 then [55] else if k = 40 then [52, 48] else if k = 99999 then [57, 57, 57, 57, 57] else []
theorem labT_ok {k : Int} (h : LabIn k) : Str.ofString (toString k) = S (labT k) ∧ 0 < k ∨ labT k = [] ∧ k = 0 := by
  rcases h with rfl | rfl | rfl | rfl
  · exact .inr ⟨rfl, rfl⟩
  · exact .inl ⟨by decide +kernel, by decide⟩
  · exact .inl ⟨by decide +kernel, by decide⟩
  · exact .inl ⟨by decide +kernel, by decide⟩
theorem labT_len {k : Int} (h : LabIn k) : (labT k).length ≤ 5 := by
  rcases h with rfl | rfl | rfl | rfl <;> decide
structure PairOk (cols : Nat) (conts : Int) (p : Int × List Nat) : Prop where
  lab : LabIn p.1
  len : p.2.length ≤ 100
  fit : (p.2.length : Int) ≤ ((cols : Int) - 6) * (conts + 1)
noncomputable def fixedP (cols : Nat) (p : Int × List Nat) : List (List Nat) := fixedL (cols - 6) (labT p.1) p.2
noncomputable def rowsAll (cols : Nat) (ps : List (Int × List Nat)) : List (List Nat) := (ps.map (fixedP cols)).flatten
theorem rowsAll_snoc (cols : Nat) (ps : List (Int × List Nat)) (p : Int × List Nat) : rowsAll cols (ps ++ [p]) = rowsAll cols ps ++ fixedP cols p := by simp [rowsAll]
theorem fixedP_len {cols : Nat} {p : Int × List Nat} (h : p.2.length ≤ 100) : (fixedP cols p).length ≤ 101 := by
  unfold fixedP fixedL
  rw [rowsTo_len]
  have := Nat.div_le_self (p.2.length - 1) (cols - 6)
  omega
theorem rowsAll_len {cols : Nat} : ∀ {ps : List (Int × List Nat)}, (∀ p ∈ ps, p.2.length ≤ 100) → (rowsAll cols ps).length ≤ 101 * ps.length
  | [], _ => by simp [rowsAll]
  | p :: r, h => by
    have h1 := fixedP_len (cols := cols) (h p (by simp))
    have h2 := rowsAll_len (cols := cols) (ps := r) fun q hq => h q (by simp [hq])
    unfold rowsAll at *
    rw [List.map_cons, List.flatten_cons, List.length_append, List.length_cons]
    omega
end Mine

namespace Mine
noncomputable abbrev cloth (l : Addr) (k : Int) (tk : Tok) (n : Nat) : Obj := W.listOf #[.ref l, .int k tk] n
theorem snip_u {w : World} {mean : ExcName → Option Value} {mg mb : Str → Option Value} {c l : Addr} {k many : Int} {tk tm : Tok} {n : Nat} {vs : List Value} {ns : List Int} {nl : Nat} {news : List (Addr × Obj)} {g : Obj → List (Addr × Obj)}
    (U : UpdF c (cloth l k tk n) news g) (hl : (l, W.listOf vs.toArray nl) ∈ news) (hlc : l ≠ c) (hi : IntsAre vs ns) (hlen : vs.length ≤ 60) (hk : 0 ≤ k) (hk2 : k < 1000000) (hm : 0 < many) (hm2 : many < 1000000) :
    CallIs w mean mg mb 5 50 195 [.ref c, .int many tm] news (fun r news' => ∃ v t tk', r = .int v t ∧ 0 ≤ v ∧ v < many ∧ news' = g (cloth l (k + 1) tk' n)) := by
  obtain ⟨pre, post, rfl, hg, hp, hq⟩ := U.split
  have hl' : (l, W.listOf vs.toArray nl) ∈ pre ++ post := by
    rcases List.mem_append.mp hl with h | h
    · exact List.mem_append_left _ h
    · rcases List.mem_cons.mp h with h | h
      · exact absurd (congrArg Prod.fst h) hlc
      · exact List.mem_append_right _ h
  refine CallIs.conv (snip_spec (n := n) (tk := tk) (tm := tm) hl' hi hlen (fun p h => (List.mem_append.mp h).elim (hp p) (hq p)) hk hk2 hm hm2) ?_ ?_
  · intro p hp'
    simp only [List.mem_cons, List.mem_append] at hp' ⊢; grind
  · rintro r n' ⟨v, t, tk', e, h0, h1, rfl⟩
    refine ⟨g (cloth l (k + 1) tk' n), fun p hp' => ?_, v, t, tk', e, h0, h1, rfl⟩
    rw [hg] at hp'
    simp only [List.mem_cons, List.mem_append] at hp' ⊢; grind
section
variable {M : Model} {A : Around} {E : Value → Shared → Prop} {s : Shared} {K : Frag} {h₀ : Heap} {L a C : Addr} {m mg mb : Str → Option Value} {cn : Str} {cs scope : Scope} {ccd : Value} {cl cl' : List (Str × Addr)} {p : Program} {loose : List Str}
  {x : Str} {pos : Pos} {v : Value} {Q : Value → Shared → Prop} {news : List (Addr × Obj)} {c : Addr} {o : Obj}
end
end Mine

section s15
local macro_rules | `(tactic| walk_at "eval ListComp") => `(tactic| (k_here; (with_reducible rename Fr _ _ _ _ => kF9); k_dflt (refine' Mine.comp_M kF9 ?c1 ?c2 ?c3 ?c4 ?c5 ?_; (case c1 => with_unfolding_all rfl); (case c2 => decide); (case c3 => exact rfl); (case c4 => decide); (case c5 => (intro _; rfl)); k_whole)))
local macro_rules | `(tactic| walk_at "eval Name") => `(tactic| (with_reducible show wpAny _ _ (eval _ (compEnvC _ _ _ _)) _ _ _); refine Mine.ldC_local (by k_asm) (by with_unfolding_all rfl) ?_)

section s14
namespace Mine
theorem told_spec {w : World} {mean : ExcName → Option Value} {mg mb : Str → Option Value} {l : Addr} {vs : List Value} {n : Nat} {ts : List T3} {news : List (Addr × Obj)} (hl : (l, W.listOf vs.toArray n) ∈ news) (hr : AllR (IsT3 news) vs ts) (hn : ts.length ≤ 1000) :
    CallIs w mean mg mb 10 100 212 [.ref l] news (fun r news' => ∃ lo os no tl, r = .ref lo ∧ news' = (lo, W.listOf os.toArray no) :: (tl ++ news) ∧ AllR (IsP tl) os (ts.map (·.2)) ∧ (∀ p ∈ news, p.1 < lo ∧ ∀ q ∈ tl, p.1 < q.1) ∧ ∀ q ∈ tl, q.1 ≠ lo) := by
  intro dp un gd cn cs' a ccd cl outer A₀ base h₀ L m s Q B F X N T hks hdp hun hret
  w_top off
  have fill9 : Mine.Fills PySem.Challenge.rw_sa0210_01 Mine.hK.heap_1 := by (k_fill; exact True.intro)
  refine wpAny_call ?_
  k_dflt (refine' code_def ?k1 ?k2 ?k3 ?k4 ?k5 ?kA ?kF ?kK ?k6 ?k7 ?k8 ?k9 ?kB ?_ ?c2 ?c3 ?c4 ?c5; (case kA => exact rfl); (case kF => exact rfl); (case kK => assumption); (case k1 => k_asm); (case k2 => k_asm); (case k3 => k_asm); (case k4 => k_asm); (case k5 => k_asm); (case k6 => k_is); (case k7 => k_is); (case k8 => ktr_room); (case k9 => first | exact BindsTo.of_eq rfl | exact binds_K (by k_in) rfl (by k_is) rfl rfl rfl); (case c5 => decide); (case kB => exact locs rfl); (case c2 => exact rfl); (case c3 => exact rfl); (case c4 => exact rfl); k_whole)
  intro g' L' h' FG' F' N' B' X' T'
  try dsimp only
  refine to_done F' hret (fun _ _ h => h) ?_
  clear FG'
  clear F X N T B hret
  k_steps
  refine compM_list (items := vs) (nl := n) (fun i ys news' => ∃ tl, news' = tl ++ news ∧ AllR (IsP tl) ys ((ts.map (·.2)).take i) ∧ (∀ p ∈ news, ∀ q ∈ tl, p.1 < q.1) ∧ ys.length = i) rfl ?_ (by rw [hr.1]; omega) (by assumption) (by assumption) (by exact hl) ?_ ?_ ?_ ?_ ?_
  · intro v hv
    obtain ⟨p, _, a, t1, t2, t3, e, _⟩ := hr.ofMem hv
    exact ⟨a, e⟩
  · exact ⟨[], rfl, by rw [List.take_zero]; exact AllR.nil, by simp, rfl⟩
  · rintro i ys news' ⟨tl, rfl, _⟩; simp [hl]
  · rintro i ys news' ⟨tl, rfl, h, _, e⟩
    exact e
  · rintro i v ys news₁ h₁ tk₁ I C D oI oD mC hv ⟨tl, rfl, hys, hlt, hyl⟩ F₁ C₁ N₁ hCL h0C hIC hDC hID hoff hbel
    obtain ⟨⟨k, lab, x⟩, hpi, a, t1, t2, t3, rfl, ham⟩ := hr.2 i v hv
    have hoff' : ∀ p ∈ (I, oI) :: (D, oD) :: (tl ++ news), p.1 ≠ C := by
      intro p hp
      rcases List.mem_cons.mp hp with rfl | hp
      · exact hIC
      · rcases List.mem_cons.mp hp with rfl | hp
        · exact hDC
        · exact (hoff p hp).1
    refine asgC_tup3 rfl F₁ C₁ N₁ (List.mem_cons_of_mem _ (List.mem_cons_of_mem _ (List.mem_append_right _ ham))) hCL h0C hoff' rfl rfl rfl rfl (fun h₂ tk₂ F₂ C₂ N₂ => ?_)
    refine wpAny_Tuple ?_
    k_steps
    have hnew : ∀ p ∈ (I, oI) :: (D, oD) :: (tl ++ news), p.1 < h₂.objs.size := fun p hp => Heap.lt_size (N₂ p hp).1
    refine ⟨_, _, (h₂.objs.size, tup [.int lab t2, .str (S x) t3]) :: (tl ++ news), _, rfl, F₂.push _, C₂.at' fun o e => Heap.get?_push_of_some _ e, fun p hp => (News.push F₂ N₂ _) p ?_, ?_, (h₂.objs.size, tup [.int lab t2, .str (S x) t3]) :: tl, rfl, ?_, ?_, by rw [List.length_append, hyl]; rfl⟩
    · simp only [List.mem_cons, List.cons_append, List.mem_append, List.nil_append] at hp ⊢; grind
    · intro p hp
      rcases List.mem_cons.mp hp with rfl | hp
      · refine ⟨Nat.ne_of_gt C₂.lt, fun q hq => Nat.ne_of_gt (hnew q ?_)⟩
        simp only [List.mem_cons, List.not_mem_nil, or_false] at hq ⊢; grind
      · refine ⟨(hoff p hp).1, fun q hq => ?_⟩
        simp only [List.mem_cons, List.not_mem_nil, or_false] at hq
        rcases hq with rfl | rfl
        · exact (hoff p hp).2.1
        · exact (hoff p hp).2.2
    · have hpi' : (ts.map (·.2))[i]? = some (lab, x) := by rw [List.getElem?_map, hpi]; rfl
      rw [take_snoc hpi']
      exact (hys.mono fun v p h => h.mono fun q hq => .tail _ hq).snoc ⟨_, t2, t3, rfl, .head _⟩
    · intro p hp q hq
      rcases List.mem_cons.mp hq with rfl | hq
      · exact hnew p (by simp [hp])
      · exact hlt p hp q hq
  · rintro h₁ tk₁ D ys news' F₁ N₁ hD hb ⟨tl, rfl, hys, hlt, hyl⟩
    k_steps
    rw [List.take_of_length_le (by rw [List.length_map]; exact Nat.le_of_eq hr.1.symm)] at hys
    exact ⟨_, _, _, _, rfl, F₁, N₁, D, ys, _, tl, rfl, rfl, hys, fun p hp => ⟨hb p hp, hlt p hp⟩, fun q hq => hD q (by simp [hq])⟩
end Mine

end s14

end s15

local macro_rules | `(tactic| walk_at "mem9") => `(tactic| first | assumption | exact List.Mem.head _ | (refine List.mem_cons_of_mem _ ?_; walk_at "mem9") | (refine List.mem_append_left _ ?_; walk_at "mem9") | (refine List.mem_append_right _ ?_; walk_at "mem9") | (refine Mine.UpdF.other (by assumption) ?_ (by assumption); walk_at "mem9"))
local macro_rules | `(tactic| k_updF) => `(tactic| first | assumption | (refine Mine.UpdF.again (by assumption)))
local macro_rules | `(tactic| walk_at "call ref") => `(tactic| (k_here; (with_reducible show wpAny _ _ (call (Value.ref 195) _) _ _ _); k_dflt (refine' Mine.CallIs.use (Mine.snip_u ?p0 ?p1 ?p2 ?p3 ?p4 ?p5 ?p6 ?p7 ?p8) ?k1 ?k2 ?k3 ?k4 ?k5 ?k6 ?k7 ?k8 ?_; (case k1 => k_asm); (case k2 => k_asm); (case k3 => k_asm); (case k4 => k_asm); (case k5 => k_asm); (case k6 => first | exact rfl | assumption); (case k7 => ktr_room); (case k8 => ktr_units); (case p0 => k_updF); (case p1 => walk_at "mem9"); (case p2 => assumption); (case p3 => assumption); (case p4 => assumption); (case p5 => omega); (case p6 => omega); (case p7 => omega); (case p8 => omega); k_whole); (rintro r9 n9 h9 tk9 F9 N9 ⟨v9, t9, tk9, e9, q0, q1, e8⟩; subst e9; replace e8 := e8.symm; subst e8; (try dsimp only at N9); (try dsimp only); (try k_sweep))))

section s17
local macro_rules | `(tactic| walk_at "eval ListComp") => `(tactic| (k_here; (with_reducible rename Fr _ _ _ _ => kF9); k_dflt (refine' Mine.comp_M kF9 ?c1 ?c2 ?c3 ?c4 ?c5 ?_; (case c1 => with_unfolding_all rfl); (case c2 => decide); (case c3 => exact rfl); (case c4 => decide); (case c5 => (intro _; rfl)); k_whole)))
local macro_rules | `(tactic| walk_at "eval Name") => `(tactic| (with_reducible show wpAny _ _ (eval _ (compEnvC _ _ _ _)) _ _ _); refine Mine.ldC_local (by k_asm) (by with_unfolding_all rfl) ?_)

local macro_rules | `(tactic| walk_at "eval Name") => `(tactic| (with_reducible show wpAny _ _ (eval _ (compEnvC _ _ _ _)) _ _ _); refine Mine.ldC_K (by k_asm) (by k_asm) (by assumption) (by k_is) ?_)
local macro_rules | `(tactic| walk_at "eval Name") => `(tactic| (with_reducible show wpAny _ _ (eval _ (compEnvC _ _ _ _)) _ _ _); refine Mine.ldC_C (by k_asm) (by with_unfolding_all rfl) (by walk_at "mem9") (by assumption) ?_)

local macro_rules | `(tactic| walk_at "call builtin:str.join") => `(tactic| (k_here; (with_reducible show wpAny _ _ (call (Value.builtin "str.join") [Value.str _ _, Value.ref _]) _ _ _); k_dflt (refine' Mine.joinS_M ?k1 ?k2 ?k3 ?k4 ?k5 ?_; (case k1 => k_asm); (case k2 => walk_at "mem9"); (case k3 => assumption); (case k4 => walk_at "S"); (case k5 => walk_at "sz"); k_whole); intro _ _))

section s16
namespace Mine
noncomputable def sg : List Nat := [65, 66, 49, 61, 32, 43, 39, 67]
theorem item_sg {v : Int} (h0 : 0 ≤ v) (h1 : v < 8) : ∃ z ∈ sg, Txt.item (Str.ofString "AB1= +'C") v = S [z] := by
  have : v = 0 ∨ v = 1 ∨ v = 2 ∨ v = 3 ∨ v = 4 ∨ v = 5 ∨ v = 6 ∨ v = 7 := by omega
  rcases this with rfl | rfl | rfl | rfl | rfl | rfl | rfl | rfl
  · exact ⟨65, by decide, by decide +kernel⟩
  · exact ⟨66, by decide, by decide +kernel⟩
  · exact ⟨49, by decide, by decide +kernel⟩
  · exact ⟨61, by decide, by decide +kernel⟩
  · exact ⟨32, by decide, by decide +kernel⟩
  · exact ⟨43, by decide, by decide +kernel⟩
  · exact ⟨39, by decide, by decide +kernel⟩
  · exact ⟨67, by decide, by decide +kernel⟩
theorem flat_one (xs : List Nat) : (xs.map fun z => [z]).flatten = xs := by induction xs <;> simp_all
theorem ls_spec {w : World} {mean : ExcName → Option Value} {mg mb : Str → Option Value} {c l : Addr} {k : Int} {tk : Tok} {n : Nat} {vs : List Value} {ns : List Int} {nl : Nat} {rest : List (Addr × Obj)}
    (hl : (l, W.listOf vs.toArray nl) ∈ rest) (hlc : l ≠ c) (hi : IntsAre vs ns) (hlen : vs.length ≤ 60) (hne : ∀ p ∈ rest, p.1 ≠ c) (hk : 0 ≤ k) (hk2 : k < 900000) :
    CallIs w mean mg mb 20 200 200 [.ref c] ((c, cloth l k tk n) :: rest)
      (fun r news' => ∃ a lab x t1 t2 k' tk' tl, r = .ref a ∧ news' = (a, tup [.int lab t1, .str (S (88 :: x)) t2]) :: (tl ++ (c, cloth l k' tk' n) :: rest) ∧ LabIn lab ∧ x.length ≤ 13 ∧ (∀ y ∈ x, y ∈ sg) ∧ k ≤ k' ∧ k' ≤ k + 20 ∧
        (∀ p ∈ rest, p.1 < a ∧ ∀ q ∈ tl, p.1 < q.1) ∧ c < a ∧ (∀ q ∈ tl, c < q.1 ∧ q.1 ≠ a)) := by
  intro dp un gd cn cs a ccd cl outer A₀ base h₀ L m s Q B F X N T hks hdp hun hret
  w_top off
  have fill9 : Mine.Fills PySem.Challenge.rw_sa0210_01 Mine.hK.heap_1 := by (k_fill; exact True.intro)
  refine wpAny_call ?_
  k_dflt (refine' code_defC ?k1 ?k2 ?k3 ?k4 ?k5 ?kA ?kF ?kK ?k6 ?k7 ?k8 ?k9 ?kB ?kD ?_ ?c2 ?c3 ?c4; (case kA => exact rfl); (case kF => exact rfl); (case kK => assumption); (case k1 => k_asm); (case k2 => k_asm); (case k3 => k_asm); (case k4 => k_asm); (case k5 => k_asm); (case k6 => k_is); (case k7 => k_is); (case k8 => ktr_room); (case k9 => first | exact BindsTo.of_eq rfl | exact binds_K (by k_in) rfl (by k_is) rfl rfl rfl); (case kB => exact rfl); (case kD => decide +kernel); (case c2 => exact rfl); (case c3 => exact rfl); (case c4 => exact rfl); k_whole)
  intro g' L' h' tk' cells' FG' F' N' Y' B' X' T' l1
  try k_lt l1
  k_cells Y'
  try simp only [List.cons_append, List.nil_append] at N'
  try dsimp only
  refine to_done F' hret (fun _ _ h => h) ?_
  clear FG'
  clear F X N T B hret
  k_steps
  rename_i o9 d9 T9 _ lta lta2 _ _ v1 _ _ p0 p1 _ _ _ _ v2 _ tk2 q0 q1 r9 k9 _ _ _ _ _ ek9 hr9 F0 N0
  refine compM_range (fun i ys news' => ∃ (xs : List Nat) (tkn : Tok), news' = (T9, tup [.int 0 tk', .int 7 (tk' + 1), .int 40 (tk' + 1 + 1), .int 99999 (tk' + 1 + 1 + 1)]) :: (L' + 1, o9) :: (c, cloth l (k + 1 + 1 + (i : Nat)) tkn n) :: rest ∧
    AllR IsT ys (xs.map fun z => [z]) ∧ xs.length = i ∧ (∀ z ∈ xs, z ∈ sg)) rfl (by omega) F0 N0 hr9 ?_ ?_ ?_ ?_
  · exact ⟨[], tk2, by simp, AllR.nil, rfl, by simp⟩
  · rintro i ys news' ⟨xs, tkn, rfl, h, e, _⟩
    rw [h.1, List.length_map]; exact e
  · rintro i t ys news₁ h₁ tk₁ I C D oI oD mC hi ⟨xs, tkn, rfl, hys, hxl, hxs⟩ F₁ C₁ N₁ hCL h0C hIC hDC hID hoff hbel
    have hoff' : ∀ p ∈ (I, oI) :: (D, oD) :: (T9, tup [.int 0 tk', .int 7 (tk' + 1), .int 40 (tk' + 1 + 1), .int 99999 (tk' + 1 + 1 + 1)]) :: (L' + 1, o9) :: (c, cloth l (k + 1 + 1 + (i : Nat)) tkn n) :: rest, p.1 ≠ C := by
      intro p hp
      rcases List.mem_cons.mp hp with rfl | hp
      · exact hIC
      · rcases List.mem_cons.mp hp with rfl | hp
        · exact hDC
        · exact (hoff p hp).1
    refine asgC_name F₁ C₁ N₁ hCL h0C hoff' rfl rfl (fun h₂ tk₂ F₂ C₂ N₂ => ?_)
    clear F₁ C₁ N₁
    obtain ⟨oC, es, ep, hgC, hdC, hkC, hfC⟩ := C₂
    have N₃ := news_cons hgC hCL h0C N₂
    clear N₂
    have hcC : @Ne Nat C c := fun e => (hoff (c, cloth l (k + 1 + 1 + (i : Nat)) tkn n) (by simp)).1 e.symm
    have hcI : @Ne Nat I c := fun e => (hoff (c, cloth l (k + 1 + 1 + (i : Nat)) tkn n) (by simp)).2.1 e.symm
    have hcD : @Ne Nat D c := fun e => (hoff (c, cloth l (k + 1 + 1 + (i : Nat)) tkn n) (by simp)).2.2 e.symm
    k_steps
    rename_i h9 _ F9 v9 _ tk9 q0 q1 N9 _
    obtain ⟨z, hz, ez⟩ := item_sg q0 q1
    rw [ez]
    refine ⟨_, _, (T9, tup [.int 0 tk', .int 7 (tk' + 1), .int 40 (tk' + 1 + 1), .int 99999 (tk' + 1 + 1 + 1)]) :: (L' + 1, o9) :: (c, cloth l (k + 1 + 1 + (i : Nat) + 1) tk9 n) :: rest, _, rfl, F9, ⟨oC, es, ep, (N9 _ (List.mem_cons_self ..)).1, hdC, hkC, hfC⟩, fun p hp => N9 p ?_, ?_, xs ++ [z], tk9, ?_, ?_, ?_, ?_⟩
    · simp only [List.mem_cons, List.cons_append, List.mem_append, List.nil_append] at hp ⊢; grind
    · intro p hp
      have hp' : ∃ o, (p.1, o) ∈ (T9, tup [.int 0 tk', .int 7 (tk' + 1), .int 40 (tk' + 1 + 1), .int 99999 (tk' + 1 + 1 + 1)]) :: (L' + 1, o9) :: (c, cloth l (k + 1 + 1 + (i : Nat)) tkn n) :: rest := by
        simp only [List.mem_cons] at hp ⊢
        rcases hp with rfl | rfl | rfl | hp
        · exact ⟨_, .inl rfl⟩
        · exact ⟨_, .inr (.inl rfl)⟩
        · exact ⟨_, .inr (.inr (.inl rfl))⟩
        · exact ⟨p.2, .inr (.inr (.inr hp))⟩
      obtain ⟨o, ho⟩ := hp'
      have hz := hoff _ ho
      refine ⟨hz.1, fun q hq => ?_⟩
      simp only [List.mem_cons, List.not_mem_nil, or_false] at hq
      rcases hq with rfl | rfl
      · exact hz.2.1
      · exact hz.2.2
    · rw [show k + 1 + 1 + (i : Int) + 1 = k + 1 + 1 + ((i + 1 : Nat) : Int) from by omega]
    · rw [List.map_append]; exact hys.snoc ⟨_, rfl⟩
    · rw [List.length_append, hxl]; rfl
    · intro z' hz'
      rcases List.mem_append.mp hz' with h | h
      · exact hxs z' h
      · rw [List.mem_singleton.mp h]; exact hz
  · rintro h₁ tk₁ D ys news' F₁ N₁ hD hb ⟨xs, tkn, rfl, hys, hxl, hxs⟩
    have hfl : (xs.map fun z => [z]).flatten.length = xs.length := by rw [flat_one]
    have hml : (xs.map fun z => [z]).length = xs.length := by rw [List.length_map]
    have hjl : (joinL [] (xs.map fun z => [z])).length = xs.length := by rw [joinL_nil, flat_one]
    k_steps
    rename_i a9 _ F9 N9 lt9 lt8
    have ej : joinL [] (xs.map fun z => [z]) = xs := by rw [joinL_nil, flat_one]
    rw [ej] at N9
    refine ⟨_, _, _, _, rfl, F9, N9, a9, _, xs, _, _, _, _, [(D, W.listOf ys.toArray k9), (T9, tup [.int 0 tk', .int 7 (tk' + 1), .int 40 (tk' + 1 + 1), .int 99999 (tk' + 1 + 1 + 1)]), (L' + 1, o9)], rfl, rfl, ?_, by omega, hxs, by omega, by omega, ?_, lt8.2.2.2.1, ?_⟩
    · have : v1 = 0 ∨ v1 = 1 ∨ v1 = 2 ∨ v1 = 3 := by omega
      rcases this with rfl | rfl | rfl | rfl
      · exact .inl rfl
      · exact .inr (.inl rfl)
      · exact .inr (.inr (.inl rfl))
      · exact .inr (.inr (.inr rfl))
    · intro p hp
      refine ⟨lt9 p (by simp [hp]), fun q hq => ?_⟩
      simp only [List.mem_cons, List.not_mem_nil, or_false] at hq
      rcases hq with rfl | rfl | rfl
      · exact hb p (by simp [hp])
      · exact lta p (by simp [hp])
      · exact Nat.lt_succ_of_lt (allLt_mem l1.2 p hp)
    · intro q hq
      simp only [List.mem_cons, List.not_mem_nil, or_false] at hq
      rcases hq with rfl | rfl | rfl
      · exact ⟨hb (c, cloth l (k + 1 + 1) tk2 n) (by simp), Nat.ne_of_lt lt8.1⟩
      · exact ⟨lta2.2.1, Nat.ne_of_lt lt8.2.1⟩
      · exact ⟨Nat.lt_succ_of_lt l1.1, Nat.ne_of_lt lt8.2.2.1⟩
end Mine

end s16

end s17

namespace Mine
theorem mem1 {α : Type} {P : α → Prop} {a : α} {tl : List α} (ha : P a) (h : ∀ p ∈ tl, P p) : ∀ p ∈ a :: tl, P p := List.forall_mem_cons.mpr ⟨ha, h⟩
theorem mem3 {α : Type} {P : α → Prop} {a b : α} {tl : List α} (ha : P a) (hb : P b) (h : ∀ p ∈ tl, P p) : ∀ p ∈ a :: b :: tl, P p := mem1 ha (mem1 hb h)
theorem mem0 {α : Type} {P : α → Prop} : ∀ p ∈ ([] : List α), P p := fun _ h => nomatch h
end Mine
namespace Mine
theorem and_dec {p : Prop} [Decidable p] {A B : Prop} (h1 : p → A) (h2 : ¬ p → B) : (decide p = true → A) ∧ (decide p = false → B) := ⟨fun h => h1 (of_decide_eq_true h), fun h => h2 (of_decide_eq_false h)⟩
theorem and_bool {b : Bool} {A B : Prop} (h1 : b = true → A) (h2 : b = false → B) : (b = true → A) ∧ (b = false → B) := ⟨h1, h2⟩
end Mine

namespace Mine
noncomputable abbrev Lg := List (Addr × Obj)
/-- abstract values over a hidden ledger: the tokens are forgotten -/
inductive Dv where
  | int (k : Int) | str (x : List Nat) | bool (b : Bool) | none | ref (a : Addr) | card (c : CardD) | pair (p : Int × List Nat) | t3 (t : T3) | lim (cols conts : Int)
noncomputable def Dv.Is (l : Lg) : Dv → Value → Prop
  | .int k, v => ∃ t, v = .int k t
  | .str x, v => ∃ t, v = .str (S x) t
  | .bool b, v => v = .bool b
  | .none, v => v = .none
  | .ref a, v => v = .ref a
  | .card c, v => IsCard l v c
  | .pair p, v => IsP l v p
  | .t3 t, v => IsT3 l v t
  | .lim a b, v => IsLim l v a b
theorem ne_dict : Value.type "dict" ≠ Value.type "list" := fun q => absurd (Value.type.inj q) (by decide)
theorem ne_tuple : Value.type "tuple" ≠ Value.type "list" := fun q => absurd (Value.type.inj q) (by decide)
/-- what is no list stays -/
noncomputable def Keep (l l' : Lg) : Prop := ∀ p ∈ l, p.2.cls ≠ .type "list" → p ∈ l'
theorem Keep.refl (l : Lg) : Keep l l := fun _ h _ => h
theorem Keep.trans {a b c : Lg} (h : Keep a b) (k : Keep b c) : Keep a c := fun p hp hc => k p (h p hp hc) hc
theorem Dv.Is.keep {l l' : Lg} (hk : Keep l l') : ∀ {d : Dv} {v : Value}, d.Is l v → d.Is l' v
  | .int _, _, h => h
  | .str _, _, h => h
  | .bool _, _, h => h
  | .none, _, h => h
  | .ref _, _, h => h
  | .card c, v, h => by
    obtain ⟨x, d, h1, h2, h3, h4, k1, k2, k3, k4, t1, t2, t3, t4, e, a, b⟩ := h
    exact ⟨x, d, h1, h2, h3, h4, k1, k2, k3, k4, t1, t2, t3, t4, e, hk _ a (by intro q; cases q), hk _ b ne_dict⟩
  | .pair p, v, h => by
    obtain ⟨a, t, u, e, hm⟩ := h
    exact ⟨a, t, u, e, hk _ hm ne_tuple⟩
  | .t3 p, v, h => by
    obtain ⟨a, t, u, w, e, hm⟩ := h
    exact ⟨a, t, u, w, e, hk _ hm ne_tuple⟩
  | .lim a b, v, h => by
    obtain ⟨x, d, h1, h2, h3, h4, h5, h6, h7, h8, k1, k2, k3, k4, k5, k6, k7, k8, v1, v2, v3, v4, v5, v8, t6, t7, e, a, b⟩ := h
    exact ⟨x, d, h1, h2, h3, h4, h5, h6, h7, h8, k1, k2, k3, k4, k5, k6, k7, k8, v1, v2, v3, v4, v5, v8, t6, t7, e, hk _ a (by intro q; cases q), hk _ b ne_dict⟩
noncomputable abbrev AreD (l : Lg) (vs : List Value) (ds : List Dv) : Prop := AllR (fun v d => Dv.Is l d v) vs ds
theorem AreD.keep {l l' : Lg} (hk : Keep l l') {vs : List Value} {ds : List Dv} (h : AreD l vs ds) : AreD l' vs ds := h.mono fun _ _ q => q.keep hk
/-- the lists, each with its items -/
noncomputable abbrev Led := List (Addr × List Dv)
noncomputable abbrev Nam := List (Str × Dv)
noncomputable def Lst (l : Lg) (a : Addr) (ds : List Dv) : Prop := ∃ (vs : List Value) (n : Nat), (a, W.listOf vs.toArray n) ∈ l ∧ AreD l vs ds
structure Cx where
  w : World
  mean : ExcName → Option Value
  mg : Str → Option Value
  mb : Str → Option Value
  dp : Nat
  un : Nat
  gd : Option (List Code)
  outer : List Env
  base : Heap
  h₀ : Heap
  L : Addr
  a : Addr
  cd : Value
  s : Shared
  hnd : Option Value
noncomputable abbrev Cx.A (c : Cx) : Around := { handled := c.hnd, depth := c.dp, frames := some c.outer, guards := c.gd, units := c.un }
structure Cx.Ok (c : Cx) (rd ru : Nat) : Prop where
  kin : (hK.heap_1 c.w.params).In c.h₀
  top : TOP c.mean c.mg c.mb c.h₀
  bel : Below c.A c.base c.outer c.h₀
  rd : c.dp + rd < recursionLimit
  ru : c.un + ru < cLine
structure Fn where
  name : Str
  scope : Scope
noncomputable def Fn.kind (f : Fn) (x : Str) : Option NameKind := (envX f.name f.scope 0 0 .none []).kindOf x
noncomputable abbrev Fn.env (f : Fn) (c : Cx) : Env := envX f.name f.scope c.L c.a c.cd []
noncomputable abbrev Fn.ar (f : Fn) (c : Cx) : Around := c.A.deeper (f.env c)
noncomputable abbrev Cx.at (c : Cx) (h : Heap) (tk : Nat) : Shared := { c.s with heap := h, toks := tk }
structure St (h₀ : Heap) (L : Addr) (h : Heap) (m : Str → Option Value) (l : Lg) (M : Nam) (n : Led) : Prop where
  fr : Fr h₀ L h m
  news : News h₀ L h l
  nam : ∀ x d, M.lookup x = some d → ∃ v, m x = some v ∧ d.Is l v
  led : ∀ p ∈ n, Lst l p.1 p.2
  nd : (n.map (·.1)).Nodup
inductive VP (c : Cx) (m : Str → Option Value) (l : Lg) (M : Nam) (R : Led) (K : Dv → Led → Prop) (v : Value) (s' : Shared) : Prop
  | mk (h' : Heap) (tk' : Nat) (d : Dv) (n' : Led) (l' : Lg) (e : s' = c.at h' tk') (k : Keep l l') (s : St c.h₀ c.L h' m l' M (n' ++ R)) (i : d.Is l' v) (h : K d n')
inductive BP (c : Cx) (m : Str → Option Value) (l : Lg) (M : Nam) (R : Led) (K : Bool → Led → Prop) (b : Bool) (s' : Shared) : Prop
  | mk (h' : Heap) (tk' : Nat) (n' : Led) (l' : Lg) (e : s' = c.at h' tk') (k : Keep l l') (s : St c.h₀ c.L h' m l' M (n' ++ R)) (h : K b n')
/-- any step that gives a value -/
noncomputable def Ac (f : Fn) (c : Cx) (M : Nam) (n : Led) (t : Sem Value) (K : Dv → Led → Prop) (l : Lg) : Prop :=
  ∀ R h tk m, St c.h₀ c.L h m l M (n ++ R) → wpAny (model PRG c.w) (f.ar c) t (VP c m l M R K) (fun _ _ => False) (c.at h tk)
/-- an expression -/
noncomputable def Ev (f : Fn) (c : Cx) (M : Nam) (n : Led) (e : PySem.Expr) (K : Dv → Led → Prop) : Prop := ∀ l, Ac f c M n (eval e (f.env c)) K l
/-- a test -/
noncomputable def Bv (f : Fn) (c : Cx) (M : Nam) (n : Led) (e : PySem.Expr) (K : Bool → Led → Prop) : Prop :=
  ∀ l R h tk m, St c.h₀ c.L h m l M (n ++ R) → wpAny (model PRG c.w) (f.ar c) (isTrue e (f.env c) (eval e (f.env c))) (BP c m l M R K) (fun _ _ => False) (c.at h tk)
inductive Fw where
  | next | ret (d : Dv) | brk | cont
noncomputable def Fw.Is (l : Lg) : Fw → Flow → Prop
  | .next, f => f = .next
  | .ret d, f => ∃ v, f = .ret v ∧ d.Is l v
  | .brk, f => f = .brk
  | .cont, f => f = .cont
inductive XP (c : Cx) (l : Lg) (R : Led) (K : Fw → Nam → Led → Prop) (g : Flow) (s' : Shared) : Prop
  | mk (h' : Heap) (tk' : Nat) (m' : Str → Option Value) (M' : Nam) (w : Fw) (n' : Led) (l' : Lg) (e : s' = c.at h' tk') (k : Keep l l') (s : St c.h₀ c.L h' m' l' M' (n' ++ R)) (i : w.Is l' g) (h : K w M' n')
noncomputable abbrev XE := Lg → Led → Value → Shared → Prop
inductive EP (E : XE) (l : Lg) (R : Led) (v : Value) (s' : Shared) : Prop
  | mk (l' : Lg) (R' : Led) (k : Keep l l') (r : ∀ p ∈ R, p ∈ R') (h : E l' R' v s')
noncomputable abbrev noE : XE := fun _ _ _ _ => False
theorem EP.no {l : Lg} {R : Led} {v : Value} {s' : Shared} {P : Prop} (h : EP noE l R v s') : P := by cases h; contradiction
theorem EP.up {E : XE} {l l' : Lg} {R R' : Led} {v : Value} {s' : Shared} (h : EP E l' R' v s') (k : Keep l l') (r : ∀ p ∈ R, p ∈ R' := by exact fun _ h => h) : EP E l R v s' := by
  obtain ⟨l2, R2, k2, r2, h⟩ := h
  exact ⟨l2, R2, k.trans k2, fun p hp => r2 p (r p hp), h⟩
/-- statements -/
noncomputable def Ex (f : Fn) (c : Cx) (E : XE) (M : Nam) (n : Led) (ss : List Stmt) (K : Fw → Nam → Led → Prop) : Prop :=
  ∀ l R h tk m, St c.h₀ c.L h m l M (n ++ R) → wpAny (model PRG c.w) (f.ar c) (execs ss (f.env c)) (XP c l R K) (EP E l R) (c.at h tk)
inductive PP (s : Shared) (l : Lg) (K : Dv → Prop) (r : Value) (s' : Shared) : Prop
  | mk (tk : Nat) (x : Dv) (e : s' = { s with toks := tk }) (i : Dv.Is l x r) (h : K x)
/-- primitive binary steps that touch tokens alone -/
noncomputable def Prim2 (t : Value → Value → Sem Value) (d e : Dv) (K : Dv → Prop) : Prop :=
  ∀ (w : World) (A : Around) (s : Shared) (l : Lg) (v u : Value), d.Is l v → e.Is l u → wpAny (model PRG w) A (t v u) (PP s l K) (fun _ _ => False) s
section
variable {f : Fn} {c : Cx} {M : Nam} {n : Led} {K : Dv → Led → Prop} {l r e : PySem.Expr} {pos : Pos}
theorem Ev.local {x : Str} {d : Dv} (hd : M.lookup x = some d) (hk : f.scope.kind = .function) (hx : f.kind x = some .local) (hb : (x == ("__debug__" : Str)) = false) (h : K d n) : Ev f c M n (.Name x pos) K := fun g R h0 tk m hs => by
  obtain ⟨v, hv, hi⟩ := hs.nam x d hd
  exact nameX_L hs.fr hv ⟨h0, tk, d, n, g, rfl, Keep.refl _, hs, hi, h⟩ hk hx hb
theorem Ev.int {k : Int} {i : Nat} (h : K (.int k) n) : Ev f c M n (.Constant (.int k) i pos) K := fun g _ h0 tk _ hs => wpAny_Constant_int ⟨h0, tk + 1, .int k, n, g, rfl, Keep.refl _, hs, ⟨_, rfl⟩, h⟩
theorem Ev.str {x : Str} {a : List Nat} {i : Nat} (hx : x = S a) (h : K (.str a) n) : Ev f c M n (.Constant (.str x) i pos) K := fun g R h0 tk m hs => by
  subst hx
  exact Calls.Constant_str ⟨h0, tk + 1, .str a, n, g, rfl, Keep.refl _, hs, ⟨_, rfl⟩, h⟩
end
end Mine

namespace Mine
/-- what comes behind a statement -/
noncomputable def Then (f : Fn) (c : Cx) (E : XE) (rest : List Stmt) (K : Fw → Nam → Led → Prop) : Fw → Nam → Led → Prop
  | .next, M, n => Ex f c E M n rest K
  | w, M, n => K w M n
section
variable {f : Fn} {c : Cx} {E : XE} {M : Nam} {n : Led} {K : Fw → Nam → Led → Prop} {rest : List Stmt} {e : PySem.Expr} {pos p2 : Pos}
theorem st_set {h0 h1 : Heap} {m : Str → Option Value} {x : Str} {v : Value} {d : Dv} {l : Lg} (hs : St c.h₀ c.L h0 m l M n) (F : Fr c.h₀ c.L h1 (fun y => if y = x then some v else m y)) (N : News c.h₀ c.L h1 l) (hd : d.Is l v) : St c.h₀ c.L h1 (fun y => if y = x then some v else m y) l ((x, d) :: M) n := by
  refine ⟨F, N, fun y e he => ?_, hs.led, hs.nd⟩
  by_cases q : y = x
  · rw [q, List.lookup_cons_self] at he
    cases he
    exact ⟨v, by simp [q], hd⟩
  · have hb : (y == x) = false := beq_false_of_ne q
    rw [List.lookup_cons, hb] at he
    obtain ⟨u, hu, hi⟩ := hs.nam y e he
    exact ⟨u, by simp [q, hu], hi⟩
/-- a statement alone -/
noncomputable def Sx (f : Fn) (c : Cx) (E : XE) (M : Nam) (n : Led) (st : Stmt) (K : Fw → Nam → Led → Prop) : Prop :=
  ∀ l R h tk m, St c.h₀ c.L h m l M (n ++ R) → wpAny (model PRG c.w) (f.ar c) (exec st (f.env c)) (XP c l R K) (EP E l R) (c.at h tk)
theorem Ex.cons {st : Stmt} (h : Sx f c E M n st (Then f c E rest K)) : Ex f c E M n (st :: rest) K := fun l R h0 tk m hs => by
  refine wpAny_execs_cons (wpAny_mono (h l R h0 tk m hs) (fun g s₁ hg => ?_) fun _ _ x => x)
  obtain ⟨h1, tk1, m1, M1, w, n1, l1, rfl, k1, hs1, hw, hk⟩ := hg
  cases w with
  | next =>
    cases hw
    refine wpAny_mono (hk l1 R h1 tk1 m1 hs1) (fun g s₂ hg => ?_) fun _ _ x => x.up k1
    obtain ⟨h2, tk2, m2, M2, w2, n2, l2, e2, k2, z1, z2, z3⟩ := hg
    exact ⟨h2, tk2, m2, M2, w2, n2, l2, e2, k1.trans k2, z1, z2, z3⟩
  | ret d => obtain ⟨v, rfl, hd⟩ := hw; exact ⟨h1, tk1, m1, M1, .ret d, n1, l1, rfl, k1, hs1, ⟨v, rfl, hd⟩, hk⟩
  | brk => cases hw; exact ⟨h1, tk1, m1, M1, .brk, n1, l1, rfl, k1, hs1, rfl, hk⟩
  | cont => cases hw; exact ⟨h1, tk1, m1, M1, .cont, n1, l1, rfl, k1, hs1, rfl, hk⟩
theorem Ex.nil (h : K .next M n) : Ex f c E M n [] K := fun l _ h0 tk m hs => wpAny_execs_nil ⟨h0, tk, m, M, .next, n, l, rfl, Keep.refl _, hs, rfl, h⟩
theorem Ex.assign {x : Str} (h : Ev f c M n e fun d n₁ => Ex f c E ((x, d) :: M) n₁ rest K) (hk : f.scope.kind = .function) (hx : f.kind x = some .local) (hw : swapsWith e (some (Expr.Name x p2)) pos.line (f.env c) = pure false) : Ex f c E M n (.Assign [.Name x p2] e pos :: rest) K :=
  Ex.cons fun l R h0 tk m hs => by
    refine wpAny_Assign_Name (wpAny_mono (wpAny_noRaise (h l R h0 tk m hs)) (fun v s₁ hv => ?_) fun _ _ x => x) hw
    obtain ⟨h1, tk1, d, n1, l1, rfl, k1, hs1, hd, hK⟩ := hv
    exact storeX_L hs1.fr hs1.news (fun h' F' N' => ⟨h', tk1 + 1, _, (x, d) :: M, .next, n1, l1, rfl, k1, st_set hs1 F' N' hd, rfl, hK⟩) hk hx
theorem Ex.ite {body orelse : List Stmt} (h : Bv f c M n e fun b n₁ => (b = true → Ex f c E M n₁ body (Then f c E rest K)) ∧ (b = false → Ex f c E M n₁ orelse (Then f c E rest K))) : Ex f c E M n (.If e body orelse pos :: rest) K :=
  Ex.cons fun l R h0 tk m hs => by
    refine wpAny_If (wpAny_mono (wpAny_noRaise (h l R h0 tk m hs)) (fun b s₁ hb => ?_) fun _ _ x => x)
    obtain ⟨h1, tk1, n1, l1, rfl, k1, hs1, h2, h3⟩ := hb
    have go : ∀ {ss : List Stmt}, Ex f c E M n1 ss (Then f c E rest K) → _ := fun {ss} hx => wpAny_mono (hx l1 R h1 tk1 m hs1) (fun g s₂ hg => by
      obtain ⟨h2, tk2, m2, M2, w2, n2, l2, e2, k2, z1, z2, z3⟩ := hg
      exact (⟨h2, tk2, m2, M2, w2, n2, l2, e2, k1.trans k2, z1, z2, z3⟩ : XP c l R (Then f c E rest K) g s₂)) fun _ _ x => x.up k1
    cases b with
    | true => exact go (h2 rfl)
    | false => exact go (h3 rfl)
theorem Ex.ret (h : Ev f c M n e fun d n₁ => K (.ret d) M n₁) : Ex f c E M n (.Return (some e) pos :: rest) K :=
  Ex.cons fun l R h0 tk m hs => by
    refine wpAny_Return_some (wpAny_mono (wpAny_noRaise (h l R h0 tk m hs)) (fun v s₁ hv => ?_) fun _ _ x => x)
    obtain ⟨h1, tk1, d, n1, l1, rfl, k1, hs1, hd, hK⟩ := hv
    exact ⟨h1, tk1, m, M, .ret d, n1, l1, rfl, k1, hs1, ⟨v, rfl, hd⟩, hK⟩
end
-- primitives
section
variable {K : Dv → Prop}
theorem P.addS {a b : List Nat} (hz : a.length + b.length ≤ 1000000) (h : K (.str (a ++ b))) : Prim2 (binaryOp .Add) (.str a) (.str b) K := by
  rintro w A s l _ _ ⟨t, rfl⟩ ⟨u, rfl⟩
  exact Mine.addS rfl rfl hz fun t' k => ⟨k, .str (a ++ b), rfl, ⟨t', rfl⟩, h⟩
theorem P.mulS {z : Nat} {k : Int} (h0 : -1000 ≤ k) (h1 : k ≤ 1000) (h : K (.str (List.replicate k.toNat z))) : Prim2 (binaryOp .Mult) (.str [z]) (.int k) K := by
  rintro w A s l _ _ ⟨t, rfl⟩ ⟨u, rfl⟩
  exact Mine.mulS rfl h0 h1 fun t' k' => ⟨k', .str (List.replicate k.toNat z), rfl, ⟨t', rfl⟩, h⟩
theorem P.addI {a b : Int} (h : K (.int (a + b))) : Prim2 (binaryOp .Add) (.int a) (.int b) K := by
  rintro w A s l _ _ ⟨t, rfl⟩ ⟨u, rfl⟩
  exact add_int ⟨_, .int (a + b), rfl, ⟨_, rfl⟩, h⟩
theorem P.subI {a b : Int} (h : K (.int (a - b))) : Prim2 (binaryOp .Sub) (.int a) (.int b) K := by
  rintro w A s l _ _ ⟨t, rfl⟩ ⟨u, rfl⟩
  exact sub_int ⟨_, .int (a - b), rfl, ⟨_, rfl⟩, h⟩
theorem P.ltI {a b : Int} (h : K (.bool (decide (a < b)))) : Prim2 (compareOp .Lt) (.int a) (.int b) K := by
  rintro w A s l _ _ ⟨t, rfl⟩ ⟨u, rfl⟩
  exact lt_int ⟨_, .bool (decide (a < b)), rfl, rfl, h⟩
theorem P.eqS {a b : List Nat} (h : K (.bool (decide (a = b)))) : Prim2 (compareOp .Eq) (.str a) (.str b) K := by
  rintro w A s l _ _ ⟨t, rfl⟩ ⟨u, rfl⟩
  exact Mine.eqS rfl rfl ⟨s.toks, .bool (decide (a = b)), rfl, rfl, h⟩
theorem P.neS {a b : List Nat} (h : K (.bool (!decide (a = b)))) : Prim2 (compareOp .NotEq) (.str a) (.str b) K := by
  rintro w A s l _ _ ⟨t, rfl⟩ ⟨u, rfl⟩
  exact Mine.neS rfl rfl ⟨s.toks, .bool (!decide (a = b)), rfl, rfl, h⟩
end
end Mine

namespace Mine
noncomputable def plainE : PySem.Expr → Bool
  | .Starred .. => false
  | _ => true
theorem star_plain {e : PySem.Expr} {rest : List PySem.Expr} {env : Env} (h : plainE e = true) : starEach (e :: rest) env = (false, eval e env) :: starEach rest env := by
  cases e <;> first | rfl | cases h
theorem any_plain {pos : Pos} {env : Env} : ∀ {es : List PySem.Expr}, es.all plainE = true → ((backTo pos (starEach es env)).any fun x => x.fst) = false
  | [], _ => rfl
  | e :: es, h => by
    rw [List.all_cons, Bool.and_eq_true] at h
    rw [star_plain h.1]
    have := any_plain (pos := pos) (env := env) h.2
    simpa [backTo] using this
inductive LP (c : Cx) (m : Str → Option Value) (l : Lg) (M : Nam) (R : Led) (K : List Dv → Led → Prop) (vs : List Value) (s' : Shared) : Prop
  | mk (h' : Heap) (tk' : Nat) (ds : List Dv) (n' : Led) (l' : Lg) (e : s' = c.at h' tk') (k : Keep l l') (s : St c.h₀ c.L h' m l' M (n' ++ R)) (i : AreD l' vs ds) (h : K ds n')
inductive CP (s : Shared) (h₀ : Heap) (L : Addr) (m : Str → Option Value) (l : Lg) (M : Nam) (R : Led) (K : Dv → Led → Prop) (v : Value) (s' : Shared) : Prop
  | mk (h' : Heap) (tk' : Nat) (d : Dv) (n' : Led) (l' : Lg) (e : s' = { s with heap := h', toks := tk' }) (k : Keep l l') (t : St h₀ L h' m l' M (n' ++ R)) (i : d.Is l' v) (h : K d n')
/-- arguments -/
noncomputable def Evs (f : Fn) (c : Cx) (M : Nam) (n : Led) (es : List PySem.Expr) (K : List Dv → Led → Prop) : Prop :=
  ∀ pos l R h tk m, St c.h₀ c.L h m l M (n ++ R) → wpAny (model PRG c.w) (f.ar c) (spliced (backTo pos (starEach es (f.env c)))) (LP c m l M R K) (fun _ _ => False) (c.at h tk)
noncomputable abbrev topA (hnd : Option Value) (dp un : Nat) (gd : Option (List Code)) (cn : Str) (cs : Scope) (L a : Addr) (ccd : Value) (outer : List Env) : Around := { handled := hnd, depth := dp, frames := some (envX cn cs L a ccd [] :: outer), guards := gd, units := un }
noncomputable def SpecH (hnd : Option Value) (fa : Addr) (dd uu : Nat) (ds : List Dv) (n : Led) (K : Dv → Led → Prop) : Prop :=
  ∀ (w : World) (mean : ExcName → Option Value) (mg mb : Str → Option Value) (dp un : Nat) (gd : Option (List Code)) (cn : Str) (cs : Scope) (a : Addr) (ccd : Value) (outer : List Env) (base h₀ : Heap) (L : Addr) (A₀ : Around) (s : Shared) (m : Str → Option Value) (l : Lg) (M : Nam) (R : Led) (vs : List Value),
    Below A₀ base outer h₀ → (hK.heap_1 w.params).In h₀ → TOP mean mg mb h₀ → cs.kind = .function → dp + dd < recursionLimit → un + uu < cLine → St h₀ L s.heap m l M (n ++ R) → AreD l vs ds →
    wpAny (model PRG w) (topA hnd dp un gd cn cs L a ccd outer) (call (.ref fa) vs) (CP s h₀ L m l M R K) (fun _ _ => False) s
noncomputable abbrev Spec := SpecH none
/-- a call in a frame -/
inductive Calls (hnd : Option Value) (fa : Addr) (rd ru : Nat) (ds : List Dv) (n : Led) (K : Dv → Led → Prop) : Prop
  | mk (dd uu : Nat) (na nr : Led) (K₁ : Dv → Led → Prop) (h : SpecH hnd fa dd uu ds na K₁) (h1 : dd + 1 ≤ rd) (h2 : uu + 3 ≤ ru) (hp : List.Perm n (na ++ nr)) (k : ∀ d n', K₁ d n' → K d (n' ++ nr))
theorem Calls.of {hnd : Option Value} {fa : Addr} {rd ru dd uu : Nat} {ds : List Dv} {n na nr : Led} {K K₁ : Dv → Led → Prop} (h : SpecH hnd fa dd uu ds na K₁) (h1 : dd + 1 ≤ rd) (h2 : uu + 3 ≤ ru) (hp : List.Perm n (na ++ nr)) (k : ∀ d n', K₁ d n' → K d (n' ++ nr)) : Calls hnd fa rd ru ds n K := ⟨dd, uu, na, nr, K₁, h, h1, h2, hp, k⟩
theorem St.perm {h₀ h : Heap} {L : Addr} {m : Str → Option Value} {l : Lg} {M : Nam} {n n' : Led} (hs : St h₀ L h m l M n) (p : List.Perm n n') : St h₀ L h m l M n' :=
  ⟨hs.fr, hs.news, hs.nam, fun q hq => hs.led q (p.mem_iff.mpr hq), (p.map _).nodup_iff.mp hs.nd⟩
section
variable {f : Fn} {c : Cx} {M : Nam} {n : Led} {e : PySem.Expr} {es : List PySem.Expr} {pos p2 : Pos}
theorem Evs.nil {K : List Dv → Led → Prop} (h : K [] n) : Evs f c M n [] K := fun _ l _ h0 tk _ hs => spliced_none ⟨h0, tk, [], n, l, rfl, Keep.refl _, hs, AllR.nil, h⟩
theorem Evs.cons {K : List Dv → Led → Prop} (h : Ev f c M n e fun d n₁ => Evs f c M n₁ es fun ds n₂ => K (d :: ds) n₂) (hp : plainE e = true) : Evs f c M n (e :: es) K := fun pos l R h0 tk m hs => by
  refine spliced_more (wpAny_mono (h l R h0 tk m hs) (fun v s₁ hv => ?_) fun _ _ x => x) (star_plain hp)
  obtain ⟨h1, tk1, d, n1, l1, rfl, k1, hs1, hd, hk⟩ := hv
  refine wpAny_mono (hk pos l1 R h1 tk1 m hs1) (fun vs s₂ hu => ?_) fun _ _ x => x
  obtain ⟨h2, tk2, ds, n2, l2, rfl, k2, hs2, hd2, hk2⟩ := hu
  exact ⟨h2, tk2, d :: ds, n2, l2, rfl, k1.trans k2, hs2, AllR.cons (hd.keep k2) hd2, hk2⟩
theorem Ev.call {K : Dv → Led → Prop} {g : Str} {fa : Addr} {rd ru : Nat} (ok : c.Ok rd ru) (hg : ∀ w : World, nsIn (hK.heap_1 w.params) mainGlobals g = some (some (.ref fa)) ∧ keepIn (hK.heap_1 w.params) (.ref fa) = true)
    (hk : f.scope.kind = .function) (hx : f.kind g = some .globalImplicit) (hb : (g == ("__debug__" : Str)) = false) (hp : (e :: es).all plainE = true) (h : Evs f c M n (e :: es) fun ds n₁ => Calls c.hnd fa rd ru ds n₁ K) : Ev f c M n (.Call (.Name g p2) (e :: es) [] pos) K := fun l R h0 tk m hs => by
  have hp' := hp
  rw [List.all_cons, Bool.and_eq_true] at hp'
  refine Call_ (nameX_K hs.fr ok.kin (topRead_of ok.top) (hg _).1 ?_ hk hx hb)
  refine callWith_K ok.kin (hg _).2 (wpAny_mono (h pos l R h0 tk m hs) (fun vs s₁ hv => ?_) fun _ _ x => x) (star_plain hp'.1) (any_plain hp'.2)
  obtain ⟨h1, tk1, ds, n1, l1, rfl, k1, hs1, hd, hCall⟩ := hv
  obtain ⟨dd, uu, na, nr, K₁, hS, h2, h3, hpm, hK⟩ := hCall
  refine ⟨ok.kin.keeps hs1.fr.keep, ?_⟩
  have hs2 : St c.h₀ c.L h1 m l1 M (na ++ (nr ++ R)) := by
    rw [← List.append_assoc]
    exact hs1.perm (hpm.append_right R)
  have hrd := ok.rd
  have hru := ok.ru
  refine wpAny_mono (hS c.w c.mean c.mg c.mb (c.dp + 1) (c.un + 3) c.gd f.name f.scope c.a c.cd c.outer c.base c.h₀ c.L c.A (c.at h1 tk1) m l1 M (nr ++ R) vs ok.bel ok.kin ok.top hk (by omega) (by omega) hs2 hd) (fun r s₂ hr => ?_) fun _ _ x => x
  obtain ⟨h3, tk3, d, n3, l3, rfl, k3, hs3, hd3, hk3⟩ := hr
  exact ⟨h3, tk3, d, n3 ++ nr, l3, rfl, k1.trans k3, by rw [List.append_assoc]; exact hs3, hd3, hK d n3 hk3⟩
end
/-- the end of a def's body -/
noncomputable def RetIs : Fw → Dv → Prop
  | .ret d, e => e = d
  | .next, e => e = .none
  | _, _ => False
noncomputable def Ret (K : Dv → Led → Prop) (x : Fw) (_ : Nam) (n' : Led) : Prop := ∃ d, RetIs x d ∧ K d n'
theorem leave_both {hnd : Option Value} {f : Fn} {w : World} {mean : ExcName → Option Value} {mg mb : Str → Option Value} {dp un : Nat} {gd : Option (List Code)} {cn : Str} {cs : Scope} {a fa : Addr} {ccd cdv : Value} {outer : List Env} {base h₀ g h' : Heap} {L L' : Addr} {s : Shared} {m m' : Str → Option Value} {M Mb : Nam} {n R : Led} {l : Lg} {K : Dv → Led → Prop} {tk : Nat} {body : List Stmt}
    {R9 : Result → Shared → Prop} {E : Value → Shared → Prop} (hs : St h₀ L s.heap m l M (n ++ R)) (F' : Fr g L' h' m') (N' : News g L' h' l) (hnam : ∀ p ∈ Mb, ∃ v, m' p.1 = some v ∧ p.2.Is l v)
    {dd uu : Nat} (X' : (hK.heap_1 w.params).In g) (T' : TOP mean mg mb g) (B' : Below (topA hnd dp un gd cn cs L a ccd outer) base (envX cn cs L a ccd [] :: outer) g) (hdp : dp + dd < recursionLimit) (hun : un + uu < cLine)
    (E' : XE) (hE : ∀ v s', EP E' l R v s' → E v s') (h : ∀ (c : Cx) (KK : Fw → Nam → Led → Prop), c.Ok dd uu → c.hnd = hnd → c = ⟨w, mean, mg, mb, dp, un, gd, envX cn cs L a ccd [] :: outer, base, g, L', fa, cdv, s, hnd⟩ → (∀ x M n' d, RetIs x d → K d n' → KK x M n') → Ex f c E' Mb n body KK)
    (hQ : ∀ v s', CP s h₀ L m l M R K v s' → R9 (.ok (.ret v)) s') :
    wpAny (model PRG w) ((topA hnd dp un gd cn cs L a ccd outer).deeper (envOf f.name f.scope L' fa cdv)) (execs body (envOf f.name f.scope L' fa cdv)) (fun fl s' => LeaveK h₀ L m g R9 (match fl with | .ret v => v | _ => .none) s') E { s with heap := h', toks := tk } := by
  have hs' : St g L' h' m' l Mb (n ++ R) := ⟨F', N', fun x d hx => by
    obtain ⟨p, hp1, hp2⟩ : ∃ p ∈ Mb, p = (x, d) := by
      clear hnam h
      induction Mb with
      | nil => cases hx
      | cons q r ih =>
        obtain ⟨y, e⟩ := q
        by_cases hq : x = y
        · subst hq
          rw [List.lookup_cons_self] at hx
          cases hx
          exact ⟨_, .head _, rfl⟩
        · rw [List.lookup_cons, beq_false_of_ne hq] at hx
          obtain ⟨p, h1, h2⟩ := ih hx
          exact ⟨p, .tail _ h1, h2⟩
    subst hp2
    exact hnam _ hp1, hs.led, hs.nd⟩
  refine wpAny_mono (h ⟨w, mean, mg, mb, dp, un, gd, envX cn cs L a ccd [] :: outer, base, g, L', fa, cdv, s, hnd⟩ (Ret K) ⟨X', T', B', hdp, hun⟩ rfl rfl (fun _ _ _ d a b => ⟨d, a, b⟩) l R h' tk m' hs') (fun fl s₁ hf => ?_) hE
  obtain ⟨h2, tk2, m2, M2, x, n2, l2, rfl, k2, hs2, hw, hrk⟩ := hf
  obtain ⟨d, hr, hk⟩ := hrk
  refine leaveK_ hs2.fr hs2.news fun F3 N3 => hQ _ _ ⟨h2, tk2, d, n2, l2, rfl, k2, ⟨F3, N3, fun y e he => by obtain ⟨v, hv, hi⟩ := hs.nam y e he; exact ⟨v, hv, hi.keep k2⟩, hs2.led, hs2.nd⟩, ?_, hk⟩
  cases x with
  | next => cases hw; cases hr; rfl
  | ret e => obtain ⟨v, rfl, he⟩ := hw; cases hr; exact he
  | brk => exact hr.elim
  | cont => exact hr.elim
theorem leave_spec {hnd : Option Value} {f : Fn} {w : World} {mean : ExcName → Option Value} {mg mb : Str → Option Value} {dp un : Nat} {gd : Option (List Code)} {cn : Str} {cs : Scope} {a fa : Addr} {ccd cdv : Value} {outer : List Env} {base h₀ g h' : Heap} {L L' : Addr} {s : Shared} {m m' : Str → Option Value} {M Mb : Nam} {n R : Led} {l : Lg} {K : Dv → Led → Prop} {tk : Nat} {body : List Stmt}
    {R9 : Result → Shared → Prop} {E : Value → Shared → Prop} (hs : St h₀ L s.heap m l M (n ++ R)) (F' : Fr g L' h' m') (N' : News g L' h' l) (hnam : ∀ p ∈ Mb, ∃ v, m' p.1 = some v ∧ p.2.Is l v)
    {dd uu : Nat} (X' : (hK.heap_1 w.params).In g) (T' : TOP mean mg mb g) (B' : Below (topA hnd dp un gd cn cs L a ccd outer) base (envX cn cs L a ccd [] :: outer) g) (hdp : dp + dd < recursionLimit) (hun : un + uu < cLine)
    (h : ∀ (c : Cx) (KK : Fw → Nam → Led → Prop), c.Ok dd uu → c.hnd = hnd → (∀ x M n' d, RetIs x d → K d n' → KK x M n') → Ex f c noE Mb n body KK)
    (hQ : ∀ v s', CP s h₀ L m l M R K v s' → R9 (.ok (.ret v)) s') :
    wpAny (model PRG w) ((topA hnd dp un gd cn cs L a ccd outer).deeper (envOf f.name f.scope L' fa cdv)) (execs body (envOf f.name f.scope L' fa cdv)) (fun fl s' => LeaveK h₀ L m g R9 (match fl with | .ret v => v | _ => .none) s') E { s with heap := h', toks := tk } :=
  leave_both hs F' N' hnam X' T' B' hdp hun noE (fun _ _ q => q.no) (fun c KK ok hn _ hk => h c KK ok hn hk) hQ
section
variable {l : Lg}
theorem args1 {vs : List Value} {d : Dv} (h : AreD l vs [d]) : ∃ v, vs = [v] ∧ d.Is l v := by
  match vs, h with
  | [v], h => obtain ⟨b, hb, hi⟩ := h.2 0 v rfl; cases hb; exact ⟨v, rfl, hi⟩
  | [], h => cases h.1
  | _ :: _ :: _, h => cases h.1
theorem args2 {vs : List Value} {d e : Dv} (h : AreD l vs [d, e]) : ∃ v u, vs = [v, u] ∧ d.Is l v ∧ e.Is l u := by
  match vs, h with
  | [v, u], h =>
    obtain ⟨b, hb, hi⟩ := h.2 0 v rfl; cases hb
    obtain ⟨b, hb, hj⟩ := h.2 1 u rfl; cases hb
    exact ⟨v, u, rfl, hi, hj⟩
  | [], h => cases h.1
  | [_], h => cases h.1
  | _ :: _ :: _ :: _, h => cases h.1
theorem args3 {vs : List Value} {d e g : Dv} (h : AreD l vs [d, e, g]) : ∃ v u x, vs = [v, u, x] ∧ d.Is l v ∧ e.Is l u ∧ g.Is l x := by
  match vs, h with
  | [v, u, x], h =>
    obtain ⟨b, hb, hi⟩ := h.2 0 v rfl; cases hb
    obtain ⟨b, hb, hj⟩ := h.2 1 u rfl; cases hb
    obtain ⟨b, hb, hl⟩ := h.2 2 x rfl; cases hb
    exact ⟨v, u, x, rfl, hi, hj, hl⟩
  | [], h => cases h.1
  | [_], h => cases h.1
  | [_, _], h => cases h.1
  | _ :: _ :: _ :: _ :: _, h => cases h.1
end
end Mine

namespace Mine
inductive LenOf (n : Led) : Dv → Int → Prop
  | str {x : List Nat} (h : x.length ≤ 1000000) : LenOf n (.str x) x.length
  | list {a : Addr} {ds : List Dv} (hm : (a, ds) ∈ n) (h : ds.length < 1000000) : LenOf n (.ref a) ds.length
theorem n_len (w : World) : nsIn (hK.heap_1 w.params) mainGlobals (Str.ofString "len") = some none := by
  w_top off
  have fill9 : Mine.Fills PySem.Challenge.rw_sa0210_01 Mine.hK.heap_1 := by (k_fill; exact True.intro)
  have h : nsIn (hK.heap_1 w.params) mainGlobals (Str.ofString "len") = some none := by k_is
  exact h
theorem b_len : bootBuiltins (Str.ofString "len") = some (.builtin "len") := by boot_fast
section
variable {f : Fn} {c : Cx} {M : Nam} {n : Led} {e v1 v2 : PySem.Expr} {es : List PySem.Expr} {pos p2 : Pos} {K : Dv → Led → Prop}
theorem Ev.len {rd ru : Nat} (ok : c.Ok rd ru) (hk : f.scope.kind = .function) (hx : f.kind (Str.ofString "len") = some .globalImplicit) (hp : plainE e = true) (h : Ev f c M n e fun d n₁ => ∃ k, LenOf n₁ d k ∧ K (.int k) n₁) : Ev f c M n (.Call (.Name (Str.ofString "len") p2) [e] [] pos) K := fun l R h0 tk m hs => by
  refine Call_ (nameX_B hs.fr ok.kin (topRead_of ok.top) (n_len _) b_len (by decide) ?_ hk hx (by decide))
  refine callWith_builtin1 (spliced_more (wpAny_mono (h l R h0 tk m hs) (fun v s₁ hv => ?_) fun _ _ x => x) (star_plain hp)) (star_plain hp) rfl
  obtain ⟨h1, tk1, d, n1, l1, rfl, k1, hs1, hd, k, hl, hK⟩ := hv
  refine spliced_none ?_
  cases hl with
  | str hz =>
    obtain ⟨t, rfl⟩ := hd
    exact Mine.lenS rfl hz fun t' k' => ⟨h1, k', .int _, n1, l1, rfl, k1, hs1, ⟨t', rfl⟩, hK⟩
  | list hm hz =>
    cases hd
    obtain ⟨vs, nv, hv, ha⟩ := hs1.led _ (List.mem_append_left _ hm)
    exact Mine.len_ref hs1.news hv (by rw [ha.1]; exact hz) fun t' k' => ⟨h1, k', .int _, n1, l1, rfl, k1, hs1, ⟨t', by rw [ha.1]⟩, hK⟩
end
end Mine

namespace Mine
inductive AttrOf : Dv → Str → Dv → Prop
  | line {c : CardD} : AttrOf (.card c) (Str.ofString "line") (.int c.line)
  | label {c : CardD} : AttrOf (.card c) (Str.ofString "label") (.str c.label)
  | mark {c : CardD} : AttrOf (.card c) (Str.ofString "mark") (.str [c.mark])
  | body {c : CardD} : AttrOf (.card c) (Str.ofString "body") (.str c.body)
  | conts {a b : Int} : AttrOf (.lim a b) (Str.ofString "continuations") (.int b)
  | cols {a b : Int} : AttrOf (.lim a b) (Str.ofString "columns") (.int a)
theorem attr_step {w : World} {A : Around} {h₀ : Heap} {L : Addr} {m : Str → Option Value} {l : Lg} {s : Shared} {at_ : Str} {d x : Dv} {v : Value} (F : Fr h₀ L s.heap m) (X : (hK.heap_1 w.params).In h₀) (N : News h₀ L s.heap l) (hd : d.Is l v) (ha : AttrOf d at_ x) :
    wpAny (model PRG w) A (getAttr v at_ true) (fun r s' => ∃ tk, s' = { s with toks := tk } ∧ x.Is l r) (fun _ _ => False) s := by
  w_top off
  have fill9 : Mine.Fills PySem.Challenge.rw_sa0210_01 Mine.hK.heap_1 := by (k_fill; exact True.intro)
  cases ha
  all_goals (obtain ⟨x, d, hd⟩ := hd)
  case line | label | mark | body =>
    obtain ⟨h1, h2, h3, h4, k1, k2, k3, k4, t1, t2, t3, t4, rfl, a, b⟩ := hd
    refine wpAny_mono (Q := fun r s' => ∃ tk, s' = { s with toks := tk } ∧ Dv.Is l _ r) ?_ (fun _ _ h => h) (fun _ _ h => h)
    generalize hQ : (fun r s' => ∃ tk, s' = { s with toks := tk } ∧ Dv.Is l _ r) = Q
    k_steps
    subst hQ
    exact ⟨_, rfl, _, rfl⟩
  case conts | cols =>
    obtain ⟨h1, h2, h3, h4, h5, h6, h7, h8, k1, k2, k3, k4, k5, k6, k7, k8, v1, v2, v3, v4, v5, v8, t6, t7, rfl, a, b⟩ := hd
    refine wpAny_mono (Q := fun r s' => ∃ tk, s' = { s with toks := tk } ∧ Dv.Is l _ r) ?_ (fun _ _ h => h) (fun _ _ h => h)
    generalize hQ : (fun r s' => ∃ tk, s' = { s with toks := tk } ∧ Dv.Is l _ r) = Q
    k_steps
    subst hQ
    exact ⟨_, rfl, _, rfl⟩
section
variable {f : Fn} {c : Cx} {M : Nam} {n : Led} {e v1 v2 : PySem.Expr} {es : List PySem.Expr} {pos p2 p3 : Pos} {K : Dv → Led → Prop} {at_ : Str}
/-- a new object -/
theorem st_new {h₀ h h' : Heap} {L x : Addr} {m : Str → Option Value} {l : Lg} {o : Obj} {M : Nam} {n : Led} (hs : St h₀ L h m l M n) (F' : Fr h₀ L h' m) (N' : News h₀ L h' ((x, o) :: l)) : St h₀ L h' m ((x, o) :: l) M n ∧ Keep l ((x, o) :: l) :=
  have k : Keep l ((x, o) :: l) := fun _ h _ => .tail _ h
  ⟨⟨F', N', fun y e he => by obtain ⟨v, hv, hi⟩ := hs.nam y e he; exact ⟨v, hv, hi.keep k⟩, fun p hp => by obtain ⟨vs, q, hm, ha⟩ := hs.led p hp; exact ⟨vs, q, .tail _ hm, ha.keep k⟩, hs.nd⟩, k⟩
theorem Ev.list (h : Evs f c M n es fun ds n₁ => ds.length ≤ 1000 ∧ ∀ a, K (.ref a) ((a, ds) :: n₁)) : Ev f c M n (.List es pos) K := fun l R h0 tk m hs => by
  refine List_ (wpAny_mono (h pos l R h0 tk m hs) (fun vs s₁ hv => ?_) fun _ _ x => x)
  obtain ⟨h1, tk1, ds, n1, l1, rfl, k1, hs1, hd, hz, hK⟩ := hv
  refine newList_M hs1.fr hs1.news (fun x h' F' N' hlt => ?_) (by rw [hd.1]; exact hz)
  obtain ⟨hs2, k2⟩ := st_new hs1 F' N'
  refine ⟨h', tk1, .ref x, (x, ds) :: n1, _, rfl, k1.trans k2, ⟨F', N', hs2.nam, mem1 ⟨vs, 0, .head _, hd.keep k2⟩ hs2.led, ?_⟩, rfl, hK x⟩
  refine List.nodup_cons.mpr ⟨fun hm => ?_, hs2.nd⟩
  obtain ⟨p, hp, e⟩ := List.mem_map.mp hm
  obtain ⟨vs', q, hm', _⟩ := hs1.led p hp
  have := hlt _ hm'
  rw [show (p.1, W.listOf vs'.toArray q).1 = x from e] at this
  exact absurd this (Nat.lt_irrefl _)
end
end Mine

namespace Mine
/-- an iterator's object is none of those that values stand on -/
noncomputable def IterO (o : Obj) : Prop := ∃ k, o.cls = .type k ∧ k ≠ "list" ∧ k ≠ "tuple" ∧ k ≠ "dict"
noncomputable def without (l : Lg) (I : Addr) : Lg := l.filter fun p => decide (p.1 ≠ I)
theorem without_mem {l : Lg} {I : Addr} {p : Addr × Obj} (h : p ∈ l) (hn : p.1 ≠ I) : p ∈ without l I := List.mem_filter.mpr ⟨h, by simpa using hn⟩
theorem without_off {l : Lg} {I : Addr} : ∀ p ∈ without l I, p.1 ≠ I := fun p hp => by simpa using (List.mem_filter.mp hp).2
theorem without_sub {l : Lg} {I : Addr} : ∀ p ∈ without l I, p ∈ l := fun _ hp => (List.mem_filter.mp hp).1
/-- values do not stand on an iterator -/
theorem Dv.Is.drop {h₀ h : Heap} {L I : Addr} {l : Lg} {oI : Obj} (N : News h₀ L h l) (hI : (I, oI) ∈ l) (hk : IterO oI) : ∀ {d : Dv} {v : Value}, d.Is l v → d.Is (without l I) v := by
  obtain ⟨k, hc, h1, h2, h3⟩ := hk
  have fn : ∀ p ∈ l, p.2.cls ≠ .type k → p.1 ≠ I := fun p hp hn e => by
    have a := (N p hp).1
    have b := (N _ hI).1
    rw [e, b] at a
    exact hn (by rw [← Option.some.inj a]; exact hc)
  have ft : ∀ a vs, (a, tup vs) ∈ l → (a, tup vs) ∈ without l I := fun a vs hm => without_mem hm (fn _ hm fun q => h2 (Value.type.inj q).symm)
  have fd : ∀ a es n, (a, dictOf es n) ∈ l → (a, dictOf es n) ∈ without l I := fun a es n hm => without_mem hm (fn _ hm fun q => h3 (Value.type.inj q).symm)
  have fi : ∀ a C d, (a, instObj C d) ∈ l → (a, instObj C d) ∈ without l I := fun a C d hm => without_mem hm (fn _ hm fun q => nomatch q)
  intro d v h
  cases d with
  | int => exact h
  | str => exact h
  | bool => exact h
  | none => exact h
  | ref => exact h
  | card c =>
    obtain ⟨x, d, h1, h2, h3, h4, k1, k2, k3, k4, t1, t2, t3, t4, e, a, b⟩ := h
    exact ⟨x, d, h1, h2, h3, h4, k1, k2, k3, k4, t1, t2, t3, t4, e, fi _ _ _ a, fd _ _ _ b⟩
  | pair p =>
    obtain ⟨a, t, u, e, hm⟩ := h
    exact ⟨a, t, u, e, ft _ _ hm⟩
  | t3 p =>
    obtain ⟨a, t, u, w, e, hm⟩ := h
    exact ⟨a, t, u, w, e, ft _ _ hm⟩
  | lim a b =>
    obtain ⟨x, d, h1, h2, h3, h4, h5, h6, h7, h8, k1, k2, k3, k4, k5, k6, k7, k8, v1, v2, v3, v4, v5, v8, t6, t7, e, a, b⟩ := h
    exact ⟨x, d, h1, h2, h3, h4, h5, h6, h7, h8, k1, k2, k3, k4, k5, k6, k7, k8, v1, v2, v3, v4, v5, v8, t6, t7, e, fi _ _ _ a, fd _ _ _ b⟩
theorem St.drop {h₀ h : Heap} {L I : Addr} {m : Str → Option Value} {l : Lg} {oI : Obj} {M : Nam} {n : Led} (hs : St h₀ L h m l M n) (hI : (I, oI) ∈ l) (hk : IterO oI) : St h₀ L h m (without l I) M n := by
  refine ⟨hs.fr, fun p hp => hs.news p (without_sub p hp), fun x d hx => ?_, fun p hp => ?_, hs.nd⟩
  · obtain ⟨v, hv, hi⟩ := hs.nam x d hx
    exact ⟨v, hv, hi.drop hs.news hI hk⟩
  · obtain ⟨vs, q, hm, ha⟩ := hs.led p hp
    refine ⟨vs, q, without_mem hm fun e => ?_, ha.mono fun _ _ z => z.drop hs.news hI hk⟩
    obtain ⟨k, hc, h1, _⟩ := hk
    have a := (hs.news _ hm).1
    rw [show p.1 = I from e, (hs.news _ hI).1] at a
    have := congrArg Obj.cls (Option.some.inj a)
    rw [hc] at this
    exact h1 (Value.type.inj this)
theorem St.add {h₀ h : Heap} {L I : Addr} {m : Str → Option Value} {l : Lg} {oI : Obj} {M : Nam} {n : Led} (hs : St h₀ L h m l M n) (N : News h₀ L h ((I, oI) :: l)) : St h₀ L h m ((I, oI) :: l) M n := (st_new hs hs.fr N).1
theorem St.off {h₀ h h' : Heap} {L I : Addr} {m : Str → Option Value} {l : Lg} {M : Nam} {n : Led} (hs : St h₀ L h m l M n) (hI : I ≠ L) (hI0 : h₀.get? I = none) (hl : ∀ p ∈ l, p.1 ≠ I) (hk : ∀ b o, b ∉ [I] → h.get? b = some o → h'.get? b = some o) : St h₀ L h' m l M n :=
  ⟨fr_off hs.fr hI hI0 hk, news_off hs.news hl hk, hs.nam, hs.led, hs.nd⟩
/-- the end of a loop's turn -/
noncomputable def Turn (J : Nat → Nam → Led → Prop) (i : Nat) (K : Fw → Nam → Led → Prop) : Fw → Nam → Led → Prop
  | .next, M, n => J (i + 1) M n
  | .cont, M, n => J (i + 1) M n
  | .ret d, M, n => K (.ret d) M n
  | .brk, _, _ => False
theorem loop_St {f : Fn} {c : Cx} {R9 : Result → Shared → Prop} {target : PySem.Expr} {body : List Stmt} {I : Addr} {k : Nat} {m : Str → Option Value} {l : Lg} {M : Nam} {n R : Led} {h0 : Heap} {tk0 : Nat} {o0 : Obj} {K : Fw → Nam → Led → Prop} (It : Nat → Obj → Prop) (D : Nat → Dv) (J : Nat → Nam → Led → Prop)
    (hIL : I ≠ c.L) (hI0 : c.h₀.get? I = none) (hn : ∀ p ∈ l, p.1 ≠ I) (hit : h0.get? I = some o0) (hit0 : It 0 o0) (hs : St c.h₀ c.L h0 m l M (n ++ R)) (hJ0 : J 0 M n) (hk : ∀ i o, It i o → IterO o)
    (item : ∀ i h tk m' l' M' n' o (Q : Option Value → Shared → Prop) (E' : Value → Shared → Prop), i < k → J i M' n' → St c.h₀ c.L h m' l' M' (n' ++ R) → h.get? I = some o → It i o →
      (∀ v h1 tk1 o1, (∀ b o, b ∉ [I] → h.get? b = some o → h1.get? b = some o) → h1.get? I = some o1 → It (i + 1) o1 → (D i).Is l' v → Q (some v) (c.at h1 tk1)) → wpAny (model PRG c.w) (f.ar c) (pyNext (.ref I)) Q E' (c.at h tk))
    (fin : ∀ h tk m' l' M' n' o (Q : Option Value → Shared → Prop) (E' : Value → Shared → Prop), J k M' n' → St c.h₀ c.L h m' l' M' (n' ++ R) → h.get? I = some o → It k o →
      (∀ h1 tk1, (∀ b o, b ∉ [I] → h.get? b = some o → h1.get? b = some o) → Q none (c.at h1 tk1)) → wpAny (model PRG c.w) (f.ar c) (pyNext (.ref I)) Q E' (c.at h tk))
    (hgo : ∀ i (s' : Shared) v l' o (Q' : Unit → Shared → Prop) (E' : Value → Shared → Prop), i < k → (D i).Is l' v → s'.heap.get? I = some o → It (i + 1) o → Q' () s' → wpAny (model PRG c.w) (f.ar c) (letOwnedTupleGo target (.ref I) v) Q' E' s')
    (step : ∀ i v M' n' l' h tk m', i < k → J i M' n' → Keep l l' → (D i).Is l' v → St c.h₀ c.L h m' l' M' (n' ++ R) →
      wpAny (model PRG c.w) (f.ar c) (assign target (f.env c) v) (fun _ s₂ => wpAny (model PRG c.w) (f.ar c) (execs body (f.env c)) (XP c l' R (Turn J i K)) (fun _ _ => False) s₂) (fun _ _ => False) (c.at h tk))
    (ret : ∀ v h tk m' l' M' n' d, Keep l l' → St c.h₀ c.L h m' l' M' (n' ++ R) → Dv.Is l' d v → K (.ret d) M' n' → R9 (.ok (.ret v)) (c.at h tk))
    (done : ∀ h tk m' l' M' n', Keep l l' → St c.h₀ c.L h m' l' M' (n' ++ R) → J k M' n' → R9 (.ok .next) (c.at h tk)) :
    codeAny (model PRG c.w) (f.ar c) (.forLoop target (.ref I) body [] (f.env c)) R9 (c.at h0 tk0) := by
  refine codeAny_forLoop_any
    (fun q s' => ∃ i h tk m' l' M' n' o, s' = c.at h tk ∧ h.get? I = some o ∧ It i o ∧ St c.h₀ c.L h m' l' M' (n' ++ R) ∧ (∀ p ∈ l', p.1 ≠ I) ∧ J i M' n' ∧ Keep l l' ∧ i ≤ k ∧ q = k + 1 - i) ?_ (k + 1)
    ⟨0, h0, tk0, m, l, M, n, o0, rfl, hit, hit0, hs, hn, hJ0, Keep.refl _, Nat.zero_le _, rfl⟩
  rintro q s' ⟨i, h, tk, m', l', M', n', o, rfl, ho, hio, hs', hn', hJ, hkl, hi, rfl⟩
  by_cases hlt : i < k
  · refine item i h tk m' l' M' n' o _ _ hlt hJ hs' ho hio fun v h₁ tk₁ o₁ hk₁ ho₁ hio₁ hd => ?_
    have hs₁ := hs'.off hIL hI0 hn' hk₁
    have N₂ := news_cons ho₁ hIL hI0 hs₁.news
    have hs₂ := hs₁.add N₂
    have k₂ : Keep l' ((I, o₁) :: l') := fun _ h _ => .tail _ h
    refine hgo i _ v _ o₁ _ _ hlt hd ho₁ hio₁ ?_
    refine wpAny_mono (wpAny_noRaise (step i v M' n' _ h₁ tk₁ m' hlt hJ (hkl.trans k₂) (hd.keep k₂) hs₂)) (fun _ s₂ h₂ => wpAny_mono (wpAny_noRaise h₂) (fun g s₃ h₃ => ?_) fun _ _ x => x) fun _ _ x => x
    obtain ⟨h', tk', m₂, M₂, w, n₂, l₂, rfl, k₃, hs₃, hw, ht⟩ := h₃
    have hIm : (I, o₁) ∈ l₂ := k₃ _ (.head _) (by obtain ⟨k, e, h1, _⟩ := hk _ _ hio₁; rw [e]; exact fun q => h1 (Value.type.inj q))
    have k₄ : Keep l (without l₂ I) := fun p hp hc => without_mem (k₃ p (k₂ p (hkl p hp hc) hc) hc) (hn p hp)
    have next : J (i + 1) M₂ n₂ → ∃ q', q' < k + 1 - i ∧ ∃ i h tk m' l' M' n' o, c.at h' tk' = c.at h tk ∧ h.get? I = some o ∧ It i o ∧ St c.h₀ c.L h m' l' M' (n' ++ R) ∧ (∀ p ∈ l', p.1 ≠ I) ∧ J i M' n' ∧ Keep l l' ∧ i ≤ k ∧ q' = k + 1 - i := fun hj =>
      ⟨k + 1 - (i + 1), by omega, i + 1, h', tk', m₂, without l₂ I, M₂, n₂, o₁, rfl, (hs₃.news _ hIm).1, hio₁, hs₃.drop hIm (hk _ _ hio₁), without_off, hj, k₄, hlt, rfl⟩
    cases w with
    | next => cases hw; exact next ht
    | cont => cases hw; exact next ht
    | brk => exact ht.elim
    | ret d =>
      obtain ⟨v, rfl, hd⟩ := hw
      exact ret v h' tk' m₂ (without l₂ I) M₂ n₂ d k₄ (hs₃.drop hIm (hk _ _ hio₁)) (hd.drop hs₃.news hIm (hk _ _ hio₁)) ht
  · obtain rfl : i = k := by omega
    refine fin h tk m' l' M' n' o _ _ hJ hs' ho hio fun h₁ tk₁ hk₁ => wpAny_execs_nil ?_
    exact done h₁ tk₁ m' l' M' n' hkl (hs'.off hIL hI0 hn' hk₁) hJ
end Mine

namespace Mine
inductive TP (c : Cx) (l : Lg) (n R : Led) (G : Nam → Prop) (s' : Shared) : Prop
  | mk (h' : Heap) (tk' : Nat) (m' : Str → Option Value) (M' : Nam) (e : s' = c.at h' tk') (s : St c.h₀ c.L h' m' l M' (n ++ R)) (h : G M')
/-- what a target takes -/
noncomputable def Tgt (f : Fn) (c : Cx) (target : PySem.Expr) (d : Dv) (M : Nam) (n : Led) (G : Nam → Prop) : Prop :=
  ∀ l R h tk m v, d.Is l v → St c.h₀ c.L h m l M (n ++ R) → wpAny (model PRG c.w) (f.ar c) (assign target (f.env c) v) (fun _ => TP c l n R G) (fun _ _ => False) (c.at h tk)
noncomputable def GoOk (ds : List Dv) : PySem.Expr → Prop
  | .Name .. => True
  | .Tuple .. => ∀ d ∈ ds, ∀ l v, Dv.Is l d v → ∃ a, v = .ref a
  | _ => False
section
variable {f : Fn} {c : Cx} {E : XE} {M : Nam} {n : Led} {K : Fw → Nam → Led → Prop} {rest body : List Stmt} {e iter target : PySem.Expr} {pos p1 p2 p3 : Pos}
theorem Tgt.name {x : Str} {d : Dv} {G : Nam → Prop} (hk : f.scope.kind = .function) (hx : f.kind x = some .local) (h : G ((x, d) :: M)) : Tgt f c (.Name x p1) d M n G := fun l R h0 tk m v hd hs =>
  asgF_name hs.fr hs.news (fun h' tk' F' N' => ⟨h', tk', _, (x, d) :: M, rfl, st_set hs F' N' hd, h⟩) hk hx
theorem Tgt.pair {x y : Str} {p : Int × List Nat} {k : Nat} {G : Nam → Prop} (hn0 : c.hnd = none) (hk : f.scope.kind = .function) (hx : f.kind x = some .local) (hy : f.kind y = some .local) (hxy : x ≠ y) (h : G ((y, .str p.2) :: (x, .int p.1) :: M)) : Tgt f c (.Tuple [.Name x p1, .Name y p2] k p3) (.pair p) M n G := fun l R h0 tk m v hd hs => by
  obtain ⟨a, t, u, rfl, hm⟩ := hd
  refine asgF_tup2 (nt := 0) hn0 hs.fr hs.news hm (fun h' tk' F' N' => ?_) hk hx hy
  refine ⟨h', tk', _, (y, .str p.2) :: (x, .int p.1) :: M, rfl, ⟨F', N', fun z d hz => ?_, hs.led, hs.nd⟩, h⟩
  by_cases q : z = y
  · rw [q, List.lookup_cons_self] at hz
    cases hz
    exact ⟨_, by simp [q], ⟨u, rfl⟩⟩
  · rw [List.lookup_cons, beq_false_of_ne q] at hz
    by_cases q2 : z = x
    · rw [q2, List.lookup_cons_self] at hz
      cases hz
      exact ⟨_, by simp [q2, hxy], ⟨t, rfl⟩⟩
    · rw [List.lookup_cons, beq_false_of_ne q2] at hz
      obtain ⟨v, hv, hi⟩ := hs.nam z d hz
      exact ⟨v, by simp [q, q2, hv], hi⟩
theorem step_of {J : Nat → Nam → Led → Prop} {i : Nat} {d : Dv} {M' : Nam} {n' R : Led} {l' : Lg} {h : Heap} {tk : Nat} {m' : Str → Option Value} {v : Value} (ht : Tgt f c target d M' n' fun M'' => Ex f c noE M'' n' body (Turn J i K)) (hd : d.Is l' v) (hs : St c.h₀ c.L h m' l' M' (n' ++ R)) :
    wpAny (model PRG c.w) (f.ar c) (assign target (f.env c) v) (fun _ s₂ => wpAny (model PRG c.w) (f.ar c) (execs body (f.env c)) (XP c l' R (Turn J i K)) (fun _ _ => False) s₂) (fun _ _ => False) (c.at h tk) :=
  wpAny_mono (ht l' R h tk m' v hd hs) (fun _ s₂ h₂ => by obtain ⟨h', tk', m2, M2, rfl, hs2, hg⟩ := h₂; exact wpAny_mono (hg l' R h' tk' m2 hs2) (fun _ _ x => x) fun _ _ x => x.no) fun _ _ x => x
theorem n_range (w : World) : nsIn (hK.heap_1 w.params) mainGlobals (Str.ofString "range") = some none := by
  w_top off
  have fill9 : Mine.Fills PySem.Challenge.rw_sa0210_01 Mine.hK.heap_1 := by (k_fill; exact True.intro)
  have h : nsIn (hK.heap_1 w.params) mainGlobals (Str.ofString "range") = some none := by k_is
  exact h
theorem b_range : bootBuiltins (Str.ofString "range") = some (.type "range") := by boot_fast
theorem Ex.forRange {x : Str} {rd ru : Nat} (ok : c.Ok rd ru) (hn0 : c.hnd = none) (hk : f.scope.kind = .function) (hx : f.kind (Str.ofString "range") = some .globalImplicit) (hp : plainE e = true)
    (h : Ev f c M n e fun d n₁ => ∃ (k : Nat) (J : Nat → Nam → Led → Prop), d = .int k ∧ k < 100000 ∧ J 0 M n₁ ∧ (∀ i M' n', i < k → J i M' n' → Tgt f c (.Name x p1) (.int i) M' n' fun M'' => Ex f c noE M'' n' body (Turn J i K)) ∧ ∀ M' n', J k M' n' → Ex f c E M' n' rest K) :
    Ex f c E M n (.For (.Name x p1) (.Call (.Name (Str.ofString "range") p2) [e] [] p3) body [] pos :: rest) K := Ex.cons fun l R h0 tk m hs => by
  refine wpAny_For ?_ (fun _ => rfl)
  refine Call_ (nameX_B hs.fr ok.kin (topRead_of ok.top) (n_range _) b_range (by decide) ?_ hk hx (by decide))
  refine PyProof.Rows.callWith_type1 (spliced_more (wpAny_mono (wpAny_noRaise (h l R h0 tk m hs)) (fun v s₁ hv => ?_) fun _ _ x => x) (star_plain hp)) (star_plain hp) rfl
  obtain ⟨h1, tk1, d, n1, l1, rfl, k1, hs1, hd, k, J, rfl, hkk, hJ0, hst, hdn⟩ := hv
  obtain ⟨t, rfl⟩ := hd
  refine spliced_none ?_
  refine range_M hs1.fr hs1.news (by omega) fun r kk h' tk' t₁ u₁ v₁ ek hr F' N' => ?_
  obtain rfl : kk = k := by omega
  have below : ∀ p ∈ l1, p.1 < h'.objs.size := fun p hp => Heap.lt_size (N' p hp).1
  refine wpAny_pyIter_range hr (small_one (by omega) (by omega) (by omega) (by omega)) ?_
  have W := Walks.range (prog := PRG) (w := c.w) (A := f.ar c) hn0 h'.objs.size 0 1 kk
  have hz : Builtin.Range.rangeSize 0 kk 1 = (kk : Int) := by
    unfold Builtin.Range.rangeSize
    rw [if_pos (by decide)]
    split <;> omega
  have hs2 : St c.h₀ c.L h' m l1 M (n1 ++ R) := ⟨F', N', hs1.nam, hs1.led, hs1.nd⟩
  have up : ∀ b o, b ∉ [h'.objs.size] → h'.get? b = some o → (h'.push { cls := Value.type "range_iterator", data := Data.fields #[rawInt 0, rawInt (Builtin.Range.rangeSize 0 kk 1), rawInt 1] }).get? b = some o := fun b o _ e => Heap.get?_push_of_some _ e
  have hI0 : c.h₀.get? h'.objs.size = none := by
    cases q : c.h₀.get? h'.objs.size with
    | none => rfl
    | some o => exact absurd (Heap.lt_size (F'.keep _ _ q)) (Nat.lt_irrefl _)
  have hIL : h'.objs.size ≠ c.L := Nat.ne_of_gt F'.ns.lt
  have hn : ∀ p ∈ l1, p.1 ≠ h'.objs.size := fun p hp => Nat.ne_of_lt (below p hp)
  refine loop_St (k := kk) (K := Then f c E rest K) (I := h'.objs.size) (fun i o => o = { cls := Value.type "range_iterator", data := Data.fields #[rawInt (0 + (i : Int) * 1), rawInt ((kk : Int) - i), rawInt 1] }) (fun i => .int i) J hIL hI0 hn (Heap.get?_push_size _ rfl) ?_ (hs2.off hIL hI0 hn up) hJ0 ?_ ?_ ?_ ?_ ?_ ?_ ?_
  · rw [hz]; simp
  · rintro i o rfl; exact ⟨_, rfl, by decide, by decide, by decide⟩
  · intro i h tk m' l' M' n' o Q E' hi hJ hs' ho hio hQ
    subst hio
    refine W.item i _ Q E' hi ho fun v h1 tk1 hP hst1 hk1 => ?_
    obtain ⟨t, rfl⟩ := hP
    exact hQ _ _ _ _ hk1 hst1 rfl ⟨t, by congr 1; omega⟩
  · intro h tk m' l' M' n' o Q E' hJ hs' ho hio hQ
    subst hio
    exact W.done _ Q E' ho fun h1 tk1 hk1 => hQ h1 tk1 hk1
  · intro i s' v l' o Q' E' _ hd ho hio hQ
    exact wpAny_pure hQ
  · intro i v M' n' l' h tk m' hi hJ _ hd hs'
    refine wpAny_mono (step_of (hst i M' n' hi hJ) hd hs') (fun _ s₂ h₂ => wpAny_mono h₂ (fun g s₃ h₃ => ?_) fun _ _ x => x) fun _ _ x => x
    obtain ⟨h', tk', m₂, M₂, w, n₂, l₂, e1, e2, e3, e4, e5⟩ := h₃
    refine ⟨h', tk', m₂, M₂, w, n₂, l₂, e1, e2, e3, e4, ?_⟩
    cases w <;> exact e5
  · intro v h tk m' l' M' n' d k2 hs' hd hK
    exact ⟨h, tk, m', M', .ret d, n', l', rfl, k1.trans k2, hs', ⟨v, rfl, hd⟩, hK⟩
  · intro h tk m' l' M' n' k2 hs' hJ
    exact ⟨h, tk, m', M', .next, n', l', rfl, k1.trans k2, hs', rfl, hdn M' n' hJ⟩
theorem Ex.forList (hn0 : c.hnd = none) (hset : ∀ c : Cx, ∀ x, foldedSetIterable iter (f.env c) x = pure x)
    (h : Ev f c M n iter fun d n₁ => ∃ (a : Addr) (ds : List Dv) (J : Nat → Nam → Led → Prop), d = .ref a ∧ ds.length < 100000 ∧ GoOk ds target ∧ J 0 M n₁ ∧ (∀ i M' n', J i M' n' → (a, ds) ∈ n') ∧
      (∀ i x M' n', ds[i]? = some x → J i M' n' → Tgt f c target x M' n' fun M'' => Ex f c noE M'' n' body (Turn J i K)) ∧ ∀ M' n', J ds.length M' n' → Ex f c E M' n' rest K) :
    Ex f c E M n (.For target iter body [] pos :: rest) K := Ex.cons fun l R h0 tk m hs => by
  refine wpAny_For (wpAny_mono (wpAny_noRaise (h l R h0 tk m hs)) (fun v s₁ hv => ?_) fun _ _ x => x) (hset c)
  obtain ⟨h1, tk1, d, n1, l1, rfl, k1, hs1, hd, a, ds, J, rfl, hlen, hgo, hJ0, hkeep, hst, hdn⟩ := hv
  cases hd
  have at_ : ∀ {h : Heap} {m : Str → Option Value} {l : Lg} {M' : Nam} {n' : Led} {i : Nat}, J i M' n' → St c.h₀ c.L h m l M' (n' ++ R) → ∃ (vs : List Value) (q : Nat), (a, W.listOf vs.toArray q) ∈ l ∧ AreD l vs ds := fun {h m l M' n' i} hj hs => hs.led _ (List.mem_append_left _ (hkeep _ _ _ hj))
  obtain ⟨vs, q, hv, ha⟩ := at_ hJ0 hs1
  have F' := hs1.fr
  have N' := hs1.news
  have hls := News.isList N' hv
  have below : ∀ p ∈ l1, p.1 < h1.objs.size := fun p hp => Heap.lt_size (N' p hp).1
  refine wpAny_pyIter_list hls ?_
  have hI0 : c.h₀.get? h1.objs.size = none := by
    cases q : c.h₀.get? h1.objs.size with
    | none => rfl
    | some o => exact absurd (Heap.lt_size (F'.keep _ _ q)) (Nat.lt_irrefl _)
  have hIL : h1.objs.size ≠ c.L := Nat.ne_of_gt F'.ns.lt
  have hn : ∀ p ∈ l1, p.1 ≠ h1.objs.size := fun p hp => Nat.ne_of_lt (below p hp)
  have haI : a ≠ h1.objs.size := hn _ hv
  have W := fun (items : Array Value) => Walks.list (prog := PRG) (w := c.w) (A := f.ar c) hn0 h1.objs.size a haI items
  refine loop_St (k := ds.length) (K := Then f c E rest K) (I := h1.objs.size) (fun i o => o.cls = Value.type "list_iterator" ∧ o.data = Data.fields #[Value.ref a, Value.int (i : Int) 0]) (fun i => (ds[i]?).getD .none) J hIL hI0 hn (Heap.get?_push_size _ rfl) ⟨rfl, rfl⟩ (hs1.off hIL hI0 hn (fun b o _ e => Heap.get?_push_of_some _ e)) hJ0 ?_ ?_ ?_ ?_ ?_ ?_ ?_
  · rintro i o ⟨e, _⟩; exact ⟨_, e, by decide, by decide, by decide⟩
  · intro i h tk m' l' M' n' o Q E' hi hJ hs' ho hio hQ
    obtain ⟨vs, q, hv, ha⟩ := at_ hJ hs'
    refine (W vs.toArray).item i _ Q E' (by rw [List.size_toArray, ha.1]; exact hi) ⟨⟨o, ho, hio.1, hio.2⟩, News.isList hs'.news hv⟩ fun v h1 tk1 hP hst1 hk1 => ?_
    obtain ⟨⟨o1, ho1, e1, e2⟩, _⟩ := hst1
    have hv' : vs[i]? = some v := by simpa using hP
    obtain ⟨x, hx, hi'⟩ := ha.2 i v hv'
    exact hQ v h1 tk1 o1 hk1 ho1 ⟨e1, e2⟩ (by simp only [hx, Option.getD_some]; exact hi')
  · intro h tk m' l' M' n' o Q E' hJ hs' ho hio hQ
    obtain ⟨vs, q, hv, ha⟩ := at_ hJ hs'
    have e : vs.toArray.size = ds.length := by rw [List.size_toArray, ha.1]
    exact (W vs.toArray).done _ Q E' ⟨⟨o, ho, hio.1, by rw [e]; exact hio.2⟩, News.isList hs'.news hv⟩ fun h1 tk1 hk1 => hQ h1 tk1 hk1
  · intro i s' v l' o Q' E' hi hd ho hio hQ
    have hx : ds[i]? = some ds[i] := by simp [hi]
    simp only [hx, Option.getD_some] at hd
    cases target <;> first
      | exact False.elim hgo
      | exact wpAny_pure hQ
      | (obtain ⟨a, rfl⟩ := hgo _ (List.getElem_mem hi) l' v hd; exact wpAny_letOwnedTupleGo_listiter ⟨o, ho, hio.1, hio.2⟩ hQ)
  · intro i v M' n' l' h tk m' hi hJ _ hd hs'
    have hx : ds[i]? = some ds[i] := by simp [hi]
    simp only [hx, Option.getD_some] at hd
    refine wpAny_mono (step_of (hst i _ M' n' hx hJ) hd hs') (fun _ s₂ h₂ => wpAny_mono h₂ (fun g s₃ h₃ => ?_) fun _ _ x => x) fun _ _ x => x
    obtain ⟨h', tk', m₂, M₂, w, n₂, l₂, e1, e2, e3, e4, e5⟩ := h₃
    refine ⟨h', tk', m₂, M₂, w, n₂, l₂, e1, e2, e3, e4, ?_⟩
    cases w <;> exact e5
  · intro v h tk m' l' M' n' d k2 hs' hd hK
    exact ⟨h, tk, m', M', .ret d, n', l', rfl, k1.trans k2, hs', ⟨v, rfl, hd⟩, hK⟩
  · intro h tk m' l' M' n' k2 hs' hJ
    exact ⟨h, tk, m', M', .next, n', l', rfl, k1.trans k2, hs', rfl, hdn M' n' hJ⟩
/-- the list at a grows -/
theorem st_upd {h₀ h h' : Heap} {L a : Addr} {m : Str → Option Value} {l : Lg} {M : Nam} {n₀ : Led} {ds ds' : List Dv} {vs vs' : List Value} {q q' : Nat} (hs : St h₀ L h m l M ((a, ds) :: n₀)) (hv : (a, W.listOf vs.toArray q) ∈ l) (F' : Fr h₀ L h' m) (N' : News h₀ L h' ((a, W.listOf vs'.toArray q') :: without l a)) (ha : AreD l vs' ds') :
    St h₀ L h' m ((a, W.listOf vs'.toArray q') :: without l a) M ((a, ds') :: n₀) ∧ Keep l ((a, W.listOf vs'.toArray q') :: without l a) := by
  have k : Keep l ((a, W.listOf vs'.toArray q') :: without l a) := fun p hp hc => .tail _ (without_mem hp fun e => by
    have h1 := (hs.news p hp).1
    rw [e, (hs.news _ hv).1] at h1
    exact hc (by rw [← Option.some.inj h1]))
  refine ⟨⟨F', N', fun x d hx => ?_, mem1 ⟨vs', q', .head _, ha.keep k⟩ fun p hp => ?_, hs.nd⟩, k⟩
  · obtain ⟨v, hv, hi⟩ := hs.nam x d hx
    exact ⟨v, hv, hi.keep k⟩
  · obtain ⟨us, r, hm, hu⟩ := hs.led p (.tail _ hp)
    have hne : p.1 ≠ a := fun e => (List.nodup_cons.mp hs.nd).1 (List.mem_map.mpr ⟨p, hp, e⟩)
    exact ⟨us, r, .tail _ (without_mem hm hne), hu.keep k⟩
theorem method_eq {x : Str} {e : PySem.Expr} {name : Str} {env : Env} (hp : plainE e = true) (hl : (p2.endLine == p3.line) = true) : eval (.Call (.Attribute (.Name x p1) name p2) [e] [] p3) env = (do
      let ov ← eval (.Name x p1) env
      standAt p2.atName
      let (f, first) ← holding [ov] (getMethod ov name (do return (← importBound (.Name x p1) env).getD true))
      callWith p3 f first (backTo p3 (starEach [e] env)) []) := by
  have q : (backTo p3 (starEach [e] env)).all (!·.1) = true := by rw [star_plain hp]; rfl
  have q2 : methodCallForm 1 (backTo p3 (starEach [e] env)) [] = true := by unfold methodCallForm; rw [q]; rfl
  refine Eq.trans (b := do
    let ov ← eval (.Name x p1) env
    standAt p2.atName
    methodCall (.Name x p1) name p2 p3 env ov 1 (backTo p3 (starEach [e] env)) []) rfl ?_
  unfold methodCall
  rw [q2]
  unfold methodCallPos
  rw [hl]
  rfl
theorem not_inter (hk : f.scope.kind = .function) : interactive (f.env c) = false := by
  unfold interactive
  rw [show (f.env c).scope.kind = .function from hk]
  rfl
theorem Ex.append {x : Str} {a : Addr} {ds₀ : List Dv} (hx : M.lookup x = some (.ref a)) (hm : (a, ds₀) ∈ n) (hk : f.scope.kind = .function) (hl : f.kind x = some .local) (hb : (x == ("__debug__" : Str)) = false) (hp : plainE e = true) (hpl : (p2.endLine == p3.line) = true) (hw : swapsWith (.Call (.Attribute (.Name x p1) (Str.ofString "append") p2) [e] [] p3) none pos.line (f.env c) = pure false)
    (h : Ev f c M n e fun d n₁ => ∃ ds n₀, List.Perm n₁ ((a, ds) :: n₀) ∧ ds.length ≤ 100000 ∧ Ex f c E M ((a, ds ++ [d]) :: n₀) rest K) :
    Ex f c E M n (.Expr (.Call (.Attribute (.Name x p1) (Str.ofString "append") p2) [e] [] p3) pos :: rest) K := Ex.cons fun l R h0 tk m hs => by
  refine wpAny_Expr_any (wpAny_noRaise (MethodCall_ ?_ (method_eq hp hpl))) (not_inter hk) hw
  obtain ⟨v, hv, hi⟩ := hs.nam x _ hx
  cases hi
  refine nameX_L hs.fr hv ?_ hk hl hb
  obtain ⟨vs, q, hmv, _⟩ := hs.led _ (List.mem_append_left _ hm)
  refine getMethod_append_N hs.news hmv ?_
  refine callWith_method1 (spliced_more (wpAny_mono (h l R h0 tk m hs) (fun v s₁ hv => ?_) fun _ _ x => x) (star_plain hp)) (star_plain hp) rfl
  obtain ⟨h1, tk1, d, n1, l1, rfl, k1, hs1, hd, ds, n₀, hpm, hz, hK⟩ := hv
  refine spliced_none ?_
  have hs2 : St c.h₀ c.L h1 m l1 M ((a, ds) :: (n₀ ++ R)) := hs1.perm (hpm.append_right R)
  obtain ⟨us, r, hmu, ha⟩ := hs2.led _ (.head _)
  refine append_M (news := (a, W.listOf us.toArray r) :: without l1 a) (vs := us) (n := r) hs2.fr (mem1 (hs2.news _ hmu) fun p hp => hs2.news p (without_sub p hp)) (by rw [ha.1]; exact Nat.le_trans hz (by decide)) (.head without_off) fun h' F' N' => ?_
  obtain ⟨hs3, k3⟩ := st_upd hs2 hmu F' N' (ha.snoc hd)
  exact ⟨h', tk1, m, M, .next, (a, ds ++ [d]) :: n₀, _, rfl, k1.trans k3, hs3, rfl, hK⟩
end
end Mine

namespace Mine
/-- the names that are kept -/
noncomputable def Has (M : Nam) : Nam → Prop
  | [] => True
  | p :: r => M.lookup p.1 = some p.2 ∧ Has M r
theorem Has.get {M : Nam} : ∀ {M' : Nam} {x : Str} {d : Dv}, Has M M' → M'.lookup x = some d → M.lookup x = some d
  | [], _, _, _, hx => nomatch hx
  | (y, e) :: r, x, d, h, hx => by
    by_cases q : x = y
    · rw [q, List.lookup_cons_self] at hx
      cases hx
      rw [q]
      exact h.1
    · rw [List.lookup_cons, beq_false_of_ne q] at hx
      exact h.2.get hx
/-- the lists that are kept -/
noncomputable def Sub (a b : Led) : Prop := ∃ r, List.Perm b (a ++ r)
theorem Sub.refl (a : Led) : Sub a a := ⟨[], by rw [List.append_nil]⟩
theorem Sub.nil {b : Led} : Sub [] b := ⟨b, .refl _⟩
theorem Sub.keep {x : Addr × List Dv} {a b : Led} : Sub a b → Sub (x :: a) (x :: b) := fun ⟨r, h⟩ => ⟨r, h.cons _⟩
theorem Sub.skip {x : Addr × List Dv} {a b : Led} : Sub a b → Sub a (x :: b) := fun ⟨r, h⟩ => ⟨x :: r, (h.cons _).trans List.perm_middle.symm⟩
section
variable {f : Fn} {c : Cx} {E : XE} {M M' : Nam} {n n' : Led} {K : Fw → Nam → Led → Prop} {rest body : List Stmt} {e iter target : PySem.Expr} {pos p1 p2 p3 : Pos}
theorem St.cut {h₀ h : Heap} {L : Addr} {m : Str → Option Value} {l : Lg} {r R : Led} (hs : St h₀ L h m l M (n ++ (r ++ R))) : St h₀ L h m l M (n ++ R) :=
  have s : List.Sublist (n ++ R) (n ++ (r ++ R)) := (List.sublist_append_right r R).append_left n
  ⟨hs.fr, hs.news, hs.nam, fun p hp => hs.led p (s.subset hp), hs.nd.sublist (s.map _)⟩
theorem Ex.weak {ss : List Stmt} (hM : ∀ x d, M'.lookup x = some d → M.lookup x = some d) (hn : Sub n' n) (h : Ex f c E M' n' ss K) : Ex f c E M n ss K := fun l R h0 tk m hs => by
  obtain ⟨r, hp⟩ := hn
  have hs' : St c.h₀ c.L h0 m l M' (n' ++ (r ++ R)) := by
    rw [← List.append_assoc]
    have hp2 : List.Perm (n ++ R) ((n' ++ r) ++ R) := hp.append_right R
    exact ⟨hs.fr, hs.news, fun x d hx => hs.nam x d (hM x d hx), (hs.perm hp2).led, (hs.perm hp2).nd⟩
  refine wpAny_mono (h l (r ++ R) h0 tk m hs') (fun g s₁ hg => ?_) fun _ _ x => x.up (Keep.refl _) fun _ h => List.mem_append_right _ h
  obtain ⟨h1, tk1, m1, M1, w, n1, l1, rfl, k1, hs1, z, z2⟩ := hg
  exact ⟨h1, tk1, m1, M1, w, n1, l1, rfl, k1, hs1.cut, z, z2⟩
theorem Ex.eff (h : Ev f c M n e fun _ n₁ => Ex f c E M n₁ rest K) (hk : f.scope.kind = .function) (hw : swapsWith e none pos.line (f.env c) = pure false) : Ex f c E M n (.Expr e pos :: rest) K := Ex.cons fun l R h0 tk m hs => by
  refine wpAny_Expr_any (wpAny_mono (wpAny_noRaise (h l R h0 tk m hs)) (fun v s₁ hv => ?_) fun _ _ x => x) (not_inter hk) hw
  obtain ⟨h1, tk1, d, n1, l1, rfl, k1, hs1, hd, hK⟩ := hv
  exact ⟨h1, tk1, m, M, .next, n1, l1, rfl, k1, hs1, rfl, hK⟩
theorem Bv.val {K : Bool → Led → Prop} (h : Ev f c M n e fun d n₁ => ∃ b, d = .bool b ∧ K b n₁) (he : ∀ whole, isTrue e (f.env c) whole = (do let v ← whole; standAt e.pos; holding [v] (truthy v))) : Bv f c M n e K := fun l R h0 tk m hs => by
  refine wpAny_isTrue_value (wpAny_mono (h l R h0 tk m hs) (fun v s₁ hv => ?_) fun _ _ x => x) (he _)
  obtain ⟨h1, tk1, d, n1, l1, rfl, k1, hs1, hd, b, rfl, hK⟩ := hv
  cases hd
  exact wpAny_truthy_bool ⟨h1, tk1, n1, l1, rfl, k1, hs1, hK⟩
theorem Ex.mono {K' : Fw → Nam → Led → Prop} {ss : List Stmt} (h : Ex f c E M n ss K) (k : ∀ w M n, K w M n → K' w M n) : Ex f c E M n ss K' := fun l R h0 tk m hs => wpAny_mono (h l R h0 tk m hs) (fun g s₁ hg => by
  obtain ⟨h1, tk1, m1, M1, w, n1, l1, e, k1, hs1, hw, hk⟩ := hg
  exact ⟨h1, tk1, m1, M1, w, n1, l1, e, k1, hs1, hw, k _ _ _ hk⟩) fun _ _ x => x
noncomputable def At {σ : Type} (N : σ → Nam) (T : σ → Led) (I : σ → Prop) (K : Fw → Nam → Led → Prop) : Fw → Nam → Led → Prop
  | .next, M, n => ∃ x, Has M (N x) ∧ Sub (T x) n ∧ I x
  | w, M, n => K w M n
/-- both branches meet -/
theorem Ex.iteS {σ : Type} (N : σ → Nam) (T : σ → Led) (I : σ → Prop) {orelse : List Stmt} (h : ∀ KA : Fw → Nam → Led → Prop, (∀ x M n, Has M (N x) → Sub (T x) n → I x → KA .next M n) → (∀ w M n, w ≠ .next → K w M n → KA w M n) → Bv f c M n e fun b n₁ => (b = true → Ex f c E M n₁ body KA) ∧ (b = false → Ex f c E M n₁ orelse KA))
    (hJ : ∀ x, I x → Ex f c E (N x) (T x) rest K) : Ex f c E M n (.If e body orelse pos :: rest) K := by
  have go : ∀ w M n, At N T I K w M n → Then f c E rest K w M n := fun w M n h => by
    cases w with
    | next => obtain ⟨x, h1, h2, h3⟩ := h; exact Ex.weak (fun _ _ q => h1.get q) h2 (hJ x h3)
    | ret d => exact h
    | brk => exact h
    | cont => exact h
  refine Ex.ite fun l R h0 tk m hs => wpAny_mono (h (At N T I K) (fun x M n h1 h2 h3 => ⟨x, h1, h2, h3⟩) (fun w M n h1 h2 => by cases w <;> first | exact h2 | exact (h1 rfl).elim) l R h0 tk m hs) (fun b s₁ hb => ?_) fun _ _ x => x
  obtain ⟨h1, tk1, n1, l1, e, k1, hs1, h2, h3⟩ := hb
  exact ⟨h1, tk1, n1, l1, e, k1, hs1, fun q => (h2 q).mono go, fun q => (h3 q).mono go⟩
noncomputable def Going : Fw → Prop
  | .next => True
  | .cont => True
  | _ => False
end
section
variable {K : Dv → Prop}
theorem P.gtI {a b : Int} (h : K (.bool (decide (a > b)))) : Prim2 (compareOp .Gt) (.int a) (.int b) K := by
  rintro w A s l _ _ ⟨t, rfl⟩ ⟨u, rfl⟩
  exact PyProof.Rows.gt_int ⟨_, .bool (decide (a > b)), rfl, rfl, h⟩
theorem P.eqI {a b : Int} (h : K (.bool (a == b))) : Prim2 (compareOp .Eq) (.int a) (.int b) K := by
  rintro w A s l _ _ ⟨t, rfl⟩ ⟨u, rfl⟩
  exact PyProof.Rows.eq_int ⟨_, .bool (a == b), rfl, rfl, h⟩
theorem P.leI {a b : Int} (h : K (.bool (decide (a ≤ b)))) : Prim2 (compareOp .LtE) (.int a) (.int b) K := by
  rintro w A s l _ _ ⟨t, rfl⟩ ⟨u, rfl⟩
  exact le_int ⟨_, .bool (decide (a ≤ b)), rfl, rfl, h⟩
end
/-- from a contract that lets all entries stand -/
theorem Spec.of {fa : Addr} {dd uu : Nat} {ds : List Dv} {na : Led} {K : Dv → Prop} (h : ∀ (w : World) (mean : ExcName → Option Value) (mg mb : Str → Option Value) (l : Lg) (vs : List Value), AreD l vs ds → (∀ p ∈ na, Lst l p.1 p.2) →
    ∃ P : Value → Lg → Prop, CallIs w mean mg mb dd uu fa vs l P ∧ ∀ r n', P r n' → (∀ p ∈ l, p ∈ n') ∧ ∃ d, d.Is n' r ∧ K d) : Spec fa dd uu ds na fun d n => n = na ∧ K d := by
  intro w mean mg mb dp un gd cn cs a ccd outer base h₀ L A₀ s m l M R vs B X T hks hdp hun hs hv
  obtain ⟨P, hc, hP⟩ := h w mean mg mb l vs hv fun p hp => hs.led p (List.mem_append_left _ hp)
  refine hc dp un gd cn cs a ccd [] outer A₀ base h₀ L m s _ B hs.fr X hs.news T hks hdp hun fun r n' h' tk' F' N' hp => ?_
  obtain ⟨hk, d, hi, hK⟩ := hP r n' hp
  have k : Keep l n' := fun p hp _ => hk p hp
  refine ⟨h', tk', d, na, n', rfl, k, ⟨F', N', fun x e he => ?_, fun p hp => ?_, hs.nd⟩, hi, rfl, hK⟩
  · obtain ⟨v, hv, hj⟩ := hs.nam x e he
    exact ⟨v, hv, hj.keep k⟩
  · obtain ⟨vs, q, hm, ha⟩ := hs.led p hp
    exact ⟨vs, q, hk _ hm, ha.keep k⟩
theorem Calls.eq {hnd : Option Value} {fa : Addr} {rd ru dd uu : Nat} {ds : List Dv} {n na nr : Led} {x : Dv} {K : Dv → Led → Prop} (h : SpecH hnd fa dd uu ds na fun d n => n = na ∧ d = x) (h1 : dd + 1 ≤ rd) (h2 : uu + 3 ≤ ru) (hp : List.Perm n (na ++ nr)) (k : K x (na ++ nr)) : Calls hnd fa rd ru ds n K :=
  Calls.of h h1 h2 hp fun d n' q => by rw [q.1, q.2]; exact k
theorem icont_Q (c : CardD) : Spec 109 5 50 [.card c] [] fun d n => n = [] ∧ d = .bool (isCont c) := Spec.of fun w mean mg mb l vs hv _ => by
  obtain ⟨v, rfl, hi⟩ := args1 hv
  exact ⟨_, icont_spec hi, fun r n' ⟨h1, h2⟩ => by subst h1 h2; exact ⟨fun _ h => h, .bool _, rfl, rfl⟩⟩
theorem rl_Q {c : CardD} (h : LabelOk c) : Spec 116 10 100 [.card c] [] fun d n => n = [] ∧ d = .int (labOf c) := Spec.of fun w mean mg mb l vs hv _ => by
  obtain ⟨v, rfl, hi⟩ := args1 hv
  exact ⟨_, rl_spec hi h.len h.dig h.nz, fun r n' ⟨t, h1, h2⟩ => by subst h1 h2; exact ⟨fun _ h => h, .int _, ⟨t, rfl⟩, rfl⟩⟩
end Mine

namespace Mine
end Mine

namespace Mine
section
variable {f : Fn} {c : Cx} {M : Nam} {n : Led} {K : Bool → Led → Prop} {e : PySem.Expr} {es : List PySem.Expr} {pos : Pos}
theorem Bv.not (h : Bv f c M n e fun b n₁ => K (!b) n₁) : Bv f c M n (.UnaryOp .Not e pos) K := fun l R h0 tk m hs => isTrue_not (wpAny_mono (h l R h0 tk m hs) (fun _ _ hb => by
  obtain ⟨h1, tk1, n1, l1, e1, k1, hs1, hK⟩ := hb
  exact ⟨h1, tk1, n1, l1, e1, k1, hs1, hK⟩) fun _ _ x => x)
theorem Bv.andNil (h : K true n) : Bv f c M n (.BoolOp .And [] pos) K := fun l _ h0 tk _ hs => isTrue_and_nil ⟨h0, tk, n, l, rfl, Keep.refl _, hs, h⟩
theorem Bv.orNil (h : K false n) : Bv f c M n (.BoolOp .Or [] pos) K := fun l _ h0 tk _ hs => isTrue_or_nil ⟨h0, tk, n, l, rfl, Keep.refl _, hs, h⟩
theorem BP.trans {c : Cx} {m : Str → Option Value} {l l1 : Lg} {R : Led} {b : Bool} {s : Shared} (k : Keep l l1) : BP c m l1 M R K b s → BP c m l M R K b s := fun ⟨h1, tk1, n1, l2, e1, k1, hs1, hK⟩ => ⟨h1, tk1, n1, l2, e1, k.trans k1, hs1, hK⟩
theorem Bv.and (h : Bv f c M n e fun b n₁ => (b = true → Bv f c M n₁ (.BoolOp .And es pos) K) ∧ (b = false → K false n₁)) : Bv f c M n (.BoolOp .And (e :: es) pos) K := fun l R h0 tk m hs => by
  refine isTrue_and (wpAny_mono (h l R h0 tk m hs) (fun b s₁ hb => ?_) fun _ _ x => x)
  obtain ⟨h1, tk1, n1, l1, rfl, k1, hs1, h2, h3⟩ := hb
  cases b with
  | true => exact wpAny_mono (h2 rfl l1 R h1 tk1 m hs1) (fun _ _ hb => hb.trans k1) fun _ _ x => x
  | false => exact ⟨h1, tk1, n1, l1, rfl, k1, hs1, h3 rfl⟩
theorem Bv.or (h : Bv f c M n e fun b n₁ => (b = true → K true n₁) ∧ (b = false → Bv f c M n₁ (.BoolOp .Or es pos) K)) : Bv f c M n (.BoolOp .Or (e :: es) pos) K := fun l R h0 tk m hs => by
  refine isTrue_or (wpAny_mono (h l R h0 tk m hs) (fun b s₁ hb => ?_) fun _ _ x => x)
  obtain ⟨h1, tk1, n1, l1, rfl, k1, hs1, h2, h3⟩ := hb
  cases b with
  | true => exact ⟨h1, tk1, n1, l1, rfl, k1, hs1, h2 rfl⟩
  | false => exact wpAny_mono (h3 rfl l1 R h1 tk1 m hs1) (fun _ _ hb => hb.trans k1) fun _ _ x => x
end
section
variable {f : Fn} {c : Cx} {E : XE} {M : Nam} {n : Led} {K : Fw → Nam → Led → Prop} {rest body : List Stmt} {e : PySem.Expr} {pos p1 p2 p3 : Pos}
end
end Mine

namespace Mine
theorem evalPart_none {M : Model} {A : Around} {E : Value → Shared → Prop} {s : Shared} {env : Env} {Q : Value → Shared → Prop} (h : Q .none s) : wpAny M A (evalPart none env) Q E s := wpAny_pure h
section
variable {f : Fn} {c : Cx} {M : Nam} {n : Led} {K : Dv → Led → Prop} {e v1 : PySem.Expr} {pos p2 : Pos}
end
end Mine

namespace Mine
noncomputable def WT {σ : Type} (N : σ → Nam) (T : σ → Led) (I : Nat → σ → Prop) (k : Nat) (K : Fw → Nam → Led → Prop) : Fw → Nam → Led → Prop
  | .next, M, n => ∃ k' x, k' < k ∧ Has M (N x) ∧ Sub (T x) n ∧ I k' x
  | .cont, M, n => ∃ k' x, k' < k ∧ Has M (N x) ∧ Sub (T x) n ∧ I k' x
  | .ret d, M, n => K (.ret d) M n
  | .brk, _, _ => False
section
variable {f : Fn} {c : Cx} {E : XE} {M : Nam} {n : Led} {K : Fw → Nam → Led → Prop} {rest body : List Stmt} {e : PySem.Expr} {pos : Pos}
theorem Ex.while {σ : Type} (N : σ → Nam) (T : σ → Led) (I : Nat → σ → Prop) (k₀ : Nat) (x₀ : σ) (hM : Has M (N x₀)) (hT : Sub (T x₀) n) (hI : I k₀ x₀)
    (turn : ∀ k x (KT : Fw → Nam → Led → Prop), I k x → (∀ w k' y M n, Going w → k' < k → Has M (N y) → Sub (T y) n → I k' y → KT w M n) → (∀ d M n, K (.ret d) M n → KT (.ret d) M n) →
      Bv f c (N x) (T x) e fun b n₁ => (b = true → Ex f c noE (N x) n₁ body KT) ∧ (b = false → Ex f c E (N x) n₁ rest K)) :
    Ex f c E M n (.While e body [] pos :: rest) K := Ex.cons fun l R h0 tk m hs => by
  refine wpAny_While ?_
  obtain ⟨r, hp⟩ := hT
  have go : ∀ {h : Heap} {m : Str → Option Value} {l : Lg} {M : Nam} {n r R : Led} {x : σ}, Has M (N x) → List.Perm n (T x ++ r) → St c.h₀ c.L h m l M (n ++ R) → St c.h₀ c.L h m l (N x) (T x ++ (r ++ R)) := fun {h m l M n r R x} hM hp hs => by
    rw [← List.append_assoc]
    have hp2 := hp.append_right R
    exact ⟨hs.fr, hs.news, fun z d hz => hs.nam z d (hM.get hz), (hs.perm hp2).led, (hs.perm hp2).nd⟩
  refine codeAny_whileLoop (fun k s' => ∃ h tk m' l' x r, s' = c.at h tk ∧ Keep l l' ∧ St c.h₀ c.L h m' l' (N x) (T x ++ (r ++ R)) ∧ I k x) ?_ k₀ ⟨h0, tk, m, l, x₀, r, rfl, Keep.refl _, go hM hp hs, hI⟩
  rintro k s' ⟨h, tk, m', l', x, r, rfl, k1, hs1, hi⟩
  refine wpAny_mono (turn k x (WT N T I k K) hi (fun w k' y M n hw h1 h2 h3 h4 => by cases w <;> first | exact ⟨k', y, h1, h2, h3, h4⟩ | cases hw) (fun _ _ _ h => h) l' (r ++ R) h tk m' hs1) (fun b s₂ h₂ => ?_) fun _ _ x => x.elim
  obtain ⟨h2, tk2, n2, l2, rfl, k2, hs2, ht, hf⟩ := h₂
  cases b with
  | false =>
    simp only [Bool.false_eq_true, if_false]
    exact wpAny_execs_nil ⟨h2, tk2, m', N x, .next, n2, l2, rfl, k1.trans k2, hs2.cut, rfl, hf rfl⟩
  | true =>
    simp only [if_true]
    refine wpAny_mono (ht rfl l2 (r ++ R) h2 tk2 m' hs2) (fun g s₃ h₃ => ?_) fun _ _ x => x.no
    obtain ⟨h3, tk3, m3, M3, w, n3, l3, rfl, k3, hs3, hw, hk⟩ := h₃
    have kk := (k1.trans k2).trans k3
    have nx : (∃ k' x, k' < k ∧ Has M3 (N x) ∧ Sub (T x) n3 ∧ I k' x) → ∃ k', k' < k ∧ ∃ h tk m' l' x r, c.at h3 tk3 = c.at h tk ∧ Keep l l' ∧ St c.h₀ c.L h m' l' (N x) (T x ++ (r ++ R)) ∧ I k' x := fun ⟨k', y, q1, q2, ⟨r', q3⟩, q4⟩ =>
      ⟨k', q1, h3, tk3, m3, l3, y, r', rfl, kk, go q2 q3 hs3.cut, q4⟩
    cases w with
    | next => cases hw; exact nx hk
    | cont => cases hw; exact nx hk
    | brk => exact hk.elim
    | ret d => obtain ⟨v, rfl, hd⟩ := hw; exact ⟨h3, tk3, m3, M3, .ret d, n3, l3, rfl, kk, hs3.cut, ⟨v, rfl, hd⟩, hk⟩
theorem Ex.addTo {x : Str} {a : Int} {p2 : Pos} (hd : M.lookup x = some (.int a)) (hk : f.scope.kind = .function) (hx : f.kind x = some .local) (h : Ev f c M n e fun d n₁ => ∃ b, d = .int b ∧ Ex f c E ((x, .int (a + b)) :: M) n₁ rest K) :
    Ex f c E M n (.AugAssign (.Name x p2) .Add e pos :: rest) K := Ex.cons fun l R h0 tk m hs => by
  obtain ⟨v, hv, t, rfl⟩ := hs.nam x _ hd
  refine wpAny_AugAssign_Name (wpAny_loadName_local hk hx hs.fr.ns hv (wpAny_mono (wpAny_noRaise (h l R h0 tk m hs)) (fun v s₁ hv => ?_) fun _ _ x => x))
  obtain ⟨h1, tk1, d, n1, l1, rfl, k1, hs1, hd, b, rfl, hK⟩ := hv
  obtain ⟨u, rfl⟩ := hd
  refine iadd_int ?_
  exact storeX_L hs1.fr hs1.news (fun h' F' N' => ⟨h', tk1 + 1 + 1, _, (x, .int (a + b)) :: M, .next, n1, l1, rfl, k1, st_set hs1 F' N' ⟨_, rfl⟩, rfl, hK⟩) hk hx
end
end Mine

namespace Mine
theorem n_str (w : World) : nsIn (hK.heap_1 w.params) mainGlobals (Str.ofString "str") = some none := by
  w_top off
  have fill9 : Mine.Fills PySem.Challenge.rw_sa0210_01 Mine.hK.heap_1 := by (k_fill; exact True.intro)
  have h : nsIn (hK.heap_1 w.params) mainGlobals (Str.ofString "str") = some none := by k_is
  exact h
theorem b_str : bootBuiltins (Str.ofString "str") = some (.type "str") := by boot_fast
section
variable {f : Fn} {c : Cx} {M : Nam} {n : Led} {K : Dv → Led → Prop} {e : PySem.Expr} {pos p2 : Pos}
theorem Ev.strOf {rd ru : Nat} (ok : c.Ok rd ru) (hk : f.scope.kind = .function) (hx : f.kind (Str.ofString "str") = some .globalImplicit) (hp : plainE e = true)
    (h : Ev f c M n e fun d n₁ => ∃ a lt, d = .int a ∧ 0 ≤ a ∧ a < 1000000 ∧ Str.ofString (toString a) = S lt ∧ K (.str lt) n₁) : Ev f c M n (.Call (.Name (Str.ofString "str") p2) [e] [] pos) K := fun l R h0 tk m hs => by
  refine Call_ (nameX_B hs.fr ok.kin (topRead_of ok.top) (n_str _) b_str (by decide) ?_ hk hx (by decide))
  refine PyProof.Rows.callWith_type1 (spliced_more (wpAny_mono (h l R h0 tk m hs) (fun v s₁ hv => ?_) fun _ _ x => x) (star_plain hp)) (star_plain hp) rfl
  obtain ⟨h1, tk1, d, n1, l1, rfl, k1, hs1, hd, a, lt, rfl, q0, q1, q2, hK⟩ := hv
  obtain ⟨t, rfl⟩ := hd
  exact spliced_none (strI q0 q1 q2 fun t' k => ⟨h1, k, .str lt, n1, l1, rfl, k1, hs1, ⟨t', rfl⟩, hK⟩)
end
end Mine

namespace Mine
end Mine

namespace Mine
/-- a text's signs -/
noncomputable def lit (x : Str) : List Nat := x.cps.toList
noncomputable def fns : List (Str × Addr) := [("cards_of", 81), ("without_blanks", 88), ("is_comment", 95), ("read_cards", 102), ("is_continuation", 109), ("read_label", 116), ("padded", 123), ("joined", 130), ("check_continuation", 137), ("statements_of", 144), ("read_statements", 151), ("fixed_rows", 180), ("list_rows", 187), ("_law_snip", 195), ("_law_statement", 200), ("_law_card", 207), ("_law_told", 212), ("Card", 70)]
noncomputable def gvals : List (Str × Value) := [("BODY_AT", .int 6 248), ("LABEL_END", .int 5 246), ("LABEL_WIDTH", .int 5 445), ("MARK", .str "+" 447), ("DIGITS", .str "0123456789" 250)]
noncomputable def gdvs : List (Str × Dv) := [("BODY_AT", .int 6), ("LABEL_END", .int 5), ("LABEL_WIDTH", .int 5), ("MARK", .str (lit "+")), ("DIGITS", .str (lit "0123456789"))]
inductive ListAt (n : Led) (a : Addr) (G : List Dv → Prop) : Prop
  | mk (ds : List Dv) (h : (a, ds) ∈ n) (g : G ds)
noncomputable section
noncomputable def guardB (b : Bool) (X : Prop) : Prop :=
  match b with
  | true => X
  | false => False
theorem guardB.of {b : Bool} {X : Prop} (h : guardB b X) : b = true ∧ X := by
  cases b with
  | true => exact ⟨rfl, h⟩
  | false => exact h.elim
noncomputable def onInt (d : Dv) (P : Int → Prop) : Prop := match d with | .int a => P a | _ => False
noncomputable def onStr (d : Dv) (P : List Nat → Prop) : Prop := match d with | .str a => P a | _ => False
noncomputable def onRef (d : Dv) (P : Addr → Prop) : Prop := match d with | .ref a => P a | _ => False
noncomputable def onBool (d : Dv) (P : Bool → Prop) : Prop := match d with | .bool a => P a | _ => False
noncomputable def onSome {α : Type} (d : Option α) (P : α → Prop) : Prop := match d with | some a => P a | none => False
theorem onInt.of {d : Dv} {P : Int → Prop} (h : onInt d P) : ∃ a, d = .int a ∧ P a := by cases d <;> first | exact False.elim h | exact ⟨_, rfl, h⟩
theorem onStr.of {d : Dv} {P : List Nat → Prop} (h : onStr d P) : ∃ a, d = .str a ∧ P a := by cases d <;> first | exact False.elim h | exact ⟨_, rfl, h⟩
theorem onRef.of {d : Dv} {P : Addr → Prop} (h : onRef d P) : ∃ a, d = .ref a ∧ P a := by cases d <;> first | exact False.elim h | exact ⟨_, rfl, h⟩
theorem onBool.of {d : Dv} {P : Bool → Prop} (h : onBool d P) : ∃ a, d = .bool a ∧ P a := by cases d <;> first | exact False.elim h | exact ⟨_, rfl, h⟩
theorem onSome.of {α : Type} {d : Option α} {P : α → Prop} (h : onSome d P) : ∃ a, d = some a ∧ P a := by cases d <;> first | exact False.elim h | exact ⟨_, rfl, h⟩
/-- a branch -/
noncomputable def brB (d : Dv) (X Y : Prop) : Prop := onBool d fun b => (b = true → X) ∧ (b = false → Y)
inductive OpK where
  | add | sub | mul | no
noncomputable def opK (op : Operator) : OpK := match op with | .Add => .add | .Sub => .sub | .Mult => .mul | _ => .no
noncomputable def vAdd (n : Led) (d e : Dv) (K : Dv → Led → Prop) : Prop :=
  match d with
  | .int a => onInt e fun b => K (.int (a + b)) n
  | .str a => onStr e fun b => a.length + b.length ≤ 1000000 ∧ K (.str (a ++ b)) n
  | .ref a => onRef e fun b => ListAt n a fun ds => ListAt n b fun ds' => ds.length + ds'.length ≤ 100000 ∧ ∀ l, K (.ref l) ((l, ds ++ ds') :: n)
  | _ => False
noncomputable def vBin (n : Led) (op : Operator) (d e : Dv) (K : Dv → Led → Prop) : Prop :=
  match opK op with
  | .add => vAdd n d e K
  | .sub => onInt d fun a => onInt e fun b => K (.int (a - b)) n
  | .mul => onStr d fun a => onInt e fun k => ∃ z, a = [z] ∧ -1000 ≤ k ∧ k ≤ 1000 ∧ K (.str (List.replicate k.toNat z)) n
  | .no => False
noncomputable def vCmp (op : CmpOp) (d e : Dv) (K : Bool → Prop) : Prop :=
  match op with
  | .Lt => onInt d fun a => onInt e fun b => K (decide (a < b))
  | .Gt => onInt d fun a => onInt e fun b => K (decide (a > b))
  | .LtE => onInt d fun a => onInt e fun b => K (decide (a ≤ b))
  | .Eq => (match d with
    | .int a => onInt e fun b => K (decide (a = b))
    | .str a => onStr e fun b => K (decide (a = b))
    | _ => False)
  | .NotEq => onStr d fun a => onStr e fun b => K (decide (¬ a = b))
  | _ => False
noncomputable def vItem (n : Led) (d e : Dv) (K : Dv → Led → Prop) : Prop :=
  onInt e fun k => match d with
  | .ref a => ListAt n a fun ds => 0 ≤ k ∧ k < 1000000 ∧ ∃ x, ds[k.toNat]? = some x ∧ K x n
  | .str a => 0 ≤ k ∧ a.length ≤ 1000000 ∧ ∃ z, a[k.toNat]? = some z ∧ K (.str [z]) n
  | _ => False
noncomputable def vAttr (d : Dv) : List (Str × Dv) :=
  match d with
  | .card c => [("line", .int c.line), ("label", .str c.label), ("mark", .str [c.mark]), ("body", .str c.body)]
  | .lim a b => [("columns", .int a), ("continuations", .int b)]
  | _ => []
noncomputable def vLen (n : Led) (d : Dv) (K : Dv → Led → Prop) : Prop :=
  match d with
  | .str x => x.length ≤ 1000000 ∧ K (.int x.length) n
  | .ref a => ListAt n a fun ds => ds.length < 1000000 ∧ K (.int ds.length) n
  | _ => False
noncomputable def vStr (n : Led) (d : Dv) (K : Dv → Led → Prop) : Prop := onInt d fun a => ∃ lt, 0 ≤ a ∧ a < 1000000 ∧ Str.ofString (toString a) = S lt ∧ K (.str lt) n
noncomputable def uncons {α : Type} (ds : List α) (P : α → List α → Prop) : Prop := match ds with | d :: r => P d r | [] => False
noncomputable def isNil {α : Type} (ds : List α) (P : Prop) : Prop := match ds with | _ :: _ => False | [] => P
theorem uncons.of {α : Type} {ds : List α} {P : α → List α → Prop} (h : uncons ds P) : ∃ d r, ds = d :: r ∧ P d r := by cases ds <;> first | exact False.elim h | exact ⟨_, _, rfl, h⟩
theorem isNil.of {α : Type} {ds : List α} {P : Prop} (h : isNil ds P) : ds = [] ∧ P := by cases ds <;> first | exact False.elim h | exact ⟨rfl, h⟩
noncomputable def vTuple (n : Led) (ds : List Dv) (K : Dv → Led → Prop) : Prop :=
  uncons ds fun d r => onInt d fun k => uncons r fun d r => match d with
  | .str x => isNil r (K (.pair (k, x)) n)
  | .int j => uncons r fun d r => onStr d fun x => isNil r (K (.t3 (k, j, x)) n)
  | _ => False
noncomputable abbrev EvN := Led → PySem.Expr → (Dv → Led → Prop) → Prop
noncomputable abbrev ArN := List PySem.Expr → Led → (List Dv → Led → Prop) → Prop
noncomputable def stepA (ev : EvN) (ar : ArN) : ArN := fun es n K =>
  match es with
  | [] => K [] n
  | e :: es => ev n e fun d n₁ => ar es n₁ fun ds n₂ => K (d :: ds) n₂
noncomputable def A0 (_ : EvN) : ArN := fun _ _ _ => False
noncomputable def A1 (ev : EvN) : ArN := stepA ev (A0 ev)
noncomputable def A2 (ev : EvN) : ArN := stepA ev (A1 ev)
noncomputable def A3 (ev : EvN) : ArN := stepA ev (A2 ev)
noncomputable def A4 (ev : EvN) : ArN := stepA ev (A3 ev)
noncomputable def vArgs (ev : EvN) : ArN := stepA ev (A4 ev)
/-- an index or a cut -/
noncomputable def slOf (e : PySem.Expr) : Option (Option PySem.Expr × Option PySem.Expr × Option PySem.Expr) := match e with | .Slice a b s _ => some (a, b, s) | _ => none
noncomputable def vCut (n : Led) (d : Dv) (i j : Option Dv) (K : Dv → Led → Prop) : Prop :=
  onStr d fun a => a.length ≤ 1000000 ∧ (match i with
  | none => onSome j fun j => onInt j fun j => 0 ≤ j ∧ K (.str (a.take j.toNat)) n
  | some i => onInt i fun i => 0 ≤ i ∧ (match j with
    | none => K (.str (a.drop i.toNat)) n
    | some j => onInt j fun j => i ≤ j ∧ i ≤ a.length ∧ K (.str ((a.drop i.toNat).take (j - i).toNat)) n))
noncomputable def vOpt (ev : Led → PySem.Expr → (Dv → Led → Prop) → Prop) (e : Option PySem.Expr) (n : Led) (K : Option Dv → Led → Prop) : Prop :=
  match e with
  | none => K none n
  | some e => ev n e fun d n₁ => K (some d) n₁
noncomputable def vSub (ev : Led → PySem.Expr → (Dv → Led → Prop) → Prop) (i : PySem.Expr) (n : Led) (d : Dv) (K : Dv → Led → Prop) : Prop :=
  match slOf i with
  | none => ev n i fun d' n₂ => vItem n₂ d d' K
  | some x => match x.2.2 with
    | some _ => False
    | none => vOpt ev x.1 n fun i n₂ => vOpt ev x.2.1 n₂ fun j n₃ => vCut n₃ d i j K
inductive Mt where
  | append | pop | split | strip | join
noncomputable def mts : List (Str × Mt) := [("append", .append), ("pop", .pop), ("split", .split), ("strip", .strip), ("join", .join)]
noncomputable def vRecv (n : Led) (m : Mt) (d : Dv) (X : Prop) : Prop :=
  match m with
  | .append => onRef d fun a => ListAt n a fun _ => X
  | .pop => onRef d fun a => ListAt n a fun _ => X
  | _ => onStr d fun _ => X
/-- what a method call comes to -/
noncomputable def vMeth (n : Led) (m : Mt) (d : Dv) (ds : List Dv) (K : Dv → Led → Prop) : Prop :=
  match m with
  | .append => onRef d fun a => uncons ds fun x r => isNil r (∃ xs n₀, List.Perm n ((a, xs) :: n₀) ∧ xs.length ≤ 100000 ∧ K .none ((a, xs ++ [x]) :: n₀))
  | .pop => onRef d fun a => isNil ds (∃ xs n₀, List.Perm n ((a, xs) :: n₀) ∧ 1 ≤ xs.length ∧ xs.length ≤ 100000 ∧ ∀ y, K y ((a, xs.dropLast) :: n₀))
  | .split => onStr d fun x => uncons ds fun y r => isNil r (onStr y fun y => y = [10] ∧ x.length ≤ 100000 ∧ ∀ l, K (.ref l) ((l, (splitL x).map .str) :: n))
  | .strip => onStr d fun x => uncons ds fun y r => isNil r (onStr y fun y => ∃ lt, y = [32] ∧ Txt.stripChars (S x) (S [32]) = S lt ∧ x.length ≤ 1000000 ∧ K (.str lt) n)
  | .join => onStr d fun x => uncons ds fun y r => isNil r (onRef y fun a => ListAt n a fun ds => ∃ xs, ds = xs.map .str ∧ xs.flatten.length + xs.length * x.length ≤ 1000000 ∧ K (.str (joinL x xs)) n)
noncomputable def locK (f : Fn) (x : Str) : Bool := decide (f.kind x = some .local)
noncomputable def gloK (f : Fn) (x : Str) : Bool := decide (f.kind x = some .globalImplicit)
noncomputable def vName (f : Fn) (M : Nam) (n : Led) (x : Str) (K : Dv → Led → Prop) : Prop :=
  match M.lookup x with
  | some d => guardB (locK f x) (K d n)
  | none => guardB (gloK f x) (onSome (gdvs.lookup x) fun d => K d n)
noncomputable def vConst (n : Led) (x : Const) (K : Dv → Led → Prop) : Prop :=
  match x with
  | .int i => K (.int i) n
  | .str s => K (.str (lit s)) n
  | .bool b => K (.bool b) n
  | _ => False
/-- a method's ground -/
noncomputable def plainB : PySem.Expr → Bool
  | .Name .. => true
  | .Constant .. => true
  | .Subscript .. => true
  | _ => false
/-- a call of a def or of a built-in -/
noncomputable def vFn (hnd : Option Value) (f : Fn) (rd ru : Nat) (ev : Led → PySem.Expr → (Dv → Led → Prop) → Prop) (n : Led) (g : Str) (es : List PySem.Expr) (K : Dv → Led → Prop) : Prop :=
  uncons es fun e r => guardB (gloK f g && (e :: r).all plainE) (match fns.lookup g with
    | some fa => vArgs ev (e :: r) n fun ds n₁ => Calls hnd fa rd ru ds n₁ K
    | none => isNil r (match g == ("len" : Str) with
      | true => ev n e fun d n₁ => vLen n₁ d K
      | false => guardB (g == ("str" : Str)) (ev n e fun d n₁ => vStr n₁ d K)))
noncomputable def vCall (hnd : Option Value) (f : Fn) (rd ru : Nat) (ev : Led → PySem.Expr → (Dv → Led → Prop) → Prop) (n : Led) (g : PySem.Expr) (es : List PySem.Expr) (ks : List Keyword) (p : Pos) (K : Dv → Led → Prop) : Prop :=
  isNil ks (match g with
  | .Name g _ => vFn hnd f rd ru ev n g es K
  | .Attribute v x p2 => guardB (p2.endLine == p.line && plainB v && es.all plainE && Nat.blt es.length 30) (onSome (mts.lookup x) fun m => ev n v fun d n₁ => vRecv n₁ m d (vArgs ev es n₁ fun ds n₂ => vMeth n₂ m d ds K))
  | _ => False)
noncomputable def vBool (ev : Led → PySem.Expr → (Dv → Led → Prop) → Prop) (op : PySem.BoolOp) (xs : List PySem.Expr) (p : Pos) (n : Led) (K : Dv → Led → Prop) : Prop :=
  match op with
  | .And => (match xs with
    | [] => K (.bool true) n
    | x :: r => ev n x fun d n₁ => brB d (ev n₁ (.BoolOp .And r p) K) (K (.bool false) n₁))
  | .Or => (match xs with
    | [] => K (.bool false) n
    | x :: r => ev n x fun d n₁ => brB d (K (.bool true) n₁) (ev n₁ (.BoolOp .Or r p) K))
noncomputable def vCompare (ev : Led → PySem.Expr → (Dv → Led → Prop) → Prop) (l : PySem.Expr) (ops : List CmpOp) (rs : List PySem.Expr) (n : Led) (K : Dv → Led → Prop) : Prop :=
  uncons ops fun op r1 => isNil r1 (uncons rs fun r r2 => isNil r2 (guardB (!behindInMarks op r) (ev n l fun d n₁ => ev n₁ r fun d' n₂ => vCmp op d d' fun b => K (.bool b) n₂)))
noncomputable abbrev EvT := Bool → Led → PySem.Expr → (Dv → Led → Prop) → Prop
/-- what an expression (a test) comes to, by what its parts come to -/
noncomputable def stepE (hnd : Option Value) (f : Fn) (rd ru : Nat) (M : Nam) (ev : EvT) : EvT := fun tst n e K =>
  match tst with
  | true => (match e with
    | .UnaryOp op x _ => (match op with | .Not => ev true n x fun d n₁ => onBool d fun b => K (.bool (!b)) n₁ | _ => False)
    | .BoolOp op xs p => vBool (ev true) op xs p n K
    | .Compare l ops rs _ => vCompare (ev false) l ops rs n K
    | .Name x p => ev false n (.Name x p) fun d n₁ => onBool d fun b => K (.bool b) n₁
    | .Call g es ks p => ev false n (.Call g es ks p) fun d n₁ => onBool d fun b => K (.bool b) n₁
    | _ => False)
  | false => (match e with
    | .Name x _ => vName f M n x K
    | .Constant x _ _ => vConst n x K
    | .BinOp l op r _ => ev false n l fun d n₁ => ev false n₁ r fun d' n₂ => vBin n₂ op d d' K
    | .IfExp t a b _ => ev true n t fun d n₁ => brB d (ev false n₁ a K) (ev false n₁ b K)
    | .Attribute v x _ => guardB (plainB v) (ev false n v fun d n₁ => onSome ((vAttr d).lookup x) fun y => K y n₁)
    | .Subscript v i _ => ev false n v fun d n₁ => vSub (ev false) i n₁ d K
    | .List es _ => guardB (es.all plainE) (vArgs (ev false) es n fun ds n₁ => ds.length ≤ 1000 ∧ ∀ a, K (.ref a) ((a, ds) :: n₁))
    | .Tuple es _ _ => guardB (es.all plainE) (vArgs (ev false) es n fun ds n₁ => vTuple n₁ ds K)
    | .Call g es ks p => vCall hnd f rd ru (ev false) n g es ks p K
    | _ => False)
noncomputable def E0 (_ : Option Value) (_ : Fn) (_ _ : Nat) (_ : Nam) : EvT := fun _ _ _ _ => False
noncomputable def E1 (hnd : Option Value) (f : Fn) (rd ru : Nat) (M : Nam) : EvT := stepE hnd f rd ru M (E0 hnd f rd ru M)
noncomputable def E2 (hnd : Option Value) (f : Fn) (rd ru : Nat) (M : Nam) : EvT := stepE hnd f rd ru M (E1 hnd f rd ru M)
noncomputable def E3 (hnd : Option Value) (f : Fn) (rd ru : Nat) (M : Nam) : EvT := stepE hnd f rd ru M (E2 hnd f rd ru M)
noncomputable def E4 (hnd : Option Value) (f : Fn) (rd ru : Nat) (M : Nam) : EvT := stepE hnd f rd ru M (E3 hnd f rd ru M)
noncomputable def E5 (hnd : Option Value) (f : Fn) (rd ru : Nat) (M : Nam) : EvT := stepE hnd f rd ru M (E4 hnd f rd ru M)
noncomputable def E6 (hnd : Option Value) (f : Fn) (rd ru : Nat) (M : Nam) : EvT := stepE hnd f rd ru M (E5 hnd f rd ru M)
noncomputable def E7 (hnd : Option Value) (f : Fn) (rd ru : Nat) (M : Nam) : EvT := stepE hnd f rd ru M (E6 hnd f rd ru M)
noncomputable def E8 (hnd : Option Value) (f : Fn) (rd ru : Nat) (M : Nam) : EvT := stepE hnd f rd ru M (E7 hnd f rd ru M)
noncomputable def E9 (hnd : Option Value) (f : Fn) (rd ru : Nat) (M : Nam) : EvT := stepE hnd f rd ru M (E8 hnd f rd ru M)
noncomputable def E10 (hnd : Option Value) (f : Fn) (rd ru : Nat) (M : Nam) : EvT := stepE hnd f rd ru M (E9 hnd f rd ru M)
noncomputable def E11 (hnd : Option Value) (f : Fn) (rd ru : Nat) (M : Nam) : EvT := stepE hnd f rd ru M (E10 hnd f rd ru M)
noncomputable def E12 (hnd : Option Value) (f : Fn) (rd ru : Nat) (M : Nam) : EvT := stepE hnd f rd ru M (E11 hnd f rd ru M)
noncomputable abbrev vE := E12
end
end Mine

namespace Mine
theorem lit_S (x : Str) : x = S (lit x) := rfl
theorem lookup_mem {α β : Type} [BEq α] [LawfulBEq α] : ∀ {l : List (α × β)} {x : α} {y : β}, l.lookup x = some y → (x, y) ∈ l
  | (a, b) :: l, x, y, h => by
    rw [List.lookup_cons] at h
    cases q : x == a with
    | true => rw [q] at h; cases h; rw [eq_of_beq q]; exact .head _
    | false => rw [q] at h; exact .tail _ (lookup_mem h)
theorem fns_all (P : Params) : fns.map (fun p => (nsIn (hK.heap_1 P) mainGlobals p.1, keepIn (hK.heap_1 P) (.ref p.2))) = fns.map fun p => (some (some (.ref p.2)), true) := by kernel_rfl
theorem gvals_all (P : Params) : gvals.map (fun p => nsIn (hK.heap_1 P) mainGlobals p.1) = gvals.map fun p => some (some p.2) := by kernel_rfl
theorem fns_ok {g : Str} {fa : Addr} (h : fns.lookup g = some fa) (w : World) : nsIn (hK.heap_1 w.params) mainGlobals g = some (some (.ref fa)) ∧ keepIn (hK.heap_1 w.params) (.ref fa) = true := by
  have := List.map_inj_left.mp (fns_all w.params) _ (lookup_mem h)
  exact Prod.mk.inj this
theorem gdvs_ok {g : Str} {d : Dv} (h : gdvs.lookup g = some d) (w : World) : ∃ v, nsIn (hK.heap_1 w.params) mainGlobals g = some (some v) ∧ ∀ l, d.Is l v := by
  have hm := lookup_mem h
  have ga := List.map_inj_left.mp (gvals_all w.params)
  simp only [gdvs, List.mem_cons, Prod.mk.injEq, List.not_mem_nil, or_false] at hm
  rcases hm with ⟨rfl, rfl⟩ | ⟨rfl, rfl⟩ | ⟨rfl, rfl⟩ | ⟨rfl, rfl⟩ | ⟨rfl, rfl⟩
  · exact ⟨_, ga _ (.head _), fun _ => ⟨_, rfl⟩⟩
  · exact ⟨_, ga _ (.tail _ (.head _)), fun _ => ⟨_, rfl⟩⟩
  · exact ⟨_, ga _ (.tail _ (.tail _ (.head _))), fun _ => ⟨_, rfl⟩⟩
  · exact ⟨_, ga _ (.tail _ (.tail _ (.tail _ (.head _)))), fun _ => ⟨_, rfl⟩⟩
  · exact ⟨_, ga _ (.tail _ (.tail _ (.tail _ (.tail _ (.head _))))), fun _ => ⟨_, rfl⟩⟩
theorem nd_new {h₀ h : Heap} {L a : Addr} {m : Str → Option Value} {l : Lg} {M : Nam} {n : Led} (hs : St h₀ L h m l M n) (hlt : ∀ p ∈ l, p.1 < a) (ds : List Dv) : (((a, ds) :: n).map (·.1)).Nodup := by
  refine List.nodup_cons.mpr ⟨fun hm => ?_, hs.nd⟩
  obtain ⟨p, hp, e⟩ := List.mem_map.mp hm
  obtain ⟨vs', q, hm', _⟩ := hs.led p hp
  have := hlt _ hm'
  rw [show (p.1, W.listOf vs'.toArray q).1 = a from e] at this
  exact absurd this (Nat.lt_irrefl _)
section
variable {f : Fn} {c : Cx} {M : Nam} {n : Led} {K : Dv → Led → Prop} {d e : Dv} {l : Lg} {R : Led} {h0 : Heap} {tk : Nat} {m : Str → Option Value} {v u : Value}
/-- a step on two values -/
noncomputable def T2 (f : Fn) (c : Cx) (M : Nam) (n : Led) (t : Value → Value → Sem Value) (d e : Dv) (K : Dv → Led → Prop) : Prop :=
  ∀ l R h0 tk m v u, d.Is l v → e.Is l u → St c.h₀ c.L h0 m l M (n ++ R) → wpAny (model PRG c.w) (f.ar c) (t v u) (VP c m l M R K) (fun _ _ => False) (c.at h0 tk)
theorem T2.prim {t : Value → Value → Sem Value} (h : Prim2 t d e fun x => K x n) : T2 f c M n t d e K := fun l R h0 tk m v u hd he hs => by
  refine wpAny_mono (h c.w (f.ar c) (c.at h0 tk) l v u hd he) (fun r s₃ hr => ?_) fun _ _ x => x
  obtain ⟨tk3, x, rfl, hx, hK⟩ := hr
  exact ⟨h0, tk3, x, n, l, rfl, Keep.refl _, hs, hx, hK⟩
theorem vAdd_ok (h : vAdd n d e K) : T2 f c M n (binaryOp .Add) d e K := by
  cases d <;> first | exact False.elim h | skip
  · obtain ⟨b, rfl, h⟩ := onInt.of h
    exact .prim (P.addI h)
  · obtain ⟨b, rfl, h⟩ := onStr.of h
    exact .prim (P.addS h.1 h.2)
  · obtain ⟨b, rfl, ds, m1, ds', m2, hz, hK⟩ := onRef.of h
    rintro l R h0 tk m _ _ rfl rfl hs
    obtain ⟨vs, q, a1, a2⟩ := hs.led _ (List.mem_append_left _ m1)
    obtain ⟨us, r, b1, b2⟩ := hs.led _ (List.mem_append_left _ m2)
    have ha : AreD l vs ds := a2
    have hb : AreD l us ds' := b2
    refine add_lists hs.fr hs.news (News.isList hs.news a1) (News.isList hs.news b1) (fun h' F' N' => ?_) (by rw [sizeLine_eq]; have := ha.1; have := hb.1; omega)
    obtain ⟨hs2, k2⟩ := st_new hs F' N'
    exact ⟨h', tk, .ref _, _ :: n, _, rfl, k2, ⟨F', N', hs2.nam, mem1 ⟨vs ++ us, 0, .head _, AreD.keep k2 (ha.append hb)⟩ hs2.led, nd_new hs (fun p hp => Heap.lt_size (hs.news p hp).1) _⟩, rfl, hK _⟩
theorem vBin_ok {op : Operator} (h : vBin n op d e K) : T2 f c M n (binaryOp op) d e K := by
  cases op <;> first | exact False.elim h | skip
  · exact vAdd_ok h
  · obtain ⟨a, rfl, h⟩ := onInt.of h
    obtain ⟨b, rfl, h⟩ := onInt.of h
    exact .prim (P.subI h)
  · obtain ⟨a, rfl, h⟩ := onStr.of h
    obtain ⟨b, rfl, z, rfl, h1, h2, h3⟩ := onInt.of h
    exact .prim (P.mulS h1 h2 h3)
theorem not_dec (p : Prop) [Decidable p] : (!decide p) = decide (¬ p) := by simp
theorem vCmp_ok {op : CmpOp} {G : Bool → Led → Prop} (h : vCmp op d e fun b => G b n) : T2 f c M n (compareOp op) d e fun x n' => ∃ b, x = .bool b ∧ G b n' := by
  cases op <;> first | exact False.elim h | skip
  · cases d <;> first | exact False.elim h | skip
    · obtain ⟨b, rfl, h⟩ := onInt.of h
      exact .prim (P.eqI ⟨_, rfl, h⟩)
    · obtain ⟨b, rfl, h⟩ := onStr.of h
      exact .prim (P.eqS ⟨_, rfl, h⟩)
  · obtain ⟨a, rfl, h⟩ := onStr.of h
    obtain ⟨b, rfl, h⟩ := onStr.of h
    exact .prim (P.neS ⟨_, rfl, by rw [not_dec]; exact h⟩)
  · obtain ⟨a, rfl, h⟩ := onInt.of h
    obtain ⟨b, rfl, h⟩ := onInt.of h
    exact .prim (P.ltI ⟨_, rfl, h⟩)
  · obtain ⟨a, rfl, h⟩ := onInt.of h
    obtain ⟨b, rfl, h⟩ := onInt.of h
    exact .prim (P.leI ⟨_, rfl, h⟩)
  · obtain ⟨a, rfl, h⟩ := onInt.of h
    obtain ⟨b, rfl, h⟩ := onInt.of h
    exact .prim (P.gtI ⟨_, rfl, h⟩)
theorem subs_plain {i : PySem.Expr} (h : slOf i = none) (a b : Value) : subscripted i false a b = operate [a, b] (getItem a b) := by
  cases i <;> first | rfl | cases h
theorem temp_str (v1 : PySem.Expr) (x : Str) (t : Tok) (r : Value) : letTemporaryGo v1 (.str x t) r = pure () := by cases v1 <;> rfl
theorem vItem_ok {i v1 : PySem.Expr} (hi : slOf i = none) (h : vItem n d e K) : T2 f c M n (subscriptTail v1 i) d e K := by
  obtain ⟨k, rfl, h⟩ := onInt.of h
  cases d <;> first | exact False.elim h | skip
  · obtain ⟨h1, h2, z, hz, hK⟩ := h
    rintro l R h0 tk m _ _ ⟨t, rfl⟩ ⟨t', rfl⟩ hs
    exact itS rfl h1 hz h2 (fun t' k => ⟨h0, k, .str [z], n, l, rfl, Keep.refl _, hs, ⟨t', rfl⟩, hK⟩) (subs_plain hi _ _) (temp_str _ _ _)
  · obtain ⟨ds, hm, h1, h2, x, hx, hK⟩ := h
    rintro l R h0 tk m _ _ rfl ⟨t, rfl⟩ hs
    obtain ⟨vs, q, hv, ha⟩ := hs.led _ (List.mem_append_left _ hm)
    have hlt : k.toNat < vs.length := by rw [ha.1]; exact (List.getElem?_eq_some_iff.mp hx).1
    obtain ⟨y, hy, hi'⟩ := ha.2 k.toNat vs[k.toNat] (by simp [hlt])
    obtain rfl : y = x := by rw [hx] at hy; exact (Option.some.inj hy).symm
    exact item_litK (News.isList hs.news hv) h1 (by omega) (by simp [hlt]) ⟨h0, tk, y, n, l, rfl, Keep.refl _, hs, hi', hK⟩ (subs_plain hi _ _)
theorem vAttr_ok {x : Str} {y : Dv} (h : (vAttr d).lookup x = some y) : AttrOf d x y := by
  have hm := lookup_mem h
  cases d <;> first | exact absurd hm List.not_mem_nil | skip
  · simp only [vAttr, List.mem_cons, Prod.mk.injEq, List.not_mem_nil, or_false] at hm
    rcases hm with ⟨rfl, rfl⟩ | ⟨rfl, rfl⟩ | ⟨rfl, rfl⟩ | ⟨rfl, rfl⟩
    · exact .line
    · exact .label
    · exact .mark
    · exact .body
  · simp only [vAttr, List.mem_cons, Prod.mk.injEq, List.not_mem_nil, or_false] at hm
    rcases hm with ⟨rfl, rfl⟩ | ⟨rfl, rfl⟩
    · exact .cols
    · exact .conts
end
end Mine

namespace Mine
section
variable {f : Fn} {c : Cx} {M : Nam} {n : Led} {K : Dv → Led → Prop} {e v1 : PySem.Expr} {es : List PySem.Expr} {pos p2 p3 : Pos} {rd ru : Nat}
theorem Ev.mono {K' : Dv → Led → Prop} (h : Ev f c M n e K) (k : ∀ d n, K d n → K' d n) : Ev f c M n e K' := fun l R h0 tk m hs => wpAny_mono (h l R h0 tk m hs) (fun v s₁ hv => by
  obtain ⟨h1, tk1, d, n1, l1, e1, k1, hs1, hd, hK⟩ := hv
  exact ⟨h1, tk1, d, n1, l1, e1, k1, hs1, hd, k _ _ hK⟩) fun _ _ x => x
theorem Bv.mono {K K' : Bool → Led → Prop} (h : Bv f c M n e K) (k : ∀ d n, K d n → K' d n) : Bv f c M n e K' := fun l R h0 tk m hs => wpAny_mono (h l R h0 tk m hs) (fun v s₁ hv => by
  obtain ⟨h1, tk1, n1, l1, e1, k1, hs1, hK⟩ := hv
  exact ⟨h1, tk1, n1, l1, e1, k1, hs1, k _ _ hK⟩) fun _ _ x => x
theorem two2 {l r : PySem.Expr} {t : Value → Value → Sem Value} {Q : Value → Shared → Prop} {g : Lg} {R : Led} {h0 : Heap} {tk : Nat} {m : Str → Option Value} (h : Ev f c M n l fun d n₁ => Ev f c M n₁ r fun d' n₂ => T2 f c M n₂ t d d' K) (hs : St c.h₀ c.L h0 m g M (n ++ R))
    (hQ : ∀ v s', VP c m g M R K v s' → Q v s') :
    wpAny (model PRG c.w) (f.ar c) (eval l (f.env c)) (fun a s₁ => wpAny (model PRG c.w) (f.ar c) (eval r (f.env c)) (fun b s₂ => wpAny (model PRG c.w) (f.ar c) (t a b) Q (fun _ _ => False) s₂) (fun _ _ => False) s₁) (fun _ _ => False) (c.at h0 tk) := by
  refine wpAny_mono (h g R h0 tk m hs) (fun v s₁ hv => ?_) fun _ _ x => x
  obtain ⟨h1, tk1, d, n1, l1, rfl, k1, hs1, hd, hk⟩ := hv
  refine wpAny_mono (hk l1 R h1 tk1 m hs1) (fun u s₂ hu => ?_) fun _ _ x => x
  obtain ⟨h2, tk2, d2, n2, l2, rfl, k2, hs2, hd2, hk2⟩ := hu
  refine wpAny_mono (hk2 l2 R h2 tk2 m v u (hd.keep k2) hd2 hs2) (fun r s₃ hr => ?_) fun _ _ x => x
  obtain ⟨h3, tk3, x, n3, l3, e3, k3, hs3, hx, hK⟩ := hr
  exact hQ _ _ ⟨h3, tk3, x, n3, l3, e3, (k1.trans k2).trans k3, hs3, hx, hK⟩
theorem vName_ok {x : Str} (ok : c.Ok rd ru) (hk : f.scope.kind = .function) (hdb : f.kind ("__debug__" : Str) = none) (h : vName f M n x K) : Ev f c M n (.Name x pos) K := by
  have hb : ∀ {a}, f.kind x = some a → (x == ("__debug__" : Str)) = false := fun {a} ha => beq_false_of_ne fun q => by rw [q, hdb] at ha; cases ha
  unfold vName at h
  cases hd : M.lookup x with
  | some d =>
    rw [hd] at h
    obtain ⟨hx, h⟩ := guardB.of h
    have hx := of_decide_eq_true hx
    exact Ev.local hd hk hx (hb hx) h
  | none =>
    rw [hd] at h
    obtain ⟨hx, h⟩ := guardB.of h
    have hx := of_decide_eq_true hx
    obtain ⟨d, hg, h⟩ := onSome.of h
    exact fun l R h0 tk m hs => by
      obtain ⟨v, hv, hi⟩ := gdvs_ok hg c.w
      exact nameX_K hs.fr ok.kin (topRead_of ok.top) hv ⟨h0, tk, d, n, l, rfl, Keep.refl _, hs, hi l, h⟩ hk hx (hb hx)
theorem Ev.tuple (h : Evs f c M n es fun ds n₁ => vTuple n₁ ds K) {i : Nat} : Ev f c M n (.Tuple es i pos) K := fun l R h0 tk m hs => by
  refine Tuple_ (wpAny_mono (h pos l R h0 tk m hs) (fun vs s₁ hv => ?_) fun _ _ x => x)
  obtain ⟨h1, tk1, ds, n1, l1, rfl, k1, hs1, hd, hK⟩ := hv
  obtain ⟨d, r, rfl, q1⟩ := uncons.of hK
  clear hK
  obtain ⟨k, rfl, q2⟩ := onInt.of q1
  clear q1
  obtain ⟨d, r, rfl, q3⟩ := uncons.of q2
  clear q2
  cases d <;> first | exact False.elim q3 | skip
  · obtain ⟨d, r, rfl, q4⟩ := uncons.of q3
    clear q3
    obtain ⟨x, rfl, q5⟩ := onStr.of q4
    clear q4
    obtain ⟨rfl, q6⟩ := isNil.of q5
    obtain ⟨v, u, y, rfl, ⟨t, rfl⟩, ⟨t', rfl⟩, ⟨t'', rfl⟩⟩ := args3 hd
    refine newTuple_M hs1.fr hs1.news (fun a h' F' N' hlt => ?_) (by simp)
    obtain ⟨hs2, k2⟩ := st_new hs1 F' N'
    exact ⟨h', tk1, .t3 _, n1, _, rfl, k1.trans k2, hs2, ⟨a, t, t', t'', rfl, .head _⟩, q6⟩
  · obtain ⟨rfl, q4⟩ := isNil.of q3
    obtain ⟨v, u, rfl, ⟨t, rfl⟩, ⟨t', rfl⟩⟩ := args2 hd
    refine newTuple_M hs1.fr hs1.news (fun a h' F' N' hlt => ?_) (by simp)
    obtain ⟨hs2, k2⟩ := st_new hs1 F' N'
    exact ⟨h', tk1, .pair _, n1, _, rfl, k1.trans k2, hs2, ⟨a, t, t', rfl, .head _⟩, q4⟩
/-- a part of a cut -/
noncomputable def Eo (f : Fn) (c : Cx) (M : Nam) (n : Led) (e : Option PySem.Expr) (K : Option Dv → Led → Prop) : Prop :=
  match e with
  | none => K none n
  | some e => Ev f c M n e fun d n₁ => K (some d) n₁
inductive Is? (l : Lg) : Option Dv → Value → Prop
  | none : Is? l .none .none
  | some {d : Dv} {v : Value} (h : d.Is l v) : Is? l (.some d) v
theorem Eo.go {e : Option PySem.Expr} {K : Option Dv → Led → Prop} {Q : Value → Shared → Prop} (h : Eo f c M n e K) {l : Lg} {R : Led} {h0 : Heap} {tk : Nat} {m : Str → Option Value} (hs : St c.h₀ c.L h0 m l M (n ++ R))
    (hQ : ∀ h1 tk1 d n1 l1 v, Keep l l1 → St c.h₀ c.L h1 m l1 M (n1 ++ R) → Is? l1 d v → K d n1 → Q v (c.at h1 tk1)) : wpAny (model PRG c.w) (f.ar c) (evalPart e (f.env c)) Q (fun _ _ => False) (c.at h0 tk) := by
  cases e with
  | none => exact evalPart_none (hQ _ _ _ _ _ _ (Keep.refl _) hs .none h)
  | some e =>
    refine wpAny_mono (h l R h0 tk m hs) (fun v s₁ hv => ?_) fun _ _ x => x
    obtain ⟨h1, tk1, d, n1, l1, rfl, k1, hs1, hd, hK⟩ := hv
    exact hQ _ _ _ _ _ _ k1 hs1 (.some hd) hK
theorem Ev.cut {lo up : Option PySem.Expr} (h : Ev f c M n v1 fun d n₁ => Eo f c M n₁ lo fun i n₂ => Eo f c M n₂ up fun j n₃ => vCut n₃ d i j K) : Ev f c M n (.Subscript v1 (.Slice lo up none p2) pos) K := fun l R h0 tk m hs => by
  refine Subscript_ (wpAny_mono (h l R h0 tk m hs) (fun v s₁ hv => ?_) fun _ _ x => x)
  obtain ⟨h1, tk1, d, n1, l1, rfl, k1, hs1, hd, hk⟩ := hv
  refine wpAny_Slice (hk.go hs1 fun h2 tk2 i n2 l2 vi k2 hs2 hi hk => hk.go hs2 fun h3 tk3 j n3 l3 vj k3 hs3 hj hK => evalPart_none ?_)
  obtain ⟨a, rfl, hz, hK⟩ := onStr.of hK
  obtain ⟨t, rfl⟩ := hd
  have kk := (k1.trans k2).trans k3
  cases hi with
  | none =>
    obtain ⟨j, rfl, hK⟩ := onSome.of hK
    obtain ⟨j, rfl, h0, hK⟩ := onInt.of hK
    cases hj with
    | some hj =>
      obtain ⟨t', rfl⟩ := hj
      exact slS_to rfl hs3.fr hs3.news h0 hz (fun h' t' k F' N' => ⟨h', k, .str _, n3, l3, rfl, kk, ⟨F', N', hs3.nam, hs3.led, hs3.nd⟩, ⟨t', rfl⟩, hK⟩) rfl (temp_str _ _ _)
  | some hi =>
    obtain ⟨i, rfl, h0, hK⟩ := onInt.of hK
    obtain ⟨t', rfl⟩ := hi
    cases hj with
    | none => exact slS_from rfl hs3.fr hs3.news h0 hz (fun h' t' k F' N' => ⟨h', k, .str _, n3, l3, rfl, kk, ⟨F', N', hs3.nam, hs3.led, hs3.nd⟩, ⟨t', rfl⟩, hK⟩) rfl (temp_str _ _ _)
    | some hj =>
      obtain ⟨j, rfl, h1, h2, hK⟩ := onInt.of hK
      obtain ⟨t'', rfl⟩ := hj
      exact slS_mid rfl hs3.fr hs3.news h0 h1 h2 hz (fun h' t' k F' N' => ⟨h', k, .str _, n3, l3, rfl, kk, ⟨F', N', hs3.nam, hs3.led, hs3.nd⟩, ⟨t', rfl⟩, hK⟩) rfl (temp_str _ _ _)
theorem Ev.ifExp {t a b : PySem.Expr} (h : Bv f c M n t fun z n₁ => (z = true → Ev f c M n₁ a K) ∧ (z = false → Ev f c M n₁ b K)) : Ev f c M n (.IfExp t a b pos) K := fun l R h0 tk m hs => by
  refine IfExp_ (wpAny_mono (h l R h0 tk m hs) (fun z s₁ hz => ?_) fun _ _ x => x)
  obtain ⟨h1, tk1, n1, l1, rfl, k1, hs1, h2, h3⟩ := hz
  have go : ∀ {e : PySem.Expr}, Ev f c M n1 e K → wpAny (model PRG c.w) (f.ar c) (eval e (f.env c)) (VP c m l M R K) (fun _ _ => False) (c.at h1 tk1) := fun {e} he => wpAny_mono (he l1 R h1 tk1 m hs1) (fun v s₂ hv => by
    obtain ⟨h2, tk2, d2, n2, l2, e2, k2, hs2, hd2, hK⟩ := hv
    exact ⟨h2, tk2, d2, n2, l2, e2, k1.trans k2, hs2, hd2, hK⟩) fun _ _ x => x
  cases z with
  | true => exact go (h2 rfl)
  | false => exact go (h3 rfl)
theorem base_plain {o : PySem.Expr} {name : Str} {env : Env} {t : Sem Value} (h : plainB o = true) : attributeBase o name env t = t := by cases o <;> first | rfl | cases h
theorem all_plain {env : Env} : ∀ {es : List PySem.Expr}, es.all plainE = true → (backTo pos (starEach es env)).all (!·.1) = true
  | [], _ => rfl
  | e :: es, h => by
    rw [List.all_cons, Bool.and_eq_true] at h
    rw [star_plain h.1]
    have := all_plain (env := env) h.2
    simpa [backTo] using this
theorem method_eqG {o : PySem.Expr} {name : Str} {env : Env} (hb : plainB o = true) (hp : es.all plainE = true) (hn : es.length < 30) (hl : (p2.endLine == p3.line) = true) : eval (.Call (.Attribute o name p2) es [] p3) env = (do
      let ov ← eval o env
      standAt p2.atName
      let (f, first) ← holding [ov] (getMethod ov name (do return (← importBound o env).getD true))
      callWith p3 f first (backTo p3 (starEach es env)) []) := by
  have q2 : methodCallForm (es.length + 0) (backTo p3 (starEach es env)) [] = true := by
    unfold methodCallForm
    rw [all_plain hp]
    simpa using hn
  refine Eq.trans (b := do
    let ov ← attributeBase o name env (eval o env)
    standAt p2.atName
    methodCall o name p2 p3 env ov (es.length + 0) (backTo p3 (starEach es env)) []) rfl ?_
  rw [base_plain hb]
  unfold methodCall
  rw [q2]
  unfold methodCallPos
  rw [hl]
  rfl
end
end Mine

namespace Mine
section
variable {M : Model} {A : Around} {E : Value → Shared → Prop} {s : Shared} {env : Env}
theorem evalArgs_nil {f : Value} {Q : Args → Shared → Prop} (h : wpAny M A (spliced []) (fun vs s' => Q ⟨vs, []⟩ s') E s) : wpAny M A (evalArgs f true [] []) Q E s := by
  unfold evalArgs
  show wpAny M A (spliced [] >>= _) Q E s
  refine wpAny_bind (wpAny_mono h (fun vs s' h' => ?_) fun _ _ x => x)
  refine wpAny_bind (wpAny_pure (wpAny_holding ?_))
  exact wpAny_bind (wpAny_pure (wpAny_bind (wpAny_pure (wpAny_pure h'))))
theorem callWith_any {pos : Pos} {id : String} {first : List Value} {Q : Value → Shared → Prop} : ∀ {es : List PySem.Expr}, es.all plainE = true →
    wpAny M A (spliced (backTo pos (starEach es env))) (fun vs s₁ => wpAny M A (call (.builtin id) (first ++ vs)) Q E s₁) E s →
    wpAny M A (callWith pos (.builtin id) first (backTo pos (starEach es env)) []) Q E s
  | [], _, h => Calls.callWith_builtin rfl (evalArgs_nil h)
  | e :: es, hp, h => by
    rw [List.all_cons, Bool.and_eq_true] at hp
    exact callWith_method1 h (star_plain hp.1) (any_plain hp.2)
end
section
variable {f : Fn} {c : Cx} {M : Nam} {n : Led} {K : Dv → Led → Prop} {e v1 : PySem.Expr} {es : List PySem.Expr} {pos p2 p3 : Pos} {rd ru : Nat}
theorem args0 {l : Lg} {vs : List Value} (h : AreD l vs []) : vs = [] := List.eq_nil_of_length_eq_zero h.1
theorem strs_of {l : Lg} {vs : List Value} {xs : List (List Nat)} (h : AreD l vs (xs.map .str)) : AllR IsT vs xs := ⟨by rw [h.1, List.length_map], fun i a ha => by
  obtain ⟨b, hb, hi⟩ := h.2 i a ha
  rw [List.getElem?_map] at hb
  cases q : xs[i]? with
  | none => rw [q] at hb; cases hb
  | some c => rw [q] at hb; cases hb; exact ⟨c, rfl, hi⟩⟩
theorem of_strs {l : Lg} {vs : List Value} {xs : List (List Nat)} (h : AllR IsT vs xs) : AreD l vs (xs.map .str) := ⟨by rw [h.1, List.length_map], fun i a ha => by
  obtain ⟨b, hb, hi⟩ := h.2 i a ha
  exact ⟨.str b, by rw [List.getElem?_map, hb]; rfl, hi⟩⟩
theorem typeIs_of_str {l : Lg} {x : List Nat} {v : Value} {s : Shared} (h : (Dv.str x).Is l v) : s.TypeIs v "str" := by
  obtain ⟨t, rfl⟩ := h
  exact typeIs_str _ _ _
theorem no_ref {l : Lg} {x : List Nat} {v : Value} {s : Shared} (h : (Dv.str x).Is l v) : ∀ a, v = .ref a → ∃ o, s.heap.get? a = some o ∧ o.dict = none := by
  obtain ⟨t, rfl⟩ := h
  exact fun _ e => nomatch e
theorem meth_call {m : Mt} {d : Dv} (id : String) (hp : es.all plainE = true) {l1 : Lg} {R : Led} {h1 : Heap} {tk1 : Nat} {mm : Str → Option Value} {n1 : Led} {ov : Value} {Q : Value → Shared → Prop}
    (hs : St c.h₀ c.L h1 mm l1 M (n1 ++ R)) (hd : d.Is l1 ov) (h : Evs f c M n1 es fun ds n₂ => vMeth n₂ m d ds K)
    (step : ∀ vs h2 tk2 ds n2 l2, Keep l1 l2 → St c.h₀ c.L h2 mm l2 M (n2 ++ R) → AreD l2 vs ds → d.Is l2 ov → vMeth n2 m d ds K → wpAny (model PRG c.w) (f.ar c) (call (.builtin id) (ov :: vs)) Q (fun _ _ => False) (c.at h2 tk2)) :
    wpAny (model PRG c.w) (f.ar c) (callWith p3 (.builtin id) [ov] (backTo p3 (starEach es (f.env c))) []) Q (fun _ _ => False) (c.at h1 tk1) := by
  refine callWith_any hp (wpAny_mono (h p3 l1 R h1 tk1 mm hs) (fun vs s₂ hv => ?_) fun _ _ x => x)
  obtain ⟨h2, tk2, ds, n2, l2, rfl, k2, hs2, hds, hK⟩ := hv
  exact step vs h2 tk2 ds n2 l2 k2 hs2 hds (hd.keep k2) hK
theorem Ev.meth {m : Mt} {x : Str} (hm : mts.lookup x = some m) (hb : plainB v1 = true) (hp : es.all plainE = true) (hn : es.length < 30) (hl : (p2.endLine == p3.line) = true) (h : Ev f c M n v1 fun d n₁ => vRecv n₁ m d (Evs f c M n₁ es fun ds n₂ => vMeth n₂ m d ds K)) :
    Ev f c M n (.Call (.Attribute v1 x p2) es [] p3) K := fun l R h0 tk mm hs => by
  have hx := lookup_mem hm
  simp only [mts, List.mem_cons, Prod.mk.injEq, List.not_mem_nil, or_false] at hx
  refine MethodCall_ (wpAny_mono (h l R h0 tk mm hs) (fun ov s₁ hv => ?_) fun _ _ x => x) (method_eqG hb hp hn hl)
  obtain ⟨h1, tk1, d, n1, l1, rfl, k1, hs1, hd, hR⟩ := hv
  clear h hs
  rcases hx with ⟨rfl, rfl⟩ | ⟨rfl, rfl⟩ | ⟨rfl, rfl⟩ | ⟨rfl, rfl⟩ | ⟨rfl, rfl⟩
  · obtain ⟨a, rfl, ds0, hm0, h⟩ := onRef.of hR
    clear hR
    cases hd
    obtain ⟨us, r, hmu, _⟩ := hs1.led _ (List.mem_append_left _ hm0)
    refine getMethod_append_N hs1.news hmu (meth_call _ hp hs1 (show (Dv.ref a).Is l1 (.ref a) from rfl) h fun vs h2 tk2 ds n2 l2 k2 hs2 hds _ hK => ?_)
    have q1 := hK
    obtain ⟨y, _, rfl, q2⟩ := uncons.of q1
    obtain ⟨rfl, xs, n₀, hpm, hz, q3⟩ := isNil.of q2
    obtain ⟨v, rfl, hi⟩ := args1 hds
    have hs3 := hs2.perm (hpm.append_right R)
    obtain ⟨us, r, hmu, ha⟩ := hs3.led _ (.head _)
    refine append_M (news := (_, W.listOf us.toArray r) :: without l2 _) (vs := us) (n := r) hs3.fr (mem1 (hs3.news _ hmu) fun p hp => hs3.news p (without_sub p hp)) (by rw [ha.1]; exact Nat.le_trans hz (by decide)) (.head without_off) fun h' F' N' => ?_
    obtain ⟨hs4, k3⟩ := st_upd hs3 hmu F' N' (ha.snoc hi)
    exact ⟨h', tk2, .none, _ :: n₀, _, rfl, (k1.trans k2).trans k3, hs4, rfl, q3⟩
  · obtain ⟨a, rfl, ds0, hm0, h⟩ := onRef.of hR
    clear hR
    cases hd
    obtain ⟨us, r, hmu, _⟩ := hs1.led _ (List.mem_append_left _ hm0)
    refine getMethod_pop_N hs1.news hmu (meth_call _ hp hs1 (show (Dv.ref a).Is l1 (.ref a) from rfl) h fun vs h2 tk2 ds n2 l2 k2 hs2 hds _ hK => ?_)
    have q1 := hK
    obtain ⟨rfl, xs, n₀, hpm, hz1, hz, q3⟩ := isNil.of q1
    obtain rfl := args0 hds
    have hs3 := hs2.perm (hpm.append_right R)
    obtain ⟨us, r, hmu, ha⟩ := hs3.led _ (.head _)
    have hlen : us.length = xs.length := ha.1
    have hne : us ≠ [] := fun e => by rw [e] at hlen; simp at hlen; omega
    have hz2 : us.toArray.toList.length ≤ sizeLine := by
      show us.length ≤ sizeLine
      rw [sizeLine_eq]; omega
    have hlast : us[us.length - 1]? = some (us.getLast hne) := by rw [← List.getLast?_eq_getElem?, List.getLast?_eq_some_getLast hne]
    obtain ⟨y, hy, hi⟩ := ha.2 _ _ hlast
    have hdr : AreD l2 us.dropLast xs.dropLast := by rw [List.dropLast_eq_take, List.dropLast_eq_take, hlen]; exact ha.take _
    refine kl_pop (news' := (_, W.listOf us.dropLast.toArray (r + 1)) :: without l2 _) (y := us.getLast hne) hs3.fr (mem1 (hs3.news _ hmu) fun p hp => hs3.news p (without_sub p hp)) ?_ (.head without_off) hz2 fun h' F' N' => ?_
    · have := kpa_last (us.getLast hne) us.dropLast
      rw [List.dropLast_concat_getLast hne] at this
      exact this
    · obtain ⟨hs4, k3⟩ := st_upd hs3 hmu F' N' hdr
      exact ⟨h', tk2, y, _ :: n₀, _, rfl, (k1.trans k2).trans k3, hs4, hi.keep k3, q3 y⟩
  all_goals
    obtain ⟨xx, rfl, h⟩ := onStr.of hR
    clear hR
  · refine getMethod_builtin (typeIs_of_str hd) F.plainAttrs_str F.slot_str_split F.type_str_split (no_ref hd) (meth_call _ hp hs1 hd h fun vs h2 tk2 ds n2 l2 k2 hs2 hds hd hK => ?_)
    have q1 := hK
    obtain ⟨y, _, rfl, q2⟩ := uncons.of q1
    obtain ⟨rfl, q3⟩ := isNil.of q2
    obtain ⟨y, rfl, rfl, hz, q4⟩ := onStr.of q3
    obtain ⟨v, rfl, t', rfl⟩ := args1 hds
    obtain ⟨t, rfl⟩ := hd
    refine splitS rfl rfl hs2.fr hs2.news (Nat.le_trans hz (by decide)) fun a vs h' k' al _ _ F' N' hlt => ?_
    obtain ⟨hs3, k3⟩ := st_new hs2 F' N'
    exact ⟨h', k', .ref a, _ :: n2, _, rfl, (k1.trans k2).trans k3, ⟨F', N', hs3.nam, mem1 ⟨vs, 0, .head _, of_strs al⟩ hs3.led, nd_new hs2 hlt _⟩, rfl, q4 a⟩
  · refine getMethod_builtin (typeIs_of_str hd) F.plainAttrs_str F.slot_str_strip F.type_str_strip (no_ref hd) (meth_call _ hp hs1 hd h fun vs h2 tk2 ds n2 l2 k2 hs2 hds hd hK => ?_)
    have q1 := hK
    obtain ⟨y, _, rfl, q2⟩ := uncons.of q1
    obtain ⟨rfl, q3⟩ := isNil.of q2
    obtain ⟨y, rfl, lt, rfl, hs', hz, q4⟩ := onStr.of q3
    obtain ⟨v, rfl, t', rfl⟩ := args1 hds
    obtain ⟨t, rfl⟩ := hd
    exact stripS rfl rfl hs' hz fun t' k' => ⟨h2, k', .str lt, n2, l2, rfl, k1.trans k2, hs2, ⟨t', rfl⟩, q4⟩
  · refine getMethod_builtin (typeIs_of_str hd) F.plainAttrs_str F.slot_str_join F.type_str_join (no_ref hd) (meth_call _ hp hs1 hd h fun vs h2 tk2 ds n2 l2 k2 hs2 hds hd hK => ?_)
    have q1 := hK
    obtain ⟨y, _, rfl, q2⟩ := uncons.of q1
    obtain ⟨rfl, q3⟩ := isNil.of q2
    obtain ⟨a, rfl, _, hm, xs, rfl, hz, q4⟩ := onRef.of q3
    obtain ⟨v, rfl, rfl⟩ := args1 hds
    obtain ⟨t, rfl⟩ := hd
    obtain ⟨us, r, hmu, ha⟩ := hs2.led _ (List.mem_append_left _ hm)
    exact joinS_M hs2.news hmu (strs_of ha) rfl hz fun t' k' => ⟨h2, k', .str _, n2, l2, rfl, k1.trans k2, hs2, ⟨t', rfl⟩, q4⟩
end
end Mine

namespace Mine
noncomputable def EOk (f : Fn) (c : Cx) (M : Nam) (ev : EvN) : Prop := ∀ n e K, ev n e K → Ev f c M n e K
noncomputable def AOk (f : Fn) (c : Cx) (M : Nam) (ar : ArN) : Prop := ∀ es n K, es.all plainE = true → ar es n K → Evs f c M n es K
theorem stepA_ok {f : Fn} {c : Cx} {M : Nam} {ev : EvN} {ar : ArN} (ih : EOk f c M ev) (ia : AOk f c M ar) : AOk f c M (stepA ev ar) := fun es n K hp h => by
  cases es with
  | nil => exact Evs.nil h
  | cons e es =>
    rw [List.all_cons, Bool.and_eq_true] at hp
    exact Evs.cons ((ih _ _ _ h).mono fun d n' h' => ia _ _ _ hp.2 h') hp.1
theorem vArgs_ok {f : Fn} {c : Cx} {M : Nam} {ev : EvN} (ih : EOk f c M ev) {es : List PySem.Expr} {n : Led} {K : List Dv → Led → Prop} (hp : es.all plainE = true) (h : vArgs ev es n K) : Evs f c M n es K :=
  stepA_ok ih (stepA_ok ih (stepA_ok ih (stepA_ok ih (stepA_ok ih fun _ _ _ _ q => q.elim)))) _ _ _ hp h
theorem vLen_of {n : Led} {d : Dv} {K : Dv → Led → Prop} (h : vLen n d K) : ∃ k, LenOf n d k ∧ K (.int k) n := by
  cases d <;> first | exact False.elim h | skip
  · exact ⟨_, .str h.1, h.2⟩
  · obtain ⟨ds, hm, hz, hK⟩ := h
    exact ⟨_, .list hm hz, hK⟩
theorem vStr_of {n : Led} {d : Dv} {K : Dv → Led → Prop} (h : vStr n d K) : ∃ a lt, d = .int a ∧ 0 ≤ a ∧ a < 1000000 ∧ Str.ofString (toString a) = S lt ∧ K (.str lt) n := by
  obtain ⟨a, rfl, lt, h⟩ := onInt.of h
  exact ⟨_, lt, rfl, h⟩
theorem onStr.mono {d : Dv} {P Q : List Nat → Prop} (h : onStr d P) (k : ∀ a, P a → Q a) : onStr d Q := by
  obtain ⟨a, rfl, h⟩ := onStr.of h
  exact k a h
theorem vRecv_mono {n : Led} {m : Mt} {d : Dv} {X Y : Prop} (h : vRecv n m d X) (k : X → Y) : vRecv n m d Y := by
  have r : ∀ {P Q : Addr → Prop}, onRef d P → (∀ a, P a → Q a) → onRef d Q := fun {P Q} h k => by
    obtain ⟨a, rfl, h⟩ := onRef.of h
    exact k a h
  cases m
  · exact r h fun a q => let ⟨ds, hm, x⟩ := q; ⟨ds, hm, k x⟩
  · exact r h fun a q => let ⟨ds, hm, x⟩ := q; ⟨ds, hm, k x⟩
  all_goals exact onStr.mono h fun _ => k
theorem Ev.attr {f : Fn} {c : Cx} {M : Nam} {n : Led} {K : Dv → Led → Prop} {v : PySem.Expr} {x : Str} {pos : Pos} {rd ru : Nat} (ok : c.Ok rd ru) (hb : plainB v = true) (h : Ev f c M n v fun d n₁ => ∃ y, AttrOf d x y ∧ K y n₁) : Ev f c M n (.Attribute v x pos) K := fun l R h0 tk m hs => by
  refine Attribute_any_ (wpAny_mono (h l R h0 tk m hs) (fun v s₁ hv => ?_) fun _ _ x => x) ?_
  · obtain ⟨h1, tk1, d, n1, l1, rfl, k1, hs1, hd, y, ha, hK⟩ := hv
    refine wpAny_mono (attr_step hs1.fr ok.kin hs1.news hd ha) (fun r s₂ hr => ?_) fun _ _ x => x
    obtain ⟨tk2, rfl, hi⟩ := hr
    exact ⟨h1, tk2, y, n1, l1, rfl, k1, hs1, hi, hK⟩
  · refine Eq.trans (b := do
      let o ← attributeBase v x (f.env c) (eval v (f.env c))
      standAt pos.atName
      let r ← holding [o] (getAttr o x true)
      letTemporaryGo v o r
      pure r) rfl ?_
    rw [base_plain hb]
theorem vOpt_ok {f : Fn} {c : Cx} {M : Nam} {ev : Led → PySem.Expr → (Dv → Led → Prop) → Prop} (ih : ∀ n e K, ev n e K → Ev f c M n e K) {e : Option PySem.Expr} {n : Led} {K : Option Dv → Led → Prop} (h : vOpt ev e n K) : Eo f c M n e K := by
  cases e with
  | none => exact h
  | some e => exact ih _ _ _ h
theorem Eo.mono {f : Fn} {c : Cx} {M : Nam} {e : Option PySem.Expr} {n : Led} {K K' : Option Dv → Led → Prop} (h : Eo f c M n e K) (k : ∀ d n, K d n → K' d n) : Eo f c M n e K' := by
  cases e with
  | none => exact k _ _ h
  | some e => exact Ev.mono h fun _ _ => k _ _
theorem Ev.sub {f : Fn} {c : Cx} {M : Nam} {n : Led} {K : Dv → Led → Prop} {ev : Led → PySem.Expr → (Dv → Led → Prop) → Prop} (ih : ∀ n e K, ev n e K → Ev f c M n e K) {v i : PySem.Expr} {pos : Pos} (h : Ev f c M n v fun d n₁ => vSub ev i n₁ d K) : Ev f c M n (.Subscript v i pos) K := by
  unfold vSub at h
  cases hi : slOf i with
  | none =>
    rw [hi] at h
    exact fun l R h0 tk m hs => Subscript_ (two2 (h.mono fun d n₁ q => Ev.mono (ih _ _ _ q) fun d' n₂ q2 => vItem_ok (v1 := v) hi q2) hs fun _ _ x => x)
  | some x =>
    rw [hi] at h
    obtain ⟨a, b, s⟩ := x
    have e : ∃ p, i = .Slice a b s p := by
      cases i <;> first | (cases hi; exact ⟨_, rfl⟩) | cases hi
    obtain ⟨p, rfl⟩ := e
    cases s with
    | some _ => exact fun l R h0 tk m hs => Subscript_ (wpAny_mono (h l R h0 tk m hs) (fun v s₁ hv => by obtain ⟨_, _, _, _, _, _, _, _, _, hK⟩ := hv; exact hK.elim) fun _ _ x => x)
    | none => exact Ev.cut (h.mono fun d n₁ q => Eo.mono (vOpt_ok ih q) fun i n₂ q2 => vOpt_ok ih q2)
section
variable {hnd : Option Value} {f : Fn} {c : Cx} {M : Nam} {rd ru : Nat}
theorem vConst_ok {n : Led} {K : Dv → Led → Prop} {x : Const} {i : Nat} {p : Pos} (h : vConst n x K) : Ev f c M n (.Constant x i p) K := by
  cases x <;> first | exact False.elim h | skip
  case int => exact Ev.int h
  case str => exact Ev.str (lit_S _) h
  case bool b => exact fun l R h0 tk m hs => wpAny_Constant_bool ⟨h0, tk, .bool b, n, l, rfl, Keep.refl _, hs, rfl, h⟩
theorem vCall_ok (ok : c.Ok rd ru) (hh : c.hnd = hnd) (hk : f.scope.kind = .function) (hdb : f.kind ("__debug__" : Str) = none) {ev : Led → PySem.Expr → (Dv → Led → Prop) → Prop} (ih : ∀ n e K, ev n e K → Ev f c M n e K) {n : Led} {K : Dv → Led → Prop} {g : PySem.Expr} {es : List PySem.Expr} {p : Pos}
    (h : match g with
      | .Name g _ => vFn hnd f rd ru ev n g es K
      | .Attribute v x p2 => guardB (p2.endLine == p.line && plainB v && es.all plainE && Nat.blt es.length 30) (onSome (mts.lookup x) fun m => ev n v fun d n₁ => vRecv n₁ m d (vArgs ev es n₁ fun ds n₂ => vMeth n₂ m d ds K))
      | _ => False) : Ev f c M n (.Call g es [] p) K := by
  cases g <;> first | exact False.elim h | skip
  case Attribute v x p2 =>
    obtain ⟨hb, h⟩ := guardB.of h
    obtain ⟨m, hm, h⟩ := onSome.of h
    rw [Bool.and_eq_true, Bool.and_eq_true, Bool.and_eq_true] at hb
    obtain ⟨⟨⟨h1, h2⟩, h3⟩, h4⟩ := hb
    exact Ev.meth hm h2 h3 (Nat.le_of_ble_eq_true h4) h1 ((ih _ _ _ h).mono fun d n₁ q => vRecv_mono q fun q2 => vArgs_ok ih h3 q2)
  case Name g p1 =>
    obtain ⟨e, r, rfl, h⟩ := uncons.of h
    obtain ⟨hb, h⟩ := guardB.of h
    rw [Bool.and_eq_true] at hb
    obtain ⟨hx, hp⟩ := hb
    have hx := of_decide_eq_true hx
    cases hf : fns.lookup g with
    | some fa =>
      rw [hf] at h
      refine Ev.call ok (fun w => fns_ok hf w) hk hx (beq_false_of_ne fun q => by rw [q, hdb] at hx; cases hx) hp ?_
      rw [hh]
      exact vArgs_ok ih hp h
    | none =>
      rw [hf] at h
      obtain ⟨rfl, h⟩ := isNil.of h
      rw [List.all_cons, Bool.and_eq_true] at hp
      cases hg : g == ("len" : Str) with
      | true =>
        rw [hg] at h
        obtain rfl := eq_of_beq hg
        exact Ev.len ok hk hx hp.1 ((ih _ _ _ h).mono fun d n₁ q => vLen_of q)
      | false =>
        rw [hg] at h
        obtain ⟨hg, h⟩ := guardB.of h
        obtain rfl := eq_of_beq hg
        exact Ev.strOf ok hk hx hp.1 ((ih _ _ _ h).mono fun d n₁ q => vStr_of q)
theorem vBool_ok {ev : Led → PySem.Expr → (Dv → Led → Prop) → Prop} (it : ∀ n e K, ev n e K → Bv f c M n e fun b n' => K (.bool b) n') {n : Led} {K : Dv → Led → Prop} {op : PySem.BoolOp} {xs : List PySem.Expr} {p : Pos} (h : vBool ev op xs p n K) : Bv f c M n (.BoolOp op xs p) fun b n' => K (.bool b) n' := by
  cases op <;> cases xs
  · exact Bv.andNil h
  · exact Bv.and ((it _ _ _ h).mono fun b n₁ hb => ⟨fun e => it _ _ _ (hb.1 e), fun e => hb.2 e⟩)
  · exact Bv.orNil h
  · exact Bv.or ((it _ _ _ h).mono fun b n₁ hb => ⟨fun e => hb.1 e, fun e => it _ _ _ (hb.2 e)⟩)
theorem vCompare_ok {ev : Led → PySem.Expr → (Dv → Led → Prop) → Prop} (ih : ∀ n e K, ev n e K → Ev f c M n e K) {n : Led} {K : Dv → Led → Prop} {l : PySem.Expr} {ops : List CmpOp} {rs : List PySem.Expr} {p : Pos} (h : vCompare ev l ops rs n K) : Bv f c M n (.Compare l ops rs p) fun b n' => K (.bool b) n' := by
  obtain ⟨op, r1, rfl, q1⟩ := uncons.of h
  clear h
  obtain ⟨rfl, q2⟩ := isNil.of q1
  clear q1
  obtain ⟨r, r2, rfl, q3⟩ := uncons.of q2
  clear q2
  obtain ⟨rfl, q4⟩ := isNil.of q3
  clear q3
  obtain ⟨hm, h⟩ := guardB.of q4
  have hm : behindInMarks op r = false := by simpa using hm
  exact fun l R h0 tk m hs => wpAny_isTrue_Compare1 (two2 (K := fun x n' => ∃ b, x = .bool b ∧ K (.bool b) n') ((ih _ _ _ h).mono fun d n₁ q => (ih _ _ _ q).mono fun d' n₂ q2 => vCmp_ok (G := fun b n => K (.bool b) n) q2) hs fun v s' hv => by
    obtain ⟨h3, tk3, x, n2, l2, rfl, k2, hs2, hx, b, rfl, hK⟩ := hv
    cases hx
    exact wpAny_truthy_bool ⟨h3, tk3, _, l2, rfl, k2, hs2, hK⟩) hm
noncomputable def TOk (f : Fn) (c : Cx) (M : Nam) (ev : EvT) : Prop := (∀ n e K, ev false n e K → Ev f c M n e K) ∧ (∀ n e K, ev true n e K → Bv f c M n e fun b n' => K (.bool b) n')
theorem stepE_ok (ok : c.Ok rd ru) (hh : c.hnd = hnd) (hk : f.scope.kind = .function) (hdb : f.kind ("__debug__" : Str) = none) {ev : EvT} (h : TOk f c M ev) : TOk f c M (stepE hnd f rd ru M ev) := by
    obtain ⟨ih, it⟩ := h
    have isb : ∀ {n : Led} {e : PySem.Expr} {K : Dv → Led → Prop}, ev false n e (fun d n₁ => onBool d fun b => K (.bool b) n₁) → Ev f c M n e fun d n₁ => ∃ b, d = .bool b ∧ K (.bool b) n₁ := fun {n e K} h => (ih _ _ _ h).mono fun d n₁ hd => by
      exact onBool.of hd
    constructor
    · intro n e K h
      cases e <;> first | exact False.elim h | skip
      case BinOp => exact fun l R h0 tk m hs => wpAny_BinOp (two2 ((ih _ _ _ h).mono fun d n₁ q => (ih _ _ _ q).mono fun d' n₂ q2 => vBin_ok q2) hs fun _ _ x => x)
      case IfExp => exact Ev.ifExp ((it _ _ _ h).mono fun b n₁ hb => ⟨fun e => ih _ _ _ (hb.1 e), fun e => ih _ _ _ (hb.2 e)⟩)
      case Call g es ks p =>
        obtain ⟨rfl, h⟩ := isNil.of h
        exact vCall_ok ok hh hk hdb ih h
      case Constant x i p => exact vConst_ok h
      case Attribute v x p =>
        obtain ⟨hb, h⟩ := guardB.of h
        exact Ev.attr ok hb ((ih _ _ _ h).mono fun d n₁ q => let ⟨y, hy, q⟩ := onSome.of q; ⟨y, vAttr_ok hy, q⟩)
      case Subscript => exact Ev.sub ih (ih _ _ _ h)
      case Name => exact vName_ok ok hk hdb h
      case List =>
        obtain ⟨hp, h⟩ := guardB.of h
        exact Ev.list (vArgs_ok ih hp h)
      case Tuple =>
        obtain ⟨hp, h⟩ := guardB.of h
        exact Ev.tuple (vArgs_ok ih hp h)
    · intro n e K h
      cases e <;> first | exact False.elim h | skip
      case BoolOp => exact vBool_ok it h
      case UnaryOp op _ _ =>
        cases op <;> first | exact False.elim h | skip
        exact Bv.not ((it _ _ _ h).mono fun b n₁ hb => hb)
      case Compare => exact vCompare_ok ih h
      case Call => exact Bv.val (isb h) fun _ => rfl
      case Name => exact Bv.val (isb h) fun _ => rfl
theorem vE_ok (ok : c.Ok rd ru) (hh : c.hnd = hnd) (hk : f.scope.kind = .function) (hdb : f.kind ("__debug__" : Str) = none) : TOk f c M (vE hnd f rd ru M) := by
  have z : TOk f c M (E0 hnd f rd ru M) := ⟨fun _ _ _ q => q.elim, fun _ _ _ q => q.elim⟩
  have s := fun {ev : EvT} (h : TOk f c M ev) => stepE_ok (rd := rd) (ru := ru) ok hh hk hdb h
  exact s (s (s (s (s (s (s (s (s (s (s (s z)))))))))))
end
end Mine

namespace Mine
/-- a loop, by an invariant over a state -/
inductive LoopP (M : Nam) (n : Led) (m : Nat) (need : Led → Prop) (turn : Nat → Nam → Led → (Fw → Nam → Led → Prop) → Prop) (ret : Dv → Nam → Led → Prop) (rest : Nam → Led → Prop) : Prop
  | mk {σ : Type} (N : σ → Nam) (T : σ → Led) (I : Nat → σ → Prop) (x₀ : σ) (hM : Has M (N x₀)) (hT : Sub (T x₀) n) (hI : I 0 x₀) (hn : ∀ x, need (T x))
      (step : ∀ i x (KT : Fw → Nam → Led → Prop), i < m → I i x → (∀ w y M n, Going w → Has M (N y) → Sub (T y) n → I (i + 1) y → KT w M n) → (∀ e M n, ret e M n → KT (.ret e) M n) → turn i (N x) (T x) KT)
      (done : ∀ x, I m x → rest (N x) (T x))
inductive WhP (M : Nam) (n : Led) (turn : Nam → Led → (Fw → Nam → Led → Prop) → Prop) (ret : Dv → Nam → Led → Prop) : Prop
  | mk {σ : Type} (N : σ → Nam) (T : σ → Led) (I : Nat → σ → Prop) (k₀ : Nat) (x₀ : σ) (hM : Has M (N x₀)) (hT : Sub (T x₀) n) (hI : I k₀ x₀)
      (step : ∀ k x (KT : Fw → Nam → Led → Prop), I k x → (∀ w k' y M n, Going w → k' < k → Has M (N y) → Sub (T y) n → I k' y → KT w M n) → (∀ e M n, ret e M n → KT (.ret e) M n) → turn (N x) (T x) KT)
noncomputable def thenK (K : Fw → Nam → Led → Prop) (rest : Nam → Led → Prop) (w : Fw) (M : Nam) (n : Led) : Prop :=
  match w with
  | .next => rest M n
  | w => K w M n
inductive IfP (K : Fw → Nam → Led → Prop) (rest : Nam → Led → Prop) (test : (Fw → Nam → Led → Prop) → Prop) : Prop
  | plain (h : test (thenK K rest))
  | join {σ : Type} (N : σ → Nam) (T : σ → Led) (I : σ → Prop) (h : ∀ KA : Fw → Nam → Led → Prop, (∀ x M n, Has M (N x) → Sub (T x) n → I x → KA .next M n) → (∀ w M n, w ≠ .next → K w M n → KA w M n) → test KA) (hJ : ∀ x, I x → rest (N x) (T x))
inductive NatIs (k : Int) (G : Nat → Prop) : Prop
  | mk (m : Nat) (h : k = m) (b : m < 100000) (g : G m)
noncomputable section
noncomputable def onPair (d : Dv) (P : Int × List Nat → Prop) : Prop := match d with | .pair p => P p | _ => False
theorem onPair.of {d : Dv} {P : Int × List Nat → Prop} (h : onPair d P) : ∃ a, d = .pair a ∧ P a := by cases d <;> first | exact False.elim h | exact ⟨_, rfl, h⟩
noncomputable def onName (e : PySem.Expr) (P : Str → Prop) : Prop := match e with | .Name x _ => P x | _ => False
theorem onName.of {e : PySem.Expr} {P : Str → Prop} (h : onName e P) : ∃ x p, e = .Name x p ∧ P x := by cases e <;> first | exact False.elim h | exact ⟨_, _, rfl, h⟩
noncomputable def vTgt (f : Fn) (target : PySem.Expr) (d : Dv) (M : Nam) (G : Nam → Prop) : Prop :=
  match target with
  | .Name x _ => guardB (locK f x) (G ((x, d) :: M))
  | .Tuple es _ _ => uncons es fun a r => onName a fun x => uncons r fun b r => onName b fun y => isNil r (guardB (locK f x && locK f y && !(x == y)) (onPair d fun p => G ((y, .str p.2) :: (x, .int p.1) :: M)))
  | _ => False
noncomputable def notComp : PySem.Expr → Bool
  | .ListComp .. => false
  | .SetComp .. => false
  | .DictComp .. => false
  | .Set .. => false
  | _ => true
/-- the loop over a range -/
noncomputable def rangeArg (e : PySem.Expr) (X : PySem.Expr → Prop) (Y : Prop) : Prop :=
  match e with
  | .Call g es _ _ => (match g with
    | .Name g _ => (match g == ("range" : Str) with
      | true => uncons es fun e r => isNil r (X e)
      | false => Y)
    | _ => Y)
  | _ => Y
noncomputable def noKw (e : PySem.Expr) : Bool := match e with | .Call _ _ ks _ => ks.isEmpty | _ => true
noncomputable def vTgts (ts : List PySem.Expr) (P : Str → Prop) : Prop := uncons ts fun t r => isNil r (onName t P)
noncomputable abbrev SvT := Prop → Nam → Led → List Stmt → (Fw → Nam → Led → Prop) → Prop
/-- what statements come to, by what their parts come to -/
noncomputable def stepS (hnd : Option Value) (f : Fn) (rd ru : Nat) (sv : SvT) : SvT := fun KR M n ss K =>
  match ss with
  | [] => K .next M n
  | st :: rest => match st with
    | .Assign ts e _ => vTgts ts fun x => guardB (locK f x && notComp e) (vE hnd f rd ru M false n e fun d n₁ => sv KR ((x, d) :: M) n₁ rest K)
    | .AugAssign t op e _ => onName t fun x => onSome (M.lookup x) fun d => onInt d fun a => guardB (locK f x && decide (op = .Add)) (vE hnd f rd ru M false n e fun d n₁ => onInt d fun b => sv KR ((x, .int (a + b)) :: M) n₁ rest K)
    | .Return e _ => onSome e fun e => vE hnd f rd ru M false n e fun d n₁ => K (.ret d) M n₁
    | .Continue _ => K .cont M n
    | .Expr e _ => guardB (notComp e) (vE hnd f rd ru M false n e fun _ n₁ => sv KR M n₁ rest K)
    | .If e a b _ => IfP K (fun M n => sv KR M n rest K) fun KA => vE hnd f rd ru M true n e fun d n₁ => brB d (sv KR M n₁ a KA) (sv KR M n₁ b KA)
    | .While e body els _ => isNil els (WhP M n (fun M n KT => vE hnd f rd ru M true n e fun d n₁ => brB d (sv False M n₁ body KT) (sv KR M n₁ rest K)) fun d M n => K (.ret d) M n)
    | .For target it body els _ => isNil els (guardB (hnd.isNone && noKw it) (rangeArg it
        (fun e => onName target fun x => guardB (gloK f "range" && locK f x && plainE e) (vE hnd f rd ru M false n e fun d n₁ => onInt d fun kk => NatIs kk fun m =>
          LoopP M n₁ m (fun _ => True) (fun i M n KT => sv False ((x, .int i) :: M) n body KT) (fun d M n => K (.ret d) M n) fun M n => sv KR M n rest K))
        (guardB (notComp it) (vE hnd f rd ru M false n it fun d n₁ => onRef d fun a => ListAt n₁ a fun ds => ds.length < 100000 ∧ GoOk ds target ∧
          LoopP M n₁ ds.length (fun n => (a, ds) ∈ n) (fun i M n KT => ∀ d, ds[i]? = some d → vTgt f target d M fun M' => sv False M' n body KT) (fun d M n => K (.ret d) M n) fun M n => sv KR M n rest K))))
    | .Raise e o _ => isNil o.toList (onSome e fun e => match e with
      | .Call g es ks _ => isNil ks (onName g fun x => uncons es fun e es => guardB (x == ("SourceError" : Str) && gloK f x && (e :: es).all plainE) (vArgs (vE hnd f rd ru M false) (e :: es) n fun ds _ => (∃ k y, ds = [.int k, .str y]) ∧ KR))
      | _ => False)
    | _ => False
noncomputable def S0 (_ : Option Value) (_ : Fn) (_ _ : Nat) : SvT := fun _ _ _ _ _ => False
noncomputable def S1 (hnd : Option Value) (f : Fn) (rd ru : Nat) : SvT := stepS hnd f rd ru (S0 hnd f rd ru)
noncomputable def S2 (hnd : Option Value) (f : Fn) (rd ru : Nat) : SvT := stepS hnd f rd ru (S1 hnd f rd ru)
noncomputable def S3 (hnd : Option Value) (f : Fn) (rd ru : Nat) : SvT := stepS hnd f rd ru (S2 hnd f rd ru)
noncomputable def S4 (hnd : Option Value) (f : Fn) (rd ru : Nat) : SvT := stepS hnd f rd ru (S3 hnd f rd ru)
noncomputable def S5 (hnd : Option Value) (f : Fn) (rd ru : Nat) : SvT := stepS hnd f rd ru (S4 hnd f rd ru)
noncomputable def S6 (hnd : Option Value) (f : Fn) (rd ru : Nat) : SvT := stepS hnd f rd ru (S5 hnd f rd ru)
noncomputable def S7 (hnd : Option Value) (f : Fn) (rd ru : Nat) : SvT := stepS hnd f rd ru (S6 hnd f rd ru)
noncomputable def S8 (hnd : Option Value) (f : Fn) (rd ru : Nat) : SvT := stepS hnd f rd ru (S7 hnd f rd ru)
noncomputable def S9 (hnd : Option Value) (f : Fn) (rd ru : Nat) : SvT := stepS hnd f rd ru (S8 hnd f rd ru)
noncomputable def S10 (hnd : Option Value) (f : Fn) (rd ru : Nat) : SvT := stepS hnd f rd ru (S9 hnd f rd ru)
noncomputable def S11 (hnd : Option Value) (f : Fn) (rd ru : Nat) : SvT := stepS hnd f rd ru (S10 hnd f rd ru)
noncomputable def S12 (hnd : Option Value) (f : Fn) (rd ru : Nat) : SvT := stepS hnd f rd ru (S11 hnd f rd ru)
noncomputable def S13 (hnd : Option Value) (f : Fn) (rd ru : Nat) : SvT := stepS hnd f rd ru (S12 hnd f rd ru)
noncomputable def S14 (hnd : Option Value) (f : Fn) (rd ru : Nat) : SvT := stepS hnd f rd ru (S13 hnd f rd ru)
noncomputable def S15 (hnd : Option Value) (f : Fn) (rd ru : Nat) : SvT := stepS hnd f rd ru (S14 hnd f rd ru)
noncomputable def S16 (hnd : Option Value) (f : Fn) (rd ru : Nat) : SvT := stepS hnd f rd ru (S15 hnd f rd ru)
noncomputable def S17 (hnd : Option Value) (f : Fn) (rd ru : Nat) : SvT := stepS hnd f rd ru (S16 hnd f rd ru)
noncomputable def S18 (hnd : Option Value) (f : Fn) (rd ru : Nat) : SvT := stepS hnd f rd ru (S17 hnd f rd ru)
noncomputable def S19 (hnd : Option Value) (f : Fn) (rd ru : Nat) : SvT := stepS hnd f rd ru (S18 hnd f rd ru)
noncomputable def S20 (hnd : Option Value) (f : Fn) (rd ru : Nat) : SvT := stepS hnd f rd ru (S19 hnd f rd ru)
noncomputable def S21 (hnd : Option Value) (f : Fn) (rd ru : Nat) : SvT := stepS hnd f rd ru (S20 hnd f rd ru)
noncomputable def S22 (hnd : Option Value) (f : Fn) (rd ru : Nat) : SvT := stepS hnd f rd ru (S21 hnd f rd ru)
noncomputable def S23 (hnd : Option Value) (f : Fn) (rd ru : Nat) : SvT := stepS hnd f rd ru (S22 hnd f rd ru)
noncomputable def S24 (hnd : Option Value) (f : Fn) (rd ru : Nat) : SvT := stepS hnd f rd ru (S23 hnd f rd ru)
noncomputable abbrev vS := S24
end
end Mine

namespace Mine
section
variable {f : Fn} {c : Cx} {E : XE} {M : Nam} {n : Led} {K : Fw → Nam → Led → Prop} {rest body : List Stmt} {e : PySem.Expr} {pos p1 p2 p3 : Pos}
theorem Ex.cont (h : K .cont M n) : Ex f c E M n (.Continue pos :: rest) K := Ex.cons fun l R h0 tk m hs => wpAny_Continue ⟨h0, tk, m, M, .cont, n, l, rfl, Keep.refl _, hs, rfl, h⟩
theorem Tgt.mono {target : PySem.Expr} {d : Dv} {G G' : Nam → Prop} (h : Tgt f c target d M n G) (k : ∀ M, G M → G' M) : Tgt f c target d M n G' := fun l R h0 tk m v hd hs => wpAny_mono (h l R h0 tk m v hd hs) (fun _ s₂ h₂ => by
  obtain ⟨h', tk', m2, M2, e, hs2, hg⟩ := h₂
  exact ⟨h', tk', m2, M2, e, hs2, k _ hg⟩) fun _ _ x => x
noncomputable def InvS {σ : Type} (N : σ → Nam) (T : σ → Led) (I : Nat → σ → Prop) (i : Nat) (M : Nam) (n : Led) : Prop := ∃ x, Has M (N x) ∧ Sub (T x) n ∧ I i x
/-- the loop's rules, by a state -/
theorem Ex.forL {iter target : PySem.Expr} (hn0 : c.hnd = none) (hset : ∀ c : Cx, ∀ x, foldedSetIterable iter (f.env c) x = pure x)
    (h : Ev f c M n iter fun d n₁ => ∃ (a : Addr) (ds : List Dv), d = .ref a ∧ ds.length < 100000 ∧ GoOk ds target ∧ ∃ (σ : Type) (N : σ → Nam) (T : σ → Led) (I : Nat → σ → Prop) (x₀ : σ), Has M (N x₀) ∧ Sub (T x₀) n₁ ∧ I 0 x₀ ∧ (∀ x, (a, ds) ∈ T x) ∧
      (∀ i d x (KT : Fw → Nam → Led → Prop), ds[i]? = some d → I i x → (∀ w x M n, Going w → Has M (N x) → Sub (T x) n → I (i + 1) x → KT w M n) → (∀ e M n, K (.ret e) M n → KT (.ret e) M n) → Tgt f c target d (N x) (T x) fun M'' => Ex f c noE M'' (T x) body KT) ∧ ∀ x, I ds.length x → Ex f c E (N x) (T x) rest K) :
    Ex f c E M n (.For target iter body [] pos :: rest) K := by
  refine Ex.forList hn0 hset (h.mono fun d n₁ q => ?_)
  obtain ⟨a, ds, rfl, h2, h3, σ, N, T, I, x₀, hM, hT, hI, hm, hst, hdn⟩ := q
  refine ⟨a, ds, InvS N T I, rfl, h2, h3, ⟨x₀, hM, hT, hI⟩, ?_, ?_, ?_⟩
  · rintro i M' n' ⟨x, _, ⟨r, hp⟩, _⟩
    exact hp.mem_iff.mpr (List.mem_append_left _ (hm x))
  · rintro i d M' n' hd' ⟨x, hM, ⟨r, hp⟩, hi⟩ l R h tk m v hv hs
    have hs' : St c.h₀ c.L h m l (N x) (T x ++ (r ++ R)) := by
      rw [← List.append_assoc]
      have hp2 := hp.append_right R
      exact ⟨hs.fr, hs.news, fun x d hx => hs.nam x d (hM.get hx), (hs.perm hp2).led, (hs.perm hp2).nd⟩
    refine wpAny_mono (hst i d x (Turn (InvS N T I) i K) hd' hi (fun w x M n hw h1 h2 h3 => by cases w <;> first | exact ⟨x, h1, h2, h3⟩ | cases hw) (fun _ _ _ h => h) l (r ++ R) h tk m v hv hs') (fun _ s₂ h₂ => ?_) fun _ _ x => x
    obtain ⟨h', tk', m2, M2, rfl, hs2, hg⟩ := h₂
    have hs3 : St c.h₀ c.L h' m2 l M2 ((T x ++ r) ++ R) := by rw [List.append_assoc]; exact hs2
    exact ⟨h', tk', m2, M2, rfl, hs3.perm (hp.symm.append_right R), Ex.weak (fun _ _ h => h) ⟨r, hp⟩ hg⟩
  · rintro M' n' ⟨x, hM, hT, hi⟩
    exact Ex.weak (fun _ _ q => hM.get q) hT (hdn x hi)
theorem Ex.forR {x : Str} {rd ru : Nat} (ok : c.Ok rd ru) (hn0 : c.hnd = none) (hk : f.scope.kind = .function) (hx : f.kind (Str.ofString "range") = some .globalImplicit) (hl : f.kind x = some .local) (hp : plainE e = true)
    (h : Ev f c M n e fun d n₁ => ∃ (k : Nat), d = .int k ∧ k < 100000 ∧ ∃ (σ : Type) (N : σ → Nam) (T : σ → Led) (I : Nat → σ → Prop) (x₀ : σ), Has M (N x₀) ∧ Sub (T x₀) n₁ ∧ I 0 x₀ ∧
      (∀ i y (KT : Fw → Nam → Led → Prop), i < k → I i y → (∀ w y M n, Going w → Has M (N y) → Sub (T y) n → I (i + 1) y → KT w M n) → (∀ e M n, K (.ret e) M n → KT (.ret e) M n) → Ex f c noE ((x, .int i) :: N y) (T y) body KT) ∧ ∀ y, I k y → Ex f c E (N y) (T y) rest K) :
    Ex f c E M n (.For (.Name x p1) (.Call (.Name (Str.ofString "range") p2) [e] [] p3) body [] pos :: rest) K := by
  refine Ex.forRange ok hn0 hk hx hp (h.mono fun d n₁ q => ?_)
  obtain ⟨k, rfl, h2, σ, N, T, I, x₀, hM, hT, hI, hst, hdn⟩ := q
  refine ⟨k, InvS N T I, rfl, h2, ⟨x₀, hM, hT, hI⟩, ?_, ?_⟩
  · rintro i M' n' hik ⟨y, hM, hT, hi⟩
    refine Tgt.name hk hl (Ex.weak (fun z d hz => ?_) hT (hst i y (Turn (InvS N T I) i K) hik hi (fun w y M n hw h1 h2 h3 => by cases w <;> first | exact ⟨y, h1, h2, h3⟩ | cases hw) (fun _ _ _ h => h)))
    by_cases q : z = x
    · rw [q, List.lookup_cons_self] at hz ⊢
      exact hz
    · rw [List.lookup_cons, beq_false_of_ne q] at hz ⊢
      exact hM.get hz
  · rintro M' n' ⟨y, hM, hT, hi⟩
    exact Ex.weak (fun _ _ q => hM.get q) hT (hdn y hi)
theorem swaps_plain {e : PySem.Expr} (h : notComp e = true) (t : Option PySem.Expr) (ln : Nat) (env : Env) : swapsWith e t ln env = pure false := by
  cases e <;> first | rfl | cases h
theorem folded_plain {e : PySem.Expr} (h : notComp e = true) (env : Env) (x : Value) : foldedSetIterable e env x = pure x := by
  cases e <;> first | rfl | cases h
theorem thenK_ok {KK : Nam → Led → Prop} (h : ∀ M n, KK M n → Ex f c E M n rest K) {ss : List Stmt} (hs : Ex f c E M n ss (thenK K KK)) : Ex f c E M n ss (Then f c E rest K) :=
  hs.mono fun w M n q => by cases w <;> first | exact h _ _ q | exact q
theorem vTgt_ok {target : PySem.Expr} {d : Dv} {G : Nam → Prop} (hn0 : c.hnd = none) (hk : f.scope.kind = .function) (h : vTgt f target d M G) : Tgt f c target d M n G := by
  cases target <;> first | exact False.elim h | skip
  case Name x p =>
    obtain ⟨hx, h⟩ := guardB.of h
    exact Tgt.name hk (of_decide_eq_true hx) h
  case Tuple es i p =>
    obtain ⟨a, r, rfl, q1⟩ := uncons.of h
    clear h
    obtain ⟨x, p1, rfl, q2⟩ := onName.of q1
    clear q1
    obtain ⟨b, r, rfl, q3⟩ := uncons.of q2
    clear q2
    obtain ⟨y, p2, rfl, q4⟩ := onName.of q3
    clear q3
    obtain ⟨rfl, q5⟩ := isNil.of q4
    clear q4
    obtain ⟨hb, q6⟩ := guardB.of q5
    obtain ⟨p, rfl, q7⟩ := onPair.of q6
    rw [Bool.and_eq_true, Bool.and_eq_true, Bool.not_eq_true'] at hb
    exact Tgt.pair hn0 hk (of_decide_eq_true hb.1.1) (of_decide_eq_true hb.1.2) (ne_of_beq_false hb.2) q7
end
section
variable {hnd : Option Value} {f : Fn} {c : Cx} {rd ru : Nat}
/-- what a raise is to do -/
noncomputable def RaiseOk (f : Fn) (c : Cx) (E : XE) (KR : Prop) : Prop :=
  ∀ (M : Nam) (n : Led) (p p2 p3 : Pos) (e : PySem.Expr) (es : List PySem.Expr) (K : Fw → Nam → Led → Prop), f.kind ("SourceError" : Str) = some .globalImplicit → (e :: es).all plainE = true → Evs f c M n (e :: es) (fun ds _ => (∃ k y, ds = [.int k, .str y]) ∧ KR) → Sx f c E M n (.Raise (some (.Call (.Name ("SourceError" : Str) p) (e :: es) [] p2)) none p3) K
noncomputable def SOk (f : Fn) (c : Cx) (sv : SvT) : Prop := ∀ (KR : Prop) (E : XE), RaiseOk f c E KR → ∀ M n ss K, sv KR M n ss K → Ex f c E M n ss K
theorem stepS_ok (ok : c.Ok rd ru) (hh : c.hnd = hnd) (hk : f.scope.kind = .function) (hdb : f.kind ("__debug__" : Str) = none) (rF : RaiseOk f c noE False) {sv : SvT} (is : SOk f c sv) : SOk f c (stepS hnd f rd ru sv) := fun KR E hR M n ss K h => by
  cases ss with
  | nil => exact Ex.nil h
  | cons st rest =>
    have ih := is KR E hR
    have iF := is False _ rF
    have ie := fun M => (vE_ok (M := M) ok hh hk hdb).1
    have it := fun M => (vE_ok (M := M) ok hh hk hdb).2
    cases st <;> first | exact False.elim h | skip
    case Assign ts e p =>
      obtain ⟨t, r, rfl, q1⟩ := uncons.of h
      clear h
      obtain ⟨rfl, q2⟩ := isNil.of q1
      clear q1
      obtain ⟨x, p2, rfl, q3⟩ := onName.of q2
      obtain ⟨hb, q4⟩ := guardB.of q3
      rw [Bool.and_eq_true] at hb
      exact Ex.assign ((ie M _ _ _ q4).mono fun d n₁ q => ih _ _ _ _ q) hk (of_decide_eq_true hb.1) (swaps_plain hb.2 _ _ _)
    case AugAssign t op e p =>
      obtain ⟨x, p2, rfl, q1⟩ := onName.of h
      clear h
      obtain ⟨d, hd, q2⟩ := onSome.of q1
      obtain ⟨a, rfl, q3⟩ := onInt.of q2
      obtain ⟨hb, q4⟩ := guardB.of q3
      rw [Bool.and_eq_true] at hb
      obtain rfl := of_decide_eq_true hb.2
      exact Ex.addTo hd hk (of_decide_eq_true hb.1) ((ie M _ _ _ q4).mono fun d n₁ q => let ⟨b, e, q⟩ := onInt.of q; ⟨b, e, ih _ _ _ _ q⟩)
    case Return e p =>
      obtain ⟨e, rfl, q1⟩ := onSome.of h
      exact Ex.ret (ie M _ _ _ q1)
    case Continue p => exact Ex.cont h
    case Expr e p =>
      obtain ⟨hb, q1⟩ := guardB.of h
      exact Ex.eff ((ie M _ _ _ q1).mono fun d n₁ q => ih _ _ _ _ q) hk (swaps_plain hb _ _ _)
    case If e a b p =>
      have tst : ∀ {KA : Fw → Nam → Led → Prop}, (vE hnd f rd ru M true n e fun d n₁ => brB d (sv KR M n₁ a KA) (sv KR M n₁ b KA)) → Bv f c M n e fun z n₁ => (z = true → Ex f c E M n₁ a KA) ∧ (z = false → Ex f c E M n₁ b KA) := fun {KA} q => (it M _ _ _ q).mono fun z n₁ q => ⟨fun w => ih _ _ _ _ (q.1 w), fun w => ih _ _ _ _ (q.2 w)⟩
      cases h with
      | plain h => exact Ex.ite ((tst h).mono fun z n₁ q => ⟨fun w => thenK_ok (fun M n => ih M n rest K) (q.1 w), fun w => thenK_ok (fun M n => ih M n rest K) (q.2 w)⟩)
      | join N T I h hJ => exact Ex.iteS N T I (fun KA h1 h2 => tst (h KA h1 h2)) fun x hx => ih _ _ _ _ (hJ x hx)
    case While e body els p =>
      obtain ⟨rfl, h⟩ := isNil.of h
      obtain ⟨N, T, I, k₀, x₀, hM, hT, hI, step⟩ := h
      exact Ex.while N T I k₀ x₀ hM hT hI fun k x KT hi h1 h2 => (it _ _ _ _ (step k x KT hi h1 h2)).mono fun z n₁ q => ⟨fun w => iF _ _ _ _ (q.1 w), fun w => ih _ _ _ _ (q.2 w)⟩
    case For target itr body els p =>
      obtain ⟨rfl, q1⟩ := isNil.of h
      clear h
      obtain ⟨hb, q2⟩ := guardB.of q1
      clear q1
      rw [Bool.and_eq_true] at hb
      have hn0 : c.hnd = none := by rw [hh]; exact Option.isNone_iff_eq_none.mp hb.1
      have over : (guardB (notComp itr) (vE hnd f rd ru M false n itr fun d n₁ => onRef d fun a => ListAt n₁ a fun ds => ds.length < 100000 ∧ GoOk ds target ∧
          LoopP M n₁ ds.length (fun n => (a, ds) ∈ n) (fun i M n KT => ∀ d, ds[i]? = some d → vTgt f target d M fun M' => sv False M' n body KT) (fun d M n => K (.ret d) M n) fun M n => sv KR M n rest K)) → Ex f c E M n (.For target itr body [] p :: rest) K := fun q => by
        obtain ⟨hc, q⟩ := guardB.of q
        exact Ex.forL hn0 (fun c x => folded_plain hc _ x) ((ie M _ _ _ q).mono fun d n₁ q => by
          obtain ⟨a, rfl, ds, hm, h1, h2, q⟩ := onRef.of q
          obtain ⟨N, T, I, x₀, hM, hT, hI, hn, step, done⟩ := q
          exact ⟨a, ds, rfl, h1, h2, _, N, T, I, x₀, hM, hT, hI, hn, fun i d x KT hd hi h1 h2 => vTgt_ok hn0 hk (step i x KT (List.getElem?_eq_some_iff.mp hd).1 hi h1 h2 d hd) |>.mono fun M' q => iF _ _ _ _ q, fun x hx => ih _ _ _ _ (done x hx)⟩)
      cases itr <;> try exact over q2
      rename_i g es ks p3
      cases g <;> try exact over q2
      rename_i g p2
      cases hg : g == ("range" : Str) with
      | false => exact over (by unfold rangeArg at q2; dsimp only at q2; rw [hg] at q2; exact q2)
      | true =>
        unfold rangeArg at q2
        dsimp only at q2
        rw [hg] at q2
        clear over
        obtain ⟨e, r, rfl, q3⟩ := uncons.of q2
        clear q2
        obtain ⟨rfl, q4⟩ := isNil.of q3
        clear q3
        obtain ⟨x, px, rfl, q5⟩ := onName.of q4
        obtain ⟨hc, q6⟩ := guardB.of q5
        rw [Bool.and_eq_true, Bool.and_eq_true] at hc
        obtain rfl := eq_of_beq hg
        obtain rfl : ks = [] := List.isEmpty_iff.mp hb.2
        refine Ex.forR ok hn0 hk (of_decide_eq_true hc.1.1) (of_decide_eq_true hc.1.2) hc.2 ((ie M _ _ _ q6).mono fun d n₁ q => ?_)
        obtain ⟨kk, rfl, m, rfl, hm, q'⟩ := onInt.of q
        obtain ⟨N, T, I, x₀, hM, hT, hI, _, step, done⟩ := q'
        exact ⟨m, rfl, hm, _, N, T, I, x₀, hM, hT, hI, fun i y KT hik hi h1 h2 => iF _ _ _ _ (step i y KT hik hi h1 h2), fun x hx => ih _ _ _ _ (done x hx)⟩
    case Raise e o p =>
      obtain ⟨ho, q1⟩ := isNil.of h
      clear h
      obtain ⟨e, rfl, q2⟩ := onSome.of q1
      cases o <;> first | cases ho | skip
      cases e <;> first | exact False.elim q2 | skip
      obtain ⟨rfl, q3⟩ := isNil.of q2
      clear q2
      obtain ⟨x, px, rfl, q4⟩ := onName.of q3
      obtain ⟨e, es, rfl, q4⟩ := uncons.of q4
      obtain ⟨hb, q5⟩ := guardB.of q4
      rw [Bool.and_eq_true, Bool.and_eq_true] at hb
      obtain rfl := eq_of_beq hb.1.1
      exact Ex.cons (hR _ _ _ _ _ _ _ _ (of_decide_eq_true hb.1.2) hb.2 (vArgs_ok (ie M) hb.2 q5))
theorem vS_ok (ok : c.Ok rd ru) (hh : c.hnd = hnd) (hk : f.scope.kind = .function) (hdb : f.kind ("__debug__" : Str) = none) (rF : RaiseOk f c noE False) : SOk f c (vS hnd f rd ru) := by
  have z : SOk f c (S0 hnd f rd ru) := fun _ _ _ _ _ _ _ q => q.elim
  have s := fun {sv : SvT} (h : SOk f c sv) => stepS_ok (rd := rd) (ru := ru) ok hh hk hdb rF h
  have s4 := fun {sv : SvT} (h : SOk f c sv) => s (s (s (s h)))
  exact s4 (s4 (s4 (s4 (s4 (s4 z)))))
end
end Mine

namespace Mine
theorem y_raiseNo {M : Model} {A : Around} {E : Value → Shared → Prop} {env : Env} {s : Shared} {x : Sem Value} {Q : Flow → Shared → Prop} (h : wpAny M A x (fun _ _ => False) E s) : wpAny M A (raiseStmt env (some x) none) Q E s := by
  unfold raiseStmt
  exact wpAny_bind (wpAny_mono h (fun _ _ q => q.elim) fun _ _ x => x)
theorem Raise_no {M : Model} {A : Around} {E : Value → Shared → Prop} {env : Env} {s : Shared} {x : Str} {np cpos pos : Pos} {args : List PySem.Expr} {Q : Flow → Shared → Prop} (h : wpAny M A (eval (.Call (.Name x np) args [] cpos) env) (fun _ _ => False) E s) :
    wpAny M A (exec (.Raise (some (.Call (.Name x np) args [] cpos)) none pos) env) Q E s := by
  rw [arm_exec_Raise]
  first
    | refine wpAny_bind (wpAny_standAt (y_raiseNo (wpAny_bind (wpAny_mono h (fun v s₃ h₃ => h₃.elim) fun _ _ x => x))))
    | (simp only [evalOpt, Option.map]; refine wpAny_bind (wpAny_standAt (y_raiseNo (wpAny_bind (wpAny_mono h (fun v s₃ h₃ => h₃.elim) fun _ _ x => x)))))
    | (refine wpAny_bind (wpAny_standAt (y_raiseNo ?_)); exact h)
theorem g_exc (w : World) : nsIn (hK.heap_1 w.params) mainGlobals (Str.ofString "SourceError") = some (some (.ref 51)) ∧ keepIn (hK.heap_1 w.params) (.ref 51) = true := by
  w_top off
  have fill9 : Mine.Fills PySem.Challenge.rw_sa0210_01 Mine.hK.heap_1 := by (k_fill; exact True.intro)
  constructor <;> k_is
theorem exc_call {f : Fn} {c : Cx} {M : Nam} {n : Led} {e : PySem.Expr} {es : List PySem.Expr} {p p2 : Pos} {rd ru : Nat} {KR : Prop} (ok : c.Ok rd ru) (hk : f.scope.kind = .function) (hx : f.kind ("SourceError" : Str) = some .globalImplicit) (hp : (e :: es).all plainE = true) (h : Evs f c M n (e :: es) fun ds _ => (∃ k y, ds = [.int k, .str y]) ∧ KR)
    {Q E : Value → Shared → Prop} {l : Lg} {R : Led} {h0 : Heap} {tk : Nat} {m : Str → Option Value} (hs : St c.h₀ c.L h0 m l M (n ++ R))
    (hQ : ∀ k y t u h1 tk1 l1 n1, KR → Keep l l1 → St c.h₀ c.L h1 m l1 M (n1 ++ R) → wpAny (model PRG c.w) (f.ar c) (call (.ref 51) [.int k t, .str (S y) u]) Q E (c.at h1 tk1)) :
    wpAny (model PRG c.w) (f.ar c) (eval (.Call (.Name ("SourceError" : Str) p) (e :: es) [] p2) (f.env c)) Q E (c.at h0 tk) := by
  refine Call_ (nameX_K hs.fr ok.kin (topRead_of ok.top) (g_exc _).1 ?_ hk hx (by decide))
  rw [List.all_cons, Bool.and_eq_true] at hp
  refine callWith_K ok.kin (g_exc c.w).2 (wpAny_mono (wpAny_noRaise (h p2 l R h0 tk m hs)) (fun vs s₁ hv => ?_) fun _ _ x => x) (star_plain hp.1) (any_plain hp.2)
  obtain ⟨h1, tk1, ds, n1, l1, rfl, k1, hs1, hd, ⟨k, y, rfl⟩, hK⟩ := hv
  refine ⟨ok.kin.keeps hs1.fr.keep, ?_⟩
  obtain ⟨v, u, rfl, ⟨t, rfl⟩, ⟨t', rfl⟩⟩ := args2 hd
  exact hQ k y t t' h1 tk1 l1 n1 hK k1 hs1
theorem raise_never {f : Fn} {c : Cx} {rd ru : Nat} (ok : c.Ok rd ru) (hk : f.scope.kind = .function) (E : XE) : RaiseOk f c E False := fun M n p p2 p3 e es K hx hp h l R h0 tk m hs =>
  Raise_no (exc_call ok hk hx hp h hs fun _ _ _ _ _ _ _ _ q => q.elim)
end Mine

namespace Mine
theorem vRun {hnd : Option Value} {f : Fn} {c : Cx} {rd ru : Nat} (ok : c.Ok rd ru) (hh : c.hnd = hnd) (hk : f.scope.kind = .function) (hdb : f.kind ("__debug__" : Str) = none) {M : Nam} {n : Led} {ss : List Stmt} {K : Fw → Nam → Led → Prop} (h : vS hnd f rd ru False M n ss K) : Ex f c noE M n ss K :=
  vS_ok ok hh hk hdb (raise_never ok hk _) False _ (raise_never ok hk _) M n ss K h
theorem wb_Q {x : List Nat} (hx : x.length ≤ 10000) : Spec 88 5 50 [.str x] [] fun d n => n = [] ∧ d = .str (x.filter (· != 32)) := Spec.of fun w mean mg mb l vs hv _ => by
  obtain ⟨v, rfl, t, rfl⟩ := args1 hv
  exact ⟨_, wb_spec hx, fun r n' ⟨t, h1, h2⟩ => by subst h1 h2; exact ⟨fun _ h => h, .str _, ⟨t, rfl⟩, rfl⟩⟩
theorem pad_Q {b : List Nat} {width : Int} (hb : b.length ≤ 500) (hw : 0 ≤ width) (hw2 : width ≤ 500) : Spec 123 5 50 [.str b, .int width] [] fun d n => n = [] ∧ d = .str (padL b width) := Spec.of fun w mean mg mb l vs hv _ => by
  obtain ⟨v, u, rfl, ⟨t, rfl⟩, t', rfl⟩ := args2 hv
  exact ⟨_, padded_spec hb hw hw2, fun r n' ⟨t, h1, h2⟩ => by subst h1 h2; exact ⟨fun _ h => h, .str _, ⟨t, rfl⟩, rfl⟩⟩
theorem lit_nil : lit (Str.ofString "") = [] := by decide +kernel
theorem lit_END : lit (Str.ofString "END") = [69, 78, 68] := by decide +kernel
theorem lit_sp : lit (Str.ofString " ") = [32] := by decide +kernel
theorem lit_nl : lit (Str.ofString "\n") = [10] := by decide +kernel
end Mine
namespace Mine
theorem SpecH.weak {hnd : Option Value} {fa : Addr} {dd uu : Nat} {ds : List Dv} {n : Led} {K K' : Dv → Led → Prop} (h : SpecH hnd fa dd uu ds n K) (k : ∀ d n, K d n → ∃ n', Sub n' n ∧ K' d n') : SpecH hnd fa dd uu ds n K' := by
  intro w mean mg mb dp un gd cn cs a ccd outer base h₀ L A₀ s m l M R vs B X T hks hdp hun hs hv
  refine wpAny_mono (h w mean mg mb dp un gd cn cs a ccd outer base h₀ L A₀ s m l M R vs B X T hks hdp hun hs hv) (fun v s' hc => ?_) fun _ _ x => x
  obtain ⟨h', tk', d, n', l', e, kp, hs', hi, hK⟩ := hc
  obtain ⟨n'', ⟨r, hp⟩, hK'⟩ := k _ _ hK
  have hs2 := hs'.perm (hp.append_right R)
  rw [List.append_assoc] at hs2
  exact ⟨h', tk', d, n'', l', e, kp, hs2.cut, hi, hK'⟩
theorem ic_Q {x : List Nat} {c : Int} (hx : x.length ≤ 10000) (hc : 0 ≤ c) (hc2 : c < 1000) : Spec 95 10 100 [.str x, .int c] [] fun d n => n = [] ∧ d = .bool (isCom x c.toNat) := Spec.of fun w mean mg mb l vs hv _ => by
  obtain ⟨v, u, rfl, ⟨t, rfl⟩, t', rfl⟩ := args2 hv
  exact ⟨_, ic_spec hx hc hc2, fun r n' ⟨h1, h2⟩ => by subst h1 h2; exact ⟨fun _ h => h, .bool _, rfl, rfl⟩⟩
end Mine
namespace Mine
theorem card_Q {k : Int} {lab b : List Nat} {mk : Nat} : Spec 70 5 50 [.int k, .str lab, .str [mk], .str b] [] fun d n => n = [] ∧ d = .card ⟨k, lab, mk, b⟩ := Spec.of fun w mean mg mb l vs hv _ => by
  have hv' : ∃ v u x y, vs = [v, u, x, y] := by
    match vs, hv with
    | [v, u, x, y], _ => exact ⟨_, _, _, _, rfl⟩
    | [], h => cases h.1
    | [_], h => cases h.1
    | [_, _], h => cases h.1
    | [_, _, _], h => cases h.1
    | _ :: _ :: _ :: _ :: _ :: _, h => cases h.1
  obtain ⟨v, u, x, y, rfl⟩ := hv'
  obtain ⟨_, e, h0⟩ := hv.2 0 v rfl; cases e
  obtain ⟨_, e, hu⟩ := hv.2 1 u rfl; cases e
  obtain ⟨_, e, hx⟩ := hv.2 2 x rfl; cases e
  obtain ⟨_, e, hy⟩ := hv.2 3 y rfl; cases e
  obtain ⟨t1, rfl⟩ := h0
  obtain ⟨t2, rfl⟩ := hu
  obtain ⟨t3, rfl⟩ := hx
  obtain ⟨t4, rfl⟩ := hy
  exact ⟨_, card_new, fun r n' ⟨h1, h2⟩ => ⟨h2, .card _, h1, rfl⟩⟩
end Mine

namespace Mine
theorem cc_Q {a : Addr} {c c0 : CardD} {cs : List CardD} {cols conts : Int} (hz : (cs.map Dv.card)[(0 : Int).toNat]? = some (.card c0)) (h0 : 0 < (cs.map Dv.card).length) (hn : (cs.map Dv.card).length < 1000000) (hk : ((cs.map Dv.card).length : Int) ≤ conts) (hlab : c.label.filter (· != 32) = []) (hll : c.label.length ≤ 10000) (hbl : c0.body.length ≤ 10000) (hE : c0.body.filter (· != 32) ≠ [69, 78, 68]) :
    Spec 137 10 100 [.card c, .ref a, .lim cols conts] [(a, cs.map .card)] fun d n => n = [(a, cs.map .card)] ∧ d = .none := by
  revert hz h0 hn hk
  generalize cs.map Dv.card = ds
  intro hz h0 hn hk
  intro w mean mg mb dp un gd cn cs' a' ccd outer base h₀ L A₀ s m l M R vs B X T hks hdp hun hs hv
  obtain ⟨v1, v2, v3, rfl, i1, i2, i3⟩ := args3 hv
  have N := hs.news
  have F := hs.fr
  w_top off
  have fill9 : Mine.Fills PySem.Challenge.rw_sa0210_01 Mine.hK.heap_1 := by (k_fill; exact True.intro)
  refine wpAny_call ?_
  k_dflt (refine' code_def ?k1 ?k2 ?k3 ?k4 ?k5 ?kA ?kF ?kK ?k6 ?k7 ?k8 ?k9 ?kB ?_ ?c2 ?c3 ?c4 ?c5; (case kA => exact rfl); (case kF => exact rfl); (case kK => assumption); (case k1 => k_asm); (case k2 => k_asm); (case k3 => k_asm); (case k4 => k_asm); (case k5 => k_asm); (case k6 => k_is); (case k7 => k_is); (case k8 => ktr_room); (case k9 => first | exact BindsTo.of_eq rfl | exact binds_K (by k_in) rfl (by k_is) rfl rfl rfl); (case c5 => decide); (case kB => exact locs rfl); (case c2 => exact rfl); (case c3 => exact rfl); (case c4 => exact rfl); k_whole)
  intro g' L' h' FG' F' N' B' X' T'
  refine leave_spec (Mb := [(Str.ofString "card", .card c), (Str.ofString "rows", .ref a), (Str.ofString "limits", .lim cols conts)]) (f := ⟨Str.ofString "check_continuation", _⟩) hs F' N' (mem1 ⟨v1, rfl, i1⟩ (mem3 ⟨v2, rfl, i2⟩ ⟨v3, rfl, i3⟩ mem0)) X' T' B' hdp hun (fun c KK ok hn0 hKK => vRun ok hn0 rfl rfl ?_) (fun _ _ h => h)
  clear B X T hks hdp hun hs hv N F FG' F' N' B' X' T' fill9 i1 i2 i3
  refine IfP.plain (ListAt.mk _ (.head _) ⟨hn, and_dec (fun h => ?_) fun _ => ?_⟩)
  · omega
  refine IfP.plain (Calls.eq (wb_Q hll) (by decide) (by decide) (.refl _) (and_dec (fun h => ?_) fun _ => ?_))
  · exact absurd (hlab.trans lit_nil.symm) h
  refine IfP.plain (ListAt.mk _ (.head _) ⟨hn, and_dec (fun h => ?_) fun _ => ?_⟩)
  · exact absurd h (Int.not_lt.mpr hk)
  refine IfP.plain (ListAt.mk _ (.head _) ⟨by decide, by decide, _, hz, Calls.eq (wb_Q hbl) (by decide) (by decide) (.refl _) (and_dec (fun h => ?_) fun _ => ?_)⟩)
  · exact absurd (h.trans lit_END) hE
  exact hKK _ _ _ _ rfl ⟨rfl, rfl⟩
end Mine

namespace Mine
theorem jt_acc {width : Int} {cs : List CardD} {i : Nat} {ci : CardD} (h : cs[i]? = some ci) : ((pieces width cs).take (i + 1)).flatten = ((pieces width cs).take i).flatten ++ (if i + 1 < cs.length then padL ci.body width else ci.body) := by
  rw [take_snoc (pieces_get h), List.flatten_append]; simp
theorem jt_len {width : Int} {cs : List CardD} (hb : ∀ c ∈ cs, c.body.length ≤ 200) (hw : width ≤ 200) (hn : cs.length ≤ 20) (i : Nat) : (((pieces width cs).take i).flatten).length ≤ 4000 := by
  have h1 := flatten_len (ps := (pieces width cs).take i) (k := 200) fun p hp => pieces_len hb hw p (List.mem_of_mem_take hp)
  have h2 : ((pieces width cs).take i).length ≤ 20 := by
    refine Nat.le_trans (List.length_take_le' _ _) ?_
    unfold pieces
    rw [List.length_mapIdx]
    exact hn
  exact Nat.le_trans h1 (Nat.mul_le_mul_right 200 h2)
theorem jt_all {width : Int} {cs : List CardD} : ((pieces width cs).take cs.length).flatten = jtext width cs := by
  unfold jtext
  rw [List.take_of_length_le]
  unfold pieces
  rw [List.length_mapIdx]
  exact Nat.le_refl _
theorem jn_Q {a : Addr} {c0 : CardD} {r cs : List CardD} {width : Int} (e : cs = c0 :: r) (hj : JoinOk width c0 r) (hw : 0 ≤ width) (hw2 : width ≤ 100) (hn : cs.length ≤ 20) (hb : ∀ c ∈ cs, c.body.length ≤ 200) :
    Spec 130 30 300 [.ref a, .int width] [(a, cs.map .card)] fun d n => n = [(a, cs.map .card)] ∧ d = .t3 (joinT width c0 r) := by
  have hw5 : width ≤ 500 := Int.le_trans hw2 (by decide)
  have hw3 : width ≤ 200 := Int.le_trans hw2 (by decide)
  have hacc := jt_len hb hw3 hn
  have hlen : (cs.map Dv.card).length < 100000 := by rw [List.length_map]; exact Nat.lt_of_le_of_lt hn (by decide)
  have hlen' := Nat.lt_trans hlen (by decide : 100000 < 1000000)
  have hne : ((pieces width cs).take cs.length).flatten.filter (· != 32) ≠ [] := by rw [jt_all, e]; exact hj.ne
  have hfin : cs.length ≤ 1 ∨ ((pieces width cs).take cs.length).flatten.filter (· != 32) ≠ [69, 78, 68] := by rw [jt_all, e]; exact hj.fin
  have hjt : joinT width c0 r = (c0.line, labOf c0, ((pieces width cs).take cs.length).flatten) := by rw [jt_all, e]; rfl
  have hz : (cs.map Dv.card)[(0 : Int).toNat]? = some (.card c0) := by rw [e]; rfl
  clear e
  intro w mean mg mb dp un gd cn cs' a' ccd outer base h₀ L A₀ s m l M R vs B X T hks hdp hun hs hv
  obtain ⟨v1, v2, rfl, i1, i2⟩ := args2 hv
  have N := hs.news
  have F := hs.fr
  w_top off
  have fill9 : Mine.Fills PySem.Challenge.rw_sa0210_01 Mine.hK.heap_1 := by (k_fill; exact True.intro)
  refine wpAny_call ?_
  k_dflt (refine' code_def ?k1 ?k2 ?k3 ?k4 ?k5 ?kA ?kF ?kK ?k6 ?k7 ?k8 ?k9 ?kB ?_ ?c2 ?c3 ?c4 ?c5; (case kA => exact rfl); (case kF => exact rfl); (case kK => assumption); (case k1 => k_asm); (case k2 => k_asm); (case k3 => k_asm); (case k4 => k_asm); (case k5 => k_asm); (case k6 => k_is); (case k7 => k_is); (case k8 => ktr_room); (case k9 => first | exact BindsTo.of_eq rfl | exact binds_K (by k_in) rfl (by k_is) rfl rfl rfl); (case c5 => decide); (case kB => exact locs rfl); (case c2 => exact rfl); (case c3 => exact rfl); (case c4 => exact rfl); k_whole)
  intro g' L' h' FG' F' N' B' X' T'
  refine leave_spec (Mb := [(Str.ofString "rows", .ref a), (Str.ofString "width", .int width)]) (f := ⟨Str.ofString "joined", _⟩) hs F' N' (mem3 ⟨v1, rfl, i1⟩ ⟨v2, rfl, i2⟩ mem0) X' T' B' hdp hun (fun c KK ok hn0 hKK => vRun ok hn0 rfl rfl ?_) (fun _ _ h => h)
  clear B X T hks hdp hun hs hv N F FG' F' N' B' X' T' fill9 i1 i2
  refine ListAt.mk _ (.head _) ⟨by decide, by decide, _, hz, ?_⟩
  refine ListAt.mk _ (.head _) ⟨hlen', NatIs.mk _ rfl hlen (LoopP.mk (σ := List Nat) (fun x => [(Str.ofString "text", .str x), (Str.ofString "first", .card c0), (Str.ofString "rows", .ref a), (Str.ofString "width", .int width)]) (fun _ => [(a, cs.map .card)]) (fun i x => x = ((pieces width cs).take i).flatten) [] ⟨rfl, rfl, rfl, rfl, trivial⟩ (Sub.refl _) rfl (fun _ => trivial) ?_ ?_)⟩
  · rintro i x KT hi rfl hKT -
    rw [List.length_map] at hi
    obtain ⟨ci, hci⟩ : ∃ ci, cs[i]? = some ci := ⟨_, List.getElem?_eq_getElem hi⟩
    have hcm : (cs.map Dv.card)[((i : Int)).toNat]? = some (.card ci) := by rw [List.getElem?_map, Int.toNat_natCast, hci]; rfl
    have hcb := hb _ (List.mem_of_getElem? hci)
    have hpb := padL_len (w := width) hcb hw3
    have hi6 : (i : Int) < 1000000 := by omega
    have hst := jt_acc (width := width) hci
    have hac := hacc i
    refine IfP.plain (ListAt.mk _ (.head _) ⟨hlen', and_dec (fun hq => ?_) (fun hq => ?_)⟩)
    · rw [List.length_map] at hq
      rw [if_pos (by omega)] at hst
      exact ListAt.mk _ (.head _) ⟨Int.natCast_nonneg _, hi6, _, hcm, Calls.eq (pad_Q (Nat.le_trans hcb (by decide)) hw hw5) (by decide) (by decide) (.refl _) ⟨by omega, hKT _ _ _ _ trivial ⟨rfl, rfl, rfl, rfl, trivial⟩ (Sub.refl _) hst.symm⟩⟩
    · rw [List.length_map] at hq
      rw [if_neg (by omega)] at hst
      exact ListAt.mk _ (.head _) ⟨Int.natCast_nonneg _, hi6, _, hcm, by omega, hKT _ _ _ _ trivial ⟨rfl, rfl, rfl, rfl, trivial⟩ (Sub.refl _) hst.symm⟩
  · rintro x rfl
    rw [List.length_map]
    have hwl := Nat.le_trans (hacc cs.length) (by decide : 4000 ≤ 10000)
    revert hne hfin hjt hwl
    generalize ((pieces width cs).take cs.length).flatten = jt
    intro hne hfin hjt hwl
    refine IfP.plain (Calls.eq (wb_Q hwl) (by decide) (by decide) (.refl _) (and_dec (fun hq => absurd (hq.trans lit_nil) hne) fun _ => ?_))
    refine IfP.join (σ := Unit) (fun _ => [(Str.ofString "text", .str jt), (Str.ofString "first", .card c0)]) (fun _ => [(a, cs.map .card)]) (fun _ => True) (fun KA hKA _ => ListAt.mk _ (.head _) ⟨hlen', and_dec (fun hq => ?_) (fun _ => ⟨nofun, fun _ => hKA () _ _ ⟨rfl, rfl, trivial⟩ (Sub.refl _) trivial⟩)⟩) fun _ _ => ?_
    · refine Calls.eq (wb_Q hwl) (by decide) (by decide) (.refl _) (and_dec (fun hq' => ?_) (fun _ => ⟨nofun, fun _ => hKA () _ _ ⟨rfl, rfl, trivial⟩ (Sub.refl _) trivial⟩))
      rw [List.length_map] at hq
      exact absurd (hq'.trans lit_END) (hfin.resolve_left (by omega))
    · exact Calls.eq (rl_Q hj.lab) (by decide) (by decide) (.refl _) (hKK _ _ _ _ rfl ⟨rfl, by rw [hjt]⟩)
end Mine

namespace Mine
theorem drop_get {α : Type} {xs : List α} {i : Nat} {x : α} (h : xs[i]? = some x) : xs.drop i = x :: xs.drop (i + 1) := by
  obtain ⟨hlt, he⟩ := List.getElem?_eq_some_iff.mp h
  rw [List.drop_eq_getElem_cons hlt, he]
theorem map_snoc {α β : Type} {f : α → β} {xs : List α} {x : α} : xs.map f ++ [f x] = (xs ++ [x]).map f := by rw [List.map_append]; rfl
theorem len_lt {α β : Type} {f : α → β} {xs : List α} (h : xs.length ≤ 12) : (xs.map f).length < 1000000 := by rw [List.length_map]; exact Nat.lt_of_le_of_lt h (by decide)
theorem snoc_le {α : Type} {xs : List α} {x : α} {i : Nat} (h : xs.length ≤ i) : (xs ++ [x]).length ≤ i + 1 := by rw [List.length_append]; exact Nat.succ_le_succ h
theorem st_len {c0 c₁ : CardD} {r : List CardD} {k : Int} (h : (r.length : Int) + 1 ≤ k) (hk : k ≤ 10) : (c0 :: r ++ [c₁]).length ≤ 12 := by
  rw [List.length_append, List.length_cons, List.length_singleton]; omega
theorem st_mem {α : Type} {rows cs : List α} {c : α} (h : ∀ x ∈ rows, x ∈ cs) (hc : c ∈ cs) : ∀ x ∈ rows ++ [c], x ∈ cs := List.forall_mem_append.mpr ⟨h, List.forall_mem_singleton.mpr hc⟩
theorem Runs.contI {w k : Int} {out : List T3} {rows : List CardD} {c : CardD} {cs : List CardD} {res : List T3} (hq : isCont c = true) (h : Runs w k out rows (c :: cs) res) :
    ∃ c0 r, rows = c0 :: r ∧ c.label.filter (· != 32) = [] ∧ (r.length : Int) + 1 ≤ k ∧ c0.body.filter (· != 32) ≠ [69, 78, 68] ∧ Runs w k out (c0 :: r ++ [c]) cs res := by
  cases h with
  | cont _ a b e g => exact ⟨_, _, rfl, a, b, e, g⟩
  | start a => rw [hq] at a; cases a
  | next a => rw [hq] at a; cases a
inductive NewI (w k : Int) (out : List T3) (c : CardD) (cs : List CardD) (res : List T3) : List CardD → Prop
  | start : LabelOk c → Runs w k out [c] cs res → NewI w k out c cs res []
  | next {c0 r} : JoinOk w c0 r → LabelOk c → Runs w k (out ++ [joinT w c0 r]) [c] cs res → NewI w k out c cs res (c0 :: r)
theorem Runs.newI {w k : Int} {out : List T3} {rows : List CardD} {c : CardD} {cs : List CardD} {res : List T3} (hq : isCont c = false) (h : Runs w k out rows (c :: cs) res) : NewI w k out c cs res rows := by
  cases h with
  | cont a => rw [hq] at a; cases a
  | start _ a b => exact .start a b
  | next _ a b e => exact .next a b e
theorem st_Q {a : Addr} {cs : List CardD} {cols conts : Int} {res : List T3} (hcol : 6 ≤ cols) (hcol2 : cols ≤ 100) (hk : conts ≤ 10) (hn : cs.length ≤ 1000) (hb : ∀ c ∈ cs, c.body.length ≤ 200) (hll : ∀ c ∈ cs, c.label.length ≤ 5) (hrun : Runs (cols - 6) conts [] [] cs res) :
    Spec 144 40 400 [.ref a, .lim cols conts] [(a, cs.map .card)] fun d n => ∃ D, d = .ref D ∧ n = [(D, res.map .t3), (a, cs.map .card)] := by
  have hw : cols - 6 ≤ 100 := by omega
  intro w mean mg mb dp un gd cn cs' a' ccd outer base h₀ L A₀ s m l M R vs B X T hks hdp hun hs hv
  obtain ⟨v1, v2, rfl, i1, i2⟩ := args2 hv
  have N := hs.news
  have F := hs.fr
  w_top off
  have fill9 : Mine.Fills PySem.Challenge.rw_sa0210_01 Mine.hK.heap_1 := by (k_fill; exact True.intro)
  refine wpAny_call ?_
  k_dflt (refine' code_def ?k1 ?k2 ?k3 ?k4 ?k5 ?kA ?kF ?kK ?k6 ?k7 ?k8 ?k9 ?kB ?_ ?c2 ?c3 ?c4 ?c5; (case kA => exact rfl); (case kF => exact rfl); (case kK => assumption); (case k1 => k_asm); (case k2 => k_asm); (case k3 => k_asm); (case k4 => k_asm); (case k5 => k_asm); (case k6 => k_is); (case k7 => k_is); (case k8 => ktr_room); (case k9 => first | exact BindsTo.of_eq rfl | exact binds_K (by k_in) rfl (by k_is) rfl rfl rfl); (case c5 => decide); (case kB => exact locs rfl); (case c2 => exact rfl); (case c3 => exact rfl); (case c4 => exact rfl); k_whole)
  intro g' L' h' FG' F' N' B' X' T'
  refine leave_spec (Mb := [(Str.ofString "cards", .ref a), (Str.ofString "limits", .lim cols conts)]) (f := ⟨Str.ofString "statements_of", _⟩) hs F' N' (mem3 ⟨v1, rfl, i1⟩ ⟨v2, rfl, i2⟩ mem0) X' T' B' hdp hun (fun c KK ok hn0 hKK => vRun ok hn0 rfl rfl ?_) (fun _ _ h => h)
  clear B X T hks hdp hun hs hv N F FG' F' N' B' X' T' fill9 i1 i2
  refine And.intro (by decide) fun D => And.intro (by decide) fun R0 => ListAt.mk _ (.tail _ (.tail _ (.head _))) ⟨?_, trivial, LoopP.mk (σ := Addr × List CardD × List T3) (fun x => [(Str.ofString "rows", .ref x.1), (Str.ofString "out", .ref D), (Str.ofString "width", .int (cols - 6)), (Str.ofString "cards", .ref a), (Str.ofString "limits", .lim cols conts)]) (fun x => [(x.1, x.2.1.map .card), (D, x.2.2.map .t3), (a, cs.map .card)])
    (fun i x => Runs (cols - 6) conts x.2.2 x.2.1 (cs.drop i) res ∧ x.2.1.length ≤ 12 ∧ (∀ c ∈ x.2.1, c ∈ cs) ∧ x.2.2.length ≤ i) (R0, [], []) ⟨rfl, rfl, rfl, rfl, rfl, trivial⟩ (Sub.refl _) ⟨hrun, Nat.zero_le _, nofun, Nat.le_refl _⟩ (fun x => .tail _ (.tail _ (.head _))) ?_ ?_⟩
  · rw [List.length_map]
    exact Nat.lt_of_le_of_lt hn (by decide)
  · rintro i ⟨R, rows, outs⟩ KT - ⟨hrs, hrl, hsub, hol⟩ hKT - d hd'
    rw [List.getElem?_map] at hd'
    obtain ⟨c₁, hci, rfl⟩ := Option.map_eq_some_iff.mp hd'
    have hlt := (List.getElem?_eq_some_iff.mp hci).1
    rw [drop_get hci] at hrs
    have hmem := List.mem_of_getElem? hci
    replace hrs : Runs (cols - 6) conts outs rows (c₁ :: cs.drop (i + 1)) res := hrs
    replace hrl : rows.length ≤ 12 := hrl
    replace hsub : ∀ c ∈ rows, c ∈ cs := hsub
    refine IfP.plain (Calls.eq (icont_Q c₁) (by decide) (by decide) (.refl _) (and_bool (fun hq => ?_) (fun hq => ?_)))
    · obtain ⟨c0, r, rfl, hlb, hkk, hE, hrest⟩ := Runs.contI hq hrs
      refine Calls.eq (cc_Q (cs := c0 :: r) (c0 := c0) rfl (Nat.succ_pos _) (len_lt hrl) (by rw [List.length_map]; exact hkk) hlb (Nat.le_trans (hll _ hmem) (by decide)) (Nat.le_trans (hb _ (hsub _ (.head _))) (by decide)) hE) (by decide) (by decide) (.refl _) ?_
      refine ListAt.mk _ (.head _) ⟨_, _, .refl _, ?_, hKT _ (R, c0 :: r ++ [c₁], outs) _ _ trivial ⟨rfl, rfl, rfl, rfl, rfl, trivial⟩ (map_snoc ▸ Sub.refl _) ⟨hrest, st_len hkk hk, st_mem hsub hmem, Nat.le_succ_of_le hol⟩⟩
      rw [List.length_map]
      exact Nat.le_trans hrl (by decide)
    · refine IfP.join (σ := List T3) (fun _ => [(Str.ofString "card", .card c₁), (Str.ofString "out", .ref D), (Str.ofString "width", .int (cols - 6)), (Str.ofString "cards", .ref a), (Str.ofString "limits", .lim cols conts)]) (fun x => [(D, x.map .t3), (a, cs.map .card)]) (fun x => LabelOk c₁ ∧ Runs (cols - 6) conts x [c₁] (cs.drop (i + 1)) res ∧ x.length ≤ i + 1) (fun KA hKA _ => ListAt.mk _ (.head _) ⟨len_lt hrl, and_dec (fun hz => ?_) (fun hz => ?_)⟩) ?_
      · cases Runs.newI hq hrs with
        | start => exact nomatch hz
        | next hj hlab hrest =>
          rename_i c0 r
          refine ListAt.mk _ (.tail _ (.head _)) (Calls.eq (jn_Q rfl hj (Int.sub_nonneg_of_le hcol) hw (Nat.le_trans hrl (by decide)) fun c h => hb c (hsub c h)) (by decide) (by decide) (.refl _) ⟨_, _, .swap _ _ _, ?_, hKA (outs ++ [joinT (cols - 6) c0 r]) _ _ ⟨rfl, rfl, rfl, rfl, rfl, trivial⟩ (map_snoc ▸ .keep (.skip (.keep .nil))) ⟨hlab, hrest, snoc_le hol⟩⟩)
          rw [List.length_map]
          exact Nat.le_trans hol (Nat.le_trans (Nat.le_of_lt hlt) (Nat.le_trans hn (by decide)))
      · cases Runs.newI hq hrs with
        | start hlab hrest => exact hKA outs _ _ ⟨rfl, rfl, rfl, rfl, rfl, trivial⟩ (.skip (Sub.refl _)) ⟨hlab, hrest, Nat.le_succ_of_le hol⟩
        | next => exact absurd (Int.natCast_pos.mpr (Nat.succ_pos _)) hz
      · rintro outs' ⟨hlab, hrest, hol'⟩
        exact Calls.eq (rl_Q hlab) (by decide) (by decide) (.refl _) (And.intro (by decide) fun R1 => ListAt.mk _ (.head _) ⟨_, _, .refl _, by decide, hKT _ (R1, [c₁], outs') _ _ trivial ⟨rfl, rfl, rfl, rfl, rfl, trivial⟩ (Sub.refl _) ⟨hrest, (by decide : 1 ≤ 12), List.forall_mem_singleton.mpr hmem, hol'⟩⟩)
  · rintro ⟨R, rows, outs⟩ ⟨hrs, hrl, hsub, hol⟩
    rw [List.length_map, List.drop_length] at hrs
    rw [List.length_map] at hol
    replace hrs : Runs (cols - 6) conts outs rows [] res := hrs
    replace hrl : rows.length ≤ 12 := hrl
    replace hsub : ∀ c ∈ rows, c ∈ cs := hsub
    refine IfP.join (σ := Unit) (fun _ => [(Str.ofString "out", .ref D)]) (fun _ => [(D, res.map .t3), (a, cs.map .card)]) (fun _ => True) (fun KA hKA _ => ListAt.mk _ (.head _) ⟨len_lt hrl, ?_⟩) fun _ _ => hKK _ _ _ _ rfl ⟨D, rfl, rfl⟩
    cases hrs with
    | nil => exact and_dec (fun h => nomatch h) fun _ => hKA () _ _ ⟨rfl, trivial⟩ (.skip (Sub.refl _)) trivial
    | last hj =>
      rename_i c0 r
      refine and_dec (fun _ => ?_) fun hz => absurd (Int.natCast_pos.mpr (Nat.succ_pos _)) hz
      refine ListAt.mk _ (.tail _ (.head _)) (Calls.eq (jn_Q rfl hj (Int.sub_nonneg_of_le hcol) hw (Nat.le_trans hrl (by decide)) fun c h => hb c (hsub c h)) (by decide) (by decide) (.refl _) ⟨_, _, .swap _ _ _, ?_, hKA () _ _ ⟨rfl, trivial⟩ (map_snoc ▸ .keep (.skip (.keep .nil))) trivial⟩)
      rw [List.length_map]
      exact Nat.le_trans hol (Nat.le_trans hn (by decide))
end Mine

namespace Mine
/-- the rows of a text, as `cards_of` takes them -/
noncomputable def rowsOf (x : List Nat) : List (List Nat) := if (splitL x).getLast? = some [] then (splitL x).dropLast else splitL x
theorem rowsOf_len (x : List Nat) : (rowsOf x).length ≤ x.length + 1 := by
  have := splitL_len x
  unfold rowsOf
  split
  · rw [List.length_dropLast]; omega
  · exact this
theorem co_Q {x : List Nat} (hx : x.length ≤ 10000) : Spec 81 5 50 [.str x] [] fun d n => ∃ D, d = .ref D ∧ n = [(D, (numbered 0 (rowsOf x)).map .pair)] := by
  have hl1 := Nat.le_trans (splitL_len x) (Nat.succ_le_succ hx)
  have hr1 := Nat.le_trans (rowsOf_len x) (Nat.succ_le_succ hx)
  have h0 : 1 ≤ (splitL x).length := List.length_pos_iff.mpr (splitL_ne x)
  obtain ⟨z, hz⟩ : ∃ z, (splitL x).getLast? = some z := ⟨_, List.getLast?_eq_some_getLast (splitL_ne x)⟩
  have hzi : ((splitL x).map Dv.str)[((((splitL x).map Dv.str).length : Int) - 1).toNat]? = some (.str z) := by
    rw [List.getElem?_map, List.length_map, show (((splitL x).length : Int) - 1).toNat = (splitL x).length - 1 from by omega, ← List.getLast?_eq_getElem?, hz]; rfl
  have hk0 : (0 : Int) ≤ (((splitL x).map Dv.str).length : Int) - 1 := by rw [List.length_map]; omega
  have hk1 : (((splitL x).map Dv.str).length : Int) - 1 < 1000000 := by rw [List.length_map]; omega
  have h2 : ((splitL x).map Dv.str).length < 1000000 := by rw [List.length_map]; omega
  have h3 : 1 ≤ ((splitL x).map Dv.str).length := by rw [List.length_map]; omega
  have h4 : ((splitL x).map Dv.str).length ≤ 100000 := by rw [List.length_map]; omega
  have hy : z = [] → rowsOf x = (splitL x).dropLast := fun e => by unfold rowsOf; rw [hz, e, if_pos rfl]
  have hn : ¬ z = [] → rowsOf x = splitL x := fun e => by unfold rowsOf; rw [hz, if_neg (fun q => e (Option.some.inj q))]
  have hx5 : x.length ≤ 100000 := Nat.le_trans hx (by decide)
  revert hr1 hy hn
  clear hl1 hz hx h0
  generalize rowsOf x = rs
  intro hr1 hy hn
  have hnl : (numbered 0 rs).length ≤ 10001 := by rw [numbered_len]; exact hr1
  refine SpecH.weak (K := fun d n => ∃ D l, d = .ref D ∧ n = [(D, (numbered 0 rs).map .pair), (l, rs.map .str)]) ?_ fun d n ⟨D, l, e, q⟩ => ⟨_, q ▸ .keep .nil, D, e, rfl⟩
  intro w mean mg mb dp un gd cn cs' a' ccd outer base h₀ L A₀ s m l M R vs B X T hks hdp hun hs hv
  obtain ⟨v1, rfl, i1⟩ := args1 hv
  have N := hs.news
  have F := hs.fr
  w_top off
  have fill9 : Mine.Fills PySem.Challenge.rw_sa0210_01 Mine.hK.heap_1 := by (k_fill; exact True.intro)
  refine wpAny_call ?_
  k_dflt (refine' code_def ?k1 ?k2 ?k3 ?k4 ?k5 ?kA ?kF ?kK ?k6 ?k7 ?k8 ?k9 ?kB ?_ ?c2 ?c3 ?c4 ?c5; (case kA => exact rfl); (case kF => exact rfl); (case kK => assumption); (case k1 => k_asm); (case k2 => k_asm); (case k3 => k_asm); (case k4 => k_asm); (case k5 => k_asm); (case k6 => k_is); (case k7 => k_is); (case k8 => ktr_room); (case k9 => first | exact BindsTo.of_eq rfl | exact binds_K (by k_in) rfl (by k_is) rfl rfl rfl); (case c5 => decide); (case kB => exact locs rfl); (case c2 => exact rfl); (case c3 => exact rfl); (case c4 => exact rfl); k_whole)
  intro g' L' h' FG' F' N' B' X' T'
  refine leave_spec (Mb := [(Str.ofString "text", .str x)]) (f := ⟨Str.ofString "cards_of", _⟩) hs F' N' (mem1 ⟨v1, rfl, i1⟩ mem0) X' T' B' hdp hun (fun c KK ok hn0 hKK => vRun ok hn0 rfl rfl ?_) (fun _ _ h => h)
  clear B X T hks hdp hun hs hv N F FG' F' N' B' X' T' fill9 i1
  refine And.intro lit_nl (And.intro hx5 fun l => ?_)
  refine IfP.join (σ := Unit) (fun _ => [(Str.ofString "rows", .ref l)]) (fun _ => [(l, rs.map .str)]) (fun _ => True) (fun KA hKA _ => ListAt.mk _ (.head _) ⟨h2, ListAt.mk _ (.head _) ⟨hk0, hk1, _, hzi, and_dec (fun hq => ?_) fun hq => ?_⟩⟩) fun _ _ => ?_
  · refine ListAt.mk _ (.head _) ⟨_, _, .refl _, h3, h4, fun y => hKA () _ _ ⟨rfl, trivial⟩ ?_ trivial⟩
    rw [hy (hq.trans lit_nil), List.map_dropLast]
    exact Sub.refl _
  · refine hKA () _ _ ⟨rfl, trivial⟩ ?_ trivial
    rw [hn fun e => hq (e.trans lit_nil.symm)]
    exact Sub.refl _
  refine And.intro (by decide) fun D => ListAt.mk _ (.tail _ (.head _)) ⟨?_, trivial, LoopP.mk (σ := List (Int × List Nat)) (fun x => [(Str.ofString "out", .ref D), (Str.ofString "rows", .ref l)]) (fun x => [(D, x.map .pair), (l, rs.map .str)]) (fun i x => x = (numbered 0 rs).take i) [] ⟨rfl, rfl, trivial⟩ (Sub.refl _) rfl (fun x => .tail _ (.head _)) ?_ ?_⟩
  · rw [List.length_map]; omega
  · rintro i x KT - rfl hKT - d hd
    rw [List.getElem?_map] at hd
    obtain ⟨r, hr, rfl⟩ := Option.map_eq_some_iff.mp hd
    have hi := (List.getElem?_eq_some_iff.mp hr).1
    have hnum := numbered_get 0 rs i r hr
    have hlen : ((numbered 0 rs).take i).length = i := by rw [List.length_take, numbered_len]; omega
    have hm : (((numbered 0 rs).take i).map Dv.pair).length = i := by rw [List.length_map]; exact hlen
    refine ListAt.mk _ (.head _) (ListAt.mk _ (.head _) ⟨?_, _, _, .refl _, ?_, hKT _ ((numbered 0 rs).take (i + 1)) _ _ trivial ⟨rfl, rfl, trivial⟩ ?_ rfl⟩)
    · rw [hm]; omega
    · rw [hm]; omega
    · rw [take_snoc hnum, List.map_append, hm, Nat.zero_add]
      exact Sub.refl _
  · rintro x rfl
    rw [List.length_map, List.take_of_length_le (by rw [numbered_len]; exact Nat.le_refl _)]
    exact hKK _ _ _ _ rfl ⟨D, l, rfl, rfl⟩
end Mine

namespace Mine
noncomputable def cardsP (cols : Nat) (ps : List (Int × List Nat)) : List CardD := (ps.filter fun p => !isCom p.2 cols).map (cardOf cols)
theorem cardsP_snoc (cols : Nat) (ps : List (Int × List Nat)) (p : Int × List Nat) : cardsP cols (ps ++ [p]) = cardsP cols ps ++ if isCom p.2 cols then [] else [cardOf cols p] := by
  unfold cardsP
  rw [List.filter_append, List.map_append]
  congr 1
  cases h : isCom p.2 cols <;> simp [h]
theorem cardsP_len (cols : Nat) (ps : List (Int × List Nat)) : (cardsP cols ps).length ≤ ps.length := by
  unfold cardsP
  rw [List.length_map]
  exact List.length_filter_le _ _
theorem rowsOf_part {x p : List Nat} (hp : p ∈ rowsOf x) : p.length ≤ x.length := by
  unfold rowsOf at hp
  split at hp
  · exact splitL_part x p (List.dropLast_subset _ hp)
  · exact splitL_part x p hp
theorem seen_len (cols : Nat) (x : List Nat) : 6 ≤ (seenOf cols x).length := by
  unfold seenOf
  split
  · rw [List.length_append, List.length_replicate]; omega
  · omega
theorem seen_le {cols : Nat} {x : List Nat} (hc : cols ≤ 100) : (seenOf cols x).length ≤ 106 := by
  unfold seenOf
  split <;> simp only [List.length_append, List.length_take, List.length_replicate] <;> omega
theorem rc_Q {x : List Nat} {cols : Nat} {conts : Int} (hx : x.length ≤ 10000) (hc : cols ≤ 100) : Spec 102 20 200 [.str x, .lim cols conts] [] fun d n => ∃ D, d = .ref D ∧ n = [(D, (cardsP cols (numbered 0 (rowsOf x))).map .card)] := by
  have hr1 := Nat.le_trans (rowsOf_len x) (Nat.succ_le_succ hx)
  have hpart : ∀ p ∈ numbered 0 (rowsOf x), p.2.length ≤ 10000 := fun p hp => Nat.le_trans (rowsOf_part (numbered_mem 0 _ _ hp)) hx
  have hnl : (numbered 0 (rowsOf x)).length ≤ 10001 := by rw [numbered_len]; exact hr1
  have hco := co_Q hx
  revert hpart hnl hco
  clear hr1
  generalize numbered 0 (rowsOf x) = ps
  intro hpart hnl hco
  refine SpecH.weak (K := fun d n => ∃ D l, d = .ref D ∧ n = [(D, (cardsP cols ps).map .card), (l, ps.map .pair)]) ?_ fun d n ⟨D, l, e, q⟩ => ⟨_, q ▸ .keep .nil, D, e, rfl⟩
  intro w mean mg mb dp un gd cn cs' a' ccd outer base h₀ L A₀ s m l M R vs B X T hks hdp hun hs hv
  obtain ⟨v1, v2, rfl, i1, i2⟩ := args2 hv
  have N := hs.news
  have F := hs.fr
  w_top off
  have fill9 : Mine.Fills PySem.Challenge.rw_sa0210_01 Mine.hK.heap_1 := by (k_fill; exact True.intro)
  refine wpAny_call ?_
  k_dflt (refine' code_def ?k1 ?k2 ?k3 ?k4 ?k5 ?kA ?kF ?kK ?k6 ?k7 ?k8 ?k9 ?kB ?_ ?c2 ?c3 ?c4 ?c5; (case kA => exact rfl); (case kF => exact rfl); (case kK => assumption); (case k1 => k_asm); (case k2 => k_asm); (case k3 => k_asm); (case k4 => k_asm); (case k5 => k_asm); (case k6 => k_is); (case k7 => k_is); (case k8 => ktr_room); (case k9 => first | exact BindsTo.of_eq rfl | exact binds_K (by k_in) rfl (by k_is) rfl rfl rfl); (case c5 => decide); (case kB => exact locs rfl); (case c2 => exact rfl); (case c3 => exact rfl); (case c4 => exact rfl); k_whole)
  intro g' L' h' FG' F' N' B' X' T'
  refine leave_spec (Mb := [(Str.ofString "text", .str x), (Str.ofString "limits", .lim cols conts)]) (f := ⟨Str.ofString "read_cards", _⟩) hs F' N' (mem3 ⟨v1, rfl, i1⟩ ⟨v2, rfl, i2⟩ mem0) X' T' B' hdp hun (fun c KK ok hn0 hKK => vRun ok hn0 rfl rfl ?_) (fun _ _ h => h)
  clear B X T hks hdp hun hs hv N F FG' F' N' B' X' T' fill9 i1 i2
  refine And.intro (by decide) fun D => Calls.of hco (by decide) (by decide) (.refl _) ?_
  rintro d n ⟨l, rfl, rfl⟩
  refine ListAt.mk _ (.head _) ⟨?_, ?_, LoopP.mk (σ := List CardD) (fun x => [(Str.ofString "cards", .ref D), (Str.ofString "limits", .lim cols conts)]) (fun x => [(D, x.map .card), (l, ps.map .pair)]) (fun i x => x = cardsP cols (ps.take i)) [] ⟨rfl, rfl, trivial⟩ ⟨[], .swap _ _ _⟩ rfl (fun x => .tail _ (.head _)) ?_ ?_⟩
  · rw [List.length_map]; omega
  · intro d hd l v hv
    obtain ⟨p, _, rfl⟩ := List.mem_map.mp hd
    obtain ⟨a, _, _, e, _⟩ := hv
    exact ⟨a, e⟩
  · rintro i x KT - rfl hKT - d hd
    rw [List.getElem?_map] at hd
    obtain ⟨p, hp, rfl⟩ := Option.map_eq_some_iff.mp hd
    have hil := (List.getElem?_eq_some_iff.mp hp).1
    have hrow := hpart p (List.mem_of_getElem? hp)
    have hsn := cardsP_snoc cols (ps.take i) p
    rw [← take_snoc hp] at hsn
    have hcl : ((cardsP cols (ps.take i)).map Dv.card).length ≤ 100000 := by
      rw [List.length_map]
      have := cardsP_len cols (ps.take i)
      rw [List.length_take] at this
      omega
    have hcol : ((cols : Int)).toNat = cols := Int.toNat_natCast _
    refine IfP.plain (Calls.eq (ic_Q hrow (Int.natCast_nonneg _) (by omega)) (by decide) (by decide) (.refl _) (and_bool (fun hq => ?_) (fun hq => ?_)))
    · rw [hcol] at hq
      rw [if_pos hq, List.append_nil] at hsn
      exact hKT _ (cardsP cols (ps.take i)) _ _ trivial ⟨rfl, rfl, trivial⟩ (Sub.refl _) hsn.symm
    · rw [hcol] at hq
      rw [if_neg (by rw [hq]; exact Bool.false_ne_true)] at hsn
      have hs6 := seen_len cols p.2
      have hs7 := seen_le (x := p.2) hc
      have h5 : (seenOf cols p.2)[(5 : Int).toNat]? = some (((seenOf cols p.2)[5]?).getD 0) := by
        show (seenOf cols p.2)[5]? = _
        rw [List.getElem?_eq_getElem (by omega)]; rfl
      have hcd : cardOf cols p = ⟨p.1, (seenOf cols p.2).take (5 : Int).toNat, ((seenOf cols p.2)[5]?).getD 0, (seenOf cols p.2).drop (6 : Int).toNat⟩ := rfl
      refine And.intro (Nat.le_trans hrow (by decide)) (And.intro (Int.natCast_nonneg _) ?_)
      refine IfP.join (σ := Unit) (fun _ => [(Str.ofString "seen", .str (seenOf cols p.2)), (Str.ofString "row", .str p.2), (Str.ofString "line", .int p.1), (Str.ofString "cards", .ref D), (Str.ofString "limits", .lim cols conts)]) (fun _ => [(D, (cardsP cols (ps.take i)).map .card), (l, ps.map .pair)]) (fun _ => True) (fun KA hKA _ => ?_) fun _ _ => ?_
      · rw [hcol]
        have htk : (p.2.take cols).length ≤ 100 := Nat.le_trans (List.length_take_le _ _) hc
        refine And.intro (Nat.le_trans htk (by decide)) (and_dec (fun hz => ?_) (fun hz => ?_))
        · have e : seenOf cols p.2 = p.2.take cols ++ List.replicate (6 - ((p.2.take cols).length : Int)).toNat (32 : Nat) := by
            unfold seenOf
            rw [if_pos (by omega)]
            congr 2
            omega
          rw [e] at hKA
          refine And.intro (Nat.le_trans htk (by decide)) ⟨32, lit_sp, by omega, by omega, ?_, hKA () _ _ ⟨rfl, rfl, rfl, rfl, rfl, trivial⟩ (Sub.refl _) trivial⟩
          rw [List.length_replicate]; omega
        · have e : seenOf cols p.2 = p.2.take cols := by
            unfold seenOf
            rw [if_neg (by omega)]
          rw [e] at hKA
          exact hKA () _ _ ⟨rfl, rfl, rfl, rfl, rfl, trivial⟩ (Sub.refl _) trivial
      · refine ListAt.mk _ (.head _) (And.intro (Nat.le_trans hs7 (by decide)) (And.intro (by decide) (And.intro (by decide) (And.intro (Nat.le_trans hs7 (by decide)) ⟨_, h5, And.intro (Nat.le_trans hs7 (by decide)) (And.intro (by decide) (Calls.eq card_Q (by decide) (by decide) (.refl _) ⟨_, _, .refl _, hcl, hKT _ (cardsP cols (ps.take (i + 1))) _ _ trivial ⟨rfl, rfl, trivial⟩ ?_ rfl⟩))⟩))))
        rw [hsn, List.map_append, hcd]
        exact Sub.refl _
  · rintro x rfl
    rw [List.length_map, List.take_of_length_le (Nat.le_refl _)]
    exact hKK _ _ _ _ rfl ⟨D, l, rfl, rfl⟩
end Mine

namespace Mine
theorem cardOf_body (cols : Nat) (p : Int × List Nat) (hc : cols ≤ 100) : (cardOf cols p).body.length ≤ 200 := by
  unfold cardOf seenOf
  dsimp only
  split <;> simp only [List.length_drop, List.length_append, List.length_take, List.length_replicate] <;> omega
theorem cardOf_label (cols : Nat) (p : Int × List Nat) : (cardOf cols p).label.length ≤ 5 := by
  unfold cardOf
  exact List.length_take_le _ _
theorem cardsP_mem {cols : Nat} {ps : List (Int × List Nat)} {c : CardD} (h : c ∈ cardsP cols ps) : ∃ p, c = cardOf cols p := by
  unfold cardsP at h
  obtain ⟨p, _, rfl⟩ := List.mem_map.mp h
  exact ⟨p, rfl⟩
theorem rs_Q {x : List Nat} {cols : Nat} {conts : Int} {res : List T3} (hx : x.length ≤ 900) (hcol : 6 ≤ cols) (hcol2 : cols ≤ 100) (hk : conts ≤ 10)
    (hrun : Runs ((cols : Int) - 6) conts [] [] (cardsP cols (numbered 0 (rowsOf x))) res) :
    Spec 151 50 500 [.str x, .lim cols conts] [] fun d n => ∃ D, d = .ref D ∧ n = [(D, res.map .t3)] := by
  have hrc := rc_Q (conts := conts) (Nat.le_trans hx (by decide : 900 ≤ 10000)) hcol2
  have hst := fun a => st_Q (a := a) (by omega) (by omega) hk (by
    have h1 := cardsP_len cols (numbered 0 (rowsOf x))
    have h2 := numbered_len 0 (rowsOf x)
    have h3 := rowsOf_len x
    omega) (fun c h => by obtain ⟨p, rfl⟩ := cardsP_mem h; exact cardOf_body cols p hcol2) (fun c h => by obtain ⟨p, rfl⟩ := cardsP_mem h; exact cardOf_label cols p) hrun
  revert hrc hst
  clear hrun
  generalize cardsP cols (numbered 0 (rowsOf x)) = cs
  intro hrc hst
  refine SpecH.weak (K := fun d n => ∃ D a, d = .ref D ∧ n = [(D, res.map .t3), (a, cs.map .card)]) ?_ fun d n ⟨D, l, e, q⟩ => ⟨_, q ▸ .keep .nil, D, e, rfl⟩
  intro w mean mg mb dp un gd cn cs' a' ccd outer base h₀ L A₀ s m l M R vs B X T hks hdp hun hs hv
  obtain ⟨v1, v2, rfl, i1, i2⟩ := args2 hv
  have N := hs.news
  have F := hs.fr
  w_top off
  have fill9 : Mine.Fills PySem.Challenge.rw_sa0210_01 Mine.hK.heap_1 := by (k_fill; exact True.intro)
  refine wpAny_call ?_
  k_dflt (refine' code_def ?k1 ?k2 ?k3 ?k4 ?k5 ?kA ?kF ?kK ?k6 ?k7 ?k8 ?k9 ?kB ?_ ?c2 ?c3 ?c4 ?c5; (case kA => exact rfl); (case kF => exact rfl); (case kK => assumption); (case k1 => k_asm); (case k2 => k_asm); (case k3 => k_asm); (case k4 => k_asm); (case k5 => k_asm); (case k6 => k_is); (case k7 => k_is); (case k8 => ktr_room); (case k9 => first | exact BindsTo.of_eq rfl | exact binds_K (by k_in) rfl (by k_is) rfl rfl rfl); (case c5 => decide); (case kB => exact locs rfl); (case c2 => exact rfl); (case c3 => exact rfl); (case c4 => exact rfl); k_whole)
  intro g' L' h' FG' F' N' B' X' T'
  refine leave_spec (Mb := [(Str.ofString "text", .str x), (Str.ofString "limits", .lim cols conts)]) (f := ⟨Str.ofString "read_statements", _⟩) hs F' N' (mem3 ⟨v1, rfl, i1⟩ ⟨v2, rfl, i2⟩ mem0) X' T' B' hdp hun (fun c KK ok hn0 hKK => vRun ok hn0 rfl rfl ?_) (fun _ _ h => h)
  clear B X T hks hdp hun hs hv N F FG' F' N' B' X' T' fill9 i1 i2
  refine Calls.of hrc (by decide) (by decide) (.refl _) ?_
  rintro _ _ ⟨a, rfl, rfl⟩
  refine Calls.of (hst a) (by decide) (by decide) (.refl _) ?_
  rintro _ _ ⟨D, rfl, rfl⟩
  exact hKK _ _ _ _ rfl ⟨D, a, rfl, rfl⟩
end Mine

namespace Mine
noncomputable def XEnd (KR : Prop) (g : Heap) (L' : Addr) (s : Shared) : XE := fun l1 R v s' => KR ∧ ∃ e t D rest vs m h' tk, v = .ref e ∧ s' = { s with heap := h', toks := tk } ∧ Fr g L' h' m ∧ News g L' h' ((e, excO t (some D)) :: (t, tup vs) :: rest) ∧ News g L' h' l1 ∧ (∀ q ∈ l1, q.1 ≠ e ∧ q.1 ≠ t) ∧ ∀ p ∈ R, Lst l1 p.1 p.2
theorem raise_51 {f : Fn} {c : Cx} {rd ru : Nat} (ok : c.Ok rd ru) (hn0 : c.hnd = none) (hrd : 31 ≤ rd) (hru : 303 ≤ ru) (hk : f.scope.kind = .function) {KR : Prop} : RaiseOk f c (XEnd KR c.h₀ c.L c.s) KR := fun M n p p2 p3 e es K hx hp h l R h0 tk m hs => by
  refine Raise_x hn0 (exc_call (KR := KR) ok hk hx hp h hs fun k y t u h1 tk1 l1 n1 hKR k1 hs1 => ?_)
  have hrd' := ok.rd
  have hru' := ok.ru
  obtain ⟨w, mean, mg, mb, dp, un, gd, outer, base, g, L, a, cd, s, hnd⟩ := c
  dsimp only at hn0
  subst hn0
  have hc := CallIs.use (Q := RaisePt (EP (XEnd KR g L s) l R)) (E := EP (XEnd KR g L s) l R) (dp := dp + 1) (un := un + 3) (gd := gd) (cn := f.name) (cs := f.scope) (a := a) (ccd := cd) (cl := []) (outer := outer) (s := { s with heap := h1, toks := tk1 }) (mk51 (k := k) (tk := t) (x := y) (u := u) (news := l1)) ok.bel hs1.fr ok.kin hs1.news ok.top hk (by dsimp only at hrd'; omega) (by dsimp only at hru'; omega) (fun r n' h' tk' F' N' hp => ?_)
  · exact hc
  obtain ⟨e9, t9, t8, D9, es9, rfl, rfl, o1, o2, o3, o4, o5⟩ := hp
  obtain ⟨nm, q, N3, bs, hdct, sn, sub, ab, col, dd, k0, k1', k2, k3, k5, oI, mN, hC, _, _, _, _⟩ := facts51 (ok.kin.keeps F'.keep)
  have hN1 : News g L h' l1 := fun p hp => N' p (by simp [hp])
  refine ⟨e9, t8, _, dd, nm, q, N3, bs, hdct, sn, sub, ab, col, k0, k1', k2, k3, k5, rfl, hC, (N' (e9, excO t8 (some D9)) (by simp)).1, l1, R, k1, fun _ h => h, hKR, e9, t8, D9, _, _, m, h', tk', rfl, rfl, F', fun p hp => N' p (List.mem_cons_of_mem _ hp), hN1, fun p hp => ⟨(o1 p hp).2.1, Nat.ne_of_lt (o1 p hp).2.2⟩, fun p hp => hs1.led p (List.mem_append_right _ hp)⟩
/-- a call that ends in a SourceError, or in an answer -/
inductive RXP (KR : Prop) (base : Heap) (fs : List Env) (h₀ : Heap) (L : Addr) (m : Str → Option Value) (l : Lg) (R : Led) (s : Shared) (v : Value) (s' : Shared) : Prop
  | mk (kr : KR) (g : Heap) (e t : Addr) (vs : List Value) (h' : Heap) (tk' : Nat) (l1 : Lg) (hv : v = .ref e) (hs : s' = { s with heap := h', toks := tk' }) (F : Fr h₀ L g m) (X : RaisedK base fs e (.ref 51) t vs l1 h') (u : g.UpToSlots h') (k : Keep l l1) (r : ∀ p ∈ R, Lst l1 p.1 p.2)
noncomputable def SpecX (hnd : Option Value) (fa : Addr) (dd uu : Nat) (ds : List Dv) (n : Led) (K : Dv → Led → Prop) (KR : Prop) : Prop :=
  ∀ (w : World) (mean : ExcName → Option Value) (mg mb : Str → Option Value) (dp un : Nat) (gd : Option (List Code)) (cn : Str) (cs : Scope) (a : Addr) (ccd : Value) (outer : List Env) (base h₀ : Heap) (L : Addr) (A₀ : Around) (s : Shared) (m : Str → Option Value) (l : Lg) (M : Nam) (R : Led) (vs : List Value),
    Below A₀ base outer h₀ → (hK.heap_1 w.params).In h₀ → TOP mean mg mb h₀ → cs.kind = .function → dp + dd < recursionLimit → un + uu < cLine → St h₀ L s.heap m l M (n ++ R) → AreD l vs ds →
    wpAny (model PRG w) (topA hnd dp un gd cn cs L a ccd outer) (call (.ref fa) vs) (CP s h₀ L m l M R K) (RXP KR base (envX cn cs L a ccd [] :: outer) h₀ L m l R s) s
theorem x_leave {KR : Prop} {M : Model} {A : Around} {base g h₀ : Heap} {outer : List Env} {L L' a : Addr} {m : Str → Option Value} {name : Str} {scope : Scope} {cd : Value} {s : Shared} {l : Lg} {R : Led} {P E : Value → Shared → Prop} (B : Below A base outer g) (FG : Fr h₀ L g m)
    (hx : ∀ v s', RXP KR base outer h₀ L m l R s v s' → P v s') (hk : scope.kind = .function) (v : Value) (s' : Shared) (h : EP (XEnd KR g L' s) l R v s') :
    wpAny M (A.deeper (envOf name scope L' a cd)) (leaving (envOf name scope L' a cd) v) (fun _ s'' => P v s'') E s' := by
  obtain ⟨l1, R', k, r, hKR, e, t, D, rest, vs, m', h', tk, rfl, rfl, F, N, Nl, hap, hl⟩ := h
  exact leave_exc B F N Nl hap (fun h'' R9 U9 => hx _ _ ⟨hKR, g, e, t, vs, h'', tk, l1, rfl, rfl, FG, R9, U9, k, fun p hp => hl p (r p hp)⟩) hk
theorem vRunX {hnd : Option Value} {f : Fn} {c : Cx} {rd ru : Nat} (ok : c.Ok rd ru) (hh : c.hnd = hnd) (hk : f.scope.kind = .function) (hdb : f.kind ("__debug__" : Str) = none) (hrd : 31 ≤ rd) (hru : 303 ≤ ru) {KR : Prop} (hKR : KR → hnd = none) {E : XE} (hE : XEnd KR c.h₀ c.L c.s = E) {M : Nam} {n : Led} {ss : List Stmt} {K : Fw → Nam → Led → Prop} (h : vS hnd f rd ru KR M n ss K) : Ex f c E M n ss K := by
  subst hE
  by_cases q : KR
  · exact vS_ok ok hh hk hdb (raise_never ok hk _) KR _ (raise_51 ok (hh.trans (hKR q)) hrd hru hk) M n ss K h
  · rw [show KR = False from propext ⟨q, False.elim⟩] at h ⊢
    exact vS_ok ok hh hk hdb (raise_never ok hk _) False _ (raise_never ok hk _) M n ss K h
theorem SpecX.fit {hnd : Option Value} {fa : Addr} {dd uu : Nat} {ds : List Dv} {n : Led} {K : Dv → Led → Prop} {KR : Prop} (h : SpecX hnd fa dd uu ds n K KR) (hn : ¬ KR) : SpecH hnd fa dd uu ds n K := by
  intro w mean mg mb dp un gd cn cs a ccd outer base h₀ L A₀ s m l M R vs B X T hks hdp hun hs hv
  exact wpAny_mono (h w mean mg mb dp un gd cn cs a ccd outer base h₀ L A₀ s m l M R vs B X T hks hdp hun hs hv) (fun _ _ x => x) fun _ _ x => by cases x; contradiction
end Mine

namespace Mine
theorem lit_mark : lit (Str.ofString "+") = [43] := by decide +kernel
theorem raise_lt {at0 wd i : Nat} {n conts : Int} (hat : at0 = wd + wd * i) (hw : 1 ≤ wd) (h1 : (wd : Int) * (conts + 1) < n) (h2 : n ≤ at0) : conts < i := by
  have h3 : (wd : Int) * (conts + 1) < (wd : Int) * ((i : Int) + 1) := by
    have e : ((at0 : Nat) : Int) = (wd : Int) * ((i : Int) + 1) := by rw [hat, Int.natCast_add, Int.natCast_mul, Int.mul_add]; omega
    omega
  have := Int.lt_of_mul_lt_mul_left h3 (by omega)
  omega
theorem fr_two {hnd : Option Value} {lab : Int} {lt x : List Nat} {cols : Nat} {conts : Int} (hcol : 7 ≤ cols) (hcol2 : cols ≤ 100) (hk0 : 0 ≤ conts) (hk : conts ≤ 10) (hlab : 0 ≤ lab) (hlab2 : lab < 1000000) (hlt : Str.ofString (toString lab) = S lt ∧ 0 < lab ∨ lt = [] ∧ lab = 0) (hlt5 : lt.length ≤ 5) (hx : x.length ≤ 100)
    (hn : (((cols - 6 : Nat) : Int)) * (conts + 1) < x.length → hnd = none) : SpecX hnd 180 50 500 [.int lab, .str x, .lim cols conts] [] (fun d n => ¬ (((cols - 6 : Nat) : Int)) * (conts + 1) < x.length ∧ ∃ D, d = .ref D ∧ n = [(D, (fixedL (cols - 6) lt x).map .str)]) ((((cols - 6 : Nat) : Int)) * (conts + 1) < x.length) := by
  have ew : ((cols : Int) - 5 - 1) = ((cols - 6 : Nat) : Int) := by omega
  have hw1 : 1 ≤ cols - 6 := by omega
  have hw2 : cols - 6 ≤ 100 := by omega
  revert hn
  generalize cols - 6 = wd at *
  intro hn
  intro w mean mg mb dp un gd cn cs' a' ccd outer base h₀ L A₀ s m l M R vs B X T hks hdp hun hs hv
  obtain ⟨v1, v2, v3, rfl, i1, i2, i3⟩ := args3 hv
  have N := hs.news
  have F := hs.fr
  w_top off
  have fill9 : Mine.Fills PySem.Challenge.rw_sa0210_01 Mine.hK.heap_1 := by (k_fill; exact True.intro)
  refine wpAny_call ?_
  k_dflt (refine' code_def ?k1 ?k2 ?k3 ?k4 ?k5 ?kA ?kF ?kK ?k6 ?k7 ?k8 ?k9 ?kB ?_ ?c2 ?c3 ?c4 ?c5; (case kA => exact rfl); (case kF => exact rfl); (case kK => assumption); (case k1 => k_asm); (case k2 => k_asm); (case k3 => k_asm); (case k4 => k_asm); (case k5 => k_asm); (case k6 => k_is); (case k7 => k_is); (case k8 => ktr_room); (case k9 => first | exact BindsTo.of_eq rfl | exact binds_K (by k_in) rfl (by k_is) rfl rfl rfl); (case c5 => decide); (case kB => exact locs rfl); (case c2 => exact rfl); (case c3 => exact rfl); (case c4 => exact rfl); k_whole)
  intro g' L' h' FG' F' N' B' X' T'
  refine leave_both (Mb := [(Str.ofString "label", .int lab), (Str.ofString "text", .str x), (Str.ofString "limits", .lim cols conts)]) (f := ⟨Str.ofString "fixed_rows", _⟩) hs F' N' (mem1 ⟨v1, rfl, i1⟩ (mem3 ⟨v2, rfl, i2⟩ ⟨v3, rfl, i3⟩ mem0)) X' T' B' hdp hun (XEnd _ g' L' s) (x_leave B' FG' (fun _ _ h => h) rfl) (fun c KK ok hn0 hc hKK => vRunX ok hn0 rfl rfl (by decide) (by decide) hn (by rw [hc]) ?_) (fun _ _ h => h)
  clear B X T hks hdp hun hs hv N F FG' F' N' B' X' T' fill9 i1 i2 i3
  refine IfP.plain (and_dec (fun hz => ?_) (fun hz => ?_))
  · omega
  refine IfP.join (σ := Unit) (fun _ => [(Str.ofString "head", .str lt), (Str.ofString "width", .int wd), (Str.ofString "label", .int lab), (Str.ofString "text", .str x), (Str.ofString "limits", .lim cols conts)]) (fun _ => []) (fun _ => True) (fun KA hKA _ => ?_) fun _ _ => ?_
  · have he : (some (Dv.int ((cols : Int) - 5 - 1))) = some (Dv.int wd) := by rw [ew]
    refine and_dec (fun hz => ?_) (fun hz => ?_)
    · have h1 := hlt.resolve_right (by omega)
      exact ⟨lt, hlab, hlab2, h1.1, hKA () _ _ ⟨rfl, he, rfl, rfl, rfl, trivial⟩ (Sub.refl _) trivial⟩
    · have h1 := hlt.resolve_left (by omega)
      refine hKA () _ _ ⟨?_, he, rfl, rfl, rfl, trivial⟩ (Sub.refl _) trivial
      rw [h1.1, ← lit_nil]
      rfl
  have hlx : (x.take wd).length ≤ 100 := Nat.le_trans (List.length_take_le _ _) hw2
  have hrow : lt ++ List.replicate ((5 : Int) + 1 - (lt.length : Int)).toNat 32 ++ x.take ((wd : Int)).toNat = rowHead wd lt x := by
    rw [show ((5 : Int) + 1 - (List.length lt : Int)).toNat = 6 - List.length lt from by omega]
    rfl
  refine And.intro (by omega) ⟨32, lit_sp, by omega, by omega, And.intro ?_ (And.intro (by omega) (And.intro (by omega) (And.intro ?_ (And.intro (Nat.le_of_ble_eq_true rfl) fun D => ?_))))⟩
  · rw [List.length_replicate]; omega
  · rw [List.length_append, List.length_replicate]
    have : (x.take ((wd : Int)).toNat).length ≤ 100 := hlx
    omega
  refine WhP.mk (σ := Nat) (fun i => [(Str.ofString "at", .int ((wd + wd * i : Nat) : Int)), (Str.ofString "rows", .ref D), (Str.ofString "width", .int wd), (Str.ofString "text", .str x), (Str.ofString "limits", .lim cols conts)]) (fun i => [(D, (rowsTo wd lt x i).map .str)]) (fun k i => k + i = 200 ∧ (i = 0 ∨ wd * i < x.length)) 200 0 ⟨rfl, rfl, rfl, rfl, rfl, trivial⟩ ?_ ⟨rfl, .inl rfl⟩ ?_
  · rw [hrow]
    exact Sub.refl _
  rintro k i KT ⟨hki, hi⟩ hKT -
  have hi1 : i ≤ 100 := by
    rcases hi with rfl | hi
    · omega
    · have := Nat.le_mul_of_pos_left i (n := wd) (by omega)
      omega
  have hat2 : ((wd + wd * i : Nat) : Int) + (wd : Int) = ((wd + wd * (i + 1) : Nat) : Int) := by rw [Nat.mul_succ]; omega
  have hat3 : ∃ a, a = wd + wd * i := ⟨_, rfl⟩
  obtain ⟨at0, hat⟩ := hat3
  have hat4 : at0 ≤ 300 := by
    rw [hat]
    rcases hi with rfl | hi
    · rw [Nat.mul_zero]; omega
    · omega
  have hlen : ((rowsTo wd lt x i).map Dv.str).length = i + 1 := by rw [List.length_map, rowsTo_len]
  have hl2 : ((rowsTo wd lt x i).map Dv.str).length < 1000000 := by rw [hlen]; omega
  have hl3 : ((rowsTo wd lt x i).map Dv.str).length ≤ 100000 := by rw [hlen]; omega
  rw [← hat] at hat2 ⊢
  refine And.intro (by omega) (and_dec (fun hz => ?_) (fun hz => ?_))
  · have hrow : List.replicate (5 : Int).toNat 32 ++ lit (Str.ofString "+") ++ (x.drop ((at0 : Int)).toNat).take (((at0 : Int) + (wd : Int)) - (at0 : Int)).toNat = rowTail wd x i := by
      rw [show (((at0 : Int) + (wd : Int)) - (at0 : Int)).toNat = wd from by omega, show ((at0 : Int)).toNat = at0 from by omega, lit_mark, hat]
      rfl
    have hsn : (rowsTo wd lt x i).map Dv.str ++ [Dv.str (rowTail wd x i)] = (rowsTo wd lt x (i + 1)).map Dv.str := by rw [rowsTo_snoc, List.map_append]; rfl
    have htl : ((x.drop ((at0 : Int)).toNat).take (((at0 : Int) + (wd : Int)) - (at0 : Int)).toNat).length ≤ 100 := by
      rw [List.length_take, List.length_drop]; omega
    refine ListAt.mk _ (.head _) ⟨32, lit_sp, by decide, by decide, And.intro (by decide) (And.intro (by omega) (And.intro (Int.natCast_nonneg _) (And.intro (by omega) (And.intro (by omega) (And.intro ?_ ⟨_, _, .refl _, hl3, ?_⟩)))))⟩
    · rw [lit_mark]
      have : (List.replicate (5 : Int).toNat 32 ++ [43]).length = 6 := rfl
      omega
    · rw [hrow, hsn]
      exact hKT _ (k - 1) (i + 1) _ _ trivial (by omega) ⟨congrArg (fun z => some (Dv.int z)) hat2, rfl, rfl, rfl, rfl, trivial⟩ (Sub.refl _) ⟨by omega, .inr (by rw [Nat.mul_succ]; omega)⟩
  · refine IfP.plain (ListAt.mk _ (.head _) (And.intro hl2 (and_dec (fun hr => ?_) (fun hr => ?_))))
    · rw [hlen] at hr
      refine ⟨⟨_, _, rfl⟩, ?_⟩
      refine Int.not_le.mp fun hf => ?_
      have := fixed_le (hi.imp id fun h => Int.ofNat_lt.mpr h) hf hk0
      omega
    · rw [hlen] at hr
      refine hKK _ _ _ _ rfl ⟨fun q => ?_, D, rfl, ?_⟩
      · have := raise_lt hat hw1 q (by omega)
        omega
      rw [fixedL, fixed_at hw1 hi (by omega)]
end Mine

namespace Mine
theorem fr_Q {hnd : Option Value} {p : Int × List Nat} {cols : Nat} {conts : Int} (hcol : 7 ≤ cols) (hcol2 : cols ≤ 100) (hk0 : 0 ≤ conts) (hk : conts ≤ 10) (hp : PairOk cols conts p) : SpecH hnd 180 50 500 [.int p.1, .str p.2, .lim cols conts] [] fun d n => ∃ D, d = .ref D ∧ n = [(D, (fixedP cols p).map .str)] := by
  have hl := hp.lab
  have h1 : 0 ≤ p.1 ∧ p.1 < 1000000 := by rcases hl with h | h | h | h <;> omega
  have hf := hp.fit
  have e : ((cols - 6 : Nat) : Int) = (cols : Int) - 6 := by omega
  rw [← e] at hf
  exact (fr_two hcol hcol2 hk0 hk h1.1 h1.2 (labT_ok hl) (labT_len hl) hp.len fun q => absurd q (Int.not_lt.mpr hf)).fit (Int.not_lt.mpr hf) |>.weak fun d n h => ⟨n, Sub.refl _, h.2⟩
theorem lr_Q {l : Addr} {ps : List (Int × List Nat)} {cols : Nat} {conts : Int} (hcol : 7 ≤ cols) (hcol2 : cols ≤ 100) (hk0 : 0 ≤ conts) (hk : conts ≤ 10) (hps : ∀ p ∈ ps, PairOk cols conts p) (hn : ps.length ≤ 50) :
    Spec 187 60 600 [.ref l, .lim cols conts] [(l, ps.map .pair)] fun d n => ∃ D, d = .ref D ∧ n = [(D, (rowsAll cols ps).map .str), (l, ps.map .pair)] := by
  have hfr := fun p h => fr_Q (hnd := none) hcol hcol2 hk0 hk (hps p h)
  have hbd : ∀ i, (rowsAll cols (ps.take i)).length ≤ 6000 := fun i => by
    have h1 := rowsAll_len (cols := cols) (ps := ps.take i) fun p hp => (hps p (List.mem_of_mem_take hp)).len
    rw [List.length_take] at h1
    omega
  intro w mean mg mb dp un gd cn cs' a' ccd outer base h₀ L A₀ s m lg M R vs B X T hks hdp hun hs hv
  obtain ⟨v1, v2, rfl, i1, i2⟩ := args2 hv
  have N := hs.news
  have F := hs.fr
  w_top off
  have fill9 : Mine.Fills PySem.Challenge.rw_sa0210_01 Mine.hK.heap_1 := by (k_fill; exact True.intro)
  refine wpAny_call ?_
  k_dflt (refine' code_def ?k1 ?k2 ?k3 ?k4 ?k5 ?kA ?kF ?kK ?k6 ?k7 ?k8 ?k9 ?kB ?_ ?c2 ?c3 ?c4 ?c5; (case kA => exact rfl); (case kF => exact rfl); (case kK => assumption); (case k1 => k_asm); (case k2 => k_asm); (case k3 => k_asm); (case k4 => k_asm); (case k5 => k_asm); (case k6 => k_is); (case k7 => k_is); (case k8 => ktr_room); (case k9 => first | exact BindsTo.of_eq rfl | exact binds_K (by k_in) rfl (by k_is) rfl rfl rfl); (case c5 => decide); (case kB => exact locs rfl); (case c2 => exact rfl); (case c3 => exact rfl); (case c4 => exact rfl); k_whole)
  intro g' L' h' FG' F' N' B' X' T'
  refine leave_spec (Mb := [(Str.ofString "pairs", .ref l), (Str.ofString "limits", .lim cols conts)]) (f := ⟨Str.ofString "list_rows", _⟩) hs F' N' (mem3 ⟨v1, rfl, i1⟩ ⟨v2, rfl, i2⟩ mem0) X' T' B' hdp hun (fun c KK ok hn0 hKK => vRun ok hn0 rfl rfl ?_) (fun _ _ h => h)
  clear B X T hks hdp hun hs hv N F FG' F' N' B' X' T' fill9 i1 i2
  refine And.intro (by decide) fun R0 => ListAt.mk _ (.tail _ (.head _)) ⟨?_, ?_, LoopP.mk (σ := Addr × List (List Nat)) (fun x => [(Str.ofString "rows", .ref x.1), (Str.ofString "limits", .lim cols conts)]) (fun x => [(x.1, x.2.map .str), (l, ps.map .pair)]) (fun i x => x.2 = rowsAll cols (ps.take i)) (R0, []) ⟨rfl, rfl, trivial⟩ (Sub.refl _) rfl (fun x => .tail _ (.head _)) ?_ ?_⟩
  · rw [List.length_map]; omega
  · intro d hd l v hv
    obtain ⟨p, _, rfl⟩ := List.mem_map.mp hd
    obtain ⟨a, _, _, e, _⟩ := hv
    exact ⟨a, e⟩
  · rintro i ⟨R1, rs⟩ KT - hrs hKT - d hd
    dsimp only at hrs
    subst hrs
    rw [List.getElem?_map] at hd
    obtain ⟨p, hp, rfl⟩ := Option.map_eq_some_iff.mp hd
    have hpm := List.mem_of_getElem? hp
    have hsn : (rowsAll cols (ps.take i)).map Dv.str ++ (fixedP cols p).map .str = (rowsAll cols (ps.take (i + 1))).map .str := by rw [take_snoc hp, rowsAll_snoc, List.map_append]
    have hb2 : ((rowsAll cols (ps.take i)).map Dv.str).length + ((fixedP cols p).map Dv.str).length ≤ 100000 := by
      rw [← List.length_append, hsn, List.length_map]
      exact Nat.le_trans (hbd _) (by decide)
    refine Calls.of (hfr p hpm) (by decide) (by decide) (.refl _) ?_
    rintro _ _ ⟨D, rfl, rfl⟩
    refine ListAt.mk _ (.tail _ (.head _)) (ListAt.mk _ (.head _) ⟨hb2, fun R2 => ?_⟩)
    rw [hsn]
    exact hKT _ (R2, rowsAll cols (ps.take (i + 1))) _ _ trivial ⟨rfl, rfl, trivial⟩ (.keep (.skip (.skip (Sub.refl _)))) rfl
  · rintro ⟨R1, rs⟩ hrs
    dsimp only at hrs
    subst hrs
    rw [List.length_map, List.take_of_length_le (Nat.le_refl _)]
    exact hKK _ _ _ _ rfl ⟨R1, rfl, rfl⟩
end Mine

namespace Mine
theorem intsD {l : Lg} : ∀ {vs : List Value} {ns : List Int}, AreD l vs (ns.map .int) → IntsAre vs ns
  | [], [], _ => .nil
  | [], _ :: _, h => nomatch h.1
  | _ :: _, [], h => nomatch h.1
  | v :: vs, n :: ns, h => by
    obtain ⟨_, e, h0⟩ := h.2 0 v rfl
    cases e
    obtain ⟨t, rfl⟩ := h0
    exact .cons n t (intsD ⟨Nat.succ.inj h.1, fun i a ha => h.2 (i + 1) a ha⟩)
/-- the cloth and its list -/
noncomputable def clothL (c l : Addr) (k : Int) (ns : List Int) : Led := [(c, [.ref l, .int k]), (l, ns.map .int)]
theorem snip_Q {c l : Addr} {k many : Int} {ns : List Int} (hlen : ns.length ≤ 60) (hk : 0 ≤ k) (hk2 : k < 1000000) (hm : 0 < many) (hm2 : many < 1000000) :
    Spec 195 5 50 [.ref c, .int many] (clothL c l k ns) fun d n => ∃ v, 0 ≤ v ∧ v < many ∧ d = .int v ∧ n = clothL c l (k + 1) ns := by
  intro w mean mg mb dp un gd cn cs a ccd outer base h₀ L A₀ s m lg M R vs B X T hks hdp hun hs hv
  obtain ⟨v1, v2, rfl, e1, tm, rfl⟩ := args2 hv
  cases e1
  obtain ⟨cv, qc, hc, hca⟩ := hs.led (c, [.ref l, .int k]) (.head _)
  obtain ⟨lv, ql, hl, hla⟩ := hs.led (l, ns.map .int) (.tail _ (.head _))
  obtain ⟨u1, u2, rfl, e1, tk, rfl⟩ := args2 hca
  cases e1
  have hlc : l ≠ c := fun q => by
    have := hs.nd
    simp [clothL, q] at this
  have hll : lv.length ≤ 60 := by rw [hla.1, List.length_map]; exact hlen
  refine snip_spec (n := qc) (tk := tk) (tm := tm) (without_mem hl hlc) (intsD hla) hll without_off hk hk2 hm hm2 dp un gd cn cs a ccd [] outer A₀ base h₀ L m s _ B hs.fr X (fun p hp => ?_) T hks hdp hun fun r n' h' tk' F' N' hp => ?_
  · rcases List.mem_cons.mp hp with rfl | hp
    · exact hs.news _ hc
    · exact hs.news _ (without_sub p hp)
  · obtain ⟨v, t, t2, rfl, h0, h1, rfl⟩ := hp
    have hs2 : St h₀ L s.heap m lg M ((c, [.ref l, .int k]) :: ((l, ns.map .int) :: R)) := hs
    obtain ⟨hs3, kp⟩ := st_upd hs2 hc (vs' := [.ref l, .int (k + 1) t2]) (ds' := [.ref l, .int (k + 1)]) F' N' (AllR.cons rfl (AllR.cons ⟨_, rfl⟩ AllR.nil))
    exact ⟨h', tk', .int v, clothL c l (k + 1) ns, _, rfl, kp, hs3, ⟨_, rfl⟩, v, h0, h1, rfl, rfl⟩
end Mine

namespace Mine
theorem lit_z5 : lit (Str.ofString "     ") = [32, 32, 32, 32, 32] := by decide +kernel
theorem lit_so : lit (Str.ofString " 0") = [32, 48] := by decide +kernel
theorem lit_mk : lit (Str.ofString "+1*&9AC") = [43, 49, 42, 38, 57, 65, 67] := by decide +kernel
theorem lit_z9 : lit (Str.ofString "Z9'") = [90, 57, 39] := by decide +kernel
theorem get_some {xs : List Nat} {v : Int} {n : Nat} (h0 : 0 ≤ v) (h1 : v < n) (hn : n = xs.length) : ∃ z, xs[v.toNat]? = some z := ⟨_, List.getElem?_eq_getElem (by omega)⟩
/-- the middle of the card, by its first five signs -/
noncomputable def MidOf (card lt y : List Nat) : Prop :=
  (card[5]? = some 32 ∧ ∃ (ah m : Nat), ah + lt.length ≤ 5 ∧ (m = 32 ∨ m = 48) ∧ y = (List.replicate ah 32 ++ lt ++ [32, 32, 32, 32, 32]).take 5 ++ [m] ++ card.drop 6) ∨
   (card[5]? = some 43 ∧ ∃ m ∈ marks9, y = card.take 5 ++ [m] ++ card.drop 6)
theorem snip_C {c l : Addr} {k many : Int} {ns : List Int} {rd ru : Nat} {n nr : Led} {K : Dv → Led → Prop} (hlen : ns.length ≤ 60) (hk : 0 ≤ k) (hk2 : k < 1000000) (hm : 0 < many) (hm2 : many < 1000000) (h1 : 6 ≤ rd) (h2 : 53 ≤ ru) (hp : List.Perm n (clothL c l k ns ++ nr)) (h : ∀ v, 0 ≤ v → v < many → K (.int v) (clothL c l (k + 1) ns ++ nr)) : Calls none 195 rd ru [.ref c, .int many] n K :=
  Calls.of (snip_Q hlen hk hk2 hm hm2) h1 h2 hp fun _ _ ⟨v, h0, h1, e1, e2⟩ => by rw [e1, e2]; exact h v h0 h1
theorem lc_Q {c l : Addr} {k : Int} {ns : List Int} {card lt : List Nat} {cols : Nat} (hlen : ns.length ≤ 60) (hk : 0 ≤ k) (hk2 : k < 900000)
    (hcase : (card[5]? = some 32 ∧ Txt.stripChars (S (card.take 5)) (S [32]) = S lt) ∨ card[5]? = some 43) (hlt : lt.length ≤ 5) (hcl : card.length ≤ 1000) (hcol : cols ≤ 100) :
    Spec 207 20 200 [.ref c, .str card, .int cols] (clothL c l k ns) fun d n => ∃ y k', AltOf cols card lt y ∧ k ≤ k' ∧ k' ≤ k + 4 ∧ d = .str y ∧ n = clothL c l k' ns := by
  intro w mean mg mb dp un gd cn cs' a' ccd outer base h₀ L A₀ s m lg M R vs B X T hks hdp hun hs hv
  obtain ⟨v1, v2, v3, rfl, i1, i2, i3⟩ := args3 hv
  have N := hs.news
  have F := hs.fr
  w_top off
  have fill9 : Mine.Fills PySem.Challenge.rw_sa0210_01 Mine.hK.heap_1 := by (k_fill; exact True.intro)
  refine wpAny_call ?_
  k_dflt (refine' code_def ?k1 ?k2 ?k3 ?k4 ?k5 ?kA ?kF ?kK ?k6 ?k7 ?k8 ?k9 ?kB ?_ ?c2 ?c3 ?c4 ?c5; (case kA => exact rfl); (case kF => exact rfl); (case kK => assumption); (case k1 => k_asm); (case k2 => k_asm); (case k3 => k_asm); (case k4 => k_asm); (case k5 => k_asm); (case k6 => k_is); (case k7 => k_is); (case k8 => ktr_room); (case k9 => first | exact BindsTo.of_eq rfl | exact binds_K (by k_in) rfl (by k_is) rfl rfl rfl); (case c5 => decide); (case kB => exact locs rfl); (case c2 => exact rfl); (case c3 => exact rfl); (case c4 => exact rfl); k_whole)
  intro g' L' h' FG' F' N' B' X' T'
  refine leave_spec (Mb := [(Str.ofString "cloth", .ref c), (Str.ofString "card", .str card), (Str.ofString "columns", .int cols)]) (f := ⟨Str.ofString "_law_card", _⟩) hs F' N' (mem1 ⟨v1, rfl, i1⟩ (mem3 ⟨v2, rfl, i2⟩ ⟨v3, rfl, i3⟩ mem0)) X' T' B' hdp hun (fun c9 KK ok hn0 hKK => vRun ok hn0 rfl rfl ?_) (fun _ _ h => h)
  clear B X T hks hdp hun hs hv N F FG' F' N' B' X' T' fill9 i1 i2 i3
  have hc5 : ∃ z, card[(5 : Int).toNat]? = some z ∧ (z = 32 ∨ z = 43) := by
    rcases hcase with h | h
    · exact ⟨32, h.1, .inl rfl⟩
    · exact ⟨43, h, .inr rfl⟩
  obtain ⟨z, hz, hz2⟩ := hc5
  refine IfP.join (σ := List Nat × Int) (fun x => [(Str.ofString "cloth", .ref c), (Str.ofString "card", .str x.1), (Str.ofString "columns", .int cols)]) (fun x => clothL c l x.2 ns) (fun x => MidOf card lt x.1 ∧ k ≤ x.2 ∧ x.2 ≤ k + 2 ∧ x.1.length ≤ 2000) (fun KA hKA _ => ?_) ?_
  · refine And.intro (by decide) (And.intro (by omega) ⟨z, hz, and_dec (fun hq => ?_) (fun hq => ?_)⟩)
    · have hcs := hcase.resolve_right fun h => by
        have e1 : card[(5 : Int).toNat]? = some 43 := h
        rw [hz] at e1
        rw [lit_sp] at hq
        cases e1
        exact absurd hq (by decide)
      have ht5 : (card.take (5 : Int).toNat).length ≤ 1000000 := Nat.le_trans (List.length_take_le _ _) (by decide)
      refine And.intro (by omega) (And.intro (by decide) ⟨lt, lit_sp, hcs.2, ht5, And.intro (by omega) (snip_C (nr := []) hlen hk (by omega) (by omega) (by omega) (by decide) (by decide) (.refl _) fun v h0 h1 => ?_)⟩)
      have hl1 : (List.replicate v.toNat 32 ++ lt).length ≤ 100 := by rw [List.length_append, List.length_replicate]; omega
      refine ⟨32, lit_sp, by omega, by omega, And.intro (by rw [List.length_replicate]; omega) (And.intro ?_ (And.intro ?_ (And.intro (by decide) (snip_C (nr := []) hlen (by omega) (by omega) (by decide) (by decide) (by decide) (by decide) (.refl _) fun u g0 g1 => ?_))))⟩
      · rw [lit_z5]; exact Nat.le_trans (Nat.add_le_add_right hl1 _) (by decide)
      · rw [lit_z5, List.length_append]; exact Nat.le_trans (Nat.add_le_add_right hl1 _) (by decide)
      obtain ⟨m, hm⟩ := get_some (xs := [32, 48]) g0 (n := 2) g1 rfl
      rw [lit_z5]
      have ht5 : (List.take (5 : Int).toNat (List.replicate v.toNat 32 ++ lt ++ [32, 32, 32, 32, 32])).length ≤ 5 := List.length_take_le _ _
      refine And.intro g0 (And.intro (by rw [lit_so]; decide) ⟨m, by rw [lit_so]; exact hm, And.intro ?_ (And.intro (by omega) (And.intro (by decide) (And.intro ?_ (hKA (_, k + 1 + 1) _ _ ⟨rfl, rfl, rfl, trivial⟩ (Sub.refl _) ⟨.inl ⟨hcs.1, v.toNat, m, by omega, ?_, rfl⟩, by omega, by omega, ?_⟩))))⟩)
      · exact Nat.le_trans (Nat.add_le_add_right ht5 _) (Nat.le_of_ble_eq_true rfl)
      · rw [List.length_append, List.length_drop]
        have : ([m] : List Nat).length = 1 := rfl
        omega
      · match hu : u.toNat with
        | 0 => rw [hu] at hm; cases hm; exact .inl rfl
        | 1 => rw [hu] at hm; cases hm; exact .inr rfl
        | k + 2 => rw [hu] at hm; cases hm
      · rw [List.length_append, List.length_append, List.length_drop]
        have : ([m] : List Nat).length = 1 := rfl
        have : (List.take 5 (List.replicate v.toNat 32 ++ lt ++ [32, 32, 32, 32, 32])).length ≤ 5 := ht5
        omega
    · have hcs := hcase.resolve_left fun h => hq (by
        have e1 : card[(5 : Int).toNat]? = some 32 := h.1
        rw [hz] at e1
        rw [lit_sp]
        cases e1
        rfl)
      have ht5 : (card.take (5 : Int).toNat).length ≤ 5 := List.length_take_le _ _
      refine And.intro (by omega) (And.intro (by decide) (snip_C (nr := []) hlen hk (by omega) (by decide) (by decide) (by decide) (by decide) (.refl _) fun u g0 g1 => ?_))
      obtain ⟨m, hm⟩ := get_some (xs := [43, 49, 42, 38, 57, 65, 67]) g0 (n := 7) g1 rfl
      refine And.intro g0 (And.intro (by rw [lit_mk]; decide) ⟨m, by rw [lit_mk]; exact hm, And.intro ?_ (And.intro (by omega) (And.intro (by decide) (And.intro ?_ (hKA (_, k + 1) _ _ ⟨rfl, rfl, rfl, trivial⟩ (Sub.refl _) ⟨.inr ⟨hcs, m, List.mem_of_getElem? hm, rfl⟩, by omega, by omega, ?_⟩))))⟩)
      · exact Nat.le_trans (Nat.add_le_add_right ht5 _) (Nat.le_of_ble_eq_true rfl)
      · rw [List.length_append, List.length_drop]
        have : ([m] : List Nat).length = 1 := rfl
        omega
      · rw [List.length_append, List.length_append, List.length_drop]
        have : ([m] : List Nat).length = 1 := rfl
        have : (List.take 5 card).length ≤ 5 := ht5
        omega
  · rintro ⟨y, k1⟩ ⟨hm, h1, h2, h3⟩
    dsimp only at hm h1 h2 h3
    have alt : ∀ y', (y' = y ∨ y.length = cols ∧ y' = y ++ [90, 57, 39]) → AltOf cols card lt y' := fun y' h => ⟨y, h, hm⟩
    have hk1 : k ≤ k1 := h1
    have h4 : y.length ≤ 1000000 := by omega
    refine And.intro h4 (and_dec (fun hq => snip_C (nr := []) hlen (by omega) (by omega) (by decide) (by decide) (by decide) (by decide) (.refl _) fun u g0 g1 => and_dec (fun hu => And.intro (fun _ => And.intro ?_ ?_) (fun h => nomatch h)) (fun hu => And.intro (fun h => nomatch h) fun _ => ?_)) (fun hq => And.intro (fun h => nomatch h) fun _ => ?_))
    · rw [lit_z9]; exact Nat.le_trans (Nat.add_le_add_right h3 _) (by decide)
    · rw [lit_z9]
      exact hKK _ _ _ _ rfl ⟨_, k1 + 1, alt _ (.inr ⟨Int.ofNat.inj hq, rfl⟩), by omega, by omega, rfl, rfl⟩
    · exact hKK _ _ _ _ rfl ⟨_, k1 + 1, alt _ (.inl rfl), by omega, by omega, rfl, rfl⟩
    · exact hKK _ _ _ _ rfl ⟨_, k1, alt _ (.inl rfl), by omega, by omega, rfl, rfl⟩
end Mine

namespace Mine
theorem t3s_of {l : Lg} {vs : List Value} {ts : List T3} (h : AreD l vs (ts.map .t3)) : AllR (IsT3 l) vs ts := ⟨by rw [h.1, List.length_map], fun i a ha => by
  obtain ⟨b, hb, hi⟩ := h.2 i a ha
  rw [List.getElem?_map] at hb
  obtain ⟨t, ht, rfl⟩ := Option.map_eq_some_iff.mp hb
  exact ⟨t, ht, hi⟩⟩
theorem pairs_to {l : Lg} {vs : List Value} {ps : List (Int × List Nat)} (h : AllR (IsP l) vs ps) : AreD l vs (ps.map .pair) := ⟨by rw [h.1, List.length_map], fun i a ha => by
  obtain ⟨b, hb, hi⟩ := h.2 i a ha
  exact ⟨.pair b, by rw [List.getElem?_map, hb]; rfl, hi⟩⟩
/-- a ledger that grew -/
theorem St.more {h₀ h h' : Heap} {L : Addr} {m : Str → Option Value} {l l' : Lg} {M : Nam} {n : Led} (hs : St h₀ L h m l M n) (F' : Fr h₀ L h' m) (N' : News h₀ L h' l') (hl : ∀ p ∈ l, p ∈ l') : St h₀ L h' m l' M n ∧ Keep l l' :=
  have k : Keep l l' := fun p hp _ => hl p hp
  ⟨⟨F', N', fun y e he => by obtain ⟨v, hv, hi⟩ := hs.nam y e he; exact ⟨v, hv, hi.keep k⟩, fun p hp => by obtain ⟨vs, q, hm, ha⟩ := hs.led p hp; exact ⟨vs, q, hl _ hm, ha.keep k⟩, hs.nd⟩, k⟩
theorem St.list {h₀ h : Heap} {L : Addr} {m : Str → Option Value} {l : Lg} {M : Nam} {n : Led} (hs : St h₀ L h m l M n) {D : Addr} {ds : List Dv} (hD : Lst l D ds) (hf : ∀ p ∈ n, p.1 ≠ D) : St h₀ L h m l M ((D, ds) :: n) :=
  ⟨hs.fr, hs.news, hs.nam, mem1 hD hs.led, List.nodup_cons.mpr ⟨fun q => by obtain ⟨p, hp, e⟩ := List.mem_map.mp q; exact hf p hp e, hs.nd⟩⟩
theorem told_Q {l : Addr} {ts : List T3} (hn : ts.length ≤ 1000) : Spec 212 10 100 [.ref l] [(l, ts.map .t3)] fun d n => ∃ D, d = .ref D ∧ n = [(D, (ts.map (fun t : T3 => t.2)).map .pair), (l, ts.map .t3)] := by
  intro w mean mg mb dp un gd cn cs a ccd outer base h₀ L A₀ s m lg M R vs B X T hks hdp hun hs hv
  obtain ⟨v1, rfl, e1⟩ := args1 hv
  cases e1
  obtain ⟨lv, ql, hl, hla⟩ := hs.led (l, ts.map .t3) (.head _)
  refine told_spec hl (t3s_of hla) hn dp un gd cn cs a ccd [] outer A₀ base h₀ L m s _ B hs.fr X hs.news T hks hdp hun fun r n' h' tk' F' N' hp => ?_
  obtain ⟨lo, os, no, tl, rfl, rfl, hos, hlt, htl⟩ := hp
  obtain ⟨hs2, kp⟩ := hs.more F' N' fun p hp => .tail _ (List.mem_append_right _ hp)
  have hD : Lst ((lo, W.listOf os.toArray no) :: (tl ++ lg)) lo ((ts.map (fun t : T3 => t.2)).map .pair) := ⟨os, no, .head _, pairs_to (hos.mono fun _ _ q => q.mono fun p hp => .tail _ (List.mem_append_left _ hp))⟩
  have hs3 := hs2.list hD fun p hp => by
    obtain ⟨vs, q, hm, _⟩ := hs.led p hp
    exact Nat.ne_of_lt (hlt _ hm).1
  exact ⟨h', tk', .ref lo, [(lo, (ts.map (fun t : T3 => t.2)).map .pair), (l, ts.map .t3)], _, rfl, kp, hs3, rfl, lo, rfl, rfl⟩
end Mine

namespace Mine
theorem ls_Q {c l : Addr} {k : Int} {ns : List Int} (hlen : ns.length ≤ 60) (hk : 0 ≤ k) (hk2 : k < 900000) :
    Spec 200 20 200 [.ref c] (clothL c l k ns) fun d n => ∃ lab x k', d = .pair (lab, 88 :: x) ∧ LabIn lab ∧ x.length ≤ 13 ∧ (∀ y ∈ x, y ∈ sg) ∧ k ≤ k' ∧ k' ≤ k + 20 ∧ n = clothL c l k' ns := by
  intro w mean mg mb dp un gd cn cs a ccd outer base h₀ L A₀ s m lg M R vs B X T hks hdp hun hs hv
  obtain ⟨v1, rfl, e1⟩ := args1 hv
  cases e1
  obtain ⟨cv, qc, hc, hca⟩ := hs.led (c, [.ref l, .int k]) (.head _)
  obtain ⟨lv, ql, hl, hla⟩ := hs.led (l, ns.map .int) (.tail _ (.head _))
  obtain ⟨u1, u2, rfl, e1, tk, rfl⟩ := args2 hca
  cases e1
  have hlc : l ≠ c := fun q => by
    have := hs.nd
    simp [clothL, q] at this
  have hll : lv.length ≤ 60 := by rw [hla.1, List.length_map]; exact hlen
  refine ls_spec (n := qc) (tk := tk) (without_mem hl hlc) hlc (intsD hla) hll without_off hk hk2 dp un gd cn cs a ccd [] outer A₀ base h₀ L m s _ B hs.fr X (fun p hp => ?_) T hks hdp hun fun r n' h' tk' F' N' hp => ?_
  · rcases List.mem_cons.mp hp with rfl | hp
    · exact hs.news _ hc
    · exact hs.news _ (without_sub p hp)
  · obtain ⟨a9, lab, x, t1, t2, k', tk2, tl, rfl, rfl, h1, h2, h3, h4, h5, _, _, _⟩ := hp
    have hs2 : St h₀ L s.heap m lg M ((c, [.ref l, .int k]) :: ((l, ns.map .int) :: R)) := hs
    obtain ⟨hs3, kp⟩ := st_upd hs2 hc (vs' := [.ref l, .int k' tk2]) (ds' := [.ref l, .int k']) F' (fun p hp => N' p (.tail _ (List.mem_append_right _ hp))) (AllR.cons rfl (AllR.cons ⟨_, rfl⟩ AllR.nil))
    obtain ⟨hs4, kp2⟩ := hs3.more F' N' fun p hp => .tail _ (List.mem_append_right _ hp)
    exact ⟨h', tk', .pair (lab, 88 :: x), clothL c l k' ns, _, rfl, kp.trans kp2, hs4, ⟨a9, t1, t2, rfl, .head _⟩, lab, x, k', rfl, h1, h2, h3, h4, h5, rfl⟩
end Mine

namespace Mine
section
variable {f : Fn} {c : Cx} {E : XE} {M : Nam} {n : Led} {K : Fw → Nam → Led → Prop} {rest : List Stmt} {e : PySem.Expr} {pos p1 p2 p3 : Pos}
theorem Ex.unpack {x y : Str} {k : Nat} (hn0 : c.hnd = none) (hk : f.scope.kind = .function) (hx : f.kind x = some .local) (hy : f.kind y = some .local) (hxy : x ≠ y) (hs1 : swapsWithSole [.Tuple [.Name x p1, .Name y p2] k p3] e pos.line (f.env c) = pure false) (hs2 : swappedStores [.Tuple [.Name x p1, .Name y p2] k p3] e (f.env c) = pure none)
    (h : Ev f c M n e fun d n₁ => ∃ p, d = .pair p ∧ Ex f c E ((y, .str p.2) :: (x, .int p.1) :: M) n₁ rest K) : Ex f c E M n (.Assign [.Tuple [.Name x p1, .Name y p2] k p3] e pos :: rest) K := Ex.cons fun l R h0 tk m hs => by
  refine Assign_Tuple (wpAny_mono (wpAny_noRaise (h l R h0 tk m hs)) (fun v s₁ hv => ?_) fun _ _ x => x) hs1 hs2
  obtain ⟨h1, tk1, d, n1, l1, rfl, k1, hs1, hd, p, rfl, hK⟩ := hv
  refine wpAny_mono (wpAny_noRaise (Tgt.pair (p1 := p1) (p2 := p2) (p3 := p3) (k := k) (G := fun M' => Ex f c E M' n1 rest K) hn0 hk hx hy hxy hK l1 R h1 tk1 m v hd hs1)) (fun _ s₂ h₂ => ?_) fun _ _ x => x
  obtain ⟨h', tk', m2, M2, rfl, hs2, hg⟩ := h₂
  exact ⟨h', tk', m2, M2, .next, n1, l1, rfl, k1, hs2, rfl, hg⟩
end
section
variable {f : Fn} {c : Cx} {M : Nam} {n : Led} {K : Dv → Led → Prop} {l r : PySem.Expr} {pos : Pos}
theorem Ev.cmp1 {op : CmpOp} (h : Ev f c M n l fun d n₁ => Ev f c M n₁ r fun d' n₂ => T2 f c M n₂ (compareOp op) d d' K) (hm : behindInMarks op r = false) : Ev f c M n (.Compare l [op] [r] pos) K := fun g R h0 tk m hs => wpAny_Compare1 (two2 h hs fun _ _ x => x) hm
theorem Ev.bin2 {op : Operator} (h : Ev f c M n l fun d n₁ => Ev f c M n₁ r fun d' n₂ => T2 f c M n₂ (binaryOp op) d d' K) : Ev f c M n (.BinOp l op r pos) K := fun _ _ _ _ _ hs => wpAny_BinOp (two2 h hs fun _ _ x => x)
end
theorem P.mulI {a b : Int} {K : Dv → Prop} (hm : IntMulOk a b) (h : K (.int (a * b))) : Prim2 (binaryOp .Mult) (.int a) (.int b) K := by
  rintro w A s l _ _ ⟨t, rfl⟩ ⟨u, rfl⟩
  exact mul_int ⟨_, .int (a * b), rfl, ⟨_, rfl⟩, h⟩ hm
theorem P.gtI' {a b : Int} {K : Dv → Prop} (h : K (.bool (decide (b < a)))) : Prim2 (compareOp .Gt) (.int a) (.int b) K := by
  rintro w A s l _ _ ⟨t, rfl⟩ ⟨u, rfl⟩
  exact gt_int ⟨s.toks, .bool (decide (b < a)), rfl, rfl, h⟩
end Mine

namespace Mine
/-- an exception that has landed, with its arguments, as two entries of the ledger -/
theorem landed {base g : Heap} {l : List Env} {L e t : Addr} {m : Str → Option Value} {cls : Value} {vs : List Value} (F : Fr base L g m) (fly : Heap.FlyingW base l e cls (.ref t) g) (tup : g.TupAt t vs) (free : base.get? t = none) :
    ∃ n₂, News base L g n₂ ∧ Got n₂ e t cls vs := by
  obtain ⟨oe, ws, e1, e2, e3, e4⟩ := fly.first
  obtain ⟨ot, nt, t1, t2, t3⟩ := tup
  have one : News base L g [(t, ot)] := News.more F News.nil t1 (fun _ _ z => nomatch t3.symm.trans z) free
  exact ⟨[(e, oe), (t, ot)], News.more F one e1 (fun _ _ z => nomatch e3.symm.trans z) fly.2.1, oe, ot, ws, nt, List.mem_cons_self, List.mem_cons_of_mem _ List.mem_cons_self, e2, e3, e4, t2, t3⟩
section
variable {prog : Program} {w : World} {A₀ : Around} {E : Value → Shared → Prop} {s' : Shared} {h₀ h : Heap} {outer : List Env} {L a e t : Addr} {m : Str → Option Value} {name : Str} {scope : Scope} {cd : Value}
  {vs : List Value} {b₀ : Stmt} {suite : List Stmt} {pos np : Pos} {rest : List ExceptHandler} {Q : Flow → Shared → Prop} {news : List (Addr × Obj)}
  {p : Program} {loose : List Str} {mg mb : Str → Option Value} {x : Str}
/-- the class in the handler's test is the exception's own -/
theorem fits51 {A : Around} {s : Shared} {Q : Bool → Shared → Prop} {E : Value → Shared → Prop} {ob : Obj} (X : (Mine.hK.heap_1 w.params).In s.heap) (ho : s.heap.get? e = some ob) (hc : ob.cls = .ref 51) (q : Q true s) : wpAny (model prog w) A (excMatches (.ref e) (.ref 51)) Q E s := by
  obtain ⟨_, _, _, _, _, _, _, _, _, _, _, _, _, _, _, _, _, hC, _⟩ := facts51 X
  obtain ⟨hh, g, d, tk, os⟩ := s
  exact wpAny_excMatches_sub_self hC ho hc (by decide) q
theorem caught_X (K : Below A₀ h₀ outer h₀) (F : Fr h₀ L h m) (hsm : h.UpToSlots s'.heap) (R : RaisedK h₀ (envOf name scope L a cd :: outer) e (.ref 51) t vs news s'.heap)
    (X : (Mine.hK.heap_1 w.params).In h₀) (T : TopRead p loose mg mb h₀) (ex : nsIn (Mine.hK.heap_1 w.params) mainGlobals x = some (some (.ref 51)))
    (k : ∀ h' news₂, Fr h₀ L h' m → News h₀ L h' news₂ → Got news₂ e t (.ref 51) vs → News h₀ L h' news →
      wpAny (model prog w) ((A₀.deeper (envOf name scope L a cd)).mark (some (.ref e))) (execs (b₀ :: suite) (envOf name scope L a cd)) Q E { s' with heap := h' })
    (hk : scope.kind = .function := by rfl) (hx : (envOf name scope L a cd).kindOf x = some .globalImplicit := by rfl) (hd : (x == ("__debug__" : Str)) = false := by decide)
    (hE : PassesOwnAt (model prog w) ((A₀.deeper (envOf name scope L a cd)).mark (some (.ref e))) (A₀.deeper (envOf name scope L a cd)) (envOf name scope L a cd) E := by passes_own) :
    wpAny (model prog w) (A₀.deeper (envOf name scope L a cd)) (noteFrame (.ref e) (envOf name scope L a cd))
      (fun _ s₂ => wpAny (model prog w) (A₀.deeper (envOf name scope L a cd)) (setFlight (.ref e) none) (fun _ s₃ =>
        wpAny (model prog w) (A₀.deeper (envOf name scope L a cd)) (handleBy (.ref e) (envOf name scope L a cd) (.ExceptHandler (some (.Name x np)) none (b₀ :: suite) pos :: rest)) Q E s₃) E s₂) E s' := by
  obtain ⟨⟨B, grown, kept, fly, free⟩, tup⟩ := R
  have noL : B.get? L = none := by
    obtain ⟨_, ⟨_, _, z, y, _⟩, _⟩ := fly.2.2.1
    cases z
    exact y
  refine wpAny_looks_onW (Around.frames_deeper K.stack) rfl fly fun g1 w1 u1 => wpAny_landsW w1 fun g2 w2 u2 => ?_
  have v2 := flyingW_base grown w2
  have F2 := F.of_stays v2.1 (hsm.trans (u1.trans u2))
  obtain ⟨ob, ho, hc⟩ := v2.there
  refine wpAny_handleBy_cons (codeAny_handlers_test (name_K F2 X T ex (fits51 (X.keeps F2.keep) ho hc (codeAny_handlers_suite (lands_againW w2 fun g3 w3 u3 => wpAny_passesOwnAt hE ?_))) hk hx hd)) nofun
  have v3 := flyingW_base grown w3
  have F3 := F2.of_stays v3.1 u3
  obtain ⟨n₂, N₂, got⟩ := landed F3 v3 (tup.of_slots ((u1.trans u2).trans u3)) (fresh_of_stays grown free)
  refine k g3 n₂ F3 N₂ got fun r hr => ⟨w3.1 _ _ (kept r hr).1, fun z => ?_, (kept r hr).2⟩
  have := (kept r hr).1
  rw [z, noL] at this
  cases this
end
end Mine

namespace Mine
section
variable {f : Fn} {c : Cx} {E : XE} {M : Nam} {n : Led} {K : Fw → Nam → Led → Prop} {rest suite : List Stmt} {b0 : Stmt} {e : PySem.Expr} {es : List PySem.Expr} {p1 p2 p3 p4 p5 p6 np : Pos}
noncomputable abbrev Cx.held (c : Cx) (v : Value) : Cx := { c with hnd := some v }
theorem Ex.tryCall {x g : Str} {fa : Addr} {rd ru : Nat} {KR : Prop} (ok : c.Ok rd ru) (hn0 : c.hnd = none) (hbase : c.base = c.h₀)
    (hg : ∀ w : World, nsIn (hK.heap_1 w.params) mainGlobals g = some (some (.ref fa)) ∧ keepIn (hK.heap_1 w.params) (.ref fa) = true) (hk : f.scope.kind = .function) (hx : f.kind x = some .local) (hgk : f.kind g = some .globalImplicit) (hb : (g == ("__debug__" : Str)) = false) (hxe : f.kind (Str.ofString "SourceError") = some .globalImplicit) (hp : (e :: es).all plainE = true)
    (hw : swapsWith (.Call (.Name g p2) (e :: es) [] p3) (some (Expr.Name x p1)) p4.line (f.env c) = pure false)
    (h : Evs f c M n (e :: es) fun ds n₁ => ∃ dd uu K₁, SpecX none fa dd uu ds [] K₁ KR ∧ dd + 1 ≤ rd ∧ uu + 3 ≤ ru ∧ (∀ d n', K₁ d n' → Ex f c E ((x, d) :: M) (n' ++ n₁) rest K) ∧ (KR → ∀ ex, Ex f (c.held (.ref ex)) noE M n₁ (b0 :: suite) (Then f c E rest K))) :
    Ex f c E M n (.Try [.Assign [.Name x p1] (.Call (.Name g p2) (e :: es) [] p3) p4] [.ExceptHandler (some (.Name (Str.ofString "SourceError") np)) none (b0 :: suite) p5] [] [] p6 :: rest) K := by
  obtain ⟨w, mean, mg, mb, dp, un, gd, outer, base, g0, L, a, cd, s, hnd⟩ := c
  dsimp only at hn0 hbase
  subst hn0 hbase
  refine Ex.cons fun l R h0 tk m hs => ?_
  refine wpAny_noRaise (wpAny_Try_except ?_)
  have hp' := hp
  rw [List.all_cons, Bool.and_eq_true] at hp'
  refine wpAny_execs_cons (wpAny_Assign_Name (Call_ (nameX_K hs.fr ok.kin (topRead_of ok.top) (hg _).1 ?_ hk hgk hb)) hw)
  refine callWith_K ok.kin (hg w).2 (wpAny_mono (wpAny_noRaise (h p3 l R h0 tk m hs)) (fun vs s₁ hv => ?_) fun _ _ x => x) (star_plain hp'.1) (any_plain hp'.2)
  obtain ⟨h1, tk1, ds, n1, l1, rfl, k1, hs1, hd, dd, uu, K₁, hS, h2, h3, hK, hC⟩ := hv
  refine ⟨ok.kin.keeps hs1.fr.keep, ?_⟩
  have hrd := ok.rd
  have hru := ok.ru
  dsimp only at hrd hru
  have hS' := hS w mean mg mb (dp + 1) (un + 3) gd f.name f.scope a cd outer base base L _ { s with heap := h1, toks := tk1 } m l1 M (n1 ++ R) vs ok.bel ok.kin ok.top hk (by omega) (by omega) hs1 hd
  refine wpAny_mono hS' (fun r s₂ hr => ?_) (fun v s₂ hr => ?_)
  · obtain ⟨h3, tk3, d, n3, l3, rfl, k3, hs3, hd3, hk3⟩ := hr
    refine storeX_L hs3.fr hs3.news (fun h' F' N' => ?_) hk hx
    have hst := st_set (c := ⟨w, mean, mg, mb, dp, un, gd, outer, base, base, L, a, cd, s, none⟩) hs3 F' N' hd3
    rw [← List.append_assoc] at hst
    exact wpAny_execs_nil (wpAny_execs_nil ⟨h', tk3 + 1, _, (x, d) :: M, .next, n3 ++ n1, l3, rfl, k1.trans k3, hst, rfl, hK d n3 hk3⟩)
  · obtain ⟨kr, g', e9, t9, vs9, h', tk', l2, rfl, rfl, F9, X9, u9, k9, r9⟩ := hr
    refine caught_X ok.bel F9 u9 X9 ok.kin (topRead_of ok.top) (g_exc w).1 (fun h5 news5 F5 N5 G5 N6 => ?_) hk hxe (by decide)
    have hs5 : St base L h5 m l2 M (n1 ++ R) := ⟨F5, N6, fun y d hy => by obtain ⟨v, hv, hi⟩ := hs1.nam y d hy; exact ⟨v, hv, hi.keep k9⟩, r9, hs1.nd⟩
    refine wpAny_mono (hC kr e9 l2 R h5 tk' m hs5) (fun gf s₂ hg => ?_) fun _ _ x => x.no
    obtain ⟨h6, tk6, m6, M6, w6, n6, l6, rfl, k6, hs6, hw6, hk6⟩ := hg
    have kk := (k1.trans k9).trans k6
    cases w6 with
    | next => cases hw6; exact ⟨h6, tk6, m6, M6, .next, n6, l6, rfl, kk, hs6, rfl, hk6⟩
    | cont => cases hw6; exact ⟨h6, tk6, m6, M6, .cont, n6, l6, rfl, kk, hs6, rfl, hk6⟩
    | brk => cases hw6; exact ⟨h6, tk6, m6, M6, .brk, n6, l6, rfl, kk, hs6, rfl, hk6⟩
    | ret d => obtain ⟨v, rfl, hd⟩ := hw6; exact ⟨h6, tk6, m6, M6, .ret d, n6, l6, rfl, kk, hs6, ⟨v, rfl, hd⟩, hk6⟩
end
end Mine

namespace Mine
-- the plain law: what the rows read as
noncomputable def nb (l : List Nat) : List Nat := l.filter (· != 32)
theorem nb_append (a b : List Nat) : nb (a ++ b) = nb a ++ nb b := List.filter_append ..
theorem nb_blanks (n : Nat) : nb (List.replicate n 32) = [] := by
  unfold nb; rw [List.filter_eq_nil_iff]; intro a ha; rw [(List.mem_replicate.mp ha).2]; decide
noncomputable def chunk (w : Nat) (x : List Nat) (j : Nat) : List Nat := (x.drop (w * j)).take w
noncomputable def blanks5 (lab : Int) : List Nat := labT lab ++ List.replicate (5 - (labT lab).length) 32
noncomputable def headRow (lab : Int) (b : List Nat) : List Nat := blanks5 lab ++ [32] ++ b
noncomputable def tailRow (b : List Nat) : List Nat := [32, 32, 32, 32, 32] ++ [43] ++ b
theorem blanks5_len {lab : Int} (h : LabIn lab) : (blanks5 lab).length = 5 := by rcases h with rfl | rfl | rfl | rfl <;> decide
theorem blanks5_nb {lab : Int} (h : LabIn lab) : nb (blanks5 lab) = labT lab := by rcases h with rfl | rfl | rfl | rfl <;> decide
theorem blanks5_sg {lab : Int} (h : LabIn lab) : ∀ c ∈ blanks5 lab, c = 32 ∨ (48 ≤ c ∧ c ≤ 57) := by rcases h with rfl | rfl | rfl | rfl <;> decide
theorem labT_sg {lab : Int} (h : LabIn lab) : ∀ c ∈ labT lab, 48 ≤ c ∧ c ≤ 57 := by rcases h with rfl | rfl | rfl | rfl <;> decide
theorem labT_nb {lab : Int} (h : LabIn lab) : nb (labT lab) = labT lab := by rcases h with rfl | rfl | rfl | rfl <;> decide
theorem labT_dig {lab : Int} (h : LabIn lab) : digits (labT lab) = true := by rcases h with rfl | rfl | rfl | rfl <;> decide
theorem labT_nz {lab : Int} (h : LabIn lab) : labT lab = [] ∨ valOf (labT lab) ≠ 0 := by rcases h with rfl | rfl | rfl | rfl <;> decide
theorem labT_val {lab : Int} (h : LabIn lab) : valOf (labT lab) = lab := by rcases h with rfl | rfl | rfl | rfl <;> decide
theorem blanks5_strip {lab : Int} (h : LabIn lab) : Txt.stripChars (S (blanks5 lab)) (S [32]) = S (labT lab) := by rcases h with rfl | rfl | rfl | rfl <;> decide +kernel
theorem rowHead_eq {lab : Int} (h : LabIn lab) (w : Nat) (x : List Nat) : rowHead w (labT lab) x = headRow lab (chunk w x 0) := by
  unfold rowHead headRow blanks5 chunk
  rw [Nat.mul_zero, List.drop_zero]
  congr 1
  rcases h with rfl | rfl | rfl | rfl <;> decide
theorem rowTail_eq (w : Nat) (x : List Nat) (j : Nat) : rowTail w x j = tailRow (chunk w x (j + 1)) := by
  unfold rowTail tailRow chunk
  rw [Nat.mul_succ, Nat.add_comm]; rfl
noncomputable def tails (w : Nat) (x : List Nat) (n : Nat) : List (List Nat) := (List.range n).map fun j => tailRow (chunk w x (j + 1))
theorem fixedP_eq {cols : Nat} {p : Int × List Nat} (h : LabIn p.1) : fixedP cols p = headRow p.1 (chunk (cols - 6) p.2 0) :: tails (cols - 6) p.2 ((p.2.length - 1) / (cols - 6)) := by
  unfold fixedP fixedL rowsTo tails
  rw [rowHead_eq h]
  congr 1
  exact List.map_congr_left fun j _ => rowTail_eq ..

/-- a row as the law lays it -/
noncomputable def RowOk (cols : Nat) (r : List Nat) : Prop := ∃ P m b, r = P ++ [m] ++ b ∧ P.length = 5 ∧ 6 + b.length ≤ cols ∧ (∀ c ∈ b, c = 88 ∨ c ∈ sg) ∧
  ((m = 32 ∧ (∃ t, b = 88 :: t) ∧ ∃ lab, LabIn lab ∧ P = blanks5 lab) ∨ (m = 43 ∧ P = [32, 32, 32, 32, 32]))
/-- what the law may do to a row -/
noncomputable def AltR (cols : Nat) (r y : List Nat) : Prop := ∃ lt, (r[5]? = some 32 → Txt.stripChars (S (r.take 5)) (S [32]) = S lt) ∧ AltOf cols r lt y
noncomputable def RowCard (r : List Nat) (c : CardD) : Prop := c.body = r.drop 6 ∧ c.label.length = 5 ∧ nb c.label = nb (r.take 5) ∧ isCont c = decide (r[5]? = some 43)
theorem pmb_at {P b : List Nat} {m : Nat} (hP : P.length = 5) : (P ++ [m] ++ b)[5]? = some m ∧ (P ++ [m] ++ b).take 5 = P ∧ (P ++ [m] ++ b).drop 6 = b := by
  match P, hP with
  | [a, b', c, d, e], _ => exact ⟨rfl, rfl, rfl⟩
theorem pmb_len {P b : List Nat} {m : Nat} (hP : P.length = 5) : (P ++ [m] ++ b).length = 6 + b.length := by
  simp only [List.length_append, List.length_cons, List.length_nil, hP]
theorem take_alt {cols : Nat} {base y z : List Nat} (hl : base.length ≤ cols) (hy : y = base ∨ base.length = cols ∧ y = base ++ z) : y.take cols = base := by
  rcases hy with rfl | ⟨h, rfl⟩
  · exact List.take_of_length_le hl
  · rw [← h]; simp
theorem take1_mem {l : List Nat} {a : Nat} (h : l.take 1 = [a]) : a ∈ l := List.mem_of_mem_take (i := 1) (h ▸ List.mem_singleton.mpr rfl)
theorem card_base {cols : Nat} {y z P b : List Nat} {m : Nat} (hP : P.length = 5) (hc : 6 + b.length ≤ cols) (hy : y = P ++ [m] ++ b ∨ (P ++ [m] ++ b).length = cols ∧ y = P ++ [m] ++ b ++ z)
    (hd : ∀ c ∈ P, c = 32 ∨ (48 ≤ c ∧ c ≤ 57)) (hne : m ≠ 32 ∨ 88 ∈ b) : isCom y cols = false ∧ ∀ n, cardOf cols (n, y) = ⟨n, P, m, b⟩ := by
  have hlen := pmb_len (b := b) (m := m) hP
  have ht : y.take cols = P ++ [m] ++ b := take_alt (by omega) hy
  obtain ⟨a1, a2, a3⟩ := pmb_at (b := b) (m := m) hP
  have h1 : y.take 1 = P.take 1 := by
    have e : y.take 1 = (y.take cols).take 1 := by rw [List.take_take]; congr 1; omega
    rw [e, ht, List.append_assoc, List.take_append_of_le_length (by omega)]
  refine ⟨?_, fun n => ?_⟩
  · unfold isCom
    simp only [Bool.or_eq_false_iff, decide_eq_false_iff_not]
    have no : ∀ a, ¬ (a = 32 ∨ (48 ≤ a ∧ a ≤ 57)) → ¬ y.take 1 = [a] := fun a ha e => ha (hd a (take1_mem (h1 ▸ e)))
    refine ⟨⟨⟨no 67 (by omega), no 99 (by omega)⟩, no 42 (by omega)⟩, fun e => ?_⟩
    rw [ht, List.filter_eq_nil_iff] at e
    rcases hne with h | h
    · exact e m (by simp) (by simpa using h)
    · exact e 88 (by simp [h]) (by decide)
  · unfold cardOf seenOf
    have hn : ¬ (y.take cols).length < 6 := by rw [ht, hlen]; omega
    simp only
    rw [if_neg hn, ht, a1, a2, a3]; rfl
theorem alt_all {cols : Nat} {r y : List Nat} (hr : RowOk cols r) (h : AltR cols r y) :
    isCom y cols = false ∧ (∀ n, RowCard r (cardOf cols (n, y))) ∧ (∀ n, (cardOf cols (n, y)).line = n) ∧ (∀ c ∈ y, c ≠ 10) ∧ y ≠ [] ∧ y.length ≤ cols + 3 := by
  obtain ⟨P, m, b, rfl, hP, hc, hb, hm⟩ := hr
  obtain ⟨lt, hst, base, hy, hd⟩ := h
  obtain ⟨a1, a2, a3⟩ := pmb_at (b := b) (m := m) hP
  rw [a1, a2] at hst
  rw [a1, a2, a3] at hd
  have go : ∀ (P' : List Nat) (m' : Nat), base = P' ++ [m'] ++ b → P'.length = 5 → (∀ c ∈ P', c = 32 ∨ (48 ≤ c ∧ c ≤ 57)) → (m' ≠ 32 ∨ 88 ∈ b) → nb P' = nb P → (!decide (m' = 32) && !decide (m' = 48)) = decide (m = 43) → m' ≠ 10 →
      isCom y cols = false ∧ (∀ n, RowCard (P ++ [m] ++ b) (cardOf cols (n, y))) ∧ (∀ n, (cardOf cols (n, y)).line = n) ∧ (∀ c ∈ y, c ≠ 10) ∧ y ≠ [] ∧ y.length ≤ cols + 3 := by
    intro P' m' hbase hP' hd' hne hnb hct hm10
    rw [hbase] at hy
    obtain ⟨h1, h2⟩ := card_base hP' hc hy hd' hne
    have hlen := pmb_len (b := b) (m := m') hP'
    have hin : ∀ c ∈ P' ++ [m'] ++ b, c ≠ 10 := by
      intro c hcm e
      subst e
      simp only [List.mem_append, List.mem_singleton] at hcm
      rcases hcm with (hcm | hcm) | hcm
      · have := hd' _ hcm; omega
      · exact hm10 hcm.symm
      · rcases hb _ hcm with h | h
        · omega
        · revert h; decide
    refine ⟨h1, fun n => ?_, fun n => by rw [h2], fun c hcm => ?_, ?_, ?_⟩
    · rw [h2]
      refine ⟨a3.symm, hP', ?_, ?_⟩
      · rw [a2]; exact hnb
      · rw [a1]
        unfold isCont
        simp only [Option.some.injEq]
        exact hct
    · rcases hy with rfl | ⟨_, rfl⟩
      · exact hin c hcm
      · rcases List.mem_append.mp hcm with h | h
        · exact hin c h
        · intro e; subst e; revert h; decide
    · intro e
      rcases hy with rfl | ⟨_, rfl⟩
      · rw [e] at hlen; simp at hlen; omega
      · have := congrArg List.length e; simp at this
    · rcases hy with rfl | ⟨_, rfl⟩
      · omega
      · rw [List.length_append, hlen]; simp; omega
  rcases hd with ⟨h5, ah, m', hah, hm', hbase⟩ | ⟨h5, m', hm', hbase⟩
  · have h5' : m = 32 := Option.some.inj h5
    rcases hm with ⟨_, ⟨t, hbt⟩, lab, hlab, hPl⟩ | ⟨h43, _⟩
    · have hlt : lt = labT lab := by
        have := hst h5
        rw [hPl, blanks5_strip hlab] at this
        exact (S_inj.mp this).symm
      subst hlt
      have e5 : (List.replicate ah 32 ++ labT lab ++ [32, 32, 32, 32, 32]).take 5 = List.replicate ah 32 ++ labT lab ++ List.replicate (5 - (ah + (labT lab).length)) 32 := by
        rw [List.take_append, List.take_of_length_le (by simp; omega)]
        congr 1
        rw [show [32, 32, 32, 32, 32] = List.replicate 5 32 from rfl, List.take_replicate]
        congr 1
        simp only [List.length_append, List.length_replicate]
        omega
      refine go _ m' hbase ?_ ?_ (.inr (by simp [hbt])) ?_ ?_ (by omega)
      · rw [e5]; simp only [List.length_append, List.length_replicate]; omega
      · intro c hcm
        rw [e5] at hcm
        simp only [List.mem_append] at hcm
        rcases hcm with (h | h) | h
        · exact .inl (List.mem_replicate.mp h).2
        · exact .inr (labT_sg hlab c h)
        · exact .inl (List.mem_replicate.mp h).2
      · rw [e5, hPl, blanks5_nb hlab, nb_append, nb_append, nb_blanks, nb_blanks, labT_nb hlab, List.nil_append, List.append_nil]
      · subst h5'
        rcases hm' with rfl | rfl <;> decide
    · omega
  · have h5' : m = 43 := Option.some.inj h5
    rcases hm with ⟨h32, _⟩ | ⟨_, hP5⟩
    · omega
    · have hmm : m' ≠ 32 ∧ m' ≠ 48 ∧ m' ≠ 10 := by
        refine ⟨fun e => ?_, fun e => ?_, fun e => ?_⟩ <;> (subst e; revert hm'; decide)
      refine go _ m' hbase hP ?_ (.inl hmm.1) rfl ?_ hmm.2.2
      · rw [hP5]; decide
      · subst h5'
        simp [hmm.1, hmm.2.1]
theorem alt_self {cols : Nat} {r : List Nat} (hr : RowOk cols r) : AltR cols r r := by
  obtain ⟨P, m, b, rfl, hP, hc, hb, hm⟩ := hr
  obtain ⟨a1, a2, a3⟩ := pmb_at (b := b) (m := m) hP
  rcases hm with ⟨rfl, _, lab, hlab, rfl⟩ | ⟨rfl, rfl⟩
  · refine ⟨labT lab, fun _ => by rw [a2]; exact blanks5_strip hlab, _, .inl rfl, .inl ⟨a1, 0, 32, ?_, .inl rfl, ?_⟩⟩
    · have := labT_len hlab; omega
    · rw [a3]
      congr 2
      rcases hlab with rfl | rfl | rfl | rfl <;> decide
  · exact ⟨[], fun h => (by rw [a1] at h; cases h), _, .inl rfl, .inr ⟨a1, 43, by decide, by rw [a2, a3]⟩⟩
end Mine

namespace Mine
/-- one statement's cards -/
structure GroupOk (w k : Int) (p : Int × List Nat) (h : CardD) (ts : List CardD) : Prop where
  lab : LabelOk h
  val : labOf h = p.1
  start : isCont h = false
  many : (ts.length : Int) ≤ k
  tails : ∀ c ∈ ts, isCont c = true ∧ c.label.filter (· != 32) = []
  text : jtext w (h :: ts) = p.2
  head : ∃ t, p.2 = 88 :: t
  body : ∃ t, h.body = 88 :: t
inductive Groups (w k : Int) : List (Int × List Nat) → List CardD → List T3 → Prop
  | nil : Groups w k [] [] []
  | cons {p h ts ps cs res} : GroupOk w k p h ts → Groups w k ps cs res → Groups w k (p :: ps) (h :: (ts ++ cs)) ((h.line, p.1, p.2) :: res)
theorem nb_X (t : List Nat) : (88 :: t).filter (· != 32) ≠ [] ∧ (88 :: t).filter (· != 32) ≠ [69, 78, 68] := by
  have e : (88 :: t).filter (· != 32) = 88 :: t.filter (· != 32) := by simp
  rw [e]
  exact ⟨by simp, fun h => by have := (List.cons.inj h).1; omega⟩
theorem GroupOk.joinOk {w k : Int} {p : Int × List Nat} {h : CardD} {ts : List CardD} (g : GroupOk w k p h ts) : JoinOk w h ts ∧ joinT w h ts = (h.line, p.1, p.2) := by
  obtain ⟨t, ht⟩ := g.head
  refine ⟨⟨g.lab, ?_, .inr ?_⟩, ?_⟩
  · rw [g.text, ht]; exact (nb_X t).1
  · rw [g.text, ht]; exact (nb_X t).2
  · unfold joinT; rw [g.val, g.text]
theorem runs_tails {w k : Int} {c0 : CardD} {cs : List CardD} {out res : List T3} (h0 : ∃ t, c0.body = 88 :: t) : ∀ (ts r : List CardD), (∀ c ∈ ts, isCont c = true ∧ c.label.filter (· != 32) = []) → ((r.length : Int) + ts.length ≤ k) →
    Runs w k out (c0 :: (r ++ ts)) cs res → Runs w k out (c0 :: r) (ts ++ cs) res
  | [], r, _, _, h => by simpa using h
  | c :: ts, r, hc, hk, h => by
    obtain ⟨t, ht⟩ := h0
    refine .cont (hc c (by simp)).1 (hc c (by simp)).2 (by simp only [List.length_cons] at hk; omega) (by rw [ht]; exact (nb_X t).2) ?_
    show Runs w k out (c0 :: (r ++ [c])) (ts ++ cs) res
    refine runs_tails ⟨t, ht⟩ ts (r ++ [c]) (fun x hx => hc x (by simp [hx])) (by simp only [List.length_cons, List.length_append, List.length_nil] at hk ⊢; omega) ?_
    simpa using h
theorem runs_held {w k : Int} : ∀ {ps : List (Int × List Nat)} {cs : List CardD} {res : List T3}, Groups w k ps cs res → ∀ {out : List T3} {p h ts}, GroupOk w k p h ts → Runs w k out (h :: ts) cs (out ++ (h.line, p.1, p.2) :: res)
  | _, _, _, .nil, out, p, h, ts, g => by
    rw [← g.joinOk.2]
    exact .last g.joinOk.1
  | _, _, _, .cons (p := p') (h := h') (ts := ts') (cs := cs') (res := res') g' G, out, p, h, ts, g => by
    refine .next g'.start g.joinOk.1 g'.lab ?_
    refine runs_tails g'.body ts' [] g'.tails (by have := g'.many; simpa using this) ?_
    have := runs_held G (out := out ++ [joinT w h ts]) g'
    rw [g.joinOk.2, List.append_assoc] at this
    rw [g.joinOk.2]
    exact this
theorem runs_groups {w k : Int} {ps : List (Int × List Nat)} {cs : List CardD} {res : List T3} (G : Groups w k ps cs res) : Runs w k [] [] cs res := by
  cases G with
  | nil => exact .nil
  | cons g G =>
    refine .start g.start g.lab ?_
    refine runs_tails g.body _ [] g.tails (by have := g.many; simpa using this) ?_
    exact runs_held G (out := []) g
theorem groups_told {w k : Int} : ∀ {ps : List (Int × List Nat)} {cs : List CardD} {res : List T3}, Groups w k ps cs res → res.map (·.2) = ps
  | _, _, _, .nil => rfl
  | _, _, _, .cons _ G => by rw [List.map_cons, groups_told G]

-- the pieces of a text
theorem chunks_flatten (w : Nat) (x : List Nat) : ∀ n, ((List.range n).map (chunk w x)).flatten = x.take (w * n)
  | 0 => by simp
  | n + 1 => by
    rw [List.range_succ, List.map_append, List.flatten_append, chunks_flatten w x n, Nat.mul_succ, List.take_add]
    simp [chunk]
theorem padL_full {b : List Nat} {w : Int} (h : w ≤ b.length) : padL b w = b := by unfold padL; rw [if_neg (by omega)]
theorem chunk_len {w : Nat} {x : List Nat} {j : Nat} (h : w * (j + 1) ≤ x.length) : (chunk w x j).length = w := by
  unfold chunk
  rw [List.length_take, List.length_drop]
  rw [Nat.mul_succ] at h
  omega
theorem jtext_chunks {w n : Nat} {x : List Nat} {cs : List CardD} (hb : cs.map (·.body) = (List.range (n + 1)).map (chunk w x)) (h1 : w * n ≤ x.length) (h2 : x.length ≤ w * (n + 1)) : jtext (w : Int) cs = x := by
  have hlen : cs.length = n + 1 := by have := congrArg List.length hb; simpa using this
  have e : pieces (w : Int) cs = (List.range (n + 1)).map (chunk w x) := by
    rw [← hb]
    apply List.ext_getElem?
    intro i
    unfold pieces
    rw [List.getElem?_mapIdx, List.getElem?_map]
    cases hc : cs[i]? with
    | none => rfl
    | some c =>
      simp only [Option.map_some, Option.some.injEq]
      split
      · rename_i hi
        have hbi := congrArg (fun l => l[i]?) hb
        simp only [List.getElem?_map, hc, Option.map_some] at hbi
        rw [List.getElem?_range (by omega)] at hbi
        simp only [Option.map_some, Option.some.injEq] at hbi
        have hi2 : w * (i + 1) ≤ x.length := Nat.le_trans (Nat.mul_le_mul_left w (by omega)) h1
        rw [hbi]
        exact padL_full (by rw [chunk_len hi2]; exact Int.le_refl _)
      · rfl
  unfold jtext
  rw [e, chunks_flatten, List.take_of_length_le h2]

/-- a pair that the law makes -/
structure PairX (cols : Nat) (conts : Int) (p : Int × List Nat) : Prop where
  ok : PairOk cols conts p
  sgs : ∃ x, p.2 = 88 :: x ∧ x.length ≤ 13 ∧ ∀ y ∈ x, y ∈ sg
theorem PairX.all {cols : Nat} {conts : Int} {p : Int × List Nat} (h : PairX cols conts p) : ∀ c ∈ p.2, c = 88 ∨ c ∈ sg := by
  obtain ⟨x, e, _, hx⟩ := h.sgs
  rw [e]
  intro c hc
  rcases List.mem_cons.mp hc with h | h
  · exact .inl h
  · exact .inr (hx c h)
theorem PairX.head_chunk {cols : Nat} {conts : Int} {p : Int × List Nat} (h : PairX cols conts p) {w : Nat} (hw : 1 ≤ w) : ∃ t, chunk w p.2 0 = 88 :: t := by
  obtain ⟨x, e, _, hx⟩ := h.sgs
  obtain ⟨v, rfl⟩ : ∃ v, w = v + 1 := ⟨w - 1, by omega⟩
  exact ⟨x.take v, by unfold chunk; rw [e]; simp⟩
theorem chunk_le (w : Nat) (x : List Nat) (j : Nat) : (chunk w x j).length ≤ w := by unfold chunk; exact List.length_take_le _ _
theorem chunk_sub {w : Nat} {x : List Nat} {j c : Nat} (h : c ∈ chunk w x j) : c ∈ x := List.mem_of_mem_drop (List.mem_of_mem_take h)
theorem fixed_ok {cols : Nat} {conts : Int} {p : Int × List Nat} (h : PairX cols conts p) (hc : 8 ≤ cols) : ∀ r ∈ fixedP cols p, RowOk cols r := by
  intro r hr
  rw [fixedP_eq h.ok.lab] at hr
  rcases List.mem_cons.mp hr with rfl | hr
  · exact ⟨_, _, _, rfl, blanks5_len h.ok.lab, by have := chunk_le (cols - 6) p.2 0; omega, fun c hc => h.all c (chunk_sub hc), .inl ⟨rfl, h.head_chunk (by omega), _, h.ok.lab, rfl⟩⟩
  · obtain ⟨j, _, rfl⟩ := List.mem_map.mp hr
    exact ⟨_, _, _, rfl, rfl, by have := chunk_le (cols - 6) p.2 (j + 1); omega, fun c hc => h.all c (chunk_sub hc), .inr ⟨rfl, rfl⟩⟩
theorem rows_ok {cols : Nat} {conts : Int} {ps : List (Int × List Nat)} (h : ∀ p ∈ ps, PairX cols conts p) (hc : 8 ≤ cols) : ∀ r ∈ rowsAll cols ps, RowOk cols r := by
  intro r hr
  unfold rowsAll at hr
  obtain ⟨l, hl, hr⟩ := List.mem_flatten.mp hr
  obtain ⟨p, hp, rfl⟩ := List.mem_map.mp hl
  exact fixed_ok (h p hp) hc r hr

theorem AllR.split {α β : Type} {R : α → β → Prop} {a b : List α} {cs : List β} (h : AllR R (a ++ b) cs) : ∃ c d, cs = c ++ d ∧ AllR R a c ∧ AllR R b d := by
  have hl := h.1
  rw [List.length_append] at hl
  refine ⟨cs.take a.length, cs.drop a.length, (List.take_append_drop ..).symm, ⟨by rw [List.length_take]; omega, fun i x hx => ?_⟩, ⟨by rw [List.length_drop]; omega, fun i x hx => ?_⟩⟩
  · have hi := (List.getElem?_eq_some_iff.mp hx).1
    obtain ⟨y, hy, r⟩ := h.2 i x (by rw [List.getElem?_append_left hi]; exact hx)
    exact ⟨y, by rw [List.getElem?_take, if_pos hi]; exact hy, r⟩
  · obtain ⟨y, hy, r⟩ := h.2 (a.length + i) x (by rw [List.getElem?_append_right (by omega)]; rw [Nat.add_sub_cancel_left]; exact hx)
    exact ⟨y, by rw [List.getElem?_drop]; exact hy, r⟩
theorem AllR.head {α β : Type} {R : α → β → Prop} {a : α} {b : List α} {cs : List β} (h : AllR R (a :: b) cs) : ∃ c d, cs = c :: d ∧ R a c ∧ AllR R b d := by
  obtain ⟨c, hc, r⟩ := h.2 0 a rfl
  cases cs with
  | nil => cases hc
  | cons y ys =>
    cases hc
    exact ⟨c, ys, rfl, r, Nat.succ.inj h.1, fun i x hx => by simpa using h.2 (i + 1) x (by simpa using hx)⟩
theorem AllR.bodies {as : List (List Nat)} {cs : List CardD} (h : AllR RowCard as cs) : cs.map (·.body) = as.map (·.drop 6) := by
  apply List.ext_getElem?
  intro i
  rw [List.getElem?_map, List.getElem?_map]
  cases ha : as[i]? with
  | none =>
    have : cs[i]? = none := by rw [List.getElem?_eq_none_iff] at ha ⊢; rw [← h.1]; exact ha
    rw [this]; rfl
  | some a =>
    obtain ⟨c, hc, r⟩ := h.2 i a ha
    rw [hc]
    exact congrArg some r.1
theorem AllR.back {α β : Type} {R : α → β → Prop} {as : List α} {bs : List β} (h : AllR R as bs) {b : β} (hb : b ∈ bs) : ∃ a, a ∈ as ∧ R a b := by
  obtain ⟨i, hi⟩ := List.mem_iff_getElem?.mp hb
  have hlt : i < as.length := by rw [h.1]; exact (List.getElem?_eq_some_iff.mp hi).1
  obtain ⟨b', hb', r⟩ := h.2 i as[i] (by simp [hlt])
  rw [hi] at hb'
  cases hb'
  exact ⟨_, List.getElem_mem hlt, r⟩
noncomputable def firstsOf (cols : Nat) : Nat → List (Int × List Nat) → List Int
  | _, [] => []
  | n, p :: ps => ((n : Int) + 1) :: firstsOf cols (n + (fixedP cols p).length) ps
theorem tails_bodies (w : Nat) (x : List Nat) (n : Nat) : (tails w x n).map (·.drop 6) = (List.range n).map fun j => chunk w x (j + 1) := by
  unfold tails
  rw [List.map_map]; rfl
theorem group_of {cols : Nat} {conts : Int} {p : Int × List Nat} (hp : PairX cols conts p) (hc : 8 ≤ cols) (hk : 0 ≤ conts) {cs : List CardD} (h : AllR RowCard (fixedP cols p) cs) : ∃ hd ts, cs = hd :: ts ∧ GroupOk ((cols : Int) - 6) conts p hd ts := by
  have hall := h.bodies
  rw [fixedP_eq hp.ok.lab] at h hall
  obtain ⟨hd, ts, rfl, h1, h2⟩ := h.head
  have hw : ((cols : Int) - 6) = ((cols - 6 : Nat) : Int) := by omega
  have hw2 : 2 ≤ cols - 6 := by omega
  have hfit := hp.ok.fit
  rw [hw] at hfit
  obtain ⟨x, hx, hx13, _⟩ := hp.sgs
  have hxl : 1 ≤ p.2.length := by rw [hx]; simp
  have hch := hp.head_chunk (w := cols - 6) (by omega)
  generalize hwd : cols - 6 = w at *
  rw [hw]
  have hdm := Nat.div_add_mod (p.2.length - 1) w
  have hml := Nat.mod_lt (p.2.length - 1) (show 0 < w by omega)
  generalize hn : (p.2.length - 1) / w = n at *
  have htl : ts.length = n := by rw [← h2.1]; simp [tails]
  have hrow := pmb_at (b := chunk w p.2 0) (m := 32) (blanks5_len hp.ok.lab)
  refine ⟨hd, ts, rfl, ⟨?_, ?_, ?_, ?_, ?_, ?_, ⟨x, hx⟩, ?_⟩⟩
  · have e : hd.label.filter (· != 32) = labT p.1 := by
      have := h1.2.2.1
      unfold headRow at this
      rw [hrow.2.1, blanks5_nb hp.ok.lab] at this
      exact this
    exact ⟨Nat.le_of_eq h1.2.1, by rw [e]; exact labT_dig hp.ok.lab, by rw [e]; exact labT_nz hp.ok.lab⟩
  · have e : hd.label.filter (· != 32) = labT p.1 := by
      have := h1.2.2.1
      unfold headRow at this
      rw [hrow.2.1, blanks5_nb hp.ok.lab] at this
      exact this
    unfold labOf
    rw [e, labT_val hp.ok.lab]
  · rw [h1.2.2.2]
    unfold headRow
    rw [hrow.1]
    rfl
  · rw [htl]
    refine fixed_le (w := w) (n := (p.2.length : Int)) ?_ hfit hk
    by_cases h0 : n = 0
    · exact .inl h0
    · refine .inr (Int.ofNat_lt.mpr ?_)
      omega
  · intro c hcm
    obtain ⟨r, hr, hrc⟩ := h2.back hcm
    obtain ⟨j, _, rfl⟩ := List.mem_map.mp hr
    exact ⟨by rw [hrc.2.2.2]; rfl, by have := hrc.2.2.1; exact this.trans (show nb [32, 32, 32, 32, 32] = [] by decide)⟩
  · refine jtext_chunks (n := n) ?_ (by omega) (by rw [Nat.mul_succ]; omega)
    rw [hall, List.map_cons, tails_bodies, List.range_succ_eq_map, List.map_cons, List.map_map]
    unfold headRow
    rw [hrow.2.2]
    rfl
  · rw [h1.1]
    unfold headRow
    rw [hrow.2.2]
    exact hch
theorem groups_of {cols : Nat} {conts : Int} (hc : 8 ≤ cols) (hk : 0 ≤ conts) : ∀ {ps : List (Int × List Nat)} {cs : List CardD}, (∀ p ∈ ps, PairX cols conts p) → AllR RowCard (rowsAll cols ps) cs →
    ∃ res, Groups ((cols : Int) - 6) conts ps cs res ∧ ∀ n : Nat, (∀ (i : Nat) (c : CardD), cs[i]? = some c → c.line = (n : Int) + i + 1) → res.map (·.1) = firstsOf cols n ps
  | [], cs, _, h => by
    have : cs = [] := List.eq_nil_of_length_eq_zero h.1.symm
    subst this
    exact ⟨[], .nil, fun _ _ => rfl⟩
  | p :: ps, cs, hp, h => by
    have h' : AllR RowCard (fixedP cols p ++ rowsAll cols ps) cs := h
    obtain ⟨c1, c2, rfl, h1, h2⟩ := h'.split
    obtain ⟨res, hG, hL⟩ := groups_of hc hk (fun q hq => hp q (by simp [hq])) h2
    have hl := h1.1
    obtain ⟨hd, ts, rfl, g⟩ := group_of (hp p (by simp)) hc hk h1
    refine ⟨_, .cons g hG, fun n hn => ?_⟩
    rw [List.map_cons, firstsOf, hL (n + (fixedP cols p).length) fun i c hi => ?_]
    · have := hn 0 hd rfl
      simp only at this ⊢
      rw [this]
      congr 1
    · have := hn ((fixedP cols p).length + i) c (by rw [List.getElem?_append_right (by omega), hl, Nat.add_sub_cancel_left]; exact hi)
      omega
end Mine

namespace Mine
noncomputable def remarks : List (List Nat) := [[67], [42, 32, 32, 88, 61, 49], [], [99, 32, 49, 50, 51, 52, 53], [32, 32, 32, 32, 32, 32, 32, 32]]
theorem remark_com {z : List Nat} (h : z ∈ remarks) (cols : Nat) : isCom z cols = true := by
  have go : ∀ n c, (List.take c (List.replicate n 32)).filter (· != 32) = [] := fun n c => by
    rw [List.take_replicate]; exact nb_blanks _
  simp only [remarks, List.mem_cons, List.not_mem_nil, or_false] at h
  rcases h with rfl | rfl | rfl | rfl | rfl
  · rfl
  · rfl
  · unfold isCom; simp
  · rfl
  · have : (List.take cols [32, 32, 32, 32, 32, 32, 32, 32]).filter (· != 32) = [] := go 8 cols
    unfold isCom
    rw [decide_eq_true this, Bool.or_true]
theorem remark_free {z : List Nat} (h : z ∈ remarks) : 10 ∉ z ∧ z.length ≤ 8 := by
  revert z; decide
/-- the rows with remarks put in and each row turned -/
inductive Oth (cols : Nat) : List (List Nat) → List (List Nat) → Prop
  | nil : Oth cols [] []
  | row {rs ys r y} : Oth cols rs ys → AltR cols r y → Oth cols (rs ++ [r]) (ys ++ [y])
  | rem {rs ys z r y} : Oth cols rs ys → z ∈ remarks → AltR cols r y → Oth cols (rs ++ [r]) (ys ++ [z] ++ [y])
theorem numbered_snoc : ∀ (k : Nat) (xs : List (List Nat)) (x : List Nat), numbered k (xs ++ [x]) = numbered k xs ++ [(((k + xs.length : Nat) : Int) + 1, x)]
  | k, [], x => by simp [numbered]
  | k, y :: r, x => by
    rw [List.cons_append, numbered, numbered, numbered_snoc (k + 1) r x, List.cons_append]
    congr 4
    simp only [List.length_cons]
    omega
theorem Oth.cards {cols : Nat} {rs ys : List (List Nat)} (h : Oth cols rs ys) (hr : ∀ r ∈ rs, RowOk cols r) : AllR RowCard rs (cardsP cols (numbered 0 ys)) := by
  induction h with
  | nil => exact AllR.nil
  | row h a ih =>
    have g := alt_all (hr _ (by simp)) a
    rw [numbered_snoc, cardsP_snoc, g.1]
    exact (ih fun r q => hr r (by simp [q])).snoc (g.2.1 _)
  | rem h z a ih =>
    have g := alt_all (hr _ (by simp)) a
    rw [numbered_snoc, cardsP_snoc, numbered_snoc, cardsP_snoc, g.1, remark_com z]
    simp only [if_true, List.append_nil]
    exact (ih fun r q => hr r (by simp [q])).snoc (g.2.1 _)
theorem Oth.free {cols : Nat} {rs ys : List (List Nat)} (h : Oth cols rs ys) (hr : ∀ r ∈ rs, RowOk cols r) (hc : cols ≤ 16) : (∀ y ∈ ys, 10 ∉ y) ∧ (rs ≠ [] → ∃ a b, ys = a ++ [b] ∧ b ≠ []) ∧ ys.flatten.length + ys.length ≤ 29 * rs.length := by
  induction h with
  | nil => exact ⟨by simp, fun h => absurd rfl h, by simp⟩
  | row h a ih =>
    have g := alt_all (hr _ (by simp)) a
    obtain ⟨i1, _, i3⟩ := ih fun r q => hr r (by simp [q])
    refine ⟨fun y hy => ?_, fun _ => ⟨_, _, rfl, g.2.2.2.2.1⟩, ?_⟩
    · rcases List.mem_append.mp hy with hy | hy
      · exact i1 y hy
      · rw [List.mem_singleton.mp hy]; exact fun h10 => g.2.2.2.1 10 h10 rfl
    · have := g.2.2.2.2.2
      simp only [List.flatten_append, List.length_append, List.flatten_cons, List.flatten_nil, List.length_cons, List.length_nil, List.append_nil]
      omega
  | rem h z a ih =>
    have g := alt_all (hr _ (by simp)) a
    have z' := remark_free z
    obtain ⟨i1, _, i3⟩ := ih fun r q => hr r (by simp [q])
    refine ⟨fun y hy => ?_, fun _ => ⟨_, _, rfl, g.2.2.2.2.1⟩, ?_⟩
    · simp only [List.mem_append, List.mem_singleton] at hy
      rcases hy with (hy | rfl) | rfl
      · exact i1 y hy
      · exact z'.1
      · exact fun h10 => g.2.2.2.1 10 h10 rfl
    · have := g.2.2.2.2.2
      have := z'.2
      simp only [List.flatten_append, List.length_append, List.flatten_cons, List.flatten_nil, List.length_cons, List.length_nil, List.append_nil]
      omega
theorem Oth.refl {cols : Nat} {rs : List (List Nat)} (hr : ∀ r ∈ rs, RowOk cols r) : ∀ n, Oth cols (rs.take n) (rs.take n)
  | 0 => .nil
  | n + 1 => by
    have ih := Oth.refl hr n
    rw [List.take_add_one]
    cases h : rs[n]? with
    | none => simpa using ih
    | some r => exact .row ih (alt_self (hr r (List.mem_of_getElem? h)))
theorem Oth.refl' {cols : Nat} {rs : List (List Nat)} (hr : ∀ r ∈ rs, RowOk cols r) : Oth cols rs rs := by
  have := Oth.refl hr rs.length
  rwa [List.take_length] at this
theorem joinL_snoc (sep : List Nat) : ∀ (xs : List (List Nat)), xs ≠ [] → joinL sep xs ++ sep = joinL sep (xs ++ [[]])
  | [], h => absurd rfl h
  | [x], _ => by simp [joinL]
  | x :: y :: r, _ => by
    show x ++ sep ++ joinL sep (y :: r) ++ sep = x ++ sep ++ joinL sep ((y :: r) ++ [[]])
    rw [List.append_assoc, joinL_snoc sep (y :: r) (by simp)]
theorem joinL_len (sep : List Nat) : ∀ xs : List (List Nat), (joinL sep xs).length ≤ xs.flatten.length + xs.length * sep.length
  | [] => by simp [joinL]
  | [x] => by simp [joinL]
  | x :: y :: r => by
    have ih := joinL_len sep (y :: r)
    show (x ++ sep ++ joinL sep (y :: r)).length ≤ _
    rw [List.flatten_cons, List.length_append, List.length_append, List.length_append, List.length_cons (a := x), Nat.add_mul]
    omega
theorem rowsOf_end {ys : List (List Nat)} (hn : ys ≠ []) (hf : ∀ y ∈ ys, 10 ∉ y) : rowsOf (joinL [10] ys ++ [10]) = ys := by
  have e : splitL (joinL [10] ys ++ [10]) = ys ++ [[]] := by
    rw [joinL_snoc _ _ hn, splitL_join _ (by simp) fun x hx => ?_]
    rcases List.mem_append.mp hx with h | h
    · exact hf x h
    · rw [List.mem_singleton.mp h]; simp
  unfold rowsOf
  rw [e, if_pos (by simp), List.dropLast_concat]
theorem rowsOf_open {a : List (List Nat)} {b : List Nat} (hb : b ≠ []) (hf : ∀ y ∈ a ++ [b], 10 ∉ y) : rowsOf (joinL [10] (a ++ [b])) = a ++ [b] := by
  unfold rowsOf
  rw [splitL_join _ (by simp) hf, if_neg (by simpa using hb)]
theorem rows_ne {cols : Nat} {ps : List (Int × List Nat)} (hp : ps ≠ []) : rowsAll cols ps ≠ [] := by
  cases ps with
  | nil => exact absurd rfl hp
  | cons p r => unfold rowsAll fixedP fixedL rowsTo; simp
theorem pair_rows {cols : Nat} {conts : Int} {p : Int × List Nat} (h : PairX cols conts p) (hc : 8 ≤ cols) : (fixedP cols p).length ≤ 7 := by
  unfold fixedP fixedL
  rw [rowsTo_len]
  obtain ⟨x, hx, hl, _⟩ := h.sgs
  have e : p.2.length ≤ 14 := by rw [hx, List.length_cons]; omega
  have : (p.2.length - 1) / (cols - 6) ≤ 13 / 2 := Nat.div_le_div (by omega) (by omega) (by omega)
  omega
theorem rows_many {cols : Nat} {conts : Int} (hc : 8 ≤ cols) : ∀ {ps : List (Int × List Nat)}, (∀ p ∈ ps, PairX cols conts p) → (rowsAll cols ps).length ≤ 7 * ps.length
  | [], _ => by simp [rowsAll]
  | p :: r, h => by
    have h1 := pair_rows (h p (by simp)) hc
    have h2 := rows_many hc (ps := r) fun q hq => h q (by simp [hq])
    unfold rowsAll at *
    rw [List.map_cons, List.flatten_cons, List.length_append, List.length_cons]
    omega
theorem read_any {cols : Nat} {conts : Int} {ps : List (Int × List Nat)} {ys : List (List Nat)} (hc : 8 ≤ cols) (hk : 0 ≤ conts) (hp : ∀ p ∈ ps, PairX cols conts p) (h : Oth cols (rowsAll cols ps) ys) :
    ∃ res, Runs ((cols : Int) - 6) conts [] [] (cardsP cols (numbered 0 ys)) res ∧ res.map (·.2) = ps ∧ ∀ n : Nat, (∀ (i : Nat) (c : CardD), (cardsP cols (numbered 0 ys))[i]? = some c → c.line = (n : Int) + i + 1) → res.map (·.1) = firstsOf cols n ps := by
  obtain ⟨res, hG, hL⟩ := groups_of hc hk hp (h.cards (rows_ok hp hc))
  exact ⟨res, runs_groups hG, groups_told hG, hL⟩
theorem cards_lines {cols : Nat} {rs : List (List Nat)} (hr : ∀ r ∈ rs, RowOk cols r) : ∀ (i : Nat) (c : CardD), (cardsP cols (numbered 0 rs))[i]? = some c → c.line = ((0 : Nat) : Int) + i + 1 := by
  have e : (numbered 0 rs).filter (fun p => !isCom p.2 cols) = numbered 0 rs := by
    rw [List.filter_eq_self]
    intro p hp
    have hm := hr _ (numbered_mem 0 rs p hp)
    rw [(alt_all hm (alt_self hm)).1]; rfl
  intro i c hi
  unfold cardsP at hi
  rw [e, List.getElem?_map] at hi
  cases hn : (numbered 0 rs)[i]? with
  | none => rw [hn] at hi; cases hi
  | some p =>
    rw [hn] at hi
    cases hi
    have hlt : i < rs.length := by rw [← numbered_len 0 rs]; exact (List.getElem?_eq_some_iff.mp hn).1
    have := numbered_get 0 rs i rs[i] (by simp [hlt])
    rw [hn] at this
    cases this
    show ((0 + i : Nat) : Int) + 1 = _
    omega
/-- the rows are read as the statements, each at its first card -/
theorem read_rows {cols : Nat} {conts : Int} {ps : List (Int × List Nat)} (hc : 8 ≤ cols) (hc2 : cols ≤ 16) (hk : 0 ≤ conts) (hn : ps ≠ []) (hp : ∀ p ∈ ps, PairX cols conts p) :
    ∃ res, Runs ((cols : Int) - 6) conts [] [] (cardsP cols (numbered 0 (rowsOf (joinL [10] (rowsAll cols ps) ++ [10])))) res ∧ res.map (·.2) = ps ∧ res.map (·.1) = firstsOf cols 0 ps := by
  have hr := rows_ok hp hc
  have ho := Oth.refl' hr
  rw [rowsOf_end (rows_ne hn) (ho.free hr hc2).1]
  obtain ⟨res, h1, h2, h3⟩ := read_any hc hk hp ho
  exact ⟨res, h1, h2, h3 0 (cards_lines hr)⟩
/-- and so are the rows that the law has turned -/
theorem read_others {cols : Nat} {conts : Int} {ps : List (Int × List Nat)} {ys : List (List Nat)} (hc : 8 ≤ cols) (hc2 : cols ≤ 16) (hk : 0 ≤ conts) (hn : ps ≠ []) (hp : ∀ p ∈ ps, PairX cols conts p) (h : Oth cols (rowsAll cols ps) ys) :
    ∃ res, Runs ((cols : Int) - 6) conts [] [] (cardsP cols (numbered 0 (rowsOf (joinL [10] ys)))) res ∧ res.map (·.2) = ps := by
  obtain ⟨hf, hl, _⟩ := h.free (rows_ok hp hc) hc2
  obtain ⟨a, b, rfl, hb⟩ := hl (rows_ne hn)
  rw [rowsOf_open hb hf]
  obtain ⟨res, h1, h2, _⟩ := read_any hc hk hp h
  exact ⟨res, h1, h2⟩
theorem rows_size {cols : Nat} {conts : Int} {ps : List (Int × List Nat)} (hc : 8 ≤ cols) (hc2 : cols ≤ 16) (hn : ps.length ≤ 4) (hp : ∀ p ∈ ps, PairX cols conts p) {ys : List (List Nat)} (h : Oth cols (rowsAll cols ps) ys) :
    (joinL [10] ys).length ≤ 812 ∧ ys.flatten.length + ys.length ≤ 812 ∧ (rowsAll cols ps).length ≤ 28 := by
  have h1 := rows_many hc hp
  have h2 := (h.free (rows_ok hp hc) hc2).2.2
  have h3 := joinL_len [10] ys
  simp only [List.length_cons, List.length_nil] at h3
  omega
end Mine

namespace Mine
theorem seq_M {M : Model} {A : Around} {E : Value → Shared → Prop} {env : Env} {s : Shared} {st : Stmt} {rest : List Stmt} {Q : Flow → Shared → Prop} (MID : Shared → Prop)
    (h1 : wpAny M A (exec st env) (fun f s' => f = .next ∧ MID s') E s) (h2 : ∀ s', MID s' → wpAny M A (execs rest env) Q E s') : wpAny M A (execs (st :: rest) env) Q E s :=
  wpAny_execs_cons (wpAny_mono h1 (fun f s' h => by obtain ⟨rfl, hm⟩ := h; exact h2 s' hm) fun _ _ x => x)
/-- what stands in law's frame -/
noncomputable def AtM (h₀ : Heap) (L : Addr) (s : Shared) (P : (Str → Option Value) → List (Addr × Obj) → Prop) (s' : Shared) : Prop :=
  ∃ h tk m news, s' = { s with heap := h, toks := tk } ∧ Fr h₀ L h m ∧ News h₀ L h news ∧ P m news
theorem seq_F {M : Model} {A : Around} {E : Value → Shared → Prop} {env : Env} {s : Shared} {st : Stmt} {rest : List Stmt} {Q : Flow → Shared → Prop} {h₀ : Heap} {L : Addr} {m : Str → Option Value} (_F : Fr h₀ L s.heap m) (P : (Str → Option Value) → (Str → Option Value) → List (Addr × Obj) → Prop)
    (h1 : wpAny M A (exec st env) (fun f s' => f = .next ∧ AtM h₀ L s (P m) s') E s) (h2 : ∀ h tk m' news', Fr h₀ L h m' → News h₀ L h news' → P m m' news' → wpAny M A (execs rest env) Q E { s with heap := h, toks := tk }) : wpAny M A (execs (st :: rest) env) Q E s :=
  seq_M (AtM h₀ L s (P m)) h1 fun s' ⟨h, tk, m', news', e, F', N', hp⟩ => by rw [e]; exact h2 h tk m' news' F' N' hp
end Mine

namespace Mine
noncomputable def recOf {q : Program} {loose : List Str} {XP : (Str → Option Value) → Heap → Prop} {YP : World → Heap → Prop} {r : RowW} {d : DefRec} {kwd : List (Str × Expr)} {run : Value → List Value → Sem Value} {H : Prop} (_ : WalkO q loose XP YP r d kwd run → H) : DefRec := d
/-- the law's own record, by name -/
noncomputable def LAW : DefRec := recOf hd
noncomputable def LS : Scope := LAW.scope
noncomputable def forBody : Stmt → List Stmt
  | .For _ _ b _ _ => b
  | _ => []
noncomputable def LB (n : Nat) : List Stmt := LAW.body.drop n
noncomputable def TURN1 : List Stmt := match LB 4 with | st :: _ => forBody st | [] => []
noncomputable def TURN2 : List Stmt := match LB 10 with | st :: _ => forBody st | [] => []
noncomputable abbrev LE (L a : Addr) (cd : Value) : Env := envOf (Str.ofString "law") LS L a cd
noncomputable abbrev LA (L a : Addr) (cd : Value) : Around := callerA.deeper (LE L a cd)
end Mine
namespace Mine
/-- the limits, the signs and their bounds -/
structure LawB (rest : List (Addr × Obj)) (c l x : Addr) (cols : Nat) (conts : Int) (vs : List Value) (nl : Nat) (ns : List Int) : Prop where
  lim : IsLim rest (.ref x) cols conts
  mem : (l, W.listOf vs.toArray nl) ∈ rest
  isi : IntsAre vs ns
  len : vs.length ≤ 60
  c1 : 8 ≤ cols
  c2 : cols ≤ 16
  k1 : 0 ≤ conts
  k2 : conts ≤ 4
  lc : l ≠ c
/-- ahead of the first loop -/
noncomputable def P2 (m' : Str → Option Value) (news' : List (Addr × Obj)) : Prop :=
  ∃ (m u : Str → Option Value) (c l pl fl x : Addr) (cols : Nat) (conts k : Int) (tk tcol tct : Tok) (n nl : Nat) (vs : List Value) (ns : List Int) (rest : List (Addr × Obj)),
    m' = mk [] [(Str.ofString "cloth", .ref c), (Str.ofString "columns", .int cols tcol), (Str.ofString "limits", .ref x), (Str.ofString "pairs", .ref pl), (Str.ofString "firsts", .ref fl), (Str.ofString "count", .int 1 tct)] u m ∧
    news' = (c, cloth l k tk n) :: (pl, W.listOf #[] 0) :: (fl, W.listOf #[] 0) :: rest ∧ LawB rest c l x cols conts vs nl ns ∧ 0 ≤ k ∧ k ≤ 5 ∧
    (∀ p ∈ (pl, W.listOf #[] 0) :: (fl, W.listOf #[] 0) :: rest, p.1 ≠ c) ∧ (∀ p ∈ (fl, W.listOf #[] 0) :: rest, p.1 ≠ pl) ∧ ∀ p ∈ rest, p.1 ≠ fl
end Mine
namespace Mine
/-- behind law's first statement -/
noncomputable def P1 (m' : Str → Option Value) (news' : List (Addr × Obj)) : Prop :=
  ∃ (m u : Str → Option Value) (c l : Addr) (tk : Tok) (vs : List Value) (ns : List Int) (nl : Nat), m' = mk [] [(Str.ofString "cloth", .ref c)] u m ∧ news' = [(c, cloth l 0 tk 0), (l, W.listOf vs.toArray nl)] ∧ IntsAre vs ns ∧ vs.length ≤ 60 ∧ l < c
end Mine
namespace Mine
theorem lim_close {h₀ h : Heap} {L x d c l : Addr} {tk : Tok} {k : Int} {n nl : Nat} {vs : List Value} {ns : List Int} {cols : Nat} {conts : Int}
    {h1 h2 h3 h4 h5 h6 h7 h8 : Int} {k1 k2 k3 k4 k5 k6 k7 k8 : Tok} {v1 v2 v3 v4 v5 v8 : Value} {t6 t7 : Tok}
    (N : News h₀ L h [(x, instObj 169 d), (d, dictOf [⟨h1, .str (Str.ofString "width") k1, v1⟩, ⟨h2, .str (Str.ofString "real_digits") k2, v2⟩, ⟨h3, .str (Str.ofString "double_digits") k3, v3⟩, ⟨h4, .str (Str.ofString "top_exponent") k4, v4⟩, ⟨h5, .str (Str.ofString "steps") k5, v5⟩,
      ⟨h6, .str (Str.ofString "continuations") k6, .int conts t6⟩, ⟨h7, .str (Str.ofString "columns") k7, .int cols t7⟩, ⟨h8, .str (Str.ofString "depth") k8, v8⟩] 8), (c, cloth l k tk n), (l, W.listOf vs.toArray nl)])
    (hI : IntsAre vs ns) (hlen : vs.length ≤ 60) (hlc : l < c) (l1 : c < d ∧ l < d) (l2 : d < x) (c1 : 8 ≤ cols) (c2 : cols ≤ 16) (b1 : 0 ≤ conts) (b2 : conts < 5) :
    ∃ rest, News h₀ L h ((c, cloth l k tk n) :: rest) ∧ LawB rest c l x cols conts vs nl ns ∧ ∀ p ∈ rest, p.1 ≠ c := by
  refine ⟨[(x, instObj 169 d), (d, dictOf [⟨h1, .str (Str.ofString "width") k1, v1⟩, ⟨h2, .str (Str.ofString "real_digits") k2, v2⟩, ⟨h3, .str (Str.ofString "double_digits") k3, v3⟩, ⟨h4, .str (Str.ofString "top_exponent") k4, v4⟩, ⟨h5, .str (Str.ofString "steps") k5, v5⟩,
      ⟨h6, .str (Str.ofString "continuations") k6, .int conts t6⟩, ⟨h7, .str (Str.ofString "columns") k7, .int cols t7⟩, ⟨h8, .str (Str.ofString "depth") k8, v8⟩] 8), (l, W.listOf vs.toArray nl)], fun p hp => N p ?_, ⟨?_, by simp, hI, hlen, c1, c2, b1, by omega, Nat.ne_of_lt hlc⟩, ?_⟩
  · simp only [List.mem_cons, List.not_mem_nil, or_false] at hp ⊢; grind
  · exact ⟨x, d, h1, h2, h3, h4, h5, h6, h7, h8, k1, k2, k3, k4, k5, k6, k7, k8, v1, v2, v3, v4, v5, v8, t6, t7, rfl, .head _, .tail _ (.head _)⟩
  · intro p hp
    simp only [List.mem_cons, List.not_mem_nil, or_false] at hp
    rcases hp with rfl | rfl | rfl
    · exact Nat.ne_of_gt (Nat.lt_trans l1.1 l2)
    · exact Nat.ne_of_gt l1.1
    · exact Nat.ne_of_lt hlc
end Mine

namespace Mine
noncomputable def lawN (c pl fl : Addr) (cols : Nat) (conts : Int) (ps : List (Int × List Nat)) : Nam := [(Str.ofString "cloth", .ref c), (Str.ofString "columns", .int cols), (Str.ofString "limits", .lim cols conts), (Str.ofString "pairs", .ref pl), (Str.ofString "firsts", .ref fl), (Str.ofString "count", .int (((rowsAll cols ps).length : Int) + 1))]
noncomputable def lawT (c l pl fl : Addr) (k : Int) (ns : List Int) (cols : Nat) (ps : List (Int × List Nat)) : Led := [(c, [.ref l, .int k]), (l, ns.map .int), (pl, ps.map .pair), (fl, (firstsOf cols 0 ps).map .int)]
theorem Cx.Ok.held {c : Cx} {rd ru : Nat} (ok : c.Ok rd ru) (v : Value) : (c.held v).Ok rd ru := ⟨ok.kin, ok.top, ⟨rfl, ok.bel.stays, ok.bel.frames⟩, ok.rd, ok.ru⟩
theorem perm5 {α : Type} (a b d e f : α) : List.Perm [a, b, d, e, f] ([e, f, b, a] ++ [d]) := (List.perm_append_comm (l₁ := [a, b, d]) (l₂ := [e, f])).trans ((List.Perm.swap b a [d]).append_left [e, f])
theorem firstsOf_snoc (cols : Nat) (p : Int × List Nat) : ∀ (ps : List (Int × List Nat)) (n : Nat), firstsOf cols n (ps ++ [p]) = firstsOf cols n ps ++ [((n + (rowsAll cols ps).length : Nat) : Int) + 1]
  | [], n => by simp [firstsOf, rowsAll]
  | q :: ps, n => by
    rw [List.cons_append, firstsOf, firstsOf, firstsOf_snoc cols p ps, List.cons_append]
    congr 4
    unfold rowsAll
    rw [List.map_cons, List.flatten_cons, List.length_append]
    omega
theorem firstsOf_len (cols : Nat) : ∀ (ps : List (Int × List Nat)) (n : Nat), (firstsOf cols n ps).length = ps.length
  | [], _ => rfl
  | p :: ps, n => by rw [firstsOf, List.length_cons, List.length_cons, firstsOf_len cols ps]
/-- the turn behind the try -/
theorem turn_end {cx : Cx} {c l pl fl D : Addr} {k : Int} {ns : List Int} {cols : Nat} {conts : Int} {ps : List (Int × List Nat)} {p : Int × List Nat} {KT : Fw → Nam → Led → Prop} (ok : cx.Ok 100 1000) (hn0 : cx.hnd = none) (hpl : ps.length ≤ 5) (hp : p.2.length ≤ 100)
    (hKT : ∀ M n, Has M (lawN c pl fl cols conts (ps ++ [p])) → Sub (lawT c l pl fl k ns cols (ps ++ [p])) n → KT .next M n) :
    Ex ⟨Str.ofString "law", LS⟩ cx noE ((Str.ofString "cards", .ref D) :: (Str.ofString "is_long", .bool false) :: (Str.ofString "text", .str p.2) :: (Str.ofString "label", .int p.1) :: lawN c pl fl cols conts ps) ((D, (fixedP cols p).map .str) :: lawT c l pl fl k ns cols ps) (TURN1.drop 3) KT := by
  have hsc : LS = LS := rfl
  conv at hsc => rhs; whnf
  have hbd : TURN1.drop 3 = TURN1.drop 3 := rfl
  conv at hbd => rhs; whnf
  rw [hbd, hsc]
  clear hbd hsc
  have hfl : (fixedP cols p).length ≤ 101 := fixedP_len hp
  have e1 : ps.map Dv.pair ++ [Dv.pair (p.1, p.2)] = (ps ++ [p]).map .pair := by rw [List.map_append]; rfl
  have e2 : (firstsOf cols 0 ps).map Dv.int ++ [Dv.int (((rowsAll cols ps).length : Int) + 1)] = (firstsOf cols 0 (ps ++ [p])).map .int := by rw [firstsOf_snoc, List.map_append, Nat.zero_add]; rfl
  have e3 : ((rowsAll cols ps).length : Int) + 1 + (((fixedP cols p).map Dv.str).length : Int) = ((rowsAll cols (ps ++ [p])).length : Int) + 1 := by
    rw [rowsAll_snoc, List.length_append, List.length_map]; omega
  refine vRun ok hn0 rfl rfl ?_
  refine IfP.plain (and_bool (fun hq => nomatch hq) fun _ => ?_)
  refine ListAt.mk _ (.tail _ (.tail _ (.tail _ (.head _)))) ⟨_, _, List.perm_middle (l₁ := [_, _, _]) (l₂ := [_]), by rw [List.length_map]; omega, ?_⟩
  refine ListAt.mk _ (.tail _ (.tail _ (.tail _ (.tail _ (.head _))))) ⟨_, _, List.perm_middle (l₁ := [_, _, _, _]) (l₂ := []), by rw [List.length_map, firstsOf_len]; omega, ?_⟩
  refine ListAt.mk _ (.tail _ (.tail _ (.head _))) (And.intro (by rw [List.length_map]; omega) ?_)
  rw [e1, e2]
  exact hKT _ _ ⟨rfl, rfl, rfl, rfl, rfl, congrArg (fun z => some (Dv.int z)) e3, trivial⟩ ⟨_, perm5 _ _ _ _ _⟩
theorem turn_Q {cx : Cx} {c l pl fl : Addr} {k : Int} {ns : List Int} {cols : Nat} {conts : Int} {ps : List (Int × List Nat)} {i : Int} {KT : Fw → Nam → Led → Prop} (ok : cx.Ok 100 1000) (hn0 : cx.hnd = none) (hbase : cx.base = cx.h₀) (hc1 : 8 ≤ cols) (hc2 : cols ≤ 16) (hk1 : 0 ≤ conts) (hk2 : conts ≤ 4)
    (hlen : ns.length ≤ 60) (h0 : 0 ≤ k) (h1 : k ≤ 1000) (hpl : ps.length ≤ 5) (hps : ∀ p ∈ ps, PairX cols conts p)
    (hKT : ∀ k' p, k ≤ k' → k' ≤ k + 20 → PairX cols conts p → ∀ M n, Has M (lawN c pl fl cols conts (ps ++ [p])) → Sub (lawT c l pl fl k' ns cols (ps ++ [p])) n → KT .next M n) :
    Ex ⟨Str.ofString "law", LS⟩ cx noE ((Str.ofString "turn", .int i) :: lawN c pl fl cols conts ps) (lawT c l pl fl k ns cols ps) TURN1 KT := by
  have hsc : LS = LS := rfl
  conv at hsc => rhs; whnf
  have hbd : TURN1 = TURN1 := rfl
  conv at hbd => rhs; whnf
  rw [hbd, hsc]
  clear hbd hsc
  refine Ex.unpack hn0 rfl rfl rfl (by decide) rfl rfl ((vE_ok ok hn0 rfl rfl).1 _ _ _ ?_)
  refine Calls.of (nr := [(pl, ps.map .pair), (fl, (firstsOf cols 0 ps).map .int)]) (ls_Q (c := c) (l := l) hlen h0 (by omega)) (by decide) (by decide) (.refl _) ?_
  rintro _ _ ⟨lab, x, k', rfl, hlab, hx, hsg, q0, q1, rfl⟩
  refine ⟨_, rfl, ?_⟩
  have hxl : (88 :: x).length ≤ 100 := by rw [List.length_cons]; omega
  have hwd : ((cols - 6 : Nat) : Int) = (cols : Int) - 6 := by omega
  have hm : IntMulOk ((cols : Int) - 6) (conts + 1) := IntMulOk.of_left (by
    unfold Builtin.Int.intBits
    split
    · decide
    · have : ((cols : Int) - 6).natAbs < 2 ^ 20 := by omega
      have := (Nat.log2_lt (by omega)).mpr this
      omega)
  have hb : ∀ {a b : Int}, 0 ≤ a → a < 1000 → True := fun _ _ => trivial
  refine Ex.assign (Ev.cmp1 ((vE_ok ok hn0 rfl rfl).1 _ _ _ (And.intro (Nat.le_trans hxl (by decide)) (Ev.bin2 ((vE_ok ok hn0 rfl rfl).1 _ _ _ ?_)))) rfl) rfl rfl rfl
  refine (vE_ok ok hn0 rfl rfl).1 _ _ _ ?_
  refine T2.prim (P.mulI hm (T2.prim (P.gtI' ?_)))
  rw [← hwd]
  have h6 : 0 ≤ lab ∧ lab < 1000000 := by rcases hlab with h | h | h | h <;> omega
  refine Ex.tryCall (fa := 180) (KR := (((cols - 6 : Nat) : Int)) * (conts + 1) < ((88 :: x).length : Int)) ok hn0 hbase (fun w => fns_ok (g := Str.ofString "fixed_rows") rfl w) rfl rfl rfl rfl rfl rfl rfl (vArgs_ok (fun _ _ _ => (vE_ok ok hn0 rfl rfl).1 _ _ _) rfl ?_)
  have hfin : ∀ (b : List Nat) (D : Addr) (n : Led) (M : Nam), PairX cols conts (lab, b) → True := fun _ _ _ _ _ => trivial
  refine ⟨50, 500, _, fr_two (lt := labT lab) (by omega) (by omega) hk1 (by omega) h6.1 h6.2 (labT_ok hlab) (labT_len hlab) hxl (fun _ => rfl), by decide, by decide, ?_, ?_⟩
  · rintro _ _ ⟨hfit, D, rfl, rfl⟩
    have hdf : decide ((((cols - 6 : Nat) : Int)) * (conts + 1) < ((88 :: x).length : Int)) = false := decide_eq_false hfit
    have hpx : PairX cols conts (lab, 88 :: x) := ⟨⟨hlab, hxl, by show ((88 :: x).length : Int) ≤ _; rw [← hwd]; exact Int.not_lt.mp hfit⟩, x, rfl, hx, hsg⟩
    have hM : Has ((Str.ofString "cards", Dv.ref D) :: (Str.ofString "is_long", .bool (decide ((((cols - 6 : Nat) : Int)) * (conts + 1) < ((88 :: x).length : Int)))) :: (Str.ofString "text", .str (88 :: x)) :: (Str.ofString "label", .int lab) :: (Str.ofString "turn", .int i) :: lawN c pl fl cols conts ps)
      ((Str.ofString "cards", .ref D) :: (Str.ofString "is_long", .bool false) :: (Str.ofString "text", .str (88 :: x)) :: (Str.ofString "label", .int lab) :: lawN c pl fl cols conts ps) := ⟨rfl, congrArg (fun z => some (Dv.bool z)) hdf, rfl, rfl, rfl, rfl, rfl, rfl, rfl, rfl, trivial⟩
    exact Ex.weak (fun _ _ q => hM.get q) (Sub.refl _) (turn_end (p := (lab, 88 :: x)) ok hn0 hpl hxl fun M n a b => hKT k' _ q0 q1 hpx M n a b)
  · intro kr ex
    have hdt : decide ((((cols - 6 : Nat) : Int)) * (conts + 1) < ((88 :: x).length : Int)) = true := decide_eq_true kr
    have hcut : List.take ((cols : Int) - 6).toNat (88 :: x) = 88 :: x.take (cols - 7) := by
      obtain ⟨v, hv⟩ : ∃ v, ((cols : Int) - 6).toNat = v + 1 ∧ cols - 7 = v := ⟨cols - 7, by omega, rfl⟩
      rw [hv.1, hv.2, List.take_succ_cons]
    have hx2 : (x.take (cols - 7)).length ≤ 13 ∧ (x.take (cols - 7)).length ≤ cols - 7 := by rw [List.length_take]; omega
    have hpo : PairOk cols conts (lab, 88 :: x.take (cols - 7)) := by
      refine ⟨hlab, ?_, ?_⟩
      · show (88 :: x.take (cols - 7)).length ≤ 100
        rw [List.length_cons]; omega
      · show ((88 :: x.take (cols - 7)).length : Int) ≤ ((cols : Int) - 6) * (conts + 1)
        have h2 : ((cols : Int) - 6) * 1 ≤ ((cols : Int) - 6) * (conts + 1) := Int.mul_le_mul_of_nonneg_left (by omega) (by omega)
        rw [List.length_cons]; omega
    have hpx : PairX cols conts (lab, 88 :: x.take (cols - 7)) := ⟨hpo, _, rfl, hx2.1, fun z hz => hsg z (List.mem_of_mem_take hz)⟩
    refine vRun (ok.held _) rfl rfl rfl ?_
    refine IfP.plain (and_bool (fun hq => ?_) fun _ => ?_)
    · rw [hdt] at hq
      exact nomatch hq
    refine And.intro (Nat.le_trans hxl (by decide)) (And.intro (by omega) ?_)
    rw [hcut]
    refine Calls.of (fr_Q (p := (lab, 88 :: x.take (cols - 7))) (by omega) (by omega) hk1 (by omega) hpo) (by decide) (by decide) (.refl _) ?_
    rintro _ _ ⟨D, rfl, rfl⟩
    have hM : Has ((Str.ofString "is_long", .bool false) :: (Str.ofString "cards", Dv.ref D) :: (Str.ofString "text", .str (88 :: x.take (cols - 7))) :: (Str.ofString "is_long", .bool (decide ((((cols - 6 : Nat) : Int)) * (conts + 1) < ((88 :: x).length : Int)))) :: (Str.ofString "text", .str (88 :: x)) :: (Str.ofString "label", .int lab) :: (Str.ofString "turn", .int i) :: lawN c pl fl cols conts ps)
      ((Str.ofString "cards", .ref D) :: (Str.ofString "is_long", .bool false) :: (Str.ofString "text", .str (88 :: x.take (cols - 7))) :: (Str.ofString "label", .int lab) :: lawN c pl fl cols conts ps) := ⟨rfl, rfl, rfl, rfl, rfl, rfl, rfl, rfl, rfl, rfl, trivial⟩
    exact Ex.weak (fun _ _ q => hM.get q) (Sub.refl _) (turn_end (p := (lab, 88 :: x.take (cols - 7))) ok hn0 hpl hpo.len fun M n a b => hKT k' _ q0 q1 hpx M n a b)
end Mine

namespace Mine
theorem law_loop {cx : Cx} {c l pl fl : Addr} {k : Int} {ns : List Int} {cols : Nat} {conts : Int} {KT : Fw → Nam → Led → Prop} (ok : cx.Ok 100 1000) (hn0 : cx.hnd = none) (hbase : cx.base = cx.h₀) (hc1 : 8 ≤ cols) (hc2 : cols ≤ 16) (hk1 : 0 ≤ conts) (hk2 : conts ≤ 4)
    (hlen : ns.length ≤ 60) (h0 : 0 ≤ k) (h1 : k ≤ 5)
    (hrest : ∀ k' ps, 0 ≤ k' → k' ≤ 100 → ps ≠ [] → ps.length ≤ 4 → (∀ p ∈ ps, PairX cols conts p) → Ex ⟨Str.ofString "law", LS⟩ cx noE (lawN c pl fl cols conts ps) (lawT c l pl fl k' ns cols ps) (LB 5) KT) :
    Ex ⟨Str.ofString "law", LS⟩ cx noE (lawN c pl fl cols conts []) (lawT c l pl fl k ns cols []) (LB 4) KT := by
  have hsc : LS = LS := rfl
  conv at hsc => rhs; whnf
  have hbd : LB 4 = LB 4 := rfl
  conv at hbd => rhs; whnf
  rw [hbd, hsc]
  clear hbd hsc
  refine Ex.forR ok hn0 rfl rfl rfl rfl ((vE_ok ok hn0 rfl rfl).1 _ _ _ ?_)
  refine snip_C (nr := [(pl, []), (fl, [])]) hlen h0 (by omega) (by decide) (by decide) (by decide) (by decide) (.refl _) fun v g0 g1 => ?_
  refine ⟨(1 + v).toNat, congrArg Dv.int (by omega), by omega, Int × List (Int × List Nat), fun x => lawN c pl fl cols conts x.2, fun x => lawT c l pl fl x.1 ns cols x.2, fun i x => 0 ≤ x.1 ∧ x.1 ≤ 10 + 20 * i ∧ x.2.length = i ∧ ∀ p ∈ x.2, PairX cols conts p, (k + 1, []), ⟨rfl, rfl, rfl, rfl, rfl, rfl, trivial⟩, Sub.refl _, ⟨by omega, by omega, rfl, mem0⟩, ?_, ?_⟩
  · rintro i ⟨k1, ps⟩ KT' hi ⟨q0, q1, q2, q3⟩ hKT' -
    replace q0 : 0 ≤ k1 := q0
    replace q1 : k1 ≤ 10 + 20 * i := q1
    replace q2 : ps.length = i := q2
    refine turn_Q (ps := ps) (k := k1) ok hn0 hbase hc1 hc2 hk1 hk2 hlen q0 (by omega) (by omega) q3 fun k' p r0 r1 hp M n hM hS => hKT' .next (k', ps ++ [p]) M n trivial hM hS ⟨Int.le_trans q0 r0, by show k' ≤ 10 + 20 * ((i + 1 : Nat) : Int); omega, by rw [List.length_append, q2]; rfl, ?_⟩
    exact List.forall_mem_append.mpr ⟨q3, mem1 hp mem0⟩
  · rintro ⟨k1, ps⟩ ⟨q0, q1, q2, q3⟩
    replace q0 : 0 ≤ k1 := q0
    replace q1 : k1 ≤ 10 + 20 * ((1 + v).toNat : Nat) := q1
    replace q2 : ps.length = (1 + v).toNat := q2
    refine hrest k1 ps q0 (by omega) (fun e => ?_) (by omega) q3
    rw [e] at q2
    have : (0 : Nat) = (1 + v).toNat := q2
    omega
end Mine

namespace Mine
theorem law_read {cx : Cx} {c l pl fl : Addr} {k : Int} {ns : List Int} {cols : Nat} {conts : Int} {ps : List (Int × List Nat)} {KT : Fw → Nam → Led → Prop} (ok : cx.Ok 100 1000) (hn0 : cx.hnd = none) (hc1 : 8 ≤ cols) (hc2 : cols ≤ 16) (hk1 : 0 ≤ conts) (hk2 : conts ≤ 4)
    (hne : ps ≠ []) (hn4 : ps.length ≤ 4) (hps : ∀ p ∈ ps, PairX cols conts p)
    (hrest : ∀ R D (res : List T3), res.map (·.2) = ps → res.map (·.1) = firstsOf cols 0 ps → Ex ⟨Str.ofString "law", LS⟩ cx noE ((Str.ofString "read", .ref D) :: (Str.ofString "rows", .ref R) :: lawN c pl fl cols conts ps)
      ([(D, res.map .t3), (R, (rowsAll cols ps).map .str), (pl, ps.map .pair), (c, [.ref l, .int k]), (l, ns.map .int), (fl, (firstsOf cols 0 ps).map .int)]) (LB 7) KT) :
    Ex ⟨Str.ofString "law", LS⟩ cx noE (lawN c pl fl cols conts ps) (lawT c l pl fl k ns cols ps) (LB 5) KT := by
  have hrok := rows_ok hps hc1
  obtain ⟨sz1, sz2, sz3⟩ := rows_size hc1 hc2 hn4 hps (Oth.refl' hrok)
  obtain ⟨res, hrun, hres, hres1⟩ := read_rows hc1 hc2 hk1 hne hps
  have hsc : LS = LS := rfl
  conv at hsc => rhs; whnf
  have hbd : LB 5 = LB 5 := rfl
  conv at hbd => rhs; whnf
  rw [hbd, hsc]
  clear hbd hsc
  refine Ex.assign ((vE_ok ok hn0 rfl rfl).1 _ _ _ ?_) rfl rfl rfl
  refine Calls.of (lr_Q (l := pl) (by omega) (by omega) hk1 (by omega) (fun p hp => (hps p hp).ok) (by omega)) (by decide) (by decide) (List.perm_middle (l₁ := [_, _]) (l₂ := [_])) ?_
  rintro _ _ ⟨R, rfl, rfl⟩
  refine Ex.assign ((vE_ok ok hn0 rfl rfl).1 _ _ _ ?_) rfl rfl rfl
  refine ListAt.mk _ (.head _) ⟨rowsAll cols ps, rfl, ?_, And.intro ?_ ?_⟩
  · rw [lit_nl]
    show _ + _ * 1 ≤ _
    omega
  · rw [lit_nl]
    show _ + 1 ≤ _
    omega
  · rw [lit_nl]
    refine Calls.of (nr := [(R, (rowsAll cols ps).map .str), (pl, ps.map .pair), (c, [.ref l, .int k]), (l, ns.map .int), (fl, (firstsOf cols 0 ps).map .int)]) (rs_Q (by rw [List.length_append]; show _ + 1 ≤ _; omega) (by omega) (by omega) (by omega) hrun) (by decide) (by decide) (.refl _) ?_
    rintro _ _ ⟨D, rfl, rfl⟩
    exact hrest R D res hres hres1
end Mine

namespace Mine
noncomputable def dP (p : Int × List Nat) : Dat := .tuple [.int p.1, .str (S p.2)]
noncomputable def okT (x : List Nat) : Prop := ∀ c ∈ x, c < 1114112
theorem strOk_S {x : List Nat} (h : okT x) : PyData.strOk (S x) = true := by
  unfold PyData.strOk S
  rw [Array.all_eq_true']
  intro c hc
  simpa using h c (by simpa using hc)
theorem datP {na : List (Addr × Obj)} : ∀ {vs : List Value} {ps : List (Int × List Nat)}, AllR (IsP na) vs ps → DatAll na vs (ps.map dP)
  | [], [], _ => .nil
  | [], _ :: _, h => by cases h.1
  | _ :: _, [], h => by cases h.1
  | v :: vs, p :: ps, h => by
    obtain ⟨q, hq, a, t, u, rfl, hm⟩ := h.2 0 v rfl
    cases hq
    exact .cons (.tuple hm (.cons (.int _ _) (.cons (.str _ _) .nil))) (datP ⟨Nat.succ.inj h.1, fun i a ha => h.2 (i + 1) a ha⟩)
theorem datT {na : List (Addr × Obj)} : ∀ {vs : List Value} {xs : List (List Nat)}, AllR IsT vs xs → DatAll na vs (xs.map fun x => .str (S x))
  | [], [], _ => .nil
  | [], _ :: _, h => by cases h.1
  | _ :: _, [], h => by cases h.1
  | v :: vs, p :: ps, h => by
    obtain ⟨q, hq, t, rfl⟩ := h.2 0 v rfl
    cases hq
    exact .cons (.str _ _) (datT ⟨Nat.succ.inj h.1, fun i a ha => h.2 (i + 1) a ha⟩)
theorem intsI : ∀ {vs : List Value} {ns : List Int}, AllR IsI vs ns → IntsAre vs ns
  | [], [], _ => .nil
  | [], _ :: _, h => by cases h.1
  | _ :: _, [], h => by cases h.1
  | v :: vs, p :: ps, h => by
    obtain ⟨q, hq, t, rfl⟩ := h.2 0 v rfl
    cases hq
    exact .cons _ _ (intsI ⟨Nat.succ.inj h.1, fun i a ha => h.2 (i + 1) a ha⟩)
section
variable {prog : Program} {w : World} {A : Around} {E : Value → Shared → Prop} {s : Shared} {h₀ : Heap} {L a b : Addr} {news na nb : List (Addr × Obj)} {xs ys : List Value} {ka kb : Nat} {Q : Value → Shared → Prop}
theorem okP {ps : List (Int × List Nat)} (h : ∀ p ∈ ps, okT p.2) : ∀ d ∈ ps.map dP, kqdOk 8 d = true := by
  intro d hd
  obtain ⟨p, hp, rfl⟩ := List.mem_map.mp hd
  simp [dP, kqdOk, strOk_S (h p hp)]
theorem okX {ps : List (List Nat)} (h : ∀ p ∈ ps, okT p) : ∀ d ∈ ps.map (fun x => Dat.str (S x)), kqdOk 8 d = true := by
  intro d hd
  obtain ⟨p, hp, rfl⟩ := List.mem_map.mp hd
  simp [kqdOk, strOk_S (h p hp)]
theorem neP {ps qs : List (Int × List Nat)} (N : News h₀ L s.heap news) (ma : (a, W.listOf xs.toArray ka) ∈ news) (mb : (b, W.listOf ys.toArray kb) ∈ news) (ra : AllR (IsP na) xs ps) (rb : AllR (IsP nb) ys qs) (sa : ∀ p ∈ na, p ∈ news) (sb : ∀ p ∈ nb, p ∈ news)
    (e : ps = qs) (ok : ∀ p ∈ ps, okT p.2) (hu : A.units + 64 < cLine) (h : Q (.bool false) s) : wpAny (model prog w) A (compareOp .NotEq (.ref a) (.ref b)) Q E s := by
  subst e
  refine kqd_ne N ma rfl rfl (datP ra) sa mb rfl rfl (datP rb) sb (okP ok) (okP ok) hu ?_
  simpa using h
theorem eqP {ps qs : List (Int × List Nat)} (N : News h₀ L s.heap news) (ma : (a, W.listOf xs.toArray ka) ∈ news) (mb : (b, W.listOf ys.toArray kb) ∈ news) (ra : AllR (IsP na) xs ps) (rb : AllR (IsP nb) ys qs) (sa : ∀ p ∈ na, p ∈ news) (sb : ∀ p ∈ nb, p ∈ news)
    (e : ps = qs) (ok : ∀ p ∈ ps, okT p.2) (hu : A.units + 64 < cLine) (h : Q (.bool true) s) : wpAny (model prog w) A (compareOp .Eq (.ref a) (.ref b)) Q E s := by
  subst e
  refine kqd_eq N ma rfl rfl (datP ra) sa mb rfl rfl (datP rb) sb (okP ok) (okP ok) hu ?_
  simpa using h
theorem neT {ps qs : List (List Nat)} (N : News h₀ L s.heap news) (ma : (a, W.listOf xs.toArray ka) ∈ news) (mb : (b, W.listOf ys.toArray kb) ∈ news) (ra : AllR IsT xs ps) (rb : AllR IsT ys qs)
    (e : ps = qs) (ok : ∀ p ∈ ps, okT p) (hu : A.units + 64 < cLine) (h : Q (.bool false) s) : wpAny (model prog w) A (compareOp .NotEq (.ref a) (.ref b)) Q E s := by
  subst e
  refine kqd_ne N ma rfl rfl (datT (na := news) ra) (fun _ h => h) mb rfl rfl (datT (na := news) rb) (fun _ h => h) (okX ok) (okX ok) hu ?_
  simpa using h
theorem neI {ns ms : List Int} (N : News h₀ L s.heap news) (ma : (a, W.listOf xs.toArray ka) ∈ news) (mb : (b, W.listOf ys.toArray kb) ∈ news) (ra : AllR IsI xs ns) (rb : AllR IsI ys ms)
    (e : ns = ms) (hu : A.units + 64 < cLine) (h : Q (.bool false) s) : wpAny (model prog w) A (compareOp .NotEq (.ref a) (.ref b)) Q E s := by
  subst e
  refine ke_ne_ints (News.isList N ma) (News.isList N mb) (intsI ra) (intsI rb) hu ?_
  rw [decide_eq_true rfl]; exact h
end
theorem ok_sg {x : List Nat} (h : ∀ c ∈ x, c = 88 ∨ c ∈ sg) : okT x := by
  intro c hc
  rcases h c hc with h | h
  · omega
  · have : ∀ c ∈ sg, c < 1114112 := by decide
    exact this c h
theorem okT_row {cols : Nat} {r : List Nat} (h : RowOk cols r) : okT r := by
  obtain ⟨P, m, b, rfl, _, _, hb, hm⟩ := h
  intro c hc
  simp only [List.mem_append, List.mem_singleton] at hc
  rcases hc with (hc | hc) | hc
  · rcases hm with ⟨_, _, lab, hl, rfl⟩ | ⟨_, rfl⟩
    · have := blanks5_sg hl c hc; omega
    · simp only [List.mem_cons, List.not_mem_nil, or_false] at hc; omega
  · rcases hm with ⟨e, _⟩ | ⟨e, _⟩ <;> omega
  · exact ok_sg hb c hc
end Mine
namespace Mine
end Mine
namespace Mine
end Mine

namespace Mine
theorem pairs_of {l : Lg} {vs : List Value} {ps : List (Int × List Nat)} (h : AreD l vs (ps.map .pair)) : AllR (IsP l) vs ps := ⟨by rw [h.1, List.length_map], fun i a ha => by
  obtain ⟨b, hb, hi⟩ := h.2 i a ha
  rw [List.getElem?_map] at hb
  obtain ⟨t, ht, rfl⟩ := Option.map_eq_some_iff.mp hb
  exact ⟨t, ht, hi⟩⟩
theorem strs_of9 {l : Lg} {vs : List Value} {ps : List (List Nat)} (h : AreD l vs (ps.map .str)) : AllR IsT vs ps := ⟨by rw [h.1, List.length_map], fun i a ha => by
  obtain ⟨b, hb, hi⟩ := h.2 i a ha
  rw [List.getElem?_map] at hb
  obtain ⟨t, ht, rfl⟩ := Option.map_eq_some_iff.mp hb
  exact ⟨t, ht, hi⟩⟩
theorem ints_of {l : Lg} {vs : List Value} {ps : List Int} (h : AreD l vs (ps.map .int)) : AllR IsI vs ps := ⟨by rw [h.1, List.length_map], fun i a ha => by
  obtain ⟨b, hb, hi⟩ := h.2 i a ha
  rw [List.getElem?_map] at hb
  obtain ⟨t, ht, rfl⟩ := Option.map_eq_some_iff.mp hb
  exact ⟨t, ht, hi⟩⟩
section
variable {f : Fn} {c : Cx} {M : Nam} {n : Led} {K : Dv → Led → Prop} {rd ru : Nat} {a b : Addr}
theorem T2.neP {ps : List (Int × List Nat)} (ok : c.Ok rd ru) (hru : 100 ≤ ru) (ha : (a, ps.map .pair) ∈ n) (hb : (b, ps.map .pair) ∈ n) (ht : ∀ p ∈ ps, okT p.2) (h : K (.bool false) n) : T2 f c M n (compareOp .NotEq) (.ref a) (.ref b) K := fun l R h0 tk m v u hv hu hs => by
  cases hv; cases hu
  obtain ⟨xs, q, hx, ix⟩ := hs.led _ (List.mem_append_left _ ha)
  obtain ⟨ys, r, hy, iy⟩ := hs.led _ (List.mem_append_left _ hb)
  exact Mine.neP hs.news hx hy (pairs_of ix) (pairs_of iy) (fun _ h => h) (fun _ h => h) rfl ht (by have := ok.ru; show c.un + 3 + 64 < cLine; omega) ⟨h0, tk, .bool false, n, l, rfl, Keep.refl _, hs, rfl, h⟩
theorem T2.eqP {ps : List (Int × List Nat)} (ok : c.Ok rd ru) (hru : 100 ≤ ru) (ha : (a, ps.map .pair) ∈ n) (hb : (b, ps.map .pair) ∈ n) (ht : ∀ p ∈ ps, okT p.2) (h : K (.bool true) n) : T2 f c M n (compareOp .Eq) (.ref a) (.ref b) K := fun l R h0 tk m v u hv hu hs => by
  cases hv; cases hu
  obtain ⟨xs, q, hx, ix⟩ := hs.led _ (List.mem_append_left _ ha)
  obtain ⟨ys, r, hy, iy⟩ := hs.led _ (List.mem_append_left _ hb)
  exact Mine.eqP hs.news hx hy (pairs_of ix) (pairs_of iy) (fun _ h => h) (fun _ h => h) rfl ht (by have := ok.ru; show c.un + 3 + 64 < cLine; omega) ⟨h0, tk, .bool true, n, l, rfl, Keep.refl _, hs, rfl, h⟩
theorem T2.neS {ps : List (List Nat)} (ok : c.Ok rd ru) (hru : 100 ≤ ru) (ha : (a, ps.map .str) ∈ n) (hb : (b, ps.map .str) ∈ n) (ht : ∀ p ∈ ps, okT p) (h : K (.bool false) n) : T2 f c M n (compareOp .NotEq) (.ref a) (.ref b) K := fun l R h0 tk m v u hv hu hs => by
  cases hv; cases hu
  obtain ⟨xs, q, hx, ix⟩ := hs.led _ (List.mem_append_left _ ha)
  obtain ⟨ys, r, hy, iy⟩ := hs.led _ (List.mem_append_left _ hb)
  exact Mine.neT hs.news hx hy (strs_of9 ix) (strs_of9 iy) rfl ht (by have := ok.ru; show c.un + 3 + 64 < cLine; omega) ⟨h0, tk, .bool false, n, l, rfl, Keep.refl _, hs, rfl, h⟩
theorem T2.neI {ps : List Int} (ok : c.Ok rd ru) (hru : 100 ≤ ru) (ha : (a, ps.map .int) ∈ n) (hb : (b, ps.map .int) ∈ n) (h : K (.bool false) n) : T2 f c M n (compareOp .NotEq) (.ref a) (.ref b) K := fun l R h0 tk m v u hv hu hs => by
  cases hv; cases hu
  obtain ⟨xs, q, hx, ix⟩ := hs.led _ (List.mem_append_left _ ha)
  obtain ⟨ys, r, hy, iy⟩ := hs.led _ (List.mem_append_left _ hb)
  exact Mine.neI hs.news hx hy (ints_of ix) (ints_of iy) rfl (by have := ok.ru; show c.un + 3 + 64 < cLine; omega) ⟨h0, tk, .bool false, n, l, rfl, Keep.refl _, hs, rfl, h⟩
theorem Bv.cmpV {op : CmpOp} {l r : PySem.Expr} {pos : Pos} {K : Bool → Led → Prop} (h : Ev f c M n l fun d n₁ => Ev f c M n₁ r fun d' n₂ => T2 f c M n₂ (compareOp op) d d' fun x n₃ => ∃ b, x = .bool b ∧ K b n₃) (hm : behindInMarks op r = false) : Bv f c M n (.Compare l [op] [r] pos) K := fun g R h0 tk m hs => by
  refine wpAny_isTrue_Compare1 (two2 (K := fun x n₂ => ∃ b, x = .bool b ∧ K b n₂) h hs fun v s' hv => ?_) hm
  obtain ⟨h3, tk3, x, n2, l2, rfl, k2, hs2, hx, b, rfl, hK⟩ := hv
  cases hx
  exact wpAny_truthy_bool ⟨h3, tk3, n2, l2, rfl, k2, hs2, hK⟩
end
end Mine

namespace Mine
theorem law_same {cx : Cx} {c l pl fl R D : Addr} {k : Int} {ns : List Int} {cols : Nat} {conts : Int} {ps : List (Int × List Nat)} {res : List T3} {KT : Fw → Nam → Led → Prop} (ok : cx.Ok 100 1000) (hn0 : cx.hnd = none) (hc1 : 8 ≤ cols) (hc2 : cols ≤ 16) (hk1 : 0 ≤ conts) (hk2 : conts ≤ 4)
    (hn4 : ps.length ≤ 4) (hps : ∀ p ∈ ps, PairX cols conts p) (hres : res.map (·.2) = ps)
    (hrest : ∀ O, Ex ⟨Str.ofString "law", LS⟩ cx noE ((Str.ofString "others", .ref O) :: (Str.ofString "read", .ref D) :: (Str.ofString "rows", .ref R) :: lawN c pl fl cols conts ps)
      ([(O, []), (R, (rowsAll cols ps).map .str), (pl, ps.map .pair), (c, [.ref l, .int k]), (l, ns.map .int)]) (LB 10) KT) :
    Ex ⟨Str.ofString "law", LS⟩ cx noE ((Str.ofString "read", .ref D) :: (Str.ofString "rows", .ref R) :: lawN c pl fl cols conts ps)
      ([(D, res.map .t3), (R, (rowsAll cols ps).map .str), (pl, ps.map .pair), (c, [.ref l, .int k]), (l, ns.map .int), (fl, (firstsOf cols 0 ps).map .int)]) (LB 8) KT := by
  have hrok := rows_ok hps hc1
  have hokX : ∀ r ∈ rowsAll cols ps, okT r := fun r hr => okT_row (hrok r hr)
  have hrl : res.length = ps.length := by rw [← hres, List.length_map]
  have hsc : LS = LS := rfl
  conv at hsc => rhs; whnf
  have hbd : LB 8 = LB 8 := rfl
  conv at hbd => rhs; whnf
  rw [hbd, hsc]
  clear hbd hsc
  refine Ex.ite (Bv.cmpV ((vE_ok ok hn0 rfl rfl).1 _ _ _ ?_) rfl)
  refine Calls.of (nr := [(R, (rowsAll cols ps).map .str), (pl, ps.map .pair), (c, [.ref l, .int k]), (l, ns.map .int), (fl, (firstsOf cols 0 ps).map .int)]) (told_Q (l := D) (ts := res) (by omega)) (by decide) (by decide) (.refl _) ?_
  rintro _ _ ⟨D2, rfl, rfl⟩
  rw [hres]
  refine Calls.of (nr := [(D, res.map .t3), (R, (rowsAll cols ps).map .str), (pl, ps.map .pair), (c, [.ref l, .int k]), (l, ns.map .int), (fl, (firstsOf cols 0 ps).map .int)]) (lr_Q (l := D2) (ps := ps) (by omega) (by omega) hk1 (by omega) (fun p hp => (hps p hp).ok) (by omega)) (by decide) (by decide) (.refl _) ?_
  rintro _ _ ⟨R2, rfl, rfl⟩
  refine (vE_ok ok hn0 rfl rfl).1 _ _ _ ?_
  refine T2.neS ok (by decide) (.head _) (.tail _ (.tail _ (.tail _ (.head _)))) hokX ⟨false, rfl, And.intro (fun h => nomatch h) fun _ => Ex.nil ?_⟩
  refine Ex.assign ((vE_ok ok hn0 rfl rfl).1 _ _ _ ?_) rfl rfl rfl
  refine And.intro (by decide) fun O => ?_
  exact Ex.weak (fun _ _ h => h) (.keep (.skip (.skip (.skip (.keep (.keep (.keep (.keep (.skip .nil))))))))) (hrest O)
end Mine

namespace Mine
theorem law_last {cx : Cx} {pl O : Addr} {cols : Nat} {conts : Int} {ps : List (Int × List Nat)} {ys : List (List Nat)} {KT : Fw → Nam → Led → Prop} (ok : cx.Ok 100 1000) (hn0 : cx.hnd = none) (hc1 : 8 ≤ cols) (hc2 : cols ≤ 16) (hk1 : 0 ≤ conts) (hk2 : conts ≤ 4)
    (hne : ps ≠ []) (hn4 : ps.length ≤ 4) (hps : ∀ p ∈ ps, PairX cols conts p) (ho : Oth cols (rowsAll cols ps) ys) (hKT : ∀ M n, KT (.ret (.bool true)) M n) :
    Ex ⟨Str.ofString "law", LS⟩ cx noE [(Str.ofString "others", .ref O), (Str.ofString "limits", .lim cols conts), (Str.ofString "pairs", .ref pl)] [(O, ys.map .str), (pl, ps.map .pair)] (LB 11) KT := by
  obtain ⟨sz1, sz2, sz3⟩ := rows_size hc1 hc2 hn4 hps ho
  obtain ⟨res, hrun, hres⟩ := read_others hc1 hc2 hk1 hne hps ho
  have hokP : ∀ p ∈ ps, okT p.2 := fun p hp => ok_sg (hps p hp).all
  have hrl : res.length = ps.length := by rw [← hres, List.length_map]
  have hsc : LS = LS := rfl
  conv at hsc => rhs; whnf
  have hbd : LB 11 = LB 11 := rfl
  conv at hbd => rhs; whnf
  rw [hbd, hsc]
  clear hbd hsc
  refine Ex.ret (Ev.cmp1 ((vE_ok ok hn0 rfl rfl).1 _ _ _ ?_) rfl)
  refine ListAt.mk _ (.head _) ⟨ys, rfl, ?_, ?_⟩
  · rw [lit_nl]
    show _ + _ * 1 ≤ _
    omega
  rw [lit_nl]
  refine Calls.of (nr := [(O, ys.map .str), (pl, ps.map .pair)]) (rs_Q (by omega) (by omega) (by omega) (by omega) hrun) (by decide) (by decide) (.refl _) ?_
  rintro _ _ ⟨D, rfl, rfl⟩
  refine Calls.of (nr := [(O, ys.map .str), (pl, ps.map .pair)]) (told_Q (l := D) (ts := res) (by omega)) (by decide) (by decide) (.refl _) ?_
  rintro _ _ ⟨D2, rfl, rfl⟩
  rw [hres]
  refine (vE_ok ok hn0 rfl rfl).1 _ _ _ ?_
  exact T2.eqP ok (by decide) (.head _) (.tail _ (.tail _ (.tail _ (.head _)))) hokP (hKT _ _)
end Mine

namespace Mine
theorem lcR_Q {c l : Addr} {k : Int} {ns : List Int} {card : List Nat} {cols : Nat} (hlen : ns.length ≤ 60) (hk : 0 ≤ k) (hk2 : k < 900000) (hrow : RowOk cols card) (hcol : cols ≤ 100) :
    Spec 207 20 200 [.ref c, .str card, .int cols] (clothL c l k ns) fun d n => ∃ y k', AltR cols card y ∧ k ≤ k' ∧ k' ≤ k + 4 ∧ d = .str y ∧ n = clothL c l k' ns := by
  obtain ⟨P, m, b, rfl, hP, hc, hb, hm⟩ := hrow
  have hlen' := pmb_len (b := b) (m := m) hP
  obtain ⟨a1, a2, a3⟩ := pmb_at (b := b) (m := m) hP
  rcases hm with ⟨rfl, _, lab, hlab, rfl⟩ | ⟨rfl, rfl⟩
  · have hst : Txt.stripChars (S ((blanks5 lab ++ [32] ++ b).take 5)) (S [32]) = S (labT lab) := by rw [a2]; exact blanks5_strip hlab
    exact (lc_Q hlen hk hk2 (.inl ⟨a1, hst⟩) (labT_len hlab) (by omega) hcol).weak fun d n ⟨y, k', h1, h2, h3, h4, h5⟩ => ⟨n, Sub.refl _, y, k', ⟨labT lab, fun _ => hst, h1⟩, h2, h3, h4, h5⟩
  · exact (lc_Q (lt := []) hlen hk hk2 (.inr a1) (by decide) (by omega) hcol).weak fun d n ⟨y, k', h1, h2, h3, h4, h5⟩ => ⟨n, Sub.refl _, y, k', ⟨[], fun h => (by rw [a1] at h; cases h), h1⟩, h2, h3, h4, h5⟩
theorem turn2_end {cx : Cx} {c l O : Addr} {k : Int} {ns : List Int} {cols : Nat} {r : List Nat} {ys : List (List Nat)} {M9 : Nam} {n9 : Led} {KT : Fw → Nam → Led → Prop} (ok : cx.Ok 100 1000) (hn0 : cx.hnd = none) (hcol : cols ≤ 100) (hlen : ns.length ≤ 60) (hk : 0 ≤ k) (hk2 : k < 900000) (hrow : RowOk cols r) (hys : ys.length ≤ 1000)
    (hKT : ∀ y k', AltR cols r y → k ≤ k' → k' ≤ k + 4 → KT .next ((Str.ofString "row", .str r) :: (Str.ofString "cloth", .ref c) :: (Str.ofString "columns", .int cols) :: (Str.ofString "others", .ref O) :: M9) ((O, (ys ++ [y]).map .str) :: (clothL c l k' ns ++ n9))) :
    Ex ⟨Str.ofString "law", LS⟩ cx noE ((Str.ofString "row", .str r) :: (Str.ofString "cloth", .ref c) :: (Str.ofString "columns", .int cols) :: (Str.ofString "others", .ref O) :: M9) (clothL c l k ns ++ (O, ys.map .str) :: n9) (TURN2.drop 1) KT := by
  have hsc : LS = LS := rfl
  conv at hsc => rhs; whnf
  have hbd : TURN2.drop 1 = TURN2.drop 1 := rfl
  conv at hbd => rhs; whnf
  rw [hbd, hsc]
  clear hbd hsc
  refine vRun ok hn0 rfl rfl ?_
  refine ListAt.mk _ (.tail _ (.tail _ (.head _))) ?_
  refine Calls.of (nr := (O, ys.map .str) :: n9) (lcR_Q (c := c) (l := l) hlen hk hk2 hrow hcol) (by decide) (by decide) (.refl _) ?_
  rintro _ _ ⟨y, k', h1, h2, h3, rfl, rfl⟩
  refine ⟨_, _, List.perm_middle (l₁ := clothL c l k' ns) (l₂ := n9), by rw [List.length_map]; omega, ?_⟩
  have e : ys.map Dv.str ++ [Dv.str y] = (ys ++ [y]).map .str := by rw [List.map_append]; rfl
  rw [e]
  exact hKT y k' h1 h2 h3
end Mine

namespace Mine
theorem g_rem (w : World) : ∃ (T : Addr) (vs : List Value) (n : Nat), nsIn (hK.heap_1 w.params) mainGlobals (Str.ofString "_law_remarks") = some (some (.ref T)) ∧ (∃ d sl, (hK.heap_1 w.params).lookup T = some ⟨.type "tuple", d, .seq vs.toArray n, sl⟩) ∧ ∃ t1 t2 t3 t4 t5, vs = [.str (Str.ofString "C") t1, .str (Str.ofString "*  X=1") t2, .str (Str.ofString "") t3, .str (Str.ofString "c 12345") t4, .str (Str.ofString "        ") t5] := by
  w_top off
  have fill9 : Mine.Fills PySem.Challenge.rw_sa0210_01 Mine.hK.heap_1 := by (k_fill; exact True.intro)
  refine ⟨_, _, _, by k_is, ⟨_, _, by k_is⟩, _, _, _, _, _, rfl⟩
end Mine

namespace Mine
theorem Ev.rem {f : Fn} {c : Cx} {M : Nam} {n : Led} {K : Dv → Led → Prop} {e2 : PySem.Expr} {p1 pos : Pos} {rd ru : Nat} (ok : c.Ok rd ru) (hk : f.scope.kind = .function) (hx : f.kind (Str.ofString "_law_remarks") = some .globalImplicit)
    (hs' : ∀ l k u, subscripted e2 false (.ref l) (.int k u) = operate [.ref l, .int k u] (getItem (.ref l) (.int k u)))
    (h : Ev f c M n e2 fun d n₁ => ∃ v, d = .int v ∧ 0 ≤ v ∧ v < 5 ∧ ∀ z ∈ remarks, K (.str z) n₁) : Ev f c M n (.Subscript (.Name (Str.ofString "_law_remarks") p1) e2 pos) K := fun l R h0 tk m hs => by
  obtain ⟨T, vs, nT, hT, ⟨d, sl, hl⟩, t1, t2, t3, t4, t5, rfl⟩ := g_rem c.w
  refine Subscript_ (nameX_K hs.fr ok.kin (topRead_of ok.top) hT ?_ hk hx (by decide))
  refine wpAny_mono (h l R h0 tk m hs) (fun u s₂ hu => ?_) fun _ _ x => x
  obtain ⟨h2, tk2, d2, n2, l2, rfl, k2, hs2, hd2, v, rfl, hz0, hz1, hK⟩ := hu
  obtain ⟨t, rfl⟩ := hd2
  have hg := ok.kin.keeps hs2.fr.keep _ _ hl
  have go : ∀ (j : Nat) (y : Str) (ty : Tok) (z : List Nat), v = (j : Int) → j < 5 → ([.str (Str.ofString "C") t1, .str (Str.ofString "*  X=1") t2, .str (Str.ofString "") t3, .str (Str.ofString "c 12345") t4, .str (Str.ofString "        ") t5] : List Value)[j]? = some (.str y ty) → y = S z → z ∈ remarks →
      wpAny (model PRG c.w) (f.ar c) (subscriptTail (.Name (Str.ofString "_law_remarks") p1) e2 (.ref T) (.int v t)) (VP c m l M R K) (fun _ _ => False) (c.at h2 tk2) := fun j y ty z e hj hy hz hm => by
    subst e hz
    refine item_tupleL (j := j) ⟨_, hg, rfl, _, rfl⟩ (by omega) (by omega) ?_ hy ⟨h2, tk2, .str z, n2, l2, rfl, k2, hs2, ⟨ty, rfl⟩, hK z hm⟩ (hs' _ _ _)
    match j, hj with
    | 0, _ => rfl
    | 1, _ => rfl
    | 2, _ => rfl
    | 3, _ => rfl
    | 4, _ => rfl
  have : v = 0 ∨ v = 1 ∨ v = 2 ∨ v = 3 ∨ v = 4 := by omega
  rcases this with e | e | e | e | e
  · exact go 0 _ _ [67] (by omega) (by decide) rfl (by decide +kernel) (by decide)
  · exact go 1 _ _ [42, 32, 32, 88, 61, 49] (by omega) (by decide) rfl (by decide +kernel) (by decide)
  · exact go 2 _ _ [] (by omega) (by decide) rfl (by decide +kernel) (by decide)
  · exact go 3 _ _ [99, 32, 49, 50, 51, 52, 53] (by omega) (by decide) rfl (by decide +kernel) (by decide)
  · exact go 4 _ _ [32, 32, 32, 32, 32, 32, 32, 32] (by omega) (by decide) rfl (by decide +kernel) (by decide)
end Mine

namespace Mine
theorem Bv.of_vE {hnd : Option Value} {f : Fn} {c : Cx} {M : Nam} {n : Led} {e : PySem.Expr} {rd ru : Nat} {G : Bool → Led → Prop} (ok : c.Ok rd ru) (hh : c.hnd = hnd) (hk : f.scope.kind = .function) (hdb : f.kind ("__debug__" : Str) = none) (h : vE hnd f rd ru M true n e fun d n₁ => onBool d fun b => G b n₁) : Bv f c M n e G :=
  ((vE_ok ok hh hk hdb).2 _ _ _ h).mono fun _ _ h => h
theorem turn2_Q {cx : Cx} {c l O : Addr} {k : Int} {ns : List Int} {cols : Nat} {r : List Nat} {ys : List (List Nat)} {M9 : Nam} {n9 : Led} {KT : Fw → Nam → Led → Prop} (ok : cx.Ok 100 1000) (hn0 : cx.hnd = none) (hcol : cols ≤ 100) (hlen : ns.length ≤ 60) (hk : 0 ≤ k) (hk2 : k < 800000) (hrow : RowOk cols r) (hys : ys.length ≤ 900)
    (hKT : ∀ ys' y k', (ys' = ys ∨ ∃ z ∈ remarks, ys' = ys ++ [z]) → AltR cols r y → k ≤ k' → k' ≤ k + 6 → ∀ n, Sub ((O, (ys' ++ [y]).map .str) :: (clothL c l k' ns ++ n9)) n → KT .next ((Str.ofString "row", .str r) :: (Str.ofString "cloth", .ref c) :: (Str.ofString "columns", .int cols) :: (Str.ofString "others", .ref O) :: M9) n) :
    Ex ⟨Str.ofString "law", LS⟩ cx noE ((Str.ofString "row", .str r) :: (Str.ofString "cloth", .ref c) :: (Str.ofString "columns", .int cols) :: (Str.ofString "others", .ref O) :: M9) (clothL c l k ns ++ (O, ys.map .str) :: n9) TURN2 KT := by
  have hsc : LS = LS := rfl
  conv at hsc => rhs; whnf
  have hbd : TURN2 = TURN2 := rfl
  conv at hbd => rhs; whnf
  rw [hbd, hsc]
  clear hbd hsc
  refine Ex.ite (Bv.of_vE ok hn0 rfl rfl ?_)
  refine snip_C (nr := (O, ys.map .str) :: n9) hlen hk (by omega) (by decide) (by decide) (by decide) (by decide) (.refl _) fun v g0 g1 => ?_
  refine and_dec (fun hq => ?_) (fun hq => ?_)
  · refine Ex.append (x := Str.ofString "others") (a := O) (ds₀ := ys.map .str) rfl (List.mem_append_right _ (.head _)) rfl rfl rfl rfl rfl rfl (Ev.rem ok rfl rfl (fun _ _ _ => rfl) ((vE_ok ok hn0 rfl rfl).1 _ _ _ ?_))
    refine snip_C (nr := (O, ys.map .str) :: n9) hlen (by omega) (by omega) (by decide) (by decide) (by decide) (by decide) (.refl _) fun u f0 f1 => ?_
    refine ⟨u, rfl, f0, f1, fun z hz => ⟨_, _, List.perm_middle (l₁ := clothL c l (k + 1 + 1) ns) (l₂ := n9), by rw [List.length_map]; omega, Ex.nil ?_⟩⟩
    have e : ys.map Dv.str ++ [Dv.str z] = (ys ++ [z]).map .str := by rw [List.map_append]; rfl
    rw [e]
    exact Ex.weak (fun _ _ h => h) ⟨[], by rw [List.append_nil]; exact List.perm_middle.symm⟩ (turn2_end ok hn0 hcol hlen (by omega) (by omega) hrow (by rw [List.length_append]; show _ + 1 ≤ _; omega) fun y k' h1 h2 h3 => hKT (ys ++ [z]) y k' (.inr ⟨z, hz, rfl⟩) h1 (by omega) (by omega) _ (Sub.refl _))
  · refine Ex.nil ?_
    exact turn2_end ok hn0 hcol hlen (by omega) (by omega) hrow (by omega) fun y k' h1 h2 h3 => hKT ys y k' (.inl rfl) h1 (by omega) (by omega) _ (Sub.refl _)
end Mine

namespace Mine
theorem Oth.many {cols : Nat} {rs ys : List (List Nat)} (h : Oth cols rs ys) : ys.length ≤ 2 * rs.length := by
  induction h with
  | nil => simp
  | row h a ih => simp only [List.length_append, List.length_cons, List.length_nil]; omega
  | rem h z a ih => simp only [List.length_append, List.length_cons, List.length_nil]; omega
theorem law_loop2 {cx : Cx} {c l pl fl R D O : Addr} {k : Int} {ns : List Int} {cols : Nat} {conts : Int} {ps : List (Int × List Nat)} {KT : Fw → Nam → Led → Prop} (ok : cx.Ok 100 1000) (hn0 : cx.hnd = none) (hcol : cols ≤ 16) (hlen : ns.length ≤ 60) (hk : 0 ≤ k) (hk2 : k ≤ 100) (hrow : ∀ r ∈ rowsAll cols ps, RowOk cols r) (hrl : (rowsAll cols ps).length ≤ 28)
    (hrest : ∀ ys, Oth cols (rowsAll cols ps) ys → Ex ⟨Str.ofString "law", LS⟩ cx noE [(Str.ofString "others", .ref O), (Str.ofString "limits", .lim cols conts), (Str.ofString "pairs", .ref pl)] [(O, ys.map .str), (pl, ps.map .pair)] (LB 11) KT) :
    Ex ⟨Str.ofString "law", LS⟩ cx noE ((Str.ofString "others", .ref O) :: (Str.ofString "read", .ref D) :: (Str.ofString "rows", .ref R) :: lawN c pl fl cols conts ps)
      ([(O, []), (R, (rowsAll cols ps).map .str), (pl, ps.map .pair), (c, [.ref l, .int k]), (l, ns.map .int)]) (LB 10) KT := by
  have hsc : LS = LS := rfl
  conv at hsc => rhs; whnf
  have hbd : LB 10 = LB 10 := rfl
  conv at hbd => rhs; whnf
  rw [hbd, hsc]
  clear hbd hsc
  refine Ex.forL hn0 (fun c x => folded_plain rfl _ x) ((vE_ok ok hn0 rfl rfl).1 _ _ _ ?_)
  refine ⟨R, (rowsAll cols ps).map .str, rfl, by rw [List.length_map]; omega, trivial, Int × List (List Nat), fun _ => [(Str.ofString "cloth", .ref c), (Str.ofString "columns", .int cols), (Str.ofString "others", .ref O), (Str.ofString "limits", .lim cols conts), (Str.ofString "pairs", .ref pl)],
    fun x => clothL c l x.1 ns ++ (O, x.2.map .str) :: [(R, (rowsAll cols ps).map .str), (pl, ps.map .pair)], fun i x => 0 ≤ x.1 ∧ x.1 ≤ 100 + 6 * i ∧ Oth cols ((rowsAll cols ps).take i) x.2, (k, []), ⟨rfl, rfl, rfl, rfl, rfl, trivial⟩, ?_, ⟨hk, by omega, .nil⟩, fun x => List.mem_append_right _ (.tail _ (.head _)), ?_, ?_⟩
  · exact ⟨[], List.perm_append_comm (l₁ := [_, _, _]) (l₂ := [_, _])⟩
  · rintro i d ⟨k1, ys⟩ KT' hd ⟨q0, q1, q2⟩ hKT' -
    replace q0 : 0 ≤ k1 := q0
    replace q1 : k1 ≤ 100 + 6 * (i : Int) := q1
    replace q2 : Oth cols ((rowsAll cols ps).take i) ys := q2
    rw [List.getElem?_map] at hd
    obtain ⟨r, hr, rfl⟩ := Option.map_eq_some_iff.mp hd
    have hil := (List.getElem?_eq_some_iff.mp hr).1
    have hm := q2.many
    rw [List.length_take] at hm
    refine Tgt.name rfl rfl (turn2_Q (k := k1) (ys := ys) (r := r) ok hn0 (by omega) hlen q0 (by omega) (hrow r (List.mem_of_getElem? hr)) (by omega) fun ys' y k' h1 h2 h3 h4 n hS => hKT' .next (k', ys' ++ [y]) _ n trivial ⟨rfl, rfl, rfl, rfl, rfl, trivial⟩ ?_ ⟨Int.le_trans q0 h3, by show k' ≤ 100 + 6 * ((i + 1 : Nat) : Int); omega, ?_⟩)
    · obtain ⟨z, hz⟩ := hS
      exact ⟨z, hz.trans (List.perm_middle.symm.append_right z)⟩
    · rw [take_snoc hr]
      rcases h1 with rfl | ⟨z, hz, rfl⟩
      · exact .row q2 h2
      · exact .rem q2 hz h2
  · rintro ⟨k1, ys⟩ ⟨_, _, q2⟩
    replace q2 : Oth cols ((rowsAll cols ps).take ((rowsAll cols ps).map Dv.str).length) ys := q2
    rw [List.length_map, List.take_of_length_le (Nat.le_refl _)] at q2
    exact Ex.weak (M' := [(Str.ofString "others", .ref O), (Str.ofString "limits", .lim cols conts), (Str.ofString "pairs", .ref pl)]) (fun _ _ q => (show Has _ _ from ⟨rfl, rfl, rfl, trivial⟩ : Has [(Str.ofString "cloth", .ref c), (Str.ofString "columns", .int cols), (Str.ofString "others", .ref O), (Str.ofString "limits", .lim cols conts), (Str.ofString "pairs", .ref pl)] [(Str.ofString "others", .ref O), (Str.ofString "limits", .lim cols conts), (Str.ofString "pairs", .ref pl)]).get q) (.skip (.skip (.keep (.skip (.keep .nil))))) (hrest ys q2)
end Mine

namespace Mine
theorem ints_to {l : Lg} {vs : List Value} {ps : List Int} (h : AllR IsI vs ps) : AreD l vs (ps.map .int) := ⟨by rw [h.1, List.length_map], fun i a ha => by
  obtain ⟨b, hb, hi⟩ := h.2 i a ha
  exact ⟨.int b, by rw [List.getElem?_map, hb]; rfl, hi⟩⟩
theorem Ev.lines {f : Fn} {c : Cx} {M : Nam} {n : Led} {K : Dv → Led → Prop} {scope : Scope} {D : Addr} {res : List T3} {x x1 x2 x3 : Str} {p0 p1 p2 p3 p4 p5 pos : Pos} {kk : Nat} (hn0 : c.hnd = none) (hD : (D, res.map .t3) ∈ n) (hn : res.length < 1000) (hM : M.lookup x = some (.ref D)) (hk : f.scope.kind = .function) (hx : f.kind x = some .local) (hb : (x == ("__debug__" : Str)) = false)
    (hcl : closureFor scope (f.env c) = pure []) (hcell : ∀ y ∈ scope.names, y.2 ≠ .cell) (hkind : scope.kind = .function) (hnames : ∀ y ∈ scope.names, y.2 = .local → scope.names.lookup y.1 = some .local) (hfold : ∀ y, foldedSetIterable (.Name x p5) (f.env c) y = pure y)
    (l1 : scope.names.lookup x1 = some .local) (l2 : scope.names.lookup x2 = some .local) (l3 : scope.names.lookup x3 = some .local) (h12 : x1 ≠ x2) (h13 : x1 ≠ x3) (hb1 : (x1 == ("__debug__" : Str)) = false)
    (h : ∀ C, K (.ref C) ((C, (res.map (·.1)).map .int) :: n)) :
    Ev f c M n (.ListComp (.Name x1 p0) [⟨.Tuple [.Name x1 p1, .Name x2 p2, .Name x3 p3] kk p4, .Name x p5, [], 0⟩] scope pos) K := fun l R h0 tk m hs => by
  obtain ⟨vd, hvd, hi⟩ := hs.nam x _ hM
  cases hi
  obtain ⟨vs, nl, hl, ha⟩ := hs.led _ (List.mem_append_left _ hD)
  have hr := t3s_of ha
  refine comp_M hs.fr hcl hcell hkind hnames hfold (nameX_L hs.fr hvd ?_ hk hx hb)
  refine compM_list (items := vs) (nl := nl) (fun i ys news' => news' = l ∧ AllR IsI ys ((res.map (·.1)).take i) ∧ ys.length = i) hn0 ?_ (by rw [hr.1]; omega) hs.fr hs.news hl ⟨rfl, by rw [List.take_zero]; exact AllR.nil, rfl⟩ ?_ ?_ ?_ ?_
  · intro v hv
    obtain ⟨p, _, a, t1, t2, t3, e, _⟩ := hr.ofMem hv
    exact ⟨a, e⟩
  · rintro i ys news' ⟨rfl, _⟩; exact hl
  · rintro i ys news' ⟨_, _, e⟩; exact e
  · rintro i v ys news₁ h₁ tk₁ I C D' oI oD mC hv ⟨rfl, hys, hyl⟩ F₁ C₁ N₁ hCL h0C hIC hDC hID hoff hbel
    obtain ⟨⟨ln, lab, xx⟩, hpi, a, t1, t2, t3, rfl, ham⟩ := hr.2 i v hv
    have hoff' : ∀ p ∈ (I, oI) :: (D', oD) :: news₁, p.1 ≠ C := by
      intro p hp
      rcases List.mem_cons.mp hp with rfl | hp
      · exact hIC
      · rcases List.mem_cons.mp hp with rfl | hp
        · exact hDC
        · exact (hoff p hp).1
    refine asgC_tup3 hn0 F₁ C₁ N₁ (.tail _ (.tail _ ham)) hCL h0C hoff' l1 l2 l3 hkind (fun h₂ tk₂ F₂ C₂ N₂ => ?_)
    refine ldC_local C₂ (v := .int ln t1) (by simp [h12, h13]) ?_ hkind l1 hb1
    refine ⟨_, _, _, _, rfl, F₂, C₂, N₂, fun p hp => ⟨(hoff p hp).1, fun q hq => ?_⟩, rfl, ?_, by rw [List.length_append, hyl]; rfl⟩
    · simp only [List.mem_cons, List.not_mem_nil, or_false] at hq
      rcases hq with rfl | rfl
      · exact (hoff p hp).2.1
      · exact (hoff p hp).2.2
    · have hpi' : (res.map (·.1))[i]? = some ln := by rw [List.getElem?_map, hpi]; rfl
      rw [take_snoc hpi']
      exact hys.snoc ⟨_, rfl⟩
  · rintro h₁ tk₁ D' ys news' F₁ N₁ hD hbb ⟨rfl, hys, hyl⟩
    rw [List.take_of_length_le (by rw [List.length_map]; exact Nat.le_of_eq hr.1.symm)] at hys
    obtain ⟨hs2, kp⟩ := hs.more F₁ N₁ fun p hp => .tail _ hp
    have hst := hs2.list (ds := (res.map (·.1)).map .int) ⟨ys, _, .head _, ints_to hys⟩ fun p hp => by
      obtain ⟨vs, q, hm, _⟩ := hs.led p hp
      exact Nat.ne_of_lt (hbb _ hm)
    exact ⟨h₁, tk₁, .ref D', (D', (res.map (fun t : T3 => t.1)).map .int) :: n, _, rfl, kp, hst, rfl, h D'⟩
end Mine

namespace Mine
theorem law_told {cx : Cx} {c l pl fl R D : Addr} {k : Int} {ns : List Int} {cols : Nat} {conts : Int} {ps : List (Int × List Nat)} {res : List T3} {KT : Fw → Nam → Led → Prop} (ok : cx.Ok 100 1000) (hn0 : cx.hnd = none) (hn4 : ps.length ≤ 4) (hps : ∀ p ∈ ps, PairX cols conts p) (hres : res.map (·.2) = ps) (hres1 : res.map (·.1) = firstsOf cols 0 ps)
    (hrest : Ex ⟨Str.ofString "law", LS⟩ cx noE ((Str.ofString "read", .ref D) :: (Str.ofString "rows", .ref R) :: lawN c pl fl cols conts ps)
      ([(D, res.map .t3), (R, (rowsAll cols ps).map .str), (pl, ps.map .pair), (c, [.ref l, .int k]), (l, ns.map .int), (fl, (firstsOf cols 0 ps).map .int)]) (LB 8) KT) :
    Ex ⟨Str.ofString "law", LS⟩ cx noE ((Str.ofString "read", .ref D) :: (Str.ofString "rows", .ref R) :: lawN c pl fl cols conts ps)
      ([(D, res.map .t3), (R, (rowsAll cols ps).map .str), (pl, ps.map .pair), (c, [.ref l, .int k]), (l, ns.map .int), (fl, (firstsOf cols 0 ps).map .int)]) (LB 7) KT := by
  have hokP : ∀ p ∈ ps, okT p.2 := fun p hp => ok_sg (hps p hp).all
  have hrl : res.length = ps.length := by rw [← hres, List.length_map]
  have hsc : LS = LS := rfl
  conv at hsc => rhs; whnf
  have hbd : LB 7 = LB 7 := rfl
  conv at hbd => rhs; whnf
  rw [hbd, hsc]
  clear hbd hsc
  refine Ex.ite (Bv.or (Bv.cmpV ((vE_ok ok hn0 rfl rfl).1 _ _ _ ?_) rfl))
  refine Calls.of (nr := [(R, (rowsAll cols ps).map .str), (pl, ps.map .pair), (c, [.ref l, .int k]), (l, ns.map .int), (fl, (firstsOf cols 0 ps).map .int)]) (told_Q (l := D) (ts := res) (by omega)) (by decide) (by decide) (.refl _) ?_
  rintro _ _ ⟨D2, rfl, rfl⟩
  rw [hres]
  refine (vE_ok ok hn0 rfl rfl).1 _ _ _ ?_
  refine T2.neP ok (by decide) (.head _) (.tail _ (.tail _ (.tail _ (.head _)))) hokP ⟨false, rfl, And.intro (fun h => nomatch h) fun _ => Bv.or (Bv.cmpV ?_ rfl)⟩
  refine Ev.lines (D := D) (res := res) hn0 (.tail _ (.head _)) (by omega) rfl rfl rfl rfl rfl (by decide) rfl (by decide) (fun _ => rfl) rfl rfl rfl (by decide) (by decide) rfl fun C => ?_
  rw [hres1]
  refine (vE_ok ok hn0 rfl rfl).1 _ _ _ ?_
  refine T2.neI ok (by decide) (.head _) (.tail _ (.tail _ (.tail _ (.tail _ (.tail _ (.tail _ (.tail _ (.head _)))))))) ⟨false, rfl, And.intro (fun h => nomatch h) fun _ => Bv.orNil (And.intro (fun h => nomatch h) fun _ => Ex.nil ?_)⟩
  exact Ex.weak (fun _ _ h => h) (.skip (.skip (Sub.refl _))) hrest
end Mine

namespace Mine
theorem nam_of {M : Nam} {x : Str} {d : Dv} (h : M.lookup x = some d) : (x, d) ∈ M := by
  induction M with
  | nil => cases h
  | cons q r ih =>
    obtain ⟨y, e⟩ := q
    by_cases hq : x = y
    · subst hq
      rw [List.lookup_cons_self] at h
      cases h
      exact .head _
    · rw [List.lookup_cons, beq_false_of_ne hq] at h
      exact .tail _ (ih h)
theorem ints_areD {l : Lg} {vs : List Value} {ns : List Int} (h : IntsAre vs ns) : AreD l vs (ns.map .int) := by
  induction h with
  | nil => exact AllR.nil
  | cons n t _ ih => exact AllR.cons ⟨t, rfl⟩ ih
theorem law_all {cx : Cx} {c l pl fl : Addr} {k : Int} {ns : List Int} {cols : Nat} {conts : Int} {KT : Fw → Nam → Led → Prop} (ok : cx.Ok 100 1000) (hn0 : cx.hnd = none) (hbase : cx.base = cx.h₀) (hc1 : 8 ≤ cols) (hc2 : cols ≤ 16) (hk1 : 0 ≤ conts) (hk2 : conts ≤ 4)
    (hlen : ns.length ≤ 60) (h0 : 0 ≤ k) (h1 : k ≤ 5) (hKT : ∀ M n, KT (.ret (.bool true)) M n) :
    Ex ⟨Str.ofString "law", LS⟩ cx noE (lawN c pl fl cols conts []) (lawT c l pl fl k ns cols []) (LB 4) KT :=
  law_loop ok hn0 hbase hc1 hc2 hk1 hk2 hlen h0 h1 fun k' ps a b hne hn4 hps =>
    law_read ok hn0 hc1 hc2 hk1 hk2 hne hn4 hps fun R D res hres hres1 =>
      law_told ok hn0 hn4 hps hres hres1 (law_same ok hn0 hc1 hc2 hk1 hk2 hn4 hps hres fun O =>
        law_loop2 ok hn0 hc2 hlen a b (rows_ok hps hc1) (rows_size hc1 hc2 hn4 hps (Oth.refl' (rows_ok hps hc1))).2.2 fun ys ho =>
          law_last ok hn0 hc1 hc2 hk1 hk2 hne hn4 hps ho hKT)
theorem law_from {w : World} {mean : ExcName → Option Value} {mg mb : Str → Option Value} {h₀ : Heap} {L a : Addr} {cd : Value} {s : Shared} {m1 : Str → Option Value} {n1 : List (Addr × Obj)} {Q : Flow → Shared → Prop}
    (X : (hK.heap_1 w.params).In h₀) (T : TOP mean mg mb h₀) (K : Below callerA h₀ [] h₀) (F1 : Fr h₀ L s.heap m1) (N1 : News h₀ L s.heap n1) (hP : P2 m1 n1)
    (hgo : ∀ h tk m' news', Fr h₀ L h m' → News h₀ L h news' → Q (.ret (.bool true)) { s with heap := h, toks := tk }) :
    wpAny (model PRG w) (LA L a cd) (execs (LB 4) (LE L a cd)) Q (fun _ _ => False) s := by
  obtain ⟨m, u, c, l, pl, fl, x, cols, conts, k, tk, tcol, tct, n, nl, vs, ns, rest, hm, hn, hB, hk0, hk1, hap, hapP, hapF⟩ := hP
  have hs : St h₀ L s.heap m1 n1 (lawN c pl fl cols conts []) (lawT c l pl fl k ns cols []) := by
    refine ⟨F1, N1, fun y d hy => ?_, ?_, ?_⟩
    · have hm2 := nam_of hy
      revert hm2
      generalize hq : (y, d) = q
      intro hm2
      rw [hm, hn]
      have all : ∀ p ∈ lawN c pl fl cols conts [], ∃ v, (mk [] [(Str.ofString "cloth", .ref c), (Str.ofString "columns", .int cols tcol), (Str.ofString "limits", .ref x), (Str.ofString "pairs", .ref pl), (Str.ofString "firsts", .ref fl), (Str.ofString "count", .int 1 tct)] u m) p.1 = some v ∧ p.2.Is ((c, cloth l k tk n) :: (pl, W.listOf #[] 0) :: (fl, W.listOf #[] 0) :: rest) v :=
        mem3 ⟨_, rfl, rfl⟩ ⟨_, rfl, _, rfl⟩ (mem3 ⟨_, rfl, hB.lim.mono fun p hp => .tail _ (.tail _ (.tail _ hp))⟩ ⟨_, rfl, rfl⟩ (mem3 ⟨_, rfl, rfl⟩ ⟨_, rfl, _, rfl⟩ mem0))
      have := all q hm2
      rw [← hq] at this
      exact this
    · have mk1 : ∀ {lg : Lg}, (c, cloth l k tk n) ∈ lg → Lst lg c [.ref l, .int k] := fun {lg} h => ⟨[.ref l, .int k tk], n, h, AllR.cons (R := fun v d => Dv.Is lg d v) rfl (AllR.cons (R := fun v d => Dv.Is lg d v) ⟨tk, rfl⟩ AllR.nil)⟩
      have mk2 : ∀ {lg : Lg}, (l, W.listOf vs.toArray nl) ∈ lg → Lst lg l (ns.map .int) := fun h => ⟨vs, nl, h, ints_areD hB.isi⟩
      have mk3 : ∀ {lg : Lg} {b : Addr}, (b, W.listOf #[] 0) ∈ lg → Lst lg b [] := fun h => ⟨[], 0, h, AllR.nil⟩
      rw [hn]
      exact mem3 (mk1 (.head _)) (mk2 (.tail _ (.tail _ (.tail _ hB.mem)))) (mem3 (mk3 (.tail _ (.head _))) (mk3 (.tail _ (.tail _ (.head _)))) mem0)
    · have e1 := hB.lc
      have e2 : pl ≠ c := hap _ (.head _)
      have e3 : fl ≠ c := hap _ (.tail _ (.head _))
      have e4 : l ≠ pl := hapP _ (.tail _ hB.mem)
      have e5 : fl ≠ pl := hapP _ (.head _)
      have e6 : l ≠ fl := hapF _ hB.mem
      show [c, l, pl, fl].Nodup
      simp only [List.nodup_cons, List.mem_cons, List.not_mem_nil, or_false, not_or, List.nodup_nil, and_true, not_false_eq_true]
      exact ⟨⟨fun e => e1 e.symm, fun e => e2 e.symm, fun e => e3 e.symm⟩, ⟨e4, e6⟩, fun e => e5 e.symm⟩
  have hs2 : St h₀ L s.heap m1 n1 (lawN c pl fl cols conts []) (lawT c l pl fl k ns cols [] ++ []) := hs
  have hcx := law_all (cx := ⟨w, mean, mg, mb, 1 + claimMargin, 4, some [], [], h₀, h₀, L, a, cd, s, none⟩) (c := c) (l := l) (pl := pl) (fl := fl) (k := k) (ns := ns) (cols := cols) (conts := conts) (KT := fun x _ _ => x = .ret (.bool true)) ⟨X, T, K, (by decide +kernel : 1 + claimMargin + 100 < recursionLimit), (by decide +kernel : 4 + 1000 < cLine)⟩ rfl rfl hB.c1 hB.c2 hB.k1 hB.k2
    (by rw [← hB.isi.length]; exact hB.len) hk0 hk1 (fun _ _ => rfl) _ [] s.heap s.toks _ hs2
  refine wpAny_mono hcx (fun g s₁ hg => ?_) fun _ _ x => x.no
  obtain ⟨h', tk', m', M', w', n', l', rfl, kp, hs', hw, rfl⟩ := hg
  obtain ⟨v, rfl, hv⟩ := hw
  cases hv
  exact hgo h' tk' m' l' hs'.fr hs'.news
end Mine

section s18
namespace Mine
theorem law_a {w : World} {mean : ExcName → Option Value} {mg mb : Str → Option Value} {h₀ : Heap} {L a : Addr} {cd : Value} {s : Shared} {m1 : Str → Option Value} {n1 : List (Addr × Obj)} {Q : Flow → Shared → Prop}
    (X : (hK.heap_1 w.params).In h₀) (T : TOP mean mg mb h₀) (K : Below callerA h₀ [] h₀) (F1 : Fr h₀ L s.heap m1) (N1 : News h₀ L s.heap n1) (hP : P1 m1 n1)
    (hgo : ∀ h tk m' news', Fr h₀ L h m' → News h₀ L h news' → P2 m' news' → wpAny (model PRG w) (LA L a cd) (execs (LB 4) (LE L a cd)) Q (fun _ _ => False) { s with heap := h, toks := tk }) :
    wpAny (model PRG w) (LA L a cd) (execs (LB 1) (LE L a cd)) Q (fun _ _ => False) s := by
  obtain ⟨m, u, c, l, tk, vs, ns, nl, rfl, rfl, hI, hlen, hlc⟩ := hP
  have hne : l ≠ c := Nat.ne_of_lt hlc
  w_top off
  have fill9 : Mine.Fills PySem.Challenge.rw_sa0210_01 Mine.hK.heap_1 := by (k_fill; exact True.intro)
  have hsc : LS = LS := rfl
  conv at hsc => rhs; whnf
  have hbd : LB 1 = LB 1 := rfl
  conv at hbd => rhs; whnf
  rw [hbd]
  unfold LA LE
  simp only [hsc]
  clear hsc hbd
  refine seq_F F1 (fun m m' news' => ∃ (u : Str → Option Value) (cols : Nat) (tcol tk : Tok), m' = mk [] [(Str.ofString "cloth", .ref c), (Str.ofString "columns", .int cols tcol)] u m ∧ news' = [(c, cloth l 1 tk 0), (l, W.listOf vs.toArray nl)] ∧ 8 ≤ cols ∧ cols ≤ 16) ?_ ?_
  · k_steps
    · exact True.intro
    · rename_i v9 _ _ q0 q1 h9 F9 N9
      obtain ⟨cols, hcols⟩ : ∃ cols : Nat, 8 + v9 = cols := ⟨(8 + v9).toNat, by omega⟩
      rw [hcols] at F9
      refine ⟨_, _, _, _, rfl, F9, N9, _, cols, _, _, mk_eq ⟨rfl, rfl, trivial⟩ ?_, rfl, by omega, by omega⟩
      intro w9 h9 k9
      simp only [List.mem_cons, List.mem_nil_iff, List.map_cons, List.map_nil, List.not_mem_nil, or_false, not_or] at h9 k9
      first | rfl | (simp only [Mine.mk, Mine.mkN, h9, k9, if_false]; done) | (simp [Mine.mk, Mine.mkN, h9, k9]; done)
  · rintro h2 tk2 m2 n2 F2 N2 ⟨u2, cols, tcol, tk3, rfl, rfl, hc1, hc2⟩
    refine seq_F F2 (fun m m' news' => ∃ (u : Str → Option Value) (x : Addr) (rest : List (Addr × Obj)) (conts : Int) (tk : Tok), m' = mk [] [(Str.ofString "limits", .ref x)] u m ∧ news' = (c, cloth l 2 tk 0) :: rest ∧ LawB rest c l x cols conts vs nl ns ∧ ∀ p ∈ rest, p.1 ≠ c) ?_ ?_
    · k_steps
      · exact True.intro
      · rename_i v9 _ _ q0 q1 x9 d9 _ l1 l2 _ L9 _ B9 X9 T9 _ _ _ _ _ _ _ _ F8 N8 Tc kX h9 F9 N9
        obtain ⟨rest, N7, hB, hap⟩ := lim_close N9 hI hlen hlc l1 l2 hc1 hc2 q0 q1
        exact ⟨_, _, _, _, rfl, F9, N7, _, x9, rest, v9, _, mk_eq ⟨rfl, trivial⟩ (by
          intro w9 h9 k9
          simp only [List.mem_cons, List.mem_nil_iff, List.map_cons, List.map_nil, List.not_mem_nil, or_false, not_or] at h9 k9
          first | rfl | (simp only [Mine.mk, Mine.mkN, h9, k9, if_false]; done) | (simp [Mine.mk, Mine.mkN, h9, k9]; done)
          ), rfl, hB, hap⟩
    · rintro h3 tk3' m3 n3 F3 N3 ⟨u3, x, rest, conts, tk4, rfl, rfl, hB, hap⟩
      refine seq_F F3 (fun _ => P2) ?_ ?_
      · k_steps
        · exact True.intro
        · rename_i p h6 lta lta' f h5 ltb ltb' tpl h4 ltc ltc' h3 h2' h1' h0 F9 N9
          refine ⟨_, _, _, _, rfl, F9, fun p hp => N9 p ?_, ⟨m, _, c, l, p, f, x, cols, conts, 2, tk4, tcol, _, 0, nl, vs, ns, (tpl, tup [Value.ref p, Value.ref f, Value.int 1 tk3']) :: rest, mk_eq ⟨rfl, rfl, rfl, rfl, rfl, rfl, trivial⟩ ?_, rfl, ⟨hB.lim.mono fun p hp => .tail _ hp, .tail _ hB.mem, hI, hlen, hc1, hc2, hB.k1, hB.k2, hne⟩, by omega, by omega, ?_, ?_, ?_⟩⟩
          · simp only [List.mem_cons] at hp ⊢; grind
          · intro w9 h9 k9
            simp only [List.mem_cons, List.mem_nil_iff, List.map_cons, List.map_nil, List.not_mem_nil, or_false, not_or] at h9 k9
            first | rfl | (simp only [Mine.mk, Mine.mkN, h9, k9, if_false]; done) | (simp [Mine.mk, Mine.mkN, h9, k9]; done)
          · intro q hq
            simp only [List.mem_cons] at hq
            rcases hq with rfl | rfl | rfl | hq
            · exact Nat.ne_of_gt lta'.1
            · exact Nat.ne_of_gt ltb'.2.1
            · exact Nat.ne_of_gt ltc'.2.2.1
            · exact hap q hq
          · intro q hq
            simp only [List.mem_cons] at hq
            rcases hq with rfl | rfl | hq
            · exact Nat.ne_of_gt ltb'.1
            · exact Nat.ne_of_gt ltc'.2.1
            · exact Nat.ne_of_lt (lta q (.tail _ hq))
          · intro q hq
            simp only [List.mem_cons] at hq
            rcases hq with rfl | hq
            · exact Nat.ne_of_gt ltc'.1
            · exact Nat.ne_of_lt (ltb q (.tail _ (.tail _ hq)))
      · exact hgo
end Mine

end s18

namespace Mine
theorem vwA : namesOk vw (looseW vw []) (namesW vw []) = true := by
  rw [Fast.te17448422675489707002, Fast.te821141287760084731]; kernel_rfl
theorem vwB : importsNone vw = true := by
  rw [Fast.te2458874890965802552]; kernel_rfl
end Mine
local macro_rules | `(tactic| k_qdec) => `(tactic| first | exact Mine.vwA | exact Mine.vwB)
theorem PySem.Challenge.cw_sa0210_01_holds : PySem.Challenge.rw_sa0210_01.Holds := by
  refine Mine.hd (by
    k_go0
    all_goals (try k_fold)
    rename Fr _ _ _ _ => F0
    rename Top _ _ _ _ _ _ => T0
    rename Below _ _ _ _ => B0
    rename Frag.In _ _ => X0
    refine Mine.seq_F F0 (fun m m' news' => Mine.P1 m' news') ?_ ?_
    · k_steps
      · exact True.intro
      · rename_i D ws _ hID hCD _ _ l _ _ ltl _ F1 N1
        refine ⟨_, _, _, _, rfl, F1, N1, _, _, l, D, _, _, _, 0, Mine.mk_eq ⟨rfl, trivial⟩ (fun _ _ _ => rfl), rfl, hID, ?_, ltl⟩
        · rw [hID.length, List.length_take]; omega
    · rintro h1 tk1 m1 n1 F1 N1 hP
      refine wpAny_mono (Mine.law_a X0 T0 B0 F1 N1 hP fun h2 tk2 m2 n2 F2 N2 hP2 => Mine.law_from X0 T0 B0 F2 N2 hP2 fun h5 tk5 m5 n5 F5 N5 => ?_) (fun _ _ x => x) (fun _ _ x => x.elim)
      dsimp only
      k_steps)

end s19
