import PyProof.Rows.All
import Wide.All
import OpenK.AllK
import Wide.FinOn
import Lean
import PySem.Challenge.RW_on0005_01
open PySem PySem.W PyProof.Rows PySem.Calls PySem.Spec
set_option Elab.async false
set_option maxRecDepth 100000
set_option maxHeartbeats 8000000
namespace Mine
theorem wellSaid : OpenLaw.wellSaid PySem.Challenge.rw_on0005_01 = true :=
  (congrFun PySem.W.Fast.te9446332074065402090 _).trans (by kernel_rfl)
def lawView : Program := { PySem.Challenge.pw_on0005_01 with main := { PySem.Challenge.pw_on0005_01.main with body := ((PySem.Challenge.pw_on0005_01.main.body.eraseIdx 19).eraseIdx 5).eraseIdx 0 } }
def lawX (s : Shared) : Bool := xlAt lawView [] s && recOk (RowW.records (OpenRow.toRowW (OpenLaw.row PySem.Challenge.rw_on0005_01))) s
noncomputable def S0 (w : World) (os : OsState) : Shared := ⟨boot_heap w.params, Array.mk [], boot_drawn, boot_toks, os⟩
theorem opens {p : Program} {N : Nat} (e : opening p = plainProg p.main.scope.names) (hN : Nat.ble 600 N = true) (f : ∀ s, fenceModules? p s = some s) (w : World) :
    ∃ os, fencedOpening treeTable p w N = some (S0 w os) := by
  obtain ⟨⟨h, g, d, t, os⟩, hs, hv⟩ := Option.map_eq_some_iff.mp (boot_open e hN f w)
  obtain ⟨rfl, a⟩ := Prod.mk.inj hv
  obtain ⟨rfl, a⟩ := Prod.mk.inj a
  obtain ⟨rfl, rfl⟩ := Prod.mk.inj a
  exact ⟨os, hs⟩
theorem left_of {X : Shared → Bool} {α : Type} {Yf : Shared → α} {Ya : World → α}
    (h : ∀ (b : Bool) (w : World) (os : OsState), (topFrom treeTable PySem.Challenge.pw_on0005_01 (w.withFollow "special-get-raises" b) 2840 (S0 (w.withFollow "special-get-raises" b) os)).map (fun s => (openSeen lawView [Str.ofString "ChanError", Str.ofString "KIND_BITS"] (importedModules PySem.Challenge.pw_on0005_01.main.body) X true s, Yf s)) = some (openGood lawView [Str.ofString "ChanError", Str.ofString "KIND_BITS"], Ya (w.withFollow "special-get-raises" b))) :
    LeftO PySem.Challenge.pw_on0005_01 lawView [Str.ofString "ChanError", Str.ofString "KIND_BITS"] X Yf Ya 2840 := by
  refine byRow2 "special-get-raises" ?_ ?_ <;>
  · intro w
    obtain ⟨os, e⟩ := opens (p := PySem.Challenge.pw_on0005_01) (N := 2840) (by kernel_rfl) (by kernel_rfl) (fun s => by kernel_rfl) (w.withFollow "special-get-raises" _)
    unfold openEnds
    rw [e, Option.bind_some]
    exact h _ w os
local macro_rules | `(tactic| k_qdec) => `(tactic| decide +kernel)
local macro_rules | `(tactic| o_law) => `(tactic| refine holds_law wellSaid fun said => ?_)
theorem passOn {r : RowW} {P : Prop} (hw : r.promised) (hc : P) : P := hc
section
local macro_rules | `(tactic| o_head $_) => `(tactic| refine passOn (r := OpenRow.toRowW (OpenLaw.row PySem.Challenge.rw_on0005_01)) ?hw ?hc)
open_top hd for PySem.Challenge.rw_on0005_01
end
def AS : List Addr := [2, 3, 15, 22, 23, 25, 26, 28, 29, 30, 31, 32, 33, 36, 43, 45, 46, 48, 49, 50, 51, 52, 55, 56, 58, 59, 61, 62, 63, 64, 65, 67, 68, 70, 71, 72, 74, 75, 77, 78, 79, 81, 82, 84, 85, 86, 88, 89, 91, 92, 93, 95, 96, 98, 99, 100, 102, 103, 105, 106, 107, 109, 110, 112, 113, 114, 116, 117, 119, 120, 121, 123, 124, 126, 127, 128, 130, 131, 133, 134, 135, 137, 138, 140, 141, 142, 144, 145, 147, 148, 149, 151, 152, 154, 155, 156, 158, 159, 161, 162, 163, 165, 166, 168, 169, 170, 172, 173, 175, 176, 177, 179, 180, 182, 183, 184, 187, 188, 189, 192, 193, 194, 196, 197, 199, 200, 201, 204, 205]
theorem as_heap (P : Params) : AS = (hd.heap_1 P).map (·.1) := by kernel_rfl
theorem run0 (w : World) (os : OsState) : (topFrom treeTable PySem.Challenge.pw_on0005_01 (w.withFollow "special-get-raises" false) 2840 (S0 (w.withFollow "special-get-raises" false) os)).map (fun s => (openSeen lawView [Str.ofString "ChanError", Str.ofString "KIND_BITS"] (importedModules PySem.Challenge.pw_on0005_01.main.body) lawX true s, (kHook hd.heap_1 AS as_heap).obs s)) = some (openGood lawView [Str.ofString "ChanError", Str.ofString "KIND_BITS"], (kHook hd.heap_1 AS as_heap).val (w.withFollow "special-get-raises" false)) := by
  rw [topFrom, PySem.W.Fast.te14082659384304107361, PySem.W.Fast.te14364793385576792824, PySem.W.Fast.te4187177175401517315]
  kernel_rfl
theorem run1 (w : World) (os : OsState) : (topFrom treeTable PySem.Challenge.pw_on0005_01 (w.withFollow "special-get-raises" true) 2840 (S0 (w.withFollow "special-get-raises" true) os)).map (fun s => (openSeen lawView [Str.ofString "ChanError", Str.ofString "KIND_BITS"] (importedModules PySem.Challenge.pw_on0005_01.main.body) lawX true s, (kHook hd.heap_1 AS as_heap).obs s)) = some (openGood lawView [Str.ofString "ChanError", Str.ofString "KIND_BITS"], (kHook hd.heap_1 AS as_heap).val (w.withFollow "special-get-raises" true)) := by
  rw [topFrom, PySem.W.Fast.te14082659384304107361, PySem.W.Fast.te14364793385576792824, PySem.W.Fast.te4187177175401517315]
  kernel_rfl
theorem left : LeftO PySem.Challenge.pw_on0005_01 lawView [Str.ofString "ChanError", Str.ofString "KIND_BITS"] lawX (kHook hd.heap_1 AS as_heap).obs (kHook hd.heap_1 AS as_heap).val 2840 :=
  left_of fun b w os => match b with | false => run0 w os | true => run1 w os
section
local macro_rules | `(tactic| o_head $_) => `(tactic| refine holds_open (q := lawView) (loose := [Str.ofString "ChanError", Str.ofString "KIND_BITS"]) (XP := XL lawView []) (YP := Hook.says (kHook hd.heap_1 AS as_heap)) (N := 2840) left (Hook.of _) (Hook.keeps _) (fun s e => xl_of s (Bool.and_eq_true_iff.mp e).1) XL.keeps (by rfl) (by rfl) (by rfl) (fun s e => recFacts_of (Bool.and_eq_true_iff.mp e).2) (by rfl) (by first | assumption | decide +kernel) (by decide +kernel) ⟨rfl, rfl, rfl, rfl, rfl, by decide +kernel⟩ ?hw ?hc)
open_top hdW for PySem.Challenge.rw_on0005_01
end
theorem letQ {α : Type} {M : Model} {A : Around} {T : Sem α} {Q : α → Shared → Prop} {E : Value → Shared → Prop} {s : Shared} (h : let Q' := Q; wpAny M A T Q' E s) : wpAny M A T Q E s := h
set_option compiler.extract_closed false
local macro_rules | `(tactic| walk_at "use") => `(tactic| (dsimp only [CbRet]; intro t9 h9 tk9 F9 N9; (try dsimp only); (try k_fold)))
local macro_rules | `(tactic| k_qdec) => `(tactic| decide +kernel)
local macro_rules | `(tactic| walk_at "FQ") => `(tactic| (first | (fail_if_success k_fold) | (refine letQ ?_; intro q9)))
local macro_rules | `(tactic| walk_at "KST") => `(tactic| repeat' (first | (k_unfold; (try dsimp only)) | (walk1 <;> walk_at "FQ") | ((dsimp only; walk1) <;> walk_at "FQ") | ((leave1; try dsimp only) <;> walk_at "FQ") | fail "no step"))
-- part P0
section

def kinds : List Str := [Str.ofString "int", Str.ofString "int8", Str.ofString "int16", Str.ofString "int32", Str.ofString "int64", Str.ofString "uint", Str.ofString "uint8", Str.ofString "uint16", Str.ofString "uint32", Str.ofString "uint64"]
def sg (k : Str) : Bool := Txt.item k 0 == Str.ofString "i"
def bt (k : Str) : Nat := if k = Str.ofString "int8" ∨ k = Str.ofString "uint8" then 8 else if k = Str.ofString "int16" ∨ k = Str.ofString "uint16" then 16 else if k = Str.ofString "int32" ∨ k = Str.ofString "uint32" then 32 else 64

theorem kinds_len {k : Str} (hk : k ∈ kinds) : 3 ≤ k.length ∧ k.length ≤ 6 := by
  have h : ∀ k ∈ kinds, 3 ≤ k.length ∧ k.length ≤ 6 := by decide +kernel
  exact h k hk
theorem kinds_bt {k : Str} (hk : k ∈ kinds) : bt k = 8 ∨ bt k = 16 ∨ bt k = 32 ∨ bt k = 64 := by
  have h : ∀ k ∈ kinds, bt k = 8 ∨ bt k = 16 ∨ bt k = 32 ∨ bt k = 64 := by decide +kernel
  exact h k hk

def IsG (g h : Heap) : Prop := g = h
theorem IsG.stays {g h h' : Heap} {L : Addr} {m : Str → Option Value} (e : IsG g h) (F : Fr g L h' m) : h.StaysIn h' := by
  cases e
  exact F.keep
theorem leave_pure {h₀ g : Heap} {L : Addr} {m : Str → Option Value} {R : Result → Shared → Prop} {v : Value} {s' : Shared} (F : Fr h₀ L g m) (hl : LeaveK h₀ L m g R v s') : R (.ok (.ret v)) s' := by
  obtain ⟨L', m', news', F', N', k⟩ := hl
  refine k (F.grownK F'.keep) fun p hp => ⟨(N' p hp).1, fun q => ?_, ?_⟩
  · obtain ⟨o, es, ep, ho, _⟩ := F.ns
    have h3 := (N' p hp).2.2
    rw [q, ho] at h3
    cases h3
  · cases q : h₀.get? p.1 with
    | none => rfl
    | some o =>
      have h3 := (N' p hp).2.2
      rw [F.keep _ _ q] at h3
      cases h3
section
variable {prog : Program} {w : World} {A A₀ : Around} {s : Shared} {K : Frag} {L : Addr} {h₀ base : Heap} {m mg mb : Str → Option Value} {p : Program} {loose : List Str} {mean : ExcName → Option Value}
  {env : Env} {outer : List Env} {R : Result → Shared → Prop} {name qual : Str} {params : Arguments} {body : List Stmt} {scope : Scope} {dV kV doc pm cdv ct oc : Value} {an od : Option Addr} {osl : Array (Option Value)} {f : Addr} {args : Args} {binds : List (Str × Value)}
theorem code_pure (B : Below A₀ base outer h₀) (F : Fr h₀ L s.heap m) (X₀ : K.In h₀) (T : Top p loose mean mg mb h₀) (hA : A.frames = some (env :: outer)) (hf : env.frame = some L) (hke : env.scope.kind = .function)
    (ho : K.lookup f = some ⟨oc, od, .func (fnOf name qual params body scope dV kV doc pm an cdv ct), osl⟩) (hcd : codeIn K cdv qual = true) (hroom : A.depth < recursionLimit)
    (hbind : BindsTo s (fnOf name qual params body scope dV kV doc pm an cdv ct) args binds) (hloc : ∀ y ∈ binds, scope.names.lookup y.1 = some .local)
    (h : ∀ g L' h₁, IsG g s.heap → Fr h₀ L g m → Fr g L' h₁ (fun y => binds.reverse.lookup y) → News g L' h₁ [] → Below A base (env :: outer) g → K.In g → Top p loose mean mg mb g →
      wpAny (model prog w) (A.deeper (envOf qual scope L' f cdv)) (execs body (envOf qual scope L' f cdv))
        (fun fl s' => LeaveK h₀ L m g R (match fl with | .ret v => v | _ => .none) s')
        (fun e s' => wpAny (model prog w) (A.deeper (envOf qual scope L' f cdv)) (leaving (envOf qual scope L' f cdv) e) (fun _ s'' => R (.error e) s'') (fun e' s'' => R (.error e') s'') s')
        { s with heap := h₁, toks := s.toks + binds.length })
    (hco : scope.isCoroutine = false) (hgen : scope.isGenerator = false) (hk : scope.kind = .function) (hcell : ∀ x ∈ scope.names, x.2 ≠ .cell) : codeAny (model prog w) A (.call (.ref f) args) R s := by
  obtain ⟨_, BG, _, _⟩ := groundX (R := R) (news := []) B F News.nil hA hf hke
  refine codeAny_call_def (fd := fnOf name qual params body scope dV kV doc pm an cdv ct) (body := body) (binds := binds) hroom ((X₀.keeps F.keep) _ _ ho) rfl (T.nolimit.keeps F.keep) (codeRec_of (X₀.keeps F.keep) hcd) rfl hbind hcell hloc (fun h₁ hns hk₁ => ?_) hco hgen hk
  exact wpAny_mono (h s.heap s.heap.objs.size h₁ rfl F ⟨hns, hk₁, Nat.le_refl _⟩ News.nil BG (X₀.keeps F.keep) (T.keeps F.keep)) (fun fl s' hl => leave_pure F hl) fun _ _ y => y
theorem code_pureC (B : Below A₀ base outer h₀) (F : Fr h₀ L s.heap m) (X₀ : K.In h₀) (T : Top p loose mean mg mb h₀) (hA : A.frames = some (env :: outer)) (hf : env.frame = some L) (hke : env.scope.kind = .function)
    (ho : K.lookup f = some ⟨oc, od, .func (fnOf name qual params body scope dV kV doc pm an cdv ct), osl⟩) (hcd : codeIn K cdv qual = true) (hroom : A.depth < recursionLimit)
    (hbind : BindsTo s (fnOf name qual params body scope dV kV doc pm an cdv ct) args binds) (hkind : (binds.all fun y => scope.names.lookup y.1 == some .local || scope.names.lookup y.1 == some .cell) = true)
    (hnd : ((cellsFrom 0 scope.names []).map (·.1)).Nodup)
    (h : ∀ g L' h₁ tk cells, IsG g s.heap → Fr h₀ L g m → Fr g L' h₁ (bindL (envOfC qual scope L' f cdv).kindOf binds fun _ => none) → News g L' h₁ cells →
      CellsAre (bindC (envOfC qual scope L' f cdv).kindOf binds fun _ => none) (cellsFrom (L' + 1) scope.names []) cells → Below A base (env :: outer) g → K.In g → Top p loose mean mg mb g →
      wpAny (model prog w) (A.deeper (envOfC qual scope L' f cdv)) (execs body (envOfC qual scope L' f cdv))
        (fun fl s' => LeaveK h₀ L m g R (match fl with | .ret v => v | _ => .none) s')
        (fun e s' => wpAny (model prog w) (A.deeper (envOfC qual scope L' f cdv)) (leaving (envOfC qual scope L' f cdv) e) (fun _ s'' => R (.error e) s'') (fun e' s'' => R (.error e') s'') s')
        { s with heap := h₁, toks := tk })
    (hco : scope.isCoroutine = false) (hgen : scope.isGenerator = false) (hk : scope.kind = .function) : codeAny (model prog w) A (.call (.ref f) args) R s := by
  obtain ⟨_, BG, _, _⟩ := groundX (R := R) (news := []) B F News.nil hA hf hke
  refine codeAny_call_function hroom ((X₀.keeps F.keep) _ _ ho) rfl hco hgen rfl (codeRec_of (X₀.keeps F.keep) hcd) (hbind _ _ _ _ ?_)
  refine wpAny_newFunctionEnv_cells hk (kindsX hkind _) fun env' he s' x => ?_
  subst he
  have hk₁ := x.toInCall.keep
  refine ⟨(T.nolimit.keeps F.keep).keeps hk₁, codeAny_func ?_⟩
  obtain ⟨h₁, tk, rfl, _⟩ := x.done
  obtain ⟨cells, NC, Y⟩ := Cl.news (h₀ := s.heap) (Nat.le_refl _) fun n c hm => ⟨x.cell n c (lookup_of_mem_nodup (cellsFrom_names scope.names 0 (s.heap.objs.size + 1) [] [] rfl ▸ hnd) hm), x.above n c hm⟩
  exact wpAny_mono (h s.heap s.heap.objs.size h₁ tk cells rfl F ⟨x.toInCall.ns, hk₁, Nat.le_refl _⟩ NC Y BG (X₀.keeps F.keep) (T.keeps F.keep)) (fun fl s' hl => leave_pure F hl) fun _ _ y => y
end

def Con (w : World) (lv : Nat) (f : Addr) (vs : List Value) (R : Tok → Value) : Prop :=
  ∀ (mean : ExcName → Option Value) (mg mb : Str → Option Value) (dp un : Nat) (gd : Option (List Code)) (cn : Str) (cs : Scope) (a : Addr) (ccd : Value) (cl : List (Str × Addr)) (outer : List Env) (A₀ : Around) (base h₀ : Heap) (L : Addr) (m : Str → Option Value) (s : Shared) (Q E : Value → Shared → Prop),
    Below A₀ base outer h₀ → Fr h₀ L s.heap m → (hd.heap_1 w.params).In h₀ → Top lawView (looseW lawView [Str.ofString "ChanError", Str.ofString "KIND_BITS"]) mean mg mb h₀ → cs.kind = .function →
    dp + lv < recursionLimit → un + 8 * lv < cLine → (∀ (t : Tok) (h' : Heap) (tk' : Nat), s.heap.StaysIn h' → Q (R t) { s with heap := h', toks := tk' }) →
      wpAny (model PySem.Challenge.rw_on0005_01.row.prog w) (ktrTop dp un gd cn cs L a ccd cl outer) (call (.ref f) vs) Q E s

theorem con_use {w : World} {lv : Nat} {f : Addr} {vs : List Value} {R : Tok → Value} (C : Con w lv f vs R)
    {mean : ExcName → Option Value} {mg mb : Str → Option Value} {news : List (Addr × Obj)} {dp un : Nat} {gd : Option (List Code)} {cn : Str} {cs : Scope} {a : Addr} {ccd : Value} {cl : List (Str × Addr)} {outer : List Env} {A₀ : Around} {base h₀ : Heap} {L : Addr} {m : Str → Option Value} {s : Shared} {Q E : Value → Shared → Prop}
    (B : Below A₀ base outer h₀ := by k_asm) (F : Fr h₀ L s.heap m := by k_asm) (X : (hd.heap_1 w.params).In h₀ := by k_asm) (N : News h₀ L s.heap news := by k_asm) (T : Top lawView (looseW lawView [Str.ofString "ChanError", Str.ofString "KIND_BITS"]) mean mg mb h₀ := by k_asm) (hcs : cs.kind = .function := by first | exact rfl | assumption)
    (hdp : dp + lv < recursionLimit := by ktr_room) (hun : un + 8 * lv < cLine := by ktr_units) (hret : CbRet h₀ L m news s Q R) :
    wpAny (model PySem.Challenge.rw_on0005_01.row.prog w) (ktrTop dp un gd cn cs L a ccd cl outer) (call (.ref f) vs) Q E s :=
  C _ _ _ _ _ _ _ _ _ _ _ _ _ _ _ _ _ _ _ _ B F X T hcs hdp hun fun t h' tk' st => hret t h' tk' (F.grownK st) (N.grown st)
section
variable {s : Shared} {h' : Heap} {Q : Value → Shared → Prop} {t : Tok} {tk' : Nat}
theorem pretI {x y : Int} (hret : ∀ (t : Tok) (h' : Heap) (tk' : Nat), s.heap.StaysIn h' → Q (.int x t) { s with heap := h', toks := tk' }) (e : y = x) (F : s.heap.StaysIn h') : Q (.int y t) { s with heap := h', toks := tk' } := by
  subst e
  exact hret t h' tk' F
theorem pretB {x y : Bool} (hret : ∀ (t : Tok) (h' : Heap) (tk' : Nat), s.heap.StaysIn h' → Q (.bool x) { s with heap := h', toks := tk' }) (e : y = x) (F : s.heap.StaysIn h') : Q (.bool y) { s with heap := h', toks := tk' } := by
  subst e
  exact hret 0 h' tk' F
end

theorem kb_item (P : Params) {k : Str} (hk : k ∈ kinds) : ∃ t, nsIn (hd.heap_1 P) 63 k = some (some (.int (bt k) t)) := by
  simp only [kinds, List.mem_cons, List.not_mem_nil, or_false] at hk
  rcases hk with rfl | rfl | rfl | rfl | rfl | rfl | rfl | rfl | rfl | rfl
  all_goals exact ⟨_, rfl⟩
theorem kb_sub {w : World} {A : Around} {E : Value → Shared → Prop} {s : Shared} {h₀ : Heap} {L : Addr} {m : Str → Option Value} {value slice : Expr} {k : Str} {t : Tok} {Q : Value → Shared → Prop} (hk : k ∈ kinds)
    (F : Fr h₀ L s.heap m) (X : (hd.heap_1 w.params).In h₀)
    (h : ∀ t', Q (.int (bt k) t') { s with toks := s.toks + 1 })
    (hs : subscripted slice false (.ref 63) (.str k t) = operate [.ref 63, .str k t] (getItem (.ref 63) (.str k t)) := by with_unfolding_all rfl) :
    wpAny (model PySem.Challenge.rw_on0005_01.row.prog w) A (subscriptTail value slice (.ref 63) (.str k t)) Q E s := by
  obtain ⟨t', ht⟩ := kb_item w.params hk
  exact topItem_K F X rfl (by repeat (first | exact True.intro | refine And.intro ⟨_, _, rfl, rfl⟩ ?_)) ht (h t') hs
theorem has_sign_c (w : World) {k : Str} {t : Tok} (hk : k ∈ kinds) : Con w 2 71 [.str k t] (fun t => .bool (sg k)) := by
  obtain ⟨hkl1, hkl2⟩ := kinds_len hk
  unfold Con
  w_top off
  k_fill
  intro mean mg mb dp un gd cn cs a9 ccd cl outer A₀ base h₀ L m s Q E B F X T hcs hdp hun hret
  refine wpAny_call ?_
  refine' code_pure ?k1 ?k2 ?k3 ?k5 ?kA ?kF ?kK ?k6 ?k7 ?k8 ?k9 ?kB ?_ ?c2 ?c3 ?c4 ?c5; (case kA => exact rfl); (case kF => exact rfl); (case kK => assumption); (case k1 => k_asm); (case k2 => k_asm); (case k3 => k_asm); (case k5 => k_asm); (case k6 => k_dflt k_is); (case k7 => k_dflt k_is); (case k8 => ktr_room); (case k9 => exact BindsTo.of_eq rfl); (case c5 => decide); (case kB => exact locs rfl); (case c2 => exact rfl); (case c3 => exact rfl); (case c4 => exact rfl)
  intro g' L' h' hG' FG' F' N' B' X' T'
  (try dsimp only)
  (try k_lift B')
  (try k_fold)
  k_steps
  all_goals (refine' pretB (Q := Q) (s := s) hret ?e1 ?e2; (case e2 => exact IsG.stays (by assumption) (by k_asm)); (case e1 => rfl))
end
local macro_rules | `(tactic| walk_at "subscriptTail Name Name ref str") => `(tactic| (k_here; (with_reducible show wpAny _ _ (subscriptTail _ _ (Value.ref 63) (Value.str _ _)) _ _ _); k_dflt (refine' kb_sub ?hk ?k1 ?k2 ?_; (case hk => assumption); (case k1 => k_asm); (case k2 => k_asm); intro t9; (try dsimp only))))
local macro_rules | `(tactic| walk_at "call ref") => `(tactic| (k_here; (with_reducible show wpAny _ _ (call (Value.ref _) _) _ _ _); (refine wpAny_call ?_); k_dflt (first
  | (refine' code_def ?k1 ?k2 ?k3 ?k4 ?k5 ?kA ?kF ?kK ?k6 ?k7 ?k8 ?k9 ?kB ?_ ?c2 ?c3 ?c4 ?c5; (case kA => exact rfl); (case kF => exact rfl); (case kK => first | exact rfl | assumption); (case k1 => k_asm); (case k2 => k_asm); (case k3 => k_asm); (case k4 => k_asm); (case k5 => k_asm); (case k6 => k_is); (case k7 => k_is); (case k8 => ktr_room); (case k9 => first | exact BindsTo.of_eq rfl | exact binds_K (by k_in) rfl (by k_is) rfl rfl rfl); (case c5 => decide); (case kB => exact locs rfl); (case c2 => exact rfl); (case c3 => exact rfl); (case c4 => exact rfl); k_whole; intro g' L' h' FG' F' N' B' X' T'; (try dsimp only); (try k_lift B'); (try k_fold))
  | (refine' code_defC ?k1 ?k2 ?k3 ?k4 ?k5 ?kA ?kF ?kK ?k6 ?k7 ?k8 ?k9 ?kB ?kD ?_ ?c2 ?c3 ?c4; (case kA => exact rfl); (case kF => exact rfl); (case kK => first | exact rfl | assumption); (case k1 => k_asm); (case k2 => k_asm); (case k3 => k_asm); (case k4 => k_asm); (case k5 => k_asm); (case k6 => k_is); (case k7 => k_is); (case k8 => ktr_room); (case k9 => first | exact BindsTo.of_eq rfl | exact binds_K (by k_in) rfl (by k_is) rfl rfl rfl); (case kB => exact rfl); (case kD => decide +kernel); (case c2 => exact rfl); (case c3 => exact rfl); (case c4 => exact rfl); k_whole; intro g' L' h' tk' cells' FG' F' N' Y' B' X' T' l1; (try k_lt l1); k_cells Y'; (try simp only [List.cons_append, List.nil_append] at N'); (try dsimp only); (try k_lift B'); (try k_fold)))))
local macro_rules | `(tactic| walk_at "call ref") => `(tactic| (k_here; (with_reducible show wpAny _ _ (call (Value.ref 71) _) _ _ _); k_dflt (refine' con_use (C := has_sign_c _ (by assumption)) (hret := ?_); walk_at "use")))
-- part SD
section
-- the source of draws: a list of two ints and a row of at most four ints
def SrcOk (l : Addr) (o : Obj) : Prop := ∃ x y tx ty n, 0 ≤ y ∧ y < 2147483647 ∧ o = PySem.W.listOf #[.int x tx, .int y ty, .ref l] n
def RowOk (o : Obj) : Prop := ∃ n, o = PySem.W.listOf #[] n ∨ (∃ a t, o = PySem.W.listOf #[.int a t] n) ∨ (∃ a t b u, o = PySem.W.listOf #[.int a t, .int b u] n) ∨ (∃ a t b u c v, o = PySem.W.listOf #[.int a t, .int b u, .int c v] n) ∨
  ∃ a t b u c v d x, o = PySem.W.listOf #[.int a t, .int b u, .int c v, .int d x] n
theorem fm_rng {x c : Int} (h : 0 < c) : 0 ≤ x.fmod c ∧ x.fmod c < c := ⟨Int.fmod_nonneg_of_pos x h, Int.fmod_lt_of_pos x h⟩
def ConS (w : World) (lv : Nat) (f : Addr) (vs : List Value) (src l : Addr) (P : Value → Prop) : Prop :=
  ∀ (mean : ExcName → Option Value) (mg mb : Str → Option Value) (dp un : Nat) (gd : Option (List Code)) (cn : Str) (cs : Scope) (a : Addr) (ccd : Value) (cl : List (Str × Addr)) (outer : List Env) (A₀ : Around) (base h₀ : Heap) (L : Addr) (m : Str → Option Value) (s : Shared) (Q E : Value → Shared → Prop) (o ol : Obj),
    Below A₀ base outer h₀ → Fr h₀ L s.heap m → (hd.heap_1 w.params).In h₀ → News h₀ L s.heap [(src, o), (l, ol)] → Top lawView (looseW lawView [Str.ofString "ChanError", Str.ofString "KIND_BITS"]) mean mg mb h₀ → src ≠ l → SrcOk l o → RowOk ol → cs.kind = .function →
    dp + lv < recursionLimit → un + 8 * lv < cLine →
    (∀ (v : Value) (h' : Heap) (tk' : Nat) (o' ol' : Obj), P v → SrcOk l o' → RowOk ol' → h'.get? src = some o' → h'.get? l = some ol' → (∀ b x, s.heap.get? b = some x → b ≠ src → b ≠ l → h'.get? b = some x) → Q v { s with heap := h', toks := tk' }) →
      wpAny (model PySem.Challenge.rw_on0005_01.row.prog w) (ktrTop dp un gd cn cs L a ccd cl outer) (call (.ref f) vs) Q E s
theorem srcS_end {s : Shared} {g h' : Heap} {L' : Addr} {m' : Str → Option Value} {news : List (Addr × Obj)} {src l : Addr} {o' ol' : Obj} {v : Value} {tk : Nat} {P : Value → Prop} {Q : Value → Shared → Prop}
    (hret : ∀ (v : Value) (h' : Heap) (tk' : Nat) (o' ol' : Obj), P v → SrcOk l o' → RowOk ol' → h'.get? src = some o' → h'.get? l = some ol' → (∀ b x, s.heap.get? b = some x → b ≠ src → b ≠ l → h'.get? b = some x) → Q v { s with heap := h', toks := tk' })
    (hS : GSub s.heap g [src, l]) (F : Fr g L' h' m') (N : News g L' h' news) (h1 : (src, o') ∈ news) (h2 : (l, ol') ∈ news) (hP : P v) (hso : SrcOk l o') (hro : RowOk ol') : Q v { s with heap := h', toks := tk } :=
  hret v h' tk o' ol' hP hso hro (N _ h1).1 (N _ h2).1 fun b x e n1 n2 => F.keep b x (hS b x e (by simp [n1, n2]))
def TookP (top : Int) (v : Value) : Prop := ∃ r t, v = .int r t ∧ 0 ≤ r ∧ r < top
theorem TookP.mk {top x : Int} {t : Tok} (h : 0 < top) : TookP top (.int (x.fmod top) t) := ⟨_, _, rfl, fm_rng h⟩
theorem SrcOk.mk {x y : Int} {tx ty : Tok} {n : Nat} {l : Addr} (h : 0 ≤ y ∧ y < 2147483647) : SrcOk l (PySem.W.listOf #[.int x tx, .int y ty, .ref l] n) := ⟨x, y, tx, ty, n, h.1, h.2, rfl⟩
theorem fm_y {x : Int} : 0 ≤ x.fmod 2147483647 ∧ x.fmod 2147483647 < 2147483647 := fm_rng (by decide)
-- an item at an unknown place of a made list
section
variable {prog : Program} {w : World} {A : Around} {E : Value → Shared → Prop} {s : Shared} {h₀ : Heap} {L : Addr} {m : Str → Option Value} {news : List (Addr × Obj)}
theorem pick_made {value slice : PySem.Expr} {d : Addr} {vs : Array Value} {n : Nat} {k : Int} {u : Tok} {Q : Value → Shared → Prop} (C : Value → Prop) (N : News h₀ L s.heap news) (hm : (d, PySem.W.listOf vs n) ∈ news)
    (h0 : 0 ≤ k) (h1 : k < vs.size) (hsm : vs.size < 1000) (hall : ∀ v ∈ vs.toList, C v) (h : ∀ v, C v → Q v s)
    (hs : subscripted slice false (.ref d) (.int k u) = operate [.ref d, .int k u] (getItem (.ref d) (.int k u)) := by with_unfolding_all rfl) :
    wpAny (model prog w) A (subscriptTail value slice (.ref d) (.int k u)) Q E s := by
  have hl : s.heap.IsList d vs := ⟨_, (N _ hm).1, rfl, n, rfl⟩
  have hlt : k.toNat < vs.size := by omega
  exact tail_any hl.typeIs slot_list_getitem.lookup (wpAny_getItem_list hl h0 (by omega) (x := vs[k.toNat]) (by simp [hlt]) (h _ (hall _ (Array.getElem_mem_toList hlt)))) hs
end
end
-- part S1
section
theorem RowOk.two {o : Obj} (h : RowOk o) : (∃ n, o = PySem.W.listOf #[] n) ∨ ∃ a t r ns n, o = PySem.W.listOf (Value.int a t :: r).toArray n ∧ IntsAre r ns ∧ r.length ≤ 3 ∧ ∀ k, RowOk (PySem.W.listOf r.toArray k) := by
  obtain ⟨n, h⟩ := h
  rcases h with rfl | ⟨a, t, rfl⟩ | ⟨a, t, b, u, rfl⟩ | ⟨a, t, b, u, c, v, rfl⟩ | ⟨a, t, b, u, c, v, d, x, rfl⟩
  · exact .inl ⟨n, rfl⟩
  · exact .inr ⟨a, t, [], [], n, rfl, .nil, Nat.le_of_ble_eq_true rfl, fun k => ⟨k, .inl rfl⟩⟩
  · exact .inr ⟨a, t, [.int b u], [b], n, rfl, .cons _ _ .nil, Nat.le_of_ble_eq_true rfl, fun k => ⟨k, .inr (.inl ⟨_, _, rfl⟩)⟩⟩
  · exact .inr ⟨a, t, [.int b u, .int c v], [b, c], n, rfl, .cons _ _ (.cons _ _ .nil), Nat.le_of_ble_eq_true rfl, fun k => ⟨k, .inr (.inr (.inl ⟨_, _, _, _, rfl⟩))⟩⟩
  · exact .inr ⟨a, t, [.int b u, .int c v, .int d x], [b, c, d], n, rfl, .cons _ _ (.cons _ _ (.cons _ _ .nil)), Nat.le_of_ble_eq_true rfl, fun k => ⟨k, .inr (.inr (.inr (.inl ⟨_, _, _, _, _, _, rfl⟩)))⟩⟩
section
variable {prog : Program} {w : World} {A : Around} {E : Value → Shared → Prop} {s : Shared} {h₀ : Heap} {L D : Addr} {m : Str → Option Value} {news news' : List (Addr × Obj)} {n k : Nat}
theorem ne_row {e : Addr} {a : Int} {t : Tok} {r : List Value} {ns : List Int} {Q : Value → Shared → Prop} (N : News h₀ L s.heap news) (ml : (D, PySem.W.listOf (Value.int a t :: r).toArray n) ∈ news) (me : (e, PySem.W.listOf #[] k) ∈ news) (hI : IntsAre r ns) (hu : A.units + 64 < cLine)
    (h : Q (.bool true) s) : wpAny (model prog w) A (compareOp .NotEq (.ref D) (.ref e)) Q E s :=
  ne_intsK (ns := a :: ns) (ms := []) (us := []) ⟨_, (N _ ml).1, rfl, n, rfl⟩ (.cons _ _ hI) ⟨_, (N _ me).1, rfl, k, rfl⟩ .nil hu (by simpa using h)
theorem pop_row {u : Tok} {v : Value} {r : List Value} {Q : Value → Shared → Prop} (F : Fr h₀ L s.heap m) (N : News h₀ L s.heap news) (U : Upd D (PySem.W.listOf (v :: r).toArray n) (PySem.W.listOf r.toArray (n + 1)) news news') (hz : r.length ≤ 3)
    (h : ∀ h', Fr h₀ L h' m → News h₀ L h' news' → Q v { s with heap := h' }) : wpAny (model prog w) A (call (.builtin "list.pop") [.ref D, .int 0 u]) Q E s :=
  kl_popAt (k := 0) (p := []) F N rfl (by simp [seqIndex?]) rfl U (by simp only [sizeLine, List.length_cons]; omega) h
end
local macro_rules | `(tactic| walk_at "compareOp NotEq ref ref") => `(tactic| (k_here; k_dflt (refine' ne_row ?N ?l ?e ?I ?u ?_; (case N => k_asm); (case l => k_mem); (case e => k_mem); (case I => assumption); (case u => units_room))))
local macro_rules | `(tactic| walk_at "call builtin:list.pop") => `(tactic| (k_here; k_dflt (refine' pop_row ?F ?N ?U ?z ?_; (case F => k_asm); (case N => k_asm); (case U => k_upd); (case z => assumption)); intro h' F' N'; (try dsimp only [List.nil_append, List.cons_append] at N')))
theorem take_c (w : World) {src l : Addr} {top : Int} {t : Tok} (h0 : 0 < top) (h1 : top ≤ 71) : ConS w 12 155 [.ref src, .int top t] src l (TookP top) := by
  unfold ConS
  w_top off
  k_fill
  intro mean mg mb dp un gd cn cs a9 ccd cl outer A₀ base h₀ L m s Q E o ol B F X N T hne hso hro hcs hdp hun hret
  have hne2 := Ne.symm hne
  obtain ⟨x, y, tx, ty, n, hy0, hy1, rfl⟩ := hso
  rcases hro.two with ⟨n2, rfl⟩ | ⟨a1, t1, r, ns, n2, rfl, hI, hz, hrr⟩
  all_goals
    refine wpAny_call ?_
    refine' code_defG ?k1 ?k2 ?k3 ?k4 ?k5 ?kA ?kF ?kK ?k6 ?k7 ?k8 ?k9 ?kB ?_ ?c2 ?c3 ?c4 ?c5; (case kA => exact rfl); (case kF => exact rfl); (case kK => assumption); (case k1 => k_asm); (case k2 => k_asm); (case k3 => k_asm); (case k4 => k_asm); (case k5 => k_asm); (case k6 => k_dflt k_is); (case k7 => k_dflt k_is); (case k8 => ktr_room); (case k9 => exact BindsTo.of_eq rfl); (case c5 => decide); (case kB => exact locs rfl); (case c2 => exact rfl); (case c3 => exact rfl); (case c4 => exact rfl)
    intro g' L' h' FG' F' N' B' X' T' hS'
    (try dsimp only)
    (try k_lift B')
    (try k_fold)
    k_steps
    all_goals (k_dflt (refine' srcS_end hret hS' ?k1 ?k2 ?k3 ?k4 ?k5 ?k6 ?k7; (case k1 => k_asm); (case k2 => k_asm); (case k3 => k_mem); (case k4 => k_mem); (case k5 => exact TookP.mk h0); (case k6 => first | exact SrcOk.mk fm_y | exact SrcOk.mk (by constructor <;> assumption)); (case k7 => first | exact hrr _ | exact ⟨_, .inl rfl⟩)))
end
-- part P1
section

def least (k : Str) : Int := if sg k then 0 - 2 ^ ((bt k : Int) - 1).toNat else 0
def great (k : Str) : Int := if sg k then 2 ^ ((bt k : Int) - 1).toNat - 1 else 2 ^ ((bt k : Int)).toNat - 1
theorem least_c (w : World) {k : Str} {t : Tok} (hk : k ∈ kinds) : Con w 4 78 [.str k t] (fun t => .int (least k) t) := by
  obtain ⟨hkl1, hkl2⟩ := kinds_len hk
  have hkb := kinds_bt hk
  unfold Con
  w_top off
  k_fill
  intro mean mg mb dp un gd cn cs a9 ccd cl outer A₀ base h₀ L m s Q E B F X T hcs hdp hun hret
  refine wpAny_call ?_
  refine' code_pure ?k1 ?k2 ?k3 ?k5 ?kA ?kF ?kK ?k6 ?k7 ?k8 ?k9 ?kB ?_ ?c2 ?c3 ?c4 ?c5; (case kA => exact rfl); (case kF => exact rfl); (case kK => assumption); (case k1 => k_asm); (case k2 => k_asm); (case k3 => k_asm); (case k5 => k_asm); (case k6 => k_dflt k_is); (case k7 => k_dflt k_is); (case k8 => ktr_room); (case k9 => exact BindsTo.of_eq rfl); (case c5 => decide); (case kB => exact locs rfl); (case c2 => exact rfl); (case c3 => exact rfl); (case c4 => exact rfl)
  intro g' L' h' hG' FG' F' N' B' X' T'
  (try dsimp only)
  (try k_lift B')
  (try k_fold)
  k_steps
  all_goals (refine' pretI (Q := Q) (s := s) hret ?e1 ?e2; (case e2 => exact IsG.stays (by assumption) (by k_asm)); (case e1 => (unfold least; simp only [*, if_true, if_false, Bool.false_eq_true])))
theorem great_c (w : World) {k : Str} {t : Tok} (hk : k ∈ kinds) : Con w 4 85 [.str k t] (fun t => .int (great k) t) := by
  obtain ⟨hkl1, hkl2⟩ := kinds_len hk
  have hkb := kinds_bt hk
  unfold Con
  w_top off
  k_fill
  intro mean mg mb dp un gd cn cs a9 ccd cl outer A₀ base h₀ L m s Q E B F X T hcs hdp hun hret
  refine wpAny_call ?_
  refine' code_pure ?k1 ?k2 ?k3 ?k5 ?kA ?kF ?kK ?k6 ?k7 ?k8 ?k9 ?kB ?_ ?c2 ?c3 ?c4 ?c5; (case kA => exact rfl); (case kF => exact rfl); (case kK => assumption); (case k1 => k_asm); (case k2 => k_asm); (case k3 => k_asm); (case k5 => k_asm); (case k6 => k_dflt k_is); (case k7 => k_dflt k_is); (case k8 => ktr_room); (case k9 => exact BindsTo.of_eq rfl); (case c5 => decide); (case kB => exact locs rfl); (case c2 => exact rfl); (case c3 => exact rfl); (case c4 => exact rfl)
  intro g' L' h' hG' FG' F' N' B' X' T'
  (try dsimp only)
  (try k_lift B')
  (try k_fold)
  k_steps
  all_goals (refine' pretI (Q := Q) (s := s) hret ?e1 ?e2; (case e2 => exact IsG.stays (by assumption) (by k_asm)); (case e1 => (unfold great; simp only [*, if_true, if_false, Bool.false_eq_true])))
end
local macro_rules | `(tactic| walk_at "call ref") => `(tactic| (k_here; (with_reducible show wpAny _ _ (call (Value.ref 78) _) _ _ _); k_dflt (refine' con_use (C := least_c _ (by assumption)) (hret := ?_); walk_at "use")))
local macro_rules | `(tactic| walk_at "call ref") => `(tactic| (k_here; (with_reducible show wpAny _ _ (call (Value.ref 85) _) _ _ _); k_dflt (refine' con_use (C := great_c _ (by assumption)) (hret := ?_); walk_at "use")))
-- part P2
section

def wrap (k : Str) (n : Int) : Int := (n - least k).fmod (2 ^ ((bt k : Int)).toNat) + least k
theorem fits_c (w : World) {k : Str} {t : Tok} {n : Int} {u : Tok} (hk : k ∈ kinds) : Con w 6 92 [.str k t, .int n u] (fun t => .bool (decide (least k ≤ n ∧ n ≤ great k))) := by
  obtain ⟨hkl1, hkl2⟩ := kinds_len hk
  have hkb := kinds_bt hk
  unfold Con
  w_top off
  k_fill
  intro mean mg mb dp un gd cn cs a9 ccd cl outer A₀ base h₀ L m s Q E B F X T hcs hdp hun hret
  refine wpAny_call ?_
  refine' code_pure ?k1 ?k2 ?k3 ?k5 ?kA ?kF ?kK ?k6 ?k7 ?k8 ?k9 ?kB ?_ ?c2 ?c3 ?c4 ?c5; (case kA => exact rfl); (case kF => exact rfl); (case kK => assumption); (case k1 => k_asm); (case k2 => k_asm); (case k3 => k_asm); (case k5 => k_asm); (case k6 => k_dflt k_is); (case k7 => k_dflt k_is); (case k8 => ktr_room); (case k9 => exact BindsTo.of_eq rfl); (case c5 => decide); (case kB => exact locs rfl); (case c2 => exact rfl); (case c3 => exact rfl); (case c4 => exact rfl)
  intro g' L' h' hG' FG' F' N' B' X' T'
  (try dsimp only)
  (try k_lift B')
  (try k_fold)
  k_steps
  all_goals (refine' pretB (Q := Q) (s := s) hret ?e1 ?e2; (case e2 => exact IsG.stays (by assumption) (by k_asm)); (case e1 => (rw [decide_eq_decide]; (try simp only [decide_eq_true_eq, decide_eq_false_iff_not] at *); omega)))
theorem wrap_c (w : World) {k : Str} {t : Tok} {n : Int} {u : Tok} (hk : k ∈ kinds) : Con w 6 99 [.str k t, .int n u] (fun t => .int (wrap k n) t) := by
  obtain ⟨hkl1, hkl2⟩ := kinds_len hk
  have hkb := kinds_bt hk
  unfold Con
  w_top off
  k_fill
  intro mean mg mb dp un gd cn cs a9 ccd cl outer A₀ base h₀ L m s Q E B F X T hcs hdp hun hret
  refine wpAny_call ?_
  refine' code_pure ?k1 ?k2 ?k3 ?k5 ?kA ?kF ?kK ?k6 ?k7 ?k8 ?k9 ?kB ?_ ?c2 ?c3 ?c4 ?c5; (case kA => exact rfl); (case kF => exact rfl); (case kK => assumption); (case k1 => k_asm); (case k2 => k_asm); (case k3 => k_asm); (case k5 => k_asm); (case k6 => k_dflt k_is); (case k7 => k_dflt k_is); (case k8 => ktr_room); (case k9 => exact BindsTo.of_eq rfl); (case c5 => decide); (case kB => exact locs rfl); (case c2 => exact rfl); (case c3 => exact rfl); (case c4 => exact rfl)
  intro g' L' h' hG' FG' F' N' B' X' T'
  (try dsimp only)
  (try k_lift B')
  (try k_fold)
  k_steps
  all_goals (refine' pretI (Q := Q) (s := s) hret ?e1 ?e2; (case e2 => exact IsG.stays (by assumption) (by k_asm)); (case e1 => rfl))
end
local macro_rules | `(tactic| walk_at "call ref") => `(tactic| (k_here; (with_reducible show wpAny _ _ (call (Value.ref 92) _) _ _ _); k_dflt (refine' con_use (C := fits_c _ (by assumption)) (hret := ?_); walk_at "use")))
local macro_rules | `(tactic| walk_at "call ref") => `(tactic| (k_here; (with_reducible show wpAny _ _ (call (Value.ref 99) _) _ _ _); k_dflt (refine' con_use (C := wrap_c _ (by assumption)) (hret := ?_); walk_at "use")))
-- part P3
section

theorem cut_kind {M : Model} {A : Around} {T : Sem Value} {Q E : Value → Shared → Prop} {s : Shared} {h₀ : Heap} {L : Addr} {m : Str → Option Value} {news : List (Addr × Obj)} {k : Str} (_ : k ∈ kinds)
    (_ : Fr h₀ L s.heap m) (_ : News h₀ L s.heap news)
    (h1 : ∀ Q' : Value → Shared → Prop, (∀ (t : Tok) (h' : Heap) (tk' : Nat), Fr h₀ L h' m → News h₀ L h' news → Q' (.int (bt k) t) { s with heap := h', toks := tk' }) → wpAny M A T Q' E s)
    (h2 : ∀ (t : Tok) (h' : Heap) (tk' : Nat), Fr h₀ L h' m → News h₀ L h' news → Q (.int (bt k) t) { s with heap := h', toks := tk' }) : wpAny M A T Q E s := h1 Q h2
def absI (a : Int) : Int := if a < 0 then -a else a
theorem absI_pos {a : Int} (h : a ≠ 0) : 0 < absI a := by unfold absI; split <;> omega
theorem absI_le {a : Int} (h1 : -9223372036854775808 ≤ a) (h2 : a ≤ 18446744073709551615) : 0 ≤ absI a ∧ absI a ≤ 18446744073709551615 := by unfold absI; split <;> omega
theorem noPy64 {x y : Int} (h : y.natAbs < 36893488147419103232) : Builtin.divisionGoesByPylong x y = false := by
  refine PyProof.noPylong_of_log2 ?_
  by_cases h0 : y.natAbs = 0
  · rw [h0]; decide +kernel
  · have h30 : y.natAbs.log2 < 65 := (Nat.log2_lt h0).mpr h
    omega
section
variable {prog : Program} {w : World} {A : Around} {E : Value → Shared → Prop} {s : Shared} {a b : Int} {t u : Tok} {Q : Value → Shared → Prop}
theorem abs_rule (h : ∀ u tk, Q (.int (absI a) u) { s with toks := tk }) : wpAny (model prog w) A (call (.builtin "abs") [.int a t]) Q E s := call_abs_int h
theorem fdiv_rule (h0 : 0 < b) (h1 : b ≤ 18446744073709551615) (h : Q (.int (a.fdiv b) s.toks) { s with toks := s.toks + 1 }) : wpAny (model prog w) A (binaryOp .FloorDiv (.int a t) (.int b u)) Q E s :=
  floordiv_int (by omega) h (Or.inl (noPy64 (by omega)))
end
def cq (a b : Int) : Int := if (decide (a < 0) == decide (b < 0)) = true then (absI a).fdiv (absI b) else 0 - (absI a).fdiv (absI b)
local macro_rules | `(tactic| walk_at "call builtin:abs") => `(tactic| (k_here; (with_reducible refine abs_rule ?_); intro t9 tk9; (try dsimp only)))
local macro_rules | `(tactic| walk_at "binaryOp FloorDiv int int") => `(tactic| (k_here; (with_reducible refine fdiv_rule ?h0 ?h1 ?_); (case h0 => assumption); (case h1 => assumption); (try dsimp only)))
theorem cutq_c (w : World) {a b : Int} {t u : Tok} (hb : b ≠ 0) (hb1 : -9223372036854775808 ≤ b) (hb2 : b ≤ 18446744073709551615) : Con w 6 106 [.int a t, .int b u] (fun t => .int (cq a b) t) := by
  have hp := absI_pos hb
  obtain ⟨hp1, hp2⟩ := absI_le hb1 hb2
  unfold Con
  w_top off
  k_fill
  intro mean mg mb dp un gd cn cs a9 ccd cl outer A₀ base h₀ L m s Q E B F X T hcs hdp hun hret
  refine wpAny_call ?_
  refine' code_pure ?k1 ?k2 ?k3 ?k5 ?kA ?kF ?kK ?k6 ?k7 ?k8 ?k9 ?kB ?_ ?c2 ?c3 ?c4 ?c5; (case kA => exact rfl); (case kF => exact rfl); (case kK => assumption); (case k1 => k_asm); (case k2 => k_asm); (case k3 => k_asm); (case k5 => k_asm); (case k6 => k_dflt k_is); (case k7 => k_dflt k_is); (case k8 => ktr_room); (case k9 => exact BindsTo.of_eq rfl); (case c5 => decide); (case kB => exact locs rfl); (case c2 => exact rfl); (case c3 => exact rfl); (case c4 => exact rfl)
  intro g' L' h' hG' FG' F' N' B' X' T'
  (try dsimp only)
  (try k_lift B')
  (try k_fold)
  k_steps
  all_goals (refine' pretI (Q := Q) (s := s) hret ?e1 ?e2; (case e2 => exact IsG.stays (by assumption) (by k_asm)); (case e1 => (unfold cq; simp only [*, if_true, if_false, Bool.false_eq_true])))
end
local macro_rules | `(tactic| walk_at "call ref") => `(tactic| (k_here; (with_reducible show wpAny _ _ (call (Value.ref 106) _) _ _ _); k_dflt (refine' con_use (C := cutq_c _ (by assumption) (by assumption) (by assumption)) (hret := ?_); walk_at "use")))
-- part P4
local macro_rules | `(tactic| walk_at "pad1") => `(tactic| skip)
section

def lowI (k : Str) (n : Int) : Int := Builtin.bitAnd n (2 ^ ((bt k : Int)).toNat - 1)
def toldI (k : Str) (n : Int) : Int := if sg k = true ∧ 2 ^ ((bt k : Int) - 1).toNat ≤ lowI k n then lowI k n - 2 ^ ((bt k : Int)).toNat else lowI k n
theorem toldI_1 {k : Str} {n : Int} (h1 : sg k = true) (h2 : 2 ^ ((bt k : Int) - 1).toNat ≤ lowI k n) : lowI k n - 2 ^ ((bt k : Int)).toNat = toldI k n := by unfold toldI; rw [if_pos ⟨h1, h2⟩]
theorem toldI_2 {k : Str} {n : Int} (h2 : ¬ 2 ^ ((bt k : Int) - 1).toNat ≤ lowI k n) : lowI k n = toldI k n := by unfold toldI; rw [if_neg (fun h => by omega)]
theorem toldI_3 {k : Str} {n : Int} (h2 : sg k = false) : lowI k n = toldI k n := by unfold toldI; rw [if_neg (fun h => by rw [h2] at h; exact absurd h.1 (by decide))]
local macro_rules | `(tactic| walk_at "eval IfExp") => `(tactic| (k_here; (with_reducible show wpAny _ _ (eval (Expr.IfExp (Expr.Compare _ [CmpOp.In] _ _) _ _ _) _) _ _ _); k_dflt (refine' cut_kind ?hk ?k1 ?k2 ?k3 ?_; (case hk => assumption); (case k1 => k_asm); (case k2 => k_asm); (case k3 => ((intro Q9 hret9; (rename _ ∈ kinds => hk9); simp only [kinds, List.mem_cons, List.not_mem_nil, or_false] at hk9; rcases hk9 with h9 | h9 | h9 | h9 | h9 | h9 | h9 | h9 | h9 | h9) <;> subst h9 <;> (k_steps <;> (refine' cb_retI (Q := Q9) hret9 ?e1 ?e2 ?e3; (case e2 => k_asm); (case e3 => first | k_asm | (refine' cb_drop ?cbN ?cbS; (case cbN => assumption); (case cbS => kcj_all))); (case e1 => decide +kernel))))); (intro t9 h9 tk9 F9 N9; (try dsimp only)))))
theorem told_c (w : World) {k : Str} {n : Int} {t u : Tok} (hk : k ∈ kinds) : Con w 6 169 [.str k t, .int n u] (fun t => .int (toldI k n) t) := by
  obtain ⟨hkl1, hkl2⟩ := kinds_len hk
  have hkb := kinds_bt hk
  unfold Con
  w_top off
  k_fill
  intro mean mg mb dp un gd cn cs a9 ccd cl outer A₀ base h₀ L m s Q E B F X T hcs hdp hun hret
  refine wpAny_call ?_
  refine' code_pure ?k1 ?k2 ?k3 ?k5 ?kA ?kF ?kK ?k6 ?k7 ?k8 ?k9 ?kB ?_ ?c2 ?c3 ?c4 ?c5; (case kA => exact rfl); (case kF => exact rfl); (case kK => assumption); (case k1 => k_asm); (case k2 => k_asm); (case k3 => k_asm); (case k5 => k_asm); (case k6 => k_dflt k_is); (case k7 => k_dflt k_is); (case k8 => ktr_room); (case k9 => exact BindsTo.of_eq rfl); (case c5 => decide); (case kB => exact locs rfl); (case c2 => exact rfl); (case c3 => exact rfl); (case c4 => exact rfl)
  intro g' L' h' hG' FG' F' N' B' X' T'
  (try dsimp only)
  (try k_lift B')
  (try k_fold)
  k_steps
  all_goals (refine' pretI (Q := Q) (s := s) hret ?e1 ?e2; (case e2 => exact IsG.stays (by assumption) (by k_asm)); (case e1 => (first | exact toldI_1 (by assumption) (by assumption) | exact toldI_2 (by assumption) | exact toldI_3 (by assumption))))
end
local macro_rules | `(tactic| walk_at "call ref") => `(tactic| (k_here; (with_reducible show wpAny _ _ (call (Value.ref 169) _) _ _ _); k_dflt (refine' con_use (C := told_c _ (by assumption)) (hret := ?_); walk_at "use")))
-- part P5
section

theorem bits64 {a : Int} (h1 : -9223372036854775808 ≤ a) (h2 : a ≤ 18446744073709551615) : Builtin.Int.intBits a ≤ 64 := PySem.intBits_le_64 (by omega) (by omega)
theorem sh_in {w : World} {A : Around} {E : Value → Shared → Prop} {s : Shared} {h₀ : Heap} {L : Addr} {m : Str → Option Value} {x : Str} {t : Tok} {Q : Value → Shared → Prop}
    (F : Fr h₀ L s.heap m) (X : (hd.heap_1 w.params).In h₀) (h : Q (.bool ([Str.ofString "<<", Str.ofString ">>"].any (· == x))) s) :
    wpAny (model PySem.Challenge.rw_on0005_01.row.prog w) A (compareOp .In (.str x t) (.ref 64)) Q E s :=
  in_tuple_strs (tupK (X.keeps F.keep) rfl) (by repeat constructor) h
def minI (a b : Int) : Int := if b < a then b else a
theorem minI_le {n : Int} {k : Str} (hk : k ∈ kinds) (h : 0 ≤ n) : 0 ≤ minI n (bt k) ∧ minI n (bt k) ≤ 64 := by
  have := kinds_bt hk
  unfold minI
  split <;> omega
section
variable {prog : Program} {w : World} {A : Around} {E : Value → Shared → Prop} {s : Shared} {a b : Int} {t u : Tok} {Q : Value → Shared → Prop}
theorem mul_rule (h1 : Builtin.Int.intBits a ≤ 64) (h : Q (.int (a * b) s.toks) { s with toks := s.toks + 1 }) : wpAny (model prog w) A (binaryOp .Mult (.int a t) (.int b u)) Q E s := mul_int h (PySem.IntMulOk.of_left h1)
theorem shl_rule (h1 : Builtin.Int.intBits a ≤ 64) (h2 : 0 ≤ b) (h3 : b ≤ 64) (h : Q (.int (a * 2 ^ b.toNat) s.toks) { s with toks := s.toks + 1 }) : wpAny (model prog w) A (binaryOp .LShift (.int a t) (.int b u)) Q E s :=
  lshift_int h2 (by omega) h
theorem min_rule {h₀ : Heap} {L : Addr} {m : Str → Option Value} {news : List (Addr × Obj)} (hh : A.handled = none) (F : Fr h₀ L s.heap m) (N : News h₀ L s.heap news)
    (h : ∀ t h' tk, Fr h₀ L h' m → News h₀ L h' news → Q (.int (minI a b) t) { s with heap := h', toks := tk }) :
    wpAny (model prog w) A (call (.builtin "min") [.int a t, .int b u]) Q E s := min_two_N hh F N fun h' tk F' N' => h _ h' tk F' N'
end
local macro_rules | `(tactic| walk_at "exec Raise some none") => `(tactic| (exfalso; omega))
local macro_rules | `(tactic| walk_at "compareOp In str ref") => `(tactic| (k_here; (with_reducible show wpAny _ _ (compareOp CmpOp.In (Value.str _ _) (Value.ref 64)) _ _ _); k_dflt (refine' sh_in ?k1 ?k2 ?_; (case k1 => k_asm); (case k2 => k_asm))))
local macro_rules | `(tactic| walk_at "binaryOp Mult int int") => `(tactic| (k_here; (with_reducible refine mul_rule ?h1 ?_); (case h1 => assumption); (try dsimp only)))
local macro_rules | `(tactic| walk_at "binaryOp LShift int int") => `(tactic| (k_here; (with_reducible refine shl_rule ?h1 ?h2 ?h3 ?_); (case h1 => assumption); (case h2 => assumption); (case h3 => assumption); (try dsimp only)))
local macro_rules | `(tactic| walk_at "call builtin:min") => `(tactic| (k_here; (with_reducible show wpAny _ _ (call (Value.builtin "min") [Value.int _ _, Value.int _ _]) _ _ _); k_dflt (refine' min_rule rfl ?k1 ?k2 ?_; (case k1 => k_asm); (case k2 => k_asm); (intro t9 h9 tk9 F9 N9; (try dsimp only)))))
theorem ar_add_c (w : World) {k : Str} {a b : Int} {t o u v : Tok} (hk : k ∈ kinds) : Con w 12 127 [.str k t, .str (Str.ofString "+") o, .int a u, .int b v] (fun t => .int (wrap k (a + b)) t) := by
  obtain ⟨hkl1, hkl2⟩ := kinds_len hk
  have hkb := kinds_bt hk
  unfold Con
  w_top off
  k_fill
  intro mean mg mb dp un gd cn cs a9 ccd cl outer A₀ base h₀ L m s Q E B F X T hcs hdp hun hret
  refine wpAny_call ?_
  refine' code_pure ?k1 ?k2 ?k3 ?k5 ?kA ?kF ?kK ?k6 ?k7 ?k8 ?k9 ?kB ?_ ?c2 ?c3 ?c4 ?c5; (case kA => exact rfl); (case kF => exact rfl); (case kK => assumption); (case k1 => k_asm); (case k2 => k_asm); (case k3 => k_asm); (case k5 => k_asm); (case k6 => k_dflt k_is); (case k7 => k_dflt k_is); (case k8 => ktr_room); (case k9 => exact BindsTo.of_eq rfl); (case c5 => decide); (case kB => exact locs rfl); (case c2 => exact rfl); (case c3 => exact rfl); (case c4 => exact rfl)
  intro g' L' h' hG' FG' F' N' B' X' T'
  (try dsimp only)
  (try k_lift B')
  (try k_fold)
  k_steps
  all_goals (refine' pretI (Q := Q) (s := s) hret ?e1 ?e2; (case e2 => exact IsG.stays (by assumption) (by k_asm)); (case e1 => rfl))
theorem ar_sub_c (w : World) {k : Str} {a b : Int} {t o u v : Tok} (hk : k ∈ kinds) : Con w 12 127 [.str k t, .str (Str.ofString "-") o, .int a u, .int b v] (fun t => .int (wrap k (a - b)) t) := by
  obtain ⟨hkl1, hkl2⟩ := kinds_len hk
  have hkb := kinds_bt hk
  unfold Con
  w_top off
  k_fill
  intro mean mg mb dp un gd cn cs a9 ccd cl outer A₀ base h₀ L m s Q E B F X T hcs hdp hun hret
  refine wpAny_call ?_
  refine' code_pure ?k1 ?k2 ?k3 ?k5 ?kA ?kF ?kK ?k6 ?k7 ?k8 ?k9 ?kB ?_ ?c2 ?c3 ?c4 ?c5; (case kA => exact rfl); (case kF => exact rfl); (case kK => assumption); (case k1 => k_asm); (case k2 => k_asm); (case k3 => k_asm); (case k5 => k_asm); (case k6 => k_dflt k_is); (case k7 => k_dflt k_is); (case k8 => ktr_room); (case k9 => exact BindsTo.of_eq rfl); (case c5 => decide); (case kB => exact locs rfl); (case c2 => exact rfl); (case c3 => exact rfl); (case c4 => exact rfl)
  intro g' L' h' hG' FG' F' N' B' X' T'
  (try dsimp only)
  (try k_lift B')
  (try k_fold)
  k_steps
  all_goals (refine' pretI (Q := Q) (s := s) hret ?e1 ?e2; (case e2 => exact IsG.stays (by assumption) (by k_asm)); (case e1 => rfl))
theorem ar_mul_c (w : World) {k : Str} {a b : Int} {t o u v : Tok} (hk : k ∈ kinds) (ha : Builtin.Int.intBits a ≤ 64) : Con w 12 127 [.str k t, .str (Str.ofString "*") o, .int a u, .int b v] (fun t => .int (wrap k (a * b)) t) := by
  obtain ⟨hkl1, hkl2⟩ := kinds_len hk
  have hkb := kinds_bt hk
  unfold Con
  w_top off
  k_fill
  intro mean mg mb dp un gd cn cs a9 ccd cl outer A₀ base h₀ L m s Q E B F X T hcs hdp hun hret
  refine wpAny_call ?_
  refine' code_pure ?k1 ?k2 ?k3 ?k5 ?kA ?kF ?kK ?k6 ?k7 ?k8 ?k9 ?kB ?_ ?c2 ?c3 ?c4 ?c5; (case kA => exact rfl); (case kF => exact rfl); (case kK => assumption); (case k1 => k_asm); (case k2 => k_asm); (case k3 => k_asm); (case k5 => k_asm); (case k6 => k_dflt k_is); (case k7 => k_dflt k_is); (case k8 => ktr_room); (case k9 => exact BindsTo.of_eq rfl); (case c5 => decide); (case kB => exact locs rfl); (case c2 => exact rfl); (case c3 => exact rfl); (case c4 => exact rfl)
  intro g' L' h' hG' FG' F' N' B' X' T'
  (try dsimp only)
  (try k_lift B')
  (try k_fold)
  k_steps
  all_goals (refine' pretI (Q := Q) (s := s) hret ?e1 ?e2; (case e2 => exact IsG.stays (by assumption) (by k_asm)); (case e1 => rfl))
theorem ar_div_c (w : World) {k : Str} {a b : Int} {t o u v : Tok} (hk : k ∈ kinds) (hb : b ≠ 0) (hb1 : -9223372036854775808 ≤ b) (hb2 : b ≤ 18446744073709551615) : Con w 12 127 [.str k t, .str (Str.ofString "/") o, .int a u, .int b v] (fun t => .int (wrap k (cq a b)) t) := by
  obtain ⟨hkl1, hkl2⟩ := kinds_len hk
  have hkb := kinds_bt hk
  have hb64 := bits64 hb1 hb2
  unfold Con
  w_top off
  k_fill
  intro mean mg mb dp un gd cn cs a9 ccd cl outer A₀ base h₀ L m s Q E B F X T hcs hdp hun hret
  refine wpAny_call ?_
  refine' code_pure ?k1 ?k2 ?k3 ?k5 ?kA ?kF ?kK ?k6 ?k7 ?k8 ?k9 ?kB ?_ ?c2 ?c3 ?c4 ?c5; (case kA => exact rfl); (case kF => exact rfl); (case kK => assumption); (case k1 => k_asm); (case k2 => k_asm); (case k3 => k_asm); (case k5 => k_asm); (case k6 => k_dflt k_is); (case k7 => k_dflt k_is); (case k8 => ktr_room); (case k9 => exact BindsTo.of_eq rfl); (case c5 => decide); (case kB => exact locs rfl); (case c2 => exact rfl); (case c3 => exact rfl); (case c4 => exact rfl)
  intro g' L' h' hG' FG' F' N' B' X' T'
  (try dsimp only)
  (try k_lift B')
  (try k_fold)
  k_steps
  all_goals (refine' pretI (Q := Q) (s := s) hret ?e1 ?e2; (case e2 => exact IsG.stays (by assumption) (by k_asm)); (case e1 => rfl))
theorem ar_mod_c (w : World) {k : Str} {a b : Int} {t o u v : Tok} (hk : k ∈ kinds) (hb : b ≠ 0) (hb1 : -9223372036854775808 ≤ b) (hb2 : b ≤ 18446744073709551615) : Con w 12 127 [.str k t, .str (Str.ofString "%") o, .int a u, .int b v] (fun t => .int (wrap k (a - b * cq a b)) t) := by
  obtain ⟨hkl1, hkl2⟩ := kinds_len hk
  have hkb := kinds_bt hk
  have hb64 := bits64 hb1 hb2
  unfold Con
  w_top off
  k_fill
  intro mean mg mb dp un gd cn cs a9 ccd cl outer A₀ base h₀ L m s Q E B F X T hcs hdp hun hret
  refine wpAny_call ?_
  refine' code_pure ?k1 ?k2 ?k3 ?k5 ?kA ?kF ?kK ?k6 ?k7 ?k8 ?k9 ?kB ?_ ?c2 ?c3 ?c4 ?c5; (case kA => exact rfl); (case kF => exact rfl); (case kK => assumption); (case k1 => k_asm); (case k2 => k_asm); (case k3 => k_asm); (case k5 => k_asm); (case k6 => k_dflt k_is); (case k7 => k_dflt k_is); (case k8 => ktr_room); (case k9 => exact BindsTo.of_eq rfl); (case c5 => decide); (case kB => exact locs rfl); (case c2 => exact rfl); (case c3 => exact rfl); (case c4 => exact rfl)
  intro g' L' h' hG' FG' F' N' B' X' T'
  (try dsimp only)
  (try k_lift B')
  (try k_fold)
  k_steps
  all_goals (refine' pretI (Q := Q) (s := s) hret ?e1 ?e2; (case e2 => exact IsG.stays (by assumption) (by k_asm)); (case e1 => rfl))
theorem ar_and_c (w : World) {k : Str} {a b : Int} {t o u v : Tok} (hk : k ∈ kinds) : Con w 12 127 [.str k t, .str (Str.ofString "&") o, .int a u, .int b v] (fun t => .int (wrap k (Builtin.bitAnd a b)) t) := by
  obtain ⟨hkl1, hkl2⟩ := kinds_len hk
  have hkb := kinds_bt hk
  unfold Con
  w_top off
  k_fill
  intro mean mg mb dp un gd cn cs a9 ccd cl outer A₀ base h₀ L m s Q E B F X T hcs hdp hun hret
  refine wpAny_call ?_
  refine' code_pure ?k1 ?k2 ?k3 ?k5 ?kA ?kF ?kK ?k6 ?k7 ?k8 ?k9 ?kB ?_ ?c2 ?c3 ?c4 ?c5; (case kA => exact rfl); (case kF => exact rfl); (case kK => assumption); (case k1 => k_asm); (case k2 => k_asm); (case k3 => k_asm); (case k5 => k_asm); (case k6 => k_dflt k_is); (case k7 => k_dflt k_is); (case k8 => ktr_room); (case k9 => exact BindsTo.of_eq rfl); (case c5 => decide); (case kB => exact locs rfl); (case c2 => exact rfl); (case c3 => exact rfl); (case c4 => exact rfl)
  intro g' L' h' hG' FG' F' N' B' X' T'
  (try dsimp only)
  (try k_lift B')
  (try k_fold)
  k_steps
  all_goals (refine' pretI (Q := Q) (s := s) hret ?e1 ?e2; (case e2 => exact IsG.stays (by assumption) (by k_asm)); (case e1 => rfl))
theorem ar_or_c (w : World) {k : Str} {a b : Int} {t o u v : Tok} (hk : k ∈ kinds) : Con w 12 127 [.str k t, .str (Str.ofString "|") o, .int a u, .int b v] (fun t => .int (wrap k (Builtin.bitOr a b)) t) := by
  obtain ⟨hkl1, hkl2⟩ := kinds_len hk
  have hkb := kinds_bt hk
  unfold Con
  w_top off
  k_fill
  intro mean mg mb dp un gd cn cs a9 ccd cl outer A₀ base h₀ L m s Q E B F X T hcs hdp hun hret
  refine wpAny_call ?_
  refine' code_pure ?k1 ?k2 ?k3 ?k5 ?kA ?kF ?kK ?k6 ?k7 ?k8 ?k9 ?kB ?_ ?c2 ?c3 ?c4 ?c5; (case kA => exact rfl); (case kF => exact rfl); (case kK => assumption); (case k1 => k_asm); (case k2 => k_asm); (case k3 => k_asm); (case k5 => k_asm); (case k6 => k_dflt k_is); (case k7 => k_dflt k_is); (case k8 => ktr_room); (case k9 => exact BindsTo.of_eq rfl); (case c5 => decide); (case kB => exact locs rfl); (case c2 => exact rfl); (case c3 => exact rfl); (case c4 => exact rfl)
  intro g' L' h' hG' FG' F' N' B' X' T'
  (try dsimp only)
  (try k_lift B')
  (try k_fold)
  k_steps
  all_goals (refine' pretI (Q := Q) (s := s) hret ?e1 ?e2; (case e2 => exact IsG.stays (by assumption) (by k_asm)); (case e1 => rfl))
theorem ar_xor_c (w : World) {k : Str} {a b : Int} {t o u v : Tok} (hk : k ∈ kinds) : Con w 12 127 [.str k t, .str (Str.ofString "^") o, .int a u, .int b v] (fun t => .int (wrap k (Builtin.bitXor a b)) t) := by
  obtain ⟨hkl1, hkl2⟩ := kinds_len hk
  have hkb := kinds_bt hk
  unfold Con
  w_top off
  k_fill
  intro mean mg mb dp un gd cn cs a9 ccd cl outer A₀ base h₀ L m s Q E B F X T hcs hdp hun hret
  refine wpAny_call ?_
  refine' code_pure ?k1 ?k2 ?k3 ?k5 ?kA ?kF ?kK ?k6 ?k7 ?k8 ?k9 ?kB ?_ ?c2 ?c3 ?c4 ?c5; (case kA => exact rfl); (case kF => exact rfl); (case kK => assumption); (case k1 => k_asm); (case k2 => k_asm); (case k3 => k_asm); (case k5 => k_asm); (case k6 => k_dflt k_is); (case k7 => k_dflt k_is); (case k8 => ktr_room); (case k9 => exact BindsTo.of_eq rfl); (case c5 => decide); (case kB => exact locs rfl); (case c2 => exact rfl); (case c3 => exact rfl); (case c4 => exact rfl)
  intro g' L' h' hG' FG' F' N' B' X' T'
  (try dsimp only)
  (try k_lift B')
  (try k_fold)
  k_steps
  all_goals (refine' pretI (Q := Q) (s := s) hret ?e1 ?e2; (case e2 => exact IsG.stays (by assumption) (by k_asm)); (case e1 => rfl))
theorem ar_andnot_c (w : World) {k : Str} {a b : Int} {t o u v : Tok} (hk : k ∈ kinds) : Con w 12 127 [.str k t, .str (Str.ofString "&^") o, .int a u, .int b v] (fun t => .int (wrap k (Builtin.bitAnd a (Builtin.bitNot b))) t) := by
  obtain ⟨hkl1, hkl2⟩ := kinds_len hk
  have hkb := kinds_bt hk
  unfold Con
  w_top off
  k_fill
  intro mean mg mb dp un gd cn cs a9 ccd cl outer A₀ base h₀ L m s Q E B F X T hcs hdp hun hret
  refine wpAny_call ?_
  refine' code_pure ?k1 ?k2 ?k3 ?k5 ?kA ?kF ?kK ?k6 ?k7 ?k8 ?k9 ?kB ?_ ?c2 ?c3 ?c4 ?c5; (case kA => exact rfl); (case kF => exact rfl); (case kK => assumption); (case k1 => k_asm); (case k2 => k_asm); (case k3 => k_asm); (case k5 => k_asm); (case k6 => k_dflt k_is); (case k7 => k_dflt k_is); (case k8 => ktr_room); (case k9 => exact BindsTo.of_eq rfl); (case c5 => decide); (case kB => exact locs rfl); (case c2 => exact rfl); (case c3 => exact rfl); (case c4 => exact rfl)
  intro g' L' h' hG' FG' F' N' B' X' T'
  (try dsimp only)
  (try k_lift B')
  (try k_fold)
  k_steps
  all_goals (refine' pretI (Q := Q) (s := s) hret ?e1 ?e2; (case e2 => exact IsG.stays (by assumption) (by k_asm)); (case e1 => rfl))
theorem ar_shl_c (w : World) {k : Str} {a b : Int} {t o u v : Tok} (hk : k ∈ kinds) (ha : Builtin.Int.intBits a ≤ 64) (hn : 0 ≤ b) : Con w 12 127 [.str k t, .str (Str.ofString "<<") o, .int a u, .int b v] (fun t => .int (wrap k (a * 2 ^ (minI b (bt k)).toNat)) t) := by
  obtain ⟨hkl1, hkl2⟩ := kinds_len hk
  have hkb := kinds_bt hk
  obtain ⟨hm1, hm2⟩ := minI_le hk hn
  unfold Con
  w_top off
  k_fill
  intro mean mg mb dp un gd cn cs a9 ccd cl outer A₀ base h₀ L m s Q E B F X T hcs hdp hun hret
  refine wpAny_call ?_
  refine' code_pure ?k1 ?k2 ?k3 ?k5 ?kA ?kF ?kK ?k6 ?k7 ?k8 ?k9 ?kB ?_ ?c2 ?c3 ?c4 ?c5; (case kA => exact rfl); (case kF => exact rfl); (case kK => assumption); (case k1 => k_asm); (case k2 => k_asm); (case k3 => k_asm); (case k5 => k_asm); (case k6 => k_dflt k_is); (case k7 => k_dflt k_is); (case k8 => ktr_room); (case k9 => exact BindsTo.of_eq rfl); (case c5 => decide); (case kB => exact locs rfl); (case c2 => exact rfl); (case c3 => exact rfl); (case c4 => exact rfl)
  intro g' L' h' hG' FG' F' N' B' X' T'
  (try dsimp only)
  (try k_lift B')
  (try k_fold)
  k_steps
  all_goals (refine' pretI (Q := Q) (s := s) hret ?e1 ?e2; (case e2 => exact IsG.stays (by assumption) (by k_asm)); (case e1 => rfl))
theorem ar_shr_c (w : World) {k : Str} {a b : Int} {t o u v : Tok} (hk : k ∈ kinds) (ha : Builtin.Int.intBits a ≤ 64) (hn : 0 ≤ b) : Con w 12 127 [.str k t, .str (Str.ofString ">>") o, .int a u, .int b v] (fun t => .int (a.fdiv (2 ^ (minI b (bt k)).toNat)) t) := by
  obtain ⟨hkl1, hkl2⟩ := kinds_len hk
  have hkb := kinds_bt hk
  obtain ⟨hm1, hm2⟩ := minI_le hk hn
  unfold Con
  w_top off
  k_fill
  intro mean mg mb dp un gd cn cs a9 ccd cl outer A₀ base h₀ L m s Q E B F X T hcs hdp hun hret
  refine wpAny_call ?_
  refine' code_pure ?k1 ?k2 ?k3 ?k5 ?kA ?kF ?kK ?k6 ?k7 ?k8 ?k9 ?kB ?_ ?c2 ?c3 ?c4 ?c5; (case kA => exact rfl); (case kF => exact rfl); (case kK => assumption); (case k1 => k_asm); (case k2 => k_asm); (case k3 => k_asm); (case k5 => k_asm); (case k6 => k_dflt k_is); (case k7 => k_dflt k_is); (case k8 => ktr_room); (case k9 => exact BindsTo.of_eq rfl); (case c5 => decide); (case kB => exact locs rfl); (case c2 => exact rfl); (case c3 => exact rfl); (case c4 => exact rfl)
  intro g' L' h' hG' FG' F' N' B' X' T'
  (try dsimp only)
  (try k_lift B')
  (try k_fold)
  k_steps
  all_goals (refine' pretI (Q := Q) (s := s) hret ?e1 ?e2; (case e2 => exact IsG.stays (by assumption) (by k_asm)); (case e1 => rfl))
inductive ArOk (k : Str) (a b : Int) : Str → Int → Prop
  | add (hk : k ∈ kinds) : ArOk k a b (Str.ofString "+") (wrap k (a + b))
  | sub (hk : k ∈ kinds) : ArOk k a b (Str.ofString "-") (wrap k (a - b))
  | mul (hk : k ∈ kinds) (ha : Builtin.Int.intBits a ≤ 64) : ArOk k a b (Str.ofString "*") (wrap k (a * b))
  | div (hk : k ∈ kinds) (hb : b ≠ 0) (hb1 : -9223372036854775808 ≤ b) (hb2 : b ≤ 18446744073709551615) : ArOk k a b (Str.ofString "/") (wrap k (cq a b))
  | mod (hk : k ∈ kinds) (hb : b ≠ 0) (hb1 : -9223372036854775808 ≤ b) (hb2 : b ≤ 18446744073709551615) : ArOk k a b (Str.ofString "%") (wrap k (a - b * cq a b))
  | and (hk : k ∈ kinds) : ArOk k a b (Str.ofString "&") (wrap k (Builtin.bitAnd a b))
  | or (hk : k ∈ kinds) : ArOk k a b (Str.ofString "|") (wrap k (Builtin.bitOr a b))
  | xor (hk : k ∈ kinds) : ArOk k a b (Str.ofString "^") (wrap k (Builtin.bitXor a b))
  | andnot (hk : k ∈ kinds) : ArOk k a b (Str.ofString "&^") (wrap k (Builtin.bitAnd a (Builtin.bitNot b)))
  | shl (hk : k ∈ kinds) (ha : Builtin.Int.intBits a ≤ 64) (hn : 0 ≤ b) : ArOk k a b (Str.ofString "<<") (wrap k (a * 2 ^ (minI b (bt k)).toNat))
  | shr (hk : k ∈ kinds) (ha : Builtin.Int.intBits a ≤ 64) (hn : 0 ≤ b) : ArOk k a b (Str.ofString ">>") (a.fdiv (2 ^ (minI b (bt k)).toNat))
theorem ar_any (w : World) {k op : Str} {a b r : Int} {t o u v : Tok} (H : ArOk k a b op r) : Con w 12 127 [.str k t, .str op o, .int a u, .int b v] (fun t => .int r t) := by
  cases H with
  | add h0 => exact ar_add_c w h0
  | sub h0 => exact ar_sub_c w h0
  | mul h0 h1 => exact ar_mul_c w h0 h1
  | div h0 h1 h2 h3 => exact ar_div_c w h0 h1 h2 h3
  | mod h0 h1 h2 h3 => exact ar_mod_c w h0 h1 h2 h3
  | and h0 => exact ar_and_c w h0
  | or h0 => exact ar_or_c w h0
  | xor h0 => exact ar_xor_c w h0
  | andnot h0 => exact ar_andnot_c w h0
  | shl h0 h1 h2 => exact ar_shl_c w h0 h1 h2
  | shr h0 h1 h2 => exact ar_shr_c w h0 h1 h2
end
local macro_rules | `(tactic| walk_at "exec Raise some none") => `(tactic| (exfalso; omega))
local macro_rules | `(tactic| walk_at "compareOp In str ref") => `(tactic| (k_here; (with_reducible show wpAny _ _ (compareOp CmpOp.In (Value.str _ _) (Value.ref 64)) _ _ _); k_dflt (refine' sh_in ?k1 ?k2 ?_; (case k1 => k_asm); (case k2 => k_asm))))
local macro_rules | `(tactic| walk_at "binaryOp Mult int int") => `(tactic| (k_here; (with_reducible refine mul_rule ?h1 ?_); (case h1 => assumption); (try dsimp only)))
local macro_rules | `(tactic| walk_at "binaryOp LShift int int") => `(tactic| (k_here; (with_reducible refine shl_rule ?h1 ?h2 ?h3 ?_); (case h1 => assumption); (case h2 => assumption); (case h3 => assumption); (try dsimp only)))
local macro_rules | `(tactic| walk_at "call builtin:min") => `(tactic| (k_here; (with_reducible show wpAny _ _ (call (Value.builtin "min") [Value.int _ _, Value.int _ _]) _ _ _); k_dflt (refine' min_rule rfl ?k1 ?k2 ?_; (case k1 => k_asm); (case k2 => k_asm); (intro t9 h9 tk9 F9 N9; (try dsimp only)))))
local macro_rules | `(tactic| walk_at "call ref") => `(tactic| (k_here; (with_reducible show wpAny _ _ (call (Value.ref 127) _) _ _ _); k_dflt (refine' con_use (C := ar_any _ (by with_reducible constructor <;> assumption)) (hret := ?_); walk_at "use")))
-- part P6
section
theorem un_pos_c (w : World) {k : Str} {a : Int} {t o u : Tok} (hk : k ∈ kinds) : Con w 12 134 [.str k t, .str (Str.ofString "+") o, .int a u] (fun t => .int (a) t) := by
  obtain ⟨hkl1, hkl2⟩ := kinds_len hk
  have hkb := kinds_bt hk
  unfold Con
  w_top off
  k_fill
  intro mean mg mb dp un gd cn cs a9 ccd cl outer A₀ base h₀ L m s Q E B F X T hcs hdp hun hret
  refine wpAny_call ?_
  refine' code_pure ?k1 ?k2 ?k3 ?k5 ?kA ?kF ?kK ?k6 ?k7 ?k8 ?k9 ?kB ?_ ?c2 ?c3 ?c4 ?c5; (case kA => exact rfl); (case kF => exact rfl); (case kK => assumption); (case k1 => k_asm); (case k2 => k_asm); (case k3 => k_asm); (case k5 => k_asm); (case k6 => k_dflt k_is); (case k7 => k_dflt k_is); (case k8 => ktr_room); (case k9 => exact BindsTo.of_eq rfl); (case c5 => decide); (case kB => exact locs rfl); (case c2 => exact rfl); (case c3 => exact rfl); (case c4 => exact rfl)
  intro g' L' h' hG' FG' F' N' B' X' T'
  (try dsimp only)
  (try k_lift B')
  (try k_fold)
  k_steps
  all_goals (refine' pretI (Q := Q) (s := s) hret ?e1 ?e2; (case e2 => exact IsG.stays (by assumption) (by k_asm)); (case e1 => rfl))
theorem un_neg_c (w : World) {k : Str} {a : Int} {t o u : Tok} (hk : k ∈ kinds) : Con w 12 134 [.str k t, .str (Str.ofString "-") o, .int a u] (fun t => .int (wrap k (0 - a)) t) := by
  obtain ⟨hkl1, hkl2⟩ := kinds_len hk
  have hkb := kinds_bt hk
  unfold Con
  w_top off
  k_fill
  intro mean mg mb dp un gd cn cs a9 ccd cl outer A₀ base h₀ L m s Q E B F X T hcs hdp hun hret
  refine wpAny_call ?_
  refine' code_pure ?k1 ?k2 ?k3 ?k5 ?kA ?kF ?kK ?k6 ?k7 ?k8 ?k9 ?kB ?_ ?c2 ?c3 ?c4 ?c5; (case kA => exact rfl); (case kF => exact rfl); (case kK => assumption); (case k1 => k_asm); (case k2 => k_asm); (case k3 => k_asm); (case k5 => k_asm); (case k6 => k_dflt k_is); (case k7 => k_dflt k_is); (case k8 => ktr_room); (case k9 => exact BindsTo.of_eq rfl); (case c5 => decide); (case kB => exact locs rfl); (case c2 => exact rfl); (case c3 => exact rfl); (case c4 => exact rfl)
  intro g' L' h' hG' FG' F' N' B' X' T'
  (try dsimp only)
  (try k_lift B')
  (try k_fold)
  k_steps
  all_goals (refine' pretI (Q := Q) (s := s) hret ?e1 ?e2; (case e2 => exact IsG.stays (by assumption) (by k_asm)); (case e1 => rfl))
theorem un_not_c (w : World) {k : Str} {a : Int} {t o u : Tok} (hk : k ∈ kinds) : Con w 12 134 [.str k t, .str (Str.ofString "^") o, .int a u] (fun t => .int (wrap k (-1 - a)) t) := by
  obtain ⟨hkl1, hkl2⟩ := kinds_len hk
  have hkb := kinds_bt hk
  unfold Con
  w_top off
  k_fill
  intro mean mg mb dp un gd cn cs a9 ccd cl outer A₀ base h₀ L m s Q E B F X T hcs hdp hun hret
  refine wpAny_call ?_
  refine' code_pure ?k1 ?k2 ?k3 ?k5 ?kA ?kF ?kK ?k6 ?k7 ?k8 ?k9 ?kB ?_ ?c2 ?c3 ?c4 ?c5; (case kA => exact rfl); (case kF => exact rfl); (case kK => assumption); (case k1 => k_asm); (case k2 => k_asm); (case k3 => k_asm); (case k5 => k_asm); (case k6 => k_dflt k_is); (case k7 => k_dflt k_is); (case k8 => ktr_room); (case k9 => exact BindsTo.of_eq rfl); (case c5 => decide); (case kB => exact locs rfl); (case c2 => exact rfl); (case c3 => exact rfl); (case c4 => exact rfl)
  intro g' L' h' hG' FG' F' N' B' X' T'
  (try dsimp only)
  (try k_lift B')
  (try k_fold)
  k_steps
  all_goals (refine' pretI (Q := Q) (s := s) hret ?e1 ?e2; (case e2 => exact IsG.stays (by assumption) (by k_asm)); (case e1 => rfl))
theorem od_eq_c (w : World) {a b : Int} {o u v : Tok} : Con w 12 141 [.str (Str.ofString "==") o, .int a u, .int b v] (fun t => .bool (a == b)) := by
  unfold Con
  w_top off
  k_fill
  intro mean mg mb dp un gd cn cs a9 ccd cl outer A₀ base h₀ L m s Q E B F X T hcs hdp hun hret
  refine wpAny_call ?_
  refine' code_pure ?k1 ?k2 ?k3 ?k5 ?kA ?kF ?kK ?k6 ?k7 ?k8 ?k9 ?kB ?_ ?c2 ?c3 ?c4 ?c5; (case kA => exact rfl); (case kF => exact rfl); (case kK => assumption); (case k1 => k_asm); (case k2 => k_asm); (case k3 => k_asm); (case k5 => k_asm); (case k6 => k_dflt k_is); (case k7 => k_dflt k_is); (case k8 => ktr_room); (case k9 => exact BindsTo.of_eq rfl); (case c5 => decide); (case kB => exact locs rfl); (case c2 => exact rfl); (case c3 => exact rfl); (case c4 => exact rfl)
  intro g' L' h' hG' FG' F' N' B' X' T'
  (try dsimp only)
  (try k_lift B')
  (try k_fold)
  k_steps
  all_goals (refine' pretB (Q := Q) (s := s) hret ?e1 ?e2; (case e2 => exact IsG.stays (by assumption) (by k_asm)); (case e1 => rfl))
theorem od_ne_c (w : World) {a b : Int} {o u v : Tok} : Con w 12 141 [.str (Str.ofString "!=") o, .int a u, .int b v] (fun t => .bool (a != b)) := by
  unfold Con
  w_top off
  k_fill
  intro mean mg mb dp un gd cn cs a9 ccd cl outer A₀ base h₀ L m s Q E B F X T hcs hdp hun hret
  refine wpAny_call ?_
  refine' code_pure ?k1 ?k2 ?k3 ?k5 ?kA ?kF ?kK ?k6 ?k7 ?k8 ?k9 ?kB ?_ ?c2 ?c3 ?c4 ?c5; (case kA => exact rfl); (case kF => exact rfl); (case kK => assumption); (case k1 => k_asm); (case k2 => k_asm); (case k3 => k_asm); (case k5 => k_asm); (case k6 => k_dflt k_is); (case k7 => k_dflt k_is); (case k8 => ktr_room); (case k9 => exact BindsTo.of_eq rfl); (case c5 => decide); (case kB => exact locs rfl); (case c2 => exact rfl); (case c3 => exact rfl); (case c4 => exact rfl)
  intro g' L' h' hG' FG' F' N' B' X' T'
  (try dsimp only)
  (try k_lift B')
  (try k_fold)
  k_steps
  all_goals (refine' pretB (Q := Q) (s := s) hret ?e1 ?e2; (case e2 => exact IsG.stays (by assumption) (by k_asm)); (case e1 => rfl))
theorem od_lt_c (w : World) {a b : Int} {o u v : Tok} : Con w 12 141 [.str (Str.ofString "<") o, .int a u, .int b v] (fun t => .bool (decide (a < b))) := by
  unfold Con
  w_top off
  k_fill
  intro mean mg mb dp un gd cn cs a9 ccd cl outer A₀ base h₀ L m s Q E B F X T hcs hdp hun hret
  refine wpAny_call ?_
  refine' code_pure ?k1 ?k2 ?k3 ?k5 ?kA ?kF ?kK ?k6 ?k7 ?k8 ?k9 ?kB ?_ ?c2 ?c3 ?c4 ?c5; (case kA => exact rfl); (case kF => exact rfl); (case kK => assumption); (case k1 => k_asm); (case k2 => k_asm); (case k3 => k_asm); (case k5 => k_asm); (case k6 => k_dflt k_is); (case k7 => k_dflt k_is); (case k8 => ktr_room); (case k9 => exact BindsTo.of_eq rfl); (case c5 => decide); (case kB => exact locs rfl); (case c2 => exact rfl); (case c3 => exact rfl); (case c4 => exact rfl)
  intro g' L' h' hG' FG' F' N' B' X' T'
  (try dsimp only)
  (try k_lift B')
  (try k_fold)
  k_steps
  all_goals (refine' pretB (Q := Q) (s := s) hret ?e1 ?e2; (case e2 => exact IsG.stays (by assumption) (by k_asm)); (case e1 => rfl))
theorem od_le_c (w : World) {a b : Int} {o u v : Tok} : Con w 12 141 [.str (Str.ofString "<=") o, .int a u, .int b v] (fun t => .bool (decide (a ≤ b))) := by
  unfold Con
  w_top off
  k_fill
  intro mean mg mb dp un gd cn cs a9 ccd cl outer A₀ base h₀ L m s Q E B F X T hcs hdp hun hret
  refine wpAny_call ?_
  refine' code_pure ?k1 ?k2 ?k3 ?k5 ?kA ?kF ?kK ?k6 ?k7 ?k8 ?k9 ?kB ?_ ?c2 ?c3 ?c4 ?c5; (case kA => exact rfl); (case kF => exact rfl); (case kK => assumption); (case k1 => k_asm); (case k2 => k_asm); (case k3 => k_asm); (case k5 => k_asm); (case k6 => k_dflt k_is); (case k7 => k_dflt k_is); (case k8 => ktr_room); (case k9 => exact BindsTo.of_eq rfl); (case c5 => decide); (case kB => exact locs rfl); (case c2 => exact rfl); (case c3 => exact rfl); (case c4 => exact rfl)
  intro g' L' h' hG' FG' F' N' B' X' T'
  (try dsimp only)
  (try k_lift B')
  (try k_fold)
  k_steps
  all_goals (refine' pretB (Q := Q) (s := s) hret ?e1 ?e2; (case e2 => exact IsG.stays (by assumption) (by k_asm)); (case e1 => rfl))
theorem od_gt_c (w : World) {a b : Int} {o u v : Tok} : Con w 12 141 [.str (Str.ofString ">") o, .int a u, .int b v] (fun t => .bool (decide (b < a))) := by
  unfold Con
  w_top off
  k_fill
  intro mean mg mb dp un gd cn cs a9 ccd cl outer A₀ base h₀ L m s Q E B F X T hcs hdp hun hret
  refine wpAny_call ?_
  refine' code_pure ?k1 ?k2 ?k3 ?k5 ?kA ?kF ?kK ?k6 ?k7 ?k8 ?k9 ?kB ?_ ?c2 ?c3 ?c4 ?c5; (case kA => exact rfl); (case kF => exact rfl); (case kK => assumption); (case k1 => k_asm); (case k2 => k_asm); (case k3 => k_asm); (case k5 => k_asm); (case k6 => k_dflt k_is); (case k7 => k_dflt k_is); (case k8 => ktr_room); (case k9 => exact BindsTo.of_eq rfl); (case c5 => decide); (case kB => exact locs rfl); (case c2 => exact rfl); (case c3 => exact rfl); (case c4 => exact rfl)
  intro g' L' h' hG' FG' F' N' B' X' T'
  (try dsimp only)
  (try k_lift B')
  (try k_fold)
  k_steps
  all_goals (refine' pretB (Q := Q) (s := s) hret ?e1 ?e2; (case e2 => exact IsG.stays (by assumption) (by k_asm)); (case e1 => rfl))
theorem od_ge_c (w : World) {a b : Int} {o u v : Tok} : Con w 12 141 [.str (Str.ofString ">=") o, .int a u, .int b v] (fun t => .bool (decide (b ≤ a))) := by
  unfold Con
  w_top off
  k_fill
  intro mean mg mb dp un gd cn cs a9 ccd cl outer A₀ base h₀ L m s Q E B F X T hcs hdp hun hret
  refine wpAny_call ?_
  refine' code_pure ?k1 ?k2 ?k3 ?k5 ?kA ?kF ?kK ?k6 ?k7 ?k8 ?k9 ?kB ?_ ?c2 ?c3 ?c4 ?c5; (case kA => exact rfl); (case kF => exact rfl); (case kK => assumption); (case k1 => k_asm); (case k2 => k_asm); (case k3 => k_asm); (case k5 => k_asm); (case k6 => k_dflt k_is); (case k7 => k_dflt k_is); (case k8 => ktr_room); (case k9 => exact BindsTo.of_eq rfl); (case c5 => decide); (case kB => exact locs rfl); (case c2 => exact rfl); (case c3 => exact rfl); (case c4 => exact rfl)
  intro g' L' h' hG' FG' F' N' B' X' T'
  (try dsimp only)
  (try k_lift B')
  (try k_fold)
  k_steps
  all_goals (refine' pretB (Q := Q) (s := s) hret ?e1 ?e2; (case e2 => exact IsG.stays (by assumption) (by k_asm)); (case e1 => rfl))
inductive UnOk (k : Str) (a : Int) : Str → Int → Prop
  | pos (hk : k ∈ kinds) : UnOk k a (Str.ofString "+") (a)
  | neg (hk : k ∈ kinds) : UnOk k a (Str.ofString "-") (wrap k (0 - a))
  | not (hk : k ∈ kinds) : UnOk k a (Str.ofString "^") (wrap k (-1 - a))
theorem un_any (w : World) {k op : Str} {a r : Int} {t o u : Tok} (H : UnOk k a op r) : Con w 12 134 [.str k t, .str op o, .int a u] (fun t => .int r t) := by
  cases H with
  | pos h0 => exact un_pos_c w h0
  | neg h0 => exact un_neg_c w h0
  | not h0 => exact un_not_c w h0
inductive OdOk (a b : Int) : Str → Bool → Prop
  | eq : OdOk a b (Str.ofString "==") (a == b)
  | ne : OdOk a b (Str.ofString "!=") (a != b)
  | lt : OdOk a b (Str.ofString "<") (decide (a < b))
  | le : OdOk a b (Str.ofString "<=") (decide (a ≤ b))
  | gt : OdOk a b (Str.ofString ">") (decide (b < a))
  | ge : OdOk a b (Str.ofString ">=") (decide (b ≤ a))
theorem od_any (w : World) {op : Str} {a b : Int} {r : Bool} {o u v : Tok} (H : OdOk a b op r) : Con w 12 141 [.str op o, .int a u, .int b v] (fun _ => .bool r) := by
  cases H with
  | eq => exact od_eq_c w
  | ne => exact od_ne_c w
  | lt => exact od_lt_c w
  | le => exact od_le_c w
  | gt => exact od_gt_c w
  | ge => exact od_ge_c w
end
local macro_rules | `(tactic| walk_at "call ref") => `(tactic| (k_here; (with_reducible show wpAny _ _ (call (Value.ref 134) _) _ _ _); k_dflt (refine' con_use (C := un_any _ (by with_reducible constructor <;> assumption)) (hret := ?_); walk_at "use")))
local macro_rules | `(tactic| walk_at "call ref") => `(tactic| (k_here; (with_reducible show wpAny _ _ (call (Value.ref 141) _) _ _ _); k_dflt (refine' con_use (C := od_any _ (by with_reducible constructor)) (hret := ?_); walk_at "use")))
-- part PE
section
-- written texts to bytes
abbrev zdB : Array UInt8 := #[105, 110, 116, 101, 103, 101, 114, 32, 100, 105, 118, 105, 100, 101, 32, 98, 121, 32, 122, 101, 114, 111]
abbrev nsB : Array UInt8 := #[110, 101, 103, 97, 116, 105, 118, 101, 32, 115, 104, 105, 102, 116, 32, 97, 109, 111, 117, 110, 116]
theorem enc_zd (t u : Tok) : Builtin.«str.encode» ⟨[.str (Str.ofString "integer divide by zero") t, .str (Str.ofString "ascii") u], []⟩ = (mkBytes zdB >>= fun v => ret v) := by kernel_rfl
theorem enc_ns (t u : Tok) : Builtin.«str.encode» ⟨[.str (Str.ofString "negative shift amount") t, .str (Str.ofString "ascii") u], []⟩ = (mkBytes nsB >>= fun v => ret v) := by kernel_rfl
section
variable {prog : Program} {w : World} {A : Around} {E : Value → Shared → Prop} {s : Shared}
theorem enc_get {M : Model} {x : Str} {t : Tok} {pl : Sem Bool} {Q : Value × List Value → Shared → Prop} (h : Q (.builtin "str.encode", [.str x t]) s) : wpAny M A (getMethod (.str x t) "encode" pl) Q E s := by
  with_reducible exact GM.of (.str x t) (typeIs_str _ _ _) F.slot_str_encode F.type_str_encode GM.noRef h
theorem enc_call {x : Str} {b : Array UInt8} {t u : Tok} {Q : Value → Shared → Prop} (e : Builtin.«str.encode» ⟨[.str x t, .str (Str.ofString "ascii") u], []⟩ = (mkBytes b >>= fun v => ret v)) (hb : b.size ≤ sizeLine)
    (h : ∀ t' tk, Q (.bytes b t') { s with toks := tk }) : wpAny (model prog w) A (call (.builtin "str.encode") [.str x t, .str (Str.ofString "ascii") u]) Q E s := by
  refine call_meets (S := fun _ R s => ∀ t' tk, R (.ok (.ret (.bytes b t'))) { s with toks := tk }) F.slot_str_encode (typeIs_str s x t) F.entry_str_encode (F.args_str_encode_2 _ _) ?_ h
  refine .of_wp fun prog w A R s hS => ?_
  rw [e]
  refine wpAny_bind ?_
  unfold mkBytes
  rw [if_neg (by omega)]
  exact wpAny_bind (wpAny_fresh (wpAny_pure (wpAny_pure ⟨_, rfl, hS _ _⟩)))
end
abbrev bmG : List Value := [.ref 32, .type "Exception", .type "BaseException", .type "object"]
abbrev gpO : Obj := excClassObj (Str.ofString "GoPanic") (Str.ofString "GoPanic") 52 51 [.ref 32] bmG true [] [] false none none (some (.ref 36)) none (some (.str (Str.ofString "GoPanic") 221)) (some (.str (Str.ofString "GoPanic") 229)) (some (.bool true)) "Exception.__new__"
theorem gp_at {P : Params} {h : Heap} (X : (hd.heap_1 P).In h) : h.get? 52 = some gpO := X _ _ rfl
section
variable {prog : Program} {w : World} {A : Around} {R : Result → Shared → Prop} {E : Value → Shared → Prop} {h : Heap} {g : Array GenState} {d : Drawn} {t : Nat} {os : OsState}
abbrev exO (a : Addr) : Obj := { cls := .ref 52, data := .fields #[.ref a, .none, .none, .none, .bool false, .none] }
abbrev tupO (vs : List Value) : Obj := { cls := .type "tuple", data := .seq vs.toArray }
theorem gp_check {M : Model} {rest : List Value} {Q : Unit → Shared → Prop} (hC : h.get? 52 = some gpO) (hq : Q () ⟨h, g, d, t, os⟩) : wpAny M A (checkBuiltinCall "Exception.__new__" ⟨.ref 52 :: rest, []⟩) Q E ⟨h, g, d, t, os⟩ := by
  have F := PySem.F.excBase_Exception
  have hcont : (Value.ref 52 :: bmG).contains (.type "Exception") = true := by decide +kernel
  have hstar := F.noStar
  simp only [checkBuiltinCall, F.newKind, F.newSplit, F.newRow]
  repeat (first | refine wpAny_loadPart_at hC ?_ | (refine wpAny_isSubtype_exc hC ?_; rw [hcont]) | refine wpAny_staticBase_exc hC ?_ | refine wpAny_madeBy_exc hC ?_ | simp only [bne_self_eq_false, Bool.false_eq_true, if_false] | wp_step)
  exact hq
theorem gp_new0 {rest : List Value} (hC : h.get? 52 = some gpO) (hq : R (.ok (.ret (.ref (h.objs.size + 1)))) ⟨(h.push (tupO rest)).push (exO h.objs.size), g, d, t, os⟩) (hrest : rest.length ≤ sizeLine) :
    codeAny (model prog w) A (.builtin "Exception.__new__" ⟨.ref 52 :: rest, []⟩) R ⟨h, g, d, t, os⟩ := by
  have F := PySem.F.excBase_Exception
  have hends := F.ends
  have hcB : (Value.ref 52 :: bmG).contains (.type "Exception") = true := by decide +kernel
  have hcA : (Value.ref 52 :: bmG).contains (.type "AttributeError") = false := by decide +kernel
  have hcN : (Value.ref 52 :: bmG).contains (.type "NameError") = false := by decide +kernel
  refine codeAny_builtinAt F.entry ?_
  unfold Builtin.«BaseException.__new__»
  refine PySem.wpAt_bind ?_
  show PySem.wpAt _ _ _ (stack >>= _) _ _ _
  refine PySem.wpAt_bind (PySem.wpAt_stack fun p below => PySem.wpAt_of_wpAny ?_)
  wp_walk
  refine PySem.wpAt_of_wpAny ?_
  rw [F.owner]
  repeat (first | with_reducible refine wpAny_madeHere_exc F.canon hC ?_ | with_reducible refine wpAny_loadPart_at hC ?_ | (with_reducible refine wpAny_isSubtype_exc hC ?_; first | rw [hcB] | rw [hcA] | rw [hcN]) | wp_step)
  show R _ _
  rw [Heap.size_push]
  exact hq
theorem gp_new {rest : List Value} (hC : h.get? 52 = some gpO) (hq : R (.ok (.ret (.ref (h.objs.size + 1)))) ⟨(h.push (tupO rest)).push (exO h.objs.size), g, d, t, os⟩) (hrest : rest.length ≤ sizeLine) :
    codeAny (model prog w) A (.call (.builtin "Exception.__new__") ⟨.ref 52 :: rest, []⟩) R ⟨h, g, d, t, os⟩ :=
  codeAny_call_builtin_code (Code.quiet_builtin _ PySem.F.excBase_Exception.quiet) (gp_check hC (gp_new0 hC hq hrest))

-- the class called: a new exception, then its __init__
theorem gp_make {P : Params} {rest : List Value} (X : (hd.heap_1 P).In h) (hrest : rest.length ≤ sizeLine)
    (hq : codeAny (model prog w) (A.under (.builtin "type.__call__" ⟨.ref 52 :: rest, []⟩)) (.call (.ref 49) ⟨.ref (h.objs.size + 1) :: rest, []⟩) (InitBack (h.objs.size + 1) R) ⟨(h.push (tupO rest)).push (exO h.objs.size), g, d, t, os⟩) :
    codeAny (model prog w) A (.call (.ref 52) ⟨rest, []⟩) R ⟨h, g, d, t, os⟩ := by
  have hC := gp_at X
  have call : Looks (model prog w) h (specialOf (.ref 52) "__call__") (some (.builtin "type.__call__")) := looks_specialIn X rfl
  have typ : Looks (model prog w) h (isInstance (.ref 52) (.type "type")) true := looks_instIn X rfl
  have hm : Looks (model prog w) h (mroOf (.ref 52)) (Value.ref 52 :: bmG) := ((Looks.ld (part := none) hC).andThen .now).andThen .now
  have made : Looks (model prog w) h (Bind.madeBy (.ref 52)) (some "Exception.__new__") := by
    intro A Q E s k q
    obtain ⟨h1, g1, d1, t1, os1⟩ := s
    exact wpAny_madeBy_exc (k _ _ hC) q
  refine codeAny_of_tree ?_
  show wpAny _ _ (callAny (.ref 52) _) _ _ _
  refine nd_load hC ?_
  show wpAny _ _ (callAny.viaDunder (.ref 52) _) _ _ _
  unfold callAny.viaDunder
  refine wpAny_bind (call.at ?_)
  dsimp only
  rw [tc_bind]
  refine wpAny_bind (wpAny_pure (wpAny_bind (wpAny_pure ?_)))
  refine wpAny_pure (a := Fin.again (.call (.builtin "type.__call__") ⟨.ref 52 :: rest, []⟩)) (And.intro rfl ?_)
  refine codeAny_call_builtin_at (Code.quiet_builtin _ (by decide +kernel)) entry_typeCall (check_slot tc_kind tc_split typ (tc_args _ _ _) ?_)
  unfold Builtin.«type.__call__»
  repeat (first | simp only [Bool.false_eq_true, if_false] | with_reducible refine wpAny_call ?_ | lk)
  refine gp_new hC ?_ hrest
  have k : ∀ b o, h.get? b = some o → ((h.push (tupO rest)).push (exO h.objs.size)).get? b = some o := fun b o e => Heap.get?_push_of_some _ (Heap.get?_push_of_some _ e)
  have hx : ((h.push (tupO rest)).push (exO h.objs.size)).get? (h.objs.size + 1) = some (exO h.objs.size) := by heap_get
  have t1 : Looks (model prog w) ((h.push (tupO rest)).push (exO h.objs.size)) (typeOf (.ref (h.objs.size + 1))) (.ref 52) := (Looks.ld hx).andThen .now
  have s1 : Looks (model prog w) ((h.push (tupO rest)).push (exO h.objs.size)) (isSubtype (.ref 52) (.ref 52)) true := (looks_mroIn (K := hd.heap_1 P) X rfl).keeps k
  have i1 : Looks (model prog w) ((h.push (tupO rest)).push (exO h.objs.size)) (typeLookup (.ref 52) "__init__") (some (.ref 49)) := (looks_findIn X rfl).keeps k
  have b1 : Looks (model prog w) ((h.push (tupO rest)).push (exO h.objs.size)) (bindSpecial (.ref 49) (.ref (h.objs.size + 1))) (.ref 49, [.ref (h.objs.size + 1)]) := (bind_fn X _ rfl).keeps k
  unfold isInstance callSpecial? specialOf
  repeat (first | with_reducible refine wpAny_call ?_ | lk)
  refine codeAny_mono hq fun r s' z => ?_
  rcases r with e | (v | _ | _ | _) <;> first | exact z | exact z.elim | skip
  obtain ⟨rfl, z⟩ := z
  exact wpAny_pure (wpAny_pure z)
end
section
variable {prog : Program} {w : World} {A : Around} {E : Value → Shared → Prop} {s : Shared} {L : Addr} {h₀ : Heap} {m : Str → Option Value} {news : List (Addr × Obj)} {Q : Value → Shared → Prop} {P : Params}
theorem gp_call {rest : List Value} (F : Fr h₀ L s.heap m) (X₀ : (hd.heap_1 P).In h₀) (N : News h₀ L s.heap news) (hrest : rest.length ≤ sizeLine)
    (h : ∀ x tx h', Fr h₀ L h' m → News h₀ L h' ((x, exO tx) :: (tx, tupO rest) :: news) → (∀ p ∈ news, p.1 < tx) → tx < x →
      codeAny (model prog w) (A.under (.builtin "type.__call__" ⟨.ref 52 :: rest, []⟩)) (.call (.ref 49) ⟨.ref x :: rest, []⟩) (InitBack x fun r s' => match r with | .ok (.ret v) => Q v s' | .ok _ => False | .error e => E e s') { s with heap := h' }) :
    wpAny (model prog w) A (call (.ref 52) rest) Q E s := by
  obtain ⟨hh, g, d, t, os⟩ := s
  refine wpAny_call (gp_make (X₀.keeps F.keep) hrest (h _ hh.objs.size _ ((F.push _).push _) ?_ (fun p hp => Heap.lt_size (N p hp).1) (Nat.lt_succ_self _)))
  have := (N.push F (tupO rest)).push (F.push _) (exO hh.objs.size)
  rwa [Heap.size_push] at this
end
theorem meta_exc : typeOf (.type "Exception") = pure (.type "type") := by kernel_rfl
theorem ei_kind : builtinKind "Exception.__init__" = some .slot := by decide +kernel
theorem ei_split : splitId "Exception.__init__" = some ("Exception", "__init__") := PySem.F.excBase_Exception.initSplit
section
variable {prog : Program} {w : World} {A : Around} {E : Value → Shared → Prop} {s : Shared} {L : Addr} {h₀ : Heap} {m : Str → Option Value} {news : List (Addr × Obj)} {P : Params} {g : Obj → List (Addr × Obj)}
theorem upd_news {x : Addr} {o o' : Obj} {f : Obj → Obj} {h : Heap} (F : Fr h₀ L h m) (N : News h₀ L h news) (U : UpdF x o news g) (e : f o = o') (hf : o'.isFreed = false) :
    Fr h₀ L (h.update x f) m ∧ News h₀ L (h.update x f) (g o') := by
  obtain ⟨pre, post, rfl, hg, a, b⟩ := U.split
  rw [hg]
  exact news_upd F N a b e hf
theorem upd_mem {x : Addr} {o : Obj} (U : UpdF x o news g) : (x, o) ∈ news := by
  obtain ⟨pre, post, rfl, _, _, _⟩ := U.split
  simp
theorem upd_mem' {x : Addr} {o o' : Obj} (U : UpdF x o news g) : (x, o') ∈ g o' := by
  obtain ⟨pre, post, rfl, hg, _, _⟩ := U.split
  rw [hg]
  simp
abbrev exD (a : Addr) (d : Option Addr) : Obj := { cls := .ref 52, dict := d, data := .fields #[.ref a, .none, .none, .none, .bool false, .none] }
theorem ei_check {M : Model} {e : Addr} {oe : Obj} {rest : List Value} {h : Heap} {g : Array GenState} {d : Drawn} {t : Nat} {os : OsState} {Q : Unit → Shared → Prop}
    (hC : h.get? 52 = some gpO) (he : h.get? e = some oe) (hcls : oe.cls = .ref 52) (hq : Q () ⟨h, g, d, t, os⟩) : wpAny M A (checkBuiltinCall "Exception.__init__" ⟨.ref e :: rest, []⟩) Q E ⟨h, g, d, t, os⟩ := by
  have F := PySem.F.excBase_Exception
  have hcB : (Value.ref 52 :: bmG).contains (.type "Exception") = true := by decide +kernel
  have hshort := F.noStar
  simp only [checkBuiltinCall, F.initKind, F.initSplit, F.initRow]
  repeat (first | (with_reducible refine wpAny_loadPart_at he ?_; rw [hcls]) | with_reducible refine wpAny_loadPart_at hC ?_ | (with_reducible refine wpAny_isSubtype_exc hC ?_; rw [hcB]) | wp_step)
  refine wpAny_onRaise ?_
  rw [show ∀ (a b : String) (n : Nat), Bind.check ⟨.positional, "*", "Exception", .self, [⟨"args", .varPos, false⟩]⟩ a b n (List.map (fun x => x.fst) ({ pos := Value.ref e :: rest } : Args).kw) = pure () from
    fun a b n => check_star_args _ _ _ _ _ _]
  exact wpAny_pure hq
theorem ei_call {x tx : Addr} {d : Option Addr} {v : Value} {Q : Value → Shared → Prop} (F : Fr h₀ L s.heap m) (X₀ : (hd.heap_1 P).In h₀) (N : News h₀ L s.heap news) (U : UpdF x (exD tx d) news g)
    (h : ∀ t' h', Fr h₀ L h' m → News h₀ L h' ((t', tupO [v]) :: g (exD t' d)) → (∀ p ∈ news, p.1 < t') → Q .none { s with heap := h' }) :
    wpAny (model prog w) A (call (.builtin "Exception.__init__") [.ref x, v]) Q E s := by
  have FE := PySem.F.excBase_Exception
  have X := X₀.keeps F.keep
  have N1 := N.push F (tupO [v])
  have F1 := F.push (tupO [v])
  have hxn : x < s.heap.objs.size := Heap.lt_size (N _ (upd_mem U)).1
  have hx := (N _ (upd_mem U)).1
  have hx1 : (s.heap.push (tupO [v])).get? x = some (exD tx d) := Heap.get?_push_of_some _ hx
  have U1 : UpdF x (exD tx d) ((s.heap.objs.size, tupO [v]) :: news) (fun o' => (s.heap.objs.size, tupO [v]) :: g o') := .tail (Nat.ne_of_gt hxn) U
  obtain ⟨F2, N2⟩ := upd_news (f := Obj.mapFields (·.setIfInBounds 0 (.ref s.heap.objs.size))) (o' := exD s.heap.objs.size d) F1 N1 U1 rfl rfl
  have fin := h _ _ F2 N2 fun p hp => Heap.lt_size (N p hp).1
  obtain ⟨hh, gg, dd, t, os⟩ := s
  refine wpAny_call (codeAny_call_builtin FE.init.plain FE.initEntry (ei_check (gp_at X) hx rfl ?_))
  wp_walk
  exact fin
theorem own_dict {x : Addr} {ox : Obj} {cd : ClassData} {Q : Option Addr → Shared → Prop} {C : Addr} {vs : Array Value} (F : Fr h₀ L s.heap m) (N : News h₀ L s.heap news) (U : UpdF x ox news g) (hc : ox.cls = .ref C) (hd : ox.dict = none) (hv : ox.data = .fields vs)
    (hC : Looks (model prog w) s.heap (classData C) cd) (hh : cd.hasDict = true)
    (h : ∀ D h', Fr h₀ L h' m → News h₀ L h' ((D, dictOf [] 0) :: g { ox with dict := some D }) → (∀ p ∈ news, p.1 < D) → Q (some D) { s with heap := h' }) :
    wpAny (model prog w) A (Builtin.ObjectAttr.ownDictForStores (.ref x)) Q E s := by
  have N1 := N.push F (dictOf [] 0)
  have F1 := F.push (dictOf [] 0)
  have hx := (N _ (upd_mem U)).1
  have hxn : x < s.heap.objs.size := Heap.lt_size hx
  have U1 : UpdF x ox ((s.heap.objs.size, dictOf [] 0) :: news) (fun o' => (s.heap.objs.size, dictOf [] 0) :: g o') := .tail (Nat.ne_of_gt hxn) U
  obtain ⟨F2, N2⟩ := upd_news (f := fun o => { o with dict := some s.heap.objs.size }) (o' := { ox with dict := some s.heap.objs.size }) F1 N1 U1 rfl (by unfold Obj.isFreed; rw [show ({ ox with dict := some s.heap.objs.size } : Obj).data = .fields vs from hv])
  have fin := h _ _ F2 N2 fun p hp => Heap.lt_size (N p hp).1
  obtain ⟨oc, od, oda, osl⟩ := ox
  dsimp only at hc hd hv
  subst hc hd hv
  unfold Builtin.ObjectAttr.ownDictForStores
  dsimp only
  unfold instanceDict
  refine wpAny_bind (wpAny_loadPart hx ?_)
  dsimp only
  refine wpAny_bind (hC.here ?_)
  simp only [hh, typeHasDict, Bool.not_true, Bool.false_eq_true, if_false, Bool.or_false]
  refine wpAny_bind (wpAny_alloc (wpAny_bind ?_))
  exact wpAny_update (Heap.get?_push_of_some _ hx) (wpAny_pure fin)
theorem own_dict2 {x dx : Addr} {ox : Obj} {cd : ClassData} {Q : Option Addr → Shared → Prop} {C : Addr} (hx : s.heap.get? x = some ox) (hc : ox.cls = .ref C) (hd : ox.dict = some dx)
    (hC : Looks (model prog w) s.heap (classData C) cd) (hh : cd.hasDict = true) (h : Q (some dx) s) : wpAny (model prog w) A (Builtin.ObjectAttr.ownDictForStores (.ref x)) Q E s := by
  obtain ⟨oc, od, oda, osl⟩ := ox
  dsimp only at hc hd
  subst hc hd
  unfold Builtin.ObjectAttr.ownDictForStores
  dsimp only
  unfold instanceDict
  refine wpAny_bind (wpAny_loadPart hx ?_)
  dsimp only
  refine wpAny_bind (hC.here ?_)
  simp only [hh, Bool.not_true, Bool.false_eq_true, if_false]
  exact wpAny_pure h
theorem put_dict {dx : Addr} {es es' : List DictEntry} {n n' : Nat} {name : Str} {tk : Tok} {v : Value} {Q : Fin → Shared → Prop} (F : Fr h₀ L s.heap m) (N : News h₀ L s.heap news) (U : UpdF dx (dictOf es n) news g)
    (hl : (getL name es).isSome = true) (e : (putL name (PyData.keyHash w.params name) (.str name s.toks) v es, putN name es n) = (es', n')) (hz : es'.length ≤ 1000)
    (h : ∀ h', Fr h₀ L h' m → News h₀ L h' (g (dictOf es' n')) → Q (.done (.ret .none)) { s with heap := h', toks := s.toks + 1 }) :
    wpAny (model prog w) A (Builtin.ObjectAttr.storeInDict dx (.str name tk) name v) Q E s := by
  obtain ⟨e1, e2⟩ := Prod.mk.inj e
  have D := (N _ (upd_mem U)).1
  obtain ⟨F2, N2⟩ := upd_news (f := Obj.putName name (PyData.keyHash w.params name) (.str name s.toks) v) (o' := dictOf es' n') F N U (by rw [putName_dict, e1, e2]) rfl
  have D' := (N2 _ (upd_mem' U)).1
  have fin := h _ F2 N2
  unfold Builtin.ObjectAttr.storeInDict
  refine wpAny_bind (wpAny_pure (wpAny_bind ?_))
  unfold nsSet
  refine wpAny_bind (wpAny_bind (wpAny_askSetting (wpAny_pure (wpAny_bind (wpAny_mkText (wpAny_bind (wpAny_loadPart D ?_)))))))
  dsimp only
  have c : (!es.toArray.any (·.key.isStr name) && es.toArray.any (·.refKey)) = false := by
    unfold getL at hl
    simp only [List.any_toArray]
    split at hl
    · rename_i en he
      rw [List.any_eq_true.mpr ⟨en, List.mem_of_find?_eq_some he, List.find?_some he⟩]; rfl
    · split at hl
      · cases hl
      · rename_i z; rw [Bool.not_eq_true] at z; rw [z, Bool.and_false]
  rw [aRefKeyMayBeTheName_at, c]
  refine wpAny_updatePart D ?_
  refine wpAny_bind (wpAny_lookBehind D' (pastItsLine_dict (by rw [List.size_toArray, sizeLine_eq]; omega)) ?_)
  exact wpAny_pure fin
-- an attribute of the new exception stored
theorem ex_set {x : Addr} {ox : Obj} {od : Option Obj} {name : Str} {v : Value} {Q : Unit → Shared → Prop} (X : (hd.heap_1 P).In s.heap) (I : InstAt s.heap x ox 52 od) (hn : findIn (hd.heap_1 P) (.ref 52) name = some none)
    (h : wpAny (model prog w) A.in1 (Builtin.ObjectAttr.ownDictForStores (.ref x)) (fun d s' => ∃ dx, d = some dx ∧ ∀ tk, wpAny (model prog w) A.in1 (Builtin.ObjectAttr.storeInDict dx (.str name tk) name v) (fun r s'' => r = .done (.ret .none) ∧ Q () s'') E s') E { s with toks := s.toks + 1 }) :
    wpAny (model prog w) A (setAttr (.ref x) name v) Q E s := by
  have SF := PySem.F.store_object
  obtain ⟨hh, gg, dd, t, os⟩ := s
  refine set_plain X I rfl ?_
  have sub : Looks (model prog w) hh (isInstance (.ref x) (.type "object")) true := I.type.andThen (looks_subIn (K := hd.heap_1 P) (t := .ref 52) X rfl)
  refine codeAny_call_builtin SF.slot.plain SF.entry (@check_slot (model prog w) _ _ ⟨hh, gg, dd, t + 1, os⟩ "object.__setattr__" "object" "__setattr__" (.ref x) [.str name t, v] [] _ SF.kind SF.split sub (SF.args (.ref x) (.str name t) v) ?_)
  have hm : Looks (model prog w) hh (mroOf (.ref 52)) (Value.ref 52 :: bmG) := ((Looks.ld (part := none) (gp_at X)).andThen .now).andThen .now
  rw [osa_eq, refuse_eq]
  refine wpAny_bind (wpAny_bind (I.type.at (wpAny_bind (hm.at ?_))))
  rw [refuseLoop_ref, refuseLoop_ref, PySem.F.store_Exception.passes]
  refine wpAny_pure (wpAny_bind (I.type.at (wpAny_bind ((looks_findIn X hn).at (wpAny_bind (wpAny_pure ?_))))))
  refine wpAny_bind (wpAny_pure ?_)
  refine wpAny_bind (wpAny_mono h (fun d s' hd => ?_) fun _ _ y => y)
  obtain ⟨dx, rfl, hd⟩ := hd
  refine wpAny_mono (hd t) (fun r s'' z => ?_) fun _ _ y => y
  obtain ⟨rfl, z⟩ := z
  exact z
end
section
variable {prog : Program} {w : World} {A : Around} {E : Value → Shared → Prop} {s : Shared} {L : Addr} {h₀ : Heap} {m : Str → Option Value} {news : List (Addr × Obj)} {P : Params} {g : Obj → List (Addr × Obj)}
theorem ex_set1 {x tx : Addr} {name : Str} {v : Value} {Q : Unit → Shared → Prop} (F : Fr h₀ L s.heap m) (X₀ : (hd.heap_1 P).In h₀) (N : News h₀ L s.heap news) (U : UpdF x (exD tx none) news g) (hn : findIn (hd.heap_1 P) (.ref 52) name = some none)
    (h : ∀ D h', Fr h₀ L h' m → News h₀ L h' ((D, dictOf [⟨PyData.keyHash w.params name, .str name (s.toks + 1), v⟩] 1) :: g (exD tx (some D))) → (∀ p ∈ news, p.1 < D) → Q () { s with heap := h', toks := s.toks + 2 }) :
    wpAny (model prog w) A (setAttr (.ref x) name v) Q E s := by
  have X := X₀.keeps F.keep
  have hx := (N _ (upd_mem U)).1
  have I : InstAt s.heap x (exD tx none) 52 none := ⟨hx, rfl, rfl, trivial⟩
  refine ex_set X I hn ?_
  obtain ⟨hh, gg, dd, t, os⟩ := s
  refine own_dict (cd := _) F N U rfl rfl rfl (looks_clsIn X rfl) rfl fun D h' F' N' lt => ⟨D, rfl, fun tk => ?_⟩
  refine put_dict (g := fun o => (D, o) :: g (exD tx (some D))) F' N' (.head ?_) rfl rfl (Nat.le_of_ble_eq_true rfl) fun h'' F'' N'' => ⟨rfl, h D h'' F'' N'' lt⟩
  intro p hp e
  have hl := lt
  obtain ⟨pre, post, rfl, hg, _, _⟩ := U.split
  rw [hg] at hp
  have : p.1 < D := by
    rcases List.mem_append.mp hp with q | q
    · exact hl p (List.mem_append_left _ q)
    · rcases List.mem_cons.mp q with rfl | q
      · exact hl (x, exD tx none) (by simp)
      · exact hl p (List.mem_append_right _ (.tail _ q))
  exact absurd e (Nat.ne_of_lt this)
theorem ex_set2 {x tx dx : Addr} {es es' : List DictEntry} {n n' : Nat} {name : Str} {v : Value} {Q : Unit → Shared → Prop} (F : Fr h₀ L s.heap m) (X₀ : (hd.heap_1 P).In h₀) (N : News h₀ L s.heap news)
    (hx : (x, exD tx (some dx)) ∈ news) (U : UpdF dx (dictOf es n) news g) (hn : findIn (hd.heap_1 P) (.ref 52) name = some none)
    (hl : (getL name es).isSome = true) (e : (putL name (PyData.keyHash w.params name) (.str name (s.toks + 1)) v es, putN name es n) = (es', n')) (hz : es'.length ≤ 1000)
    (h : ∀ h', Fr h₀ L h' m → News h₀ L h' (g (dictOf es' n')) → Q () { s with heap := h', toks := s.toks + 2 }) :
    wpAny (model prog w) A (setAttr (.ref x) name v) Q E s := by
  have X := X₀.keeps F.keep
  have hx' := (N _ hx).1
  have I : InstAt s.heap x (exD tx (some dx)) 52 (some (dictOf es n)) := ⟨hx', rfl, rfl, (N _ (upd_mem U)).1⟩
  refine ex_set X I hn ?_
  obtain ⟨hh, gg, dd, t, os⟩ := s
  refine own_dict2 hx' rfl rfl (looks_clsIn X rfl) rfl ⟨dx, rfl, fun tk => ?_⟩
  exact put_dict F N U hl e hz fun h' F' N' => ⟨rfl, h h' F' N'⟩
end
-- the exception on its way, its dict kept
abbrev exF (d : Addr) (vs : Array Value) (sl : Array (Option Value)) : Obj := { cls := .ref 52, dict := some d, data := .fields vs, slots := sl }
def TrG (h base : Heap) (e dx : Addr) (fl : Value) : Prop :=
  ∃ vs sl T oT ts, h.get? e = some (exF dx vs sl) ∧ vs[1]? = some (.ref T) ∧ base.get? T = none ∧ T ≠ e ∧ h.get? T = some oT ∧ oT.data = .fields ts ∧ ts[3]? = some fl
structure OnG (base : Heap) (l : List Env) (e dx : Addr) (fl : Value) (h : Heap) : Prop where
  keep : base.StaysIn h
  new : base.get? e = none
  frames : h.FunFrames base l
  at_ : TrG h base e dx fl
theorem OnG.there {base h : Heap} {l : List Env} {e dx : Addr} {fl : Value} (x : OnG base l e dx fl h) : ∃ vs sl, h.get? e = some (exF dx vs sl) := by
  obtain ⟨vs, sl, _, _, _, he, _⟩ := x.at_
  exact ⟨vs, sl, he⟩
section
variable {M : Model} {A : Around} {E : Value → Shared → Prop} {s : Shared} {base : Heap} {env : Env} {outer : List Env} {L e dx : Addr} {Q : Unit → Shared → Prop}
theorem g_entry {vs : Array Value} {sl : Array (Option Value)} {head : Value} {had : Bool}
    (hfr : A.frames = some (env :: outer)) (hl : s.heap.FunFrames base (env :: outer)) (hf : env.frame = some L)
    (he : s.heap.get? e = some (exF dx vs sl)) (hkb : base.StaysIn s.heap) (hen : base.get? e = none) (hsz : 1 < vs.size)
    (h : ∀ h', OnG base (env :: outer) e dx (rawInt L) h' → s.heap.UpToSlots h' → Q () { s with heap := h' }) :
    wpAny M A (do let a ← frameOf env; let pl ← entryPlaceOf L had; let b ← EntryCells.newEntry head a .none (rawInt L) .none pl; setField (.ref e) 1 b) Q E s := by
  have hene : e ∉ (env :: outer).filterMap (·.frame) := by
    intro hm
    obtain ⟨_, o, ho, hnf⟩ := hl.mem hm
    rw [he] at ho
    cases ho
    exact hnf vs rfl
  refine wpAny_bind (wpAny_frameOf_fun hfr hl hf fun h₁ hs₁ => ?_)
  refine wpAny_bind (wpAny_entryPlaceOf fun pl hpl => ?_)
  unfold EntryCells.newEntry newFields
  refine wpAny_bind (wpAny_newObj_type ?_ (hpl.sizeOk5 _ _ _ _ _))
  have he₁ : h₁.get? e = some (exF dx vs sl) := (hs₁.2.1 e hene).trans he
  have kb₁ : base.StaysIn h₁ := by
    intro b o hb
    refine (hs₁.2.1 b fun hm => ?_).trans (hkb b o hb)
    have := (hl.mem hm).1
    rw [this] at hb
    cases hb
  generalize hpo : ({ cls := .type "traceback", dict := none, data := .fields ([head, .ref L, .none, rawInt L, .none] ++ (if pl.isEmpty then List.replicate 6 Value.none else pl)).toArray } : Obj) = tb
  have hfree : tb.isFreed = false := by rw [← hpo]; rfl
  have he₂ : (h₁.push tb).get? e = some (exF dx vs sl) := Heap.get?_push_of_some _ he₁
  have hTe : h₁.objs.size ≠ e := Nat.ne_of_gt (Heap.lt_size he₁)
  refine wpAny_setField he₂ rfl hsz (h _ ?_ ?_)
  · refine ⟨?_, hen, ?_, vs.setIfInBounds 1 (.ref h₁.objs.size), sl, h₁.objs.size, tb, ([head, .ref L, .none, rawInt L, .none] ++ (if pl.isEmpty then List.replicate 6 Value.none else pl)).toArray, ?_, ?_, kb₁.fresh, hTe, ?_, ?_, ?_⟩
    · intro b o hb
      rw [Heap.get?_update_other _ _ (fun q => by rw [← q, hen] at hb; cases hb)]
      exact Heap.get?_push_of_some _ (kb₁ b o hb)
    · refine hl.of_keeps fun b o hb hnf => ?_
      obtain ⟨sl', hs'⟩ := hs₁.2.2 b o hb
      refine ⟨{ o with slots := sl' }, ?_, rfl⟩
      rw [Heap.get?_update_other _ _ (fun q => by rw [← q, he] at hb; cases hb; exact hnf vs rfl)]
      exact Heap.get?_push_of_some _ hs'
    · exact Heap.get?_update_self _ he₂ rfl
    · simp [hsz]
    · rw [Heap.get?_update_other _ _ (Ne.symm hTe)]
      exact Heap.get?_push_size _ hfree
    · rw [← hpo]
    · rcases hpl with rfl | ⟨_, _, _, _, _, _, _, rfl⟩ <;> simp
  · intro b o hb hnf
    obtain ⟨sl', hs'⟩ := hs₁.2.2 b o hb
    refine ⟨sl', ?_⟩
    rw [Heap.get?_update_other _ _ (fun q => by rw [← q, he] at hb; cases hb; exact hnf vs rfl)]
    exact Heap.get?_push_of_some _ hs'
theorem g_note0 {tx : Addr} (hfr : A.frames = some (env :: outer)) (hl : s.heap.FunFrames base (env :: outer)) (hf : env.frame = some L)
    (he : s.heap.get? e = some (exD tx (some dx))) (hkb : base.StaysIn s.heap) (hen : base.get? e = none)
    (h : ∀ h', OnG base (env :: outer) e dx (rawInt L) h' → s.heap.UpToSlots h' → Q () { s with heap := h' }) : wpAny M A (noteFrame (.ref e) env) Q E s := by
  unfold noteFrame
  simp only [hf]
  refine wpAny_bind (wpAny_field (x := .none) he rfl rfl ?_)
  rw [if_neg (by decide)]
  exact g_entry hfr hl hf (vs := #[.ref tx, .none, .none, .none, .bool false, .none]) (sl := #[]) he hkb hen (Nat.le_of_ble_eq_true rfl) h
theorem g_note (hfr : A.frames = some (env :: outer)) (hf : env.frame = some L) (x : OnG base (env :: outer) e dx .none s.heap)
    (h : ∀ h', OnG base (env :: outer) e dx (rawInt L) h' → s.heap.UpToSlots h' → Q () { s with heap := h' }) : wpAny M A (noteFrame (.ref e) env) Q E s := by
  obtain ⟨hkb, hen, hl, vs, sl, T, oT, ts, he, h1, hnT, hTe, hT, hdT, h3⟩ := x
  unfold noteFrame
  simp only [hf]
  refine wpAny_bind (wpAny_field he rfl h1 ?_)
  rw [if_pos (show (Value.ref T != Value.none) = true by simp)]
  refine wpAny_bind (wpAny_field hT hdT h3 ?_)
  rw [if_neg (show ¬ ((Value.none == rawInt L) = true) by simp [rawInt])]
  refine wpAny_bind (wpAny_setField hT hdT (Array.getElem?_eq_some_iff.mp h3).1 ?_)
  have other : ∀ b, b ≠ T → (s.heap.update T (Obj.mapFields (·.setIfInBounds 3 Value.none))).get? b = s.heap.get? b := fun b hb => Heap.get?_update_other _ _ (Ne.symm hb)
  have plain : ∀ b o, s.heap.get? b = some o → (∀ vs, o.data ≠ .fields vs) → b ≠ T := by
    intro b o hb hnf q
    rw [q, hT] at hb
    cases hb
    exact hnf ts hdT
  refine g_entry hfr (hl.of_keeps fun b o hb hnf => ⟨o, (other b (plain b o hb hnf)).trans hb, rfl⟩) hf ((other e (Ne.symm hTe)).trans he)
    (fun b o hb => (other b fun q => by rw [q, hnT] at hb; cases hb).trans (hkb b o hb)) hen (Array.getElem?_eq_some_iff.mp h1).1 fun h' y sm => h h' y fun b o hb hnf => sm b o ((other b (plain b o hb hnf)).trans hb) hnf
theorem g_land {l : List Env} {fl : Value} (x : OnG base l e dx fl s.heap) (h : ∀ h', OnG base l e dx .none h' → s.heap.UpToSlots h' → Q () { s with heap := h' }) : wpAny M A (setFlight (.ref e) none) Q E s := by
  obtain ⟨hkb, hen, hl, vs, sl, T, oT, ts, he, h1, hnT, hTe, hT, hdT, h3⟩ := x
  have h3' : 3 < ts.size := (Array.getElem?_eq_some_iff.mp h3).1
  have other : ∀ b, b ≠ T → (s.heap.update T (Obj.mapFields (·.setIfInBounds 3 ((none : Option Addr).elim Value.none fun f => rawInt f)))).get? b = s.heap.get? b := fun b hb => Heap.get?_update_other _ _ (Ne.symm hb)
  have plain : ∀ b o, s.heap.get? b = some o → (∀ vs, o.data ≠ .fields vs) → b ≠ T := by
    intro b o hb hnf q
    rw [q, hT] at hb
    cases hb
    exact hnf ts hdT
  unfold setFlight
  refine wpAny_bind (wpAny_field he rfl h1 ?_)
  rw [if_pos (show (Value.ref T != Value.none) = true by simp)]
  refine wpAny_setField hT hdT h3' (h _ ⟨fun b o hb => (other b fun q => by rw [q, hnT] at hb; cases hb).trans (hkb b o hb), hen, hl.of_keeps fun b o hb hnf => ⟨o, (other b (plain b o hb hnf)).trans hb, rfl⟩,
    vs, sl, T, _, _, (other e (Ne.symm hTe)).trans he, h1, hnT, hTe, Heap.get?_update_self _ hT (Obj.isFreed_of_fields (Obj.data_mapFields hdT _)), Obj.data_mapFields hdT _, by simp [h3']⟩ fun b o hb hnf => ⟨o.slots, (other b (plain b o hb hnf)).trans hb⟩)
end
def RaisG (P : Params) (E : Value → Shared → Prop) (v : Value) (s₁ : Shared) : Prop :=
  ∃ x tx d, v = .ref x ∧ (hd.heap_1 P).In s₁.heap ∧ s₁.heap.get? x = some (exD tx d) ∧ E (.ref x) s₁
theorem raise_G {M : Model} {A : Around} {E : Value → Shared → Prop} {s : Shared} {env : Env} {P : Params} {e : Expr} {pos : Pos} {Q : Flow → Shared → Prop} (hh : A.handled = none)
    (h : wpAny M A (eval e env) (RaisG P E) E s) : wpAny M A (exec (.Raise (some e) none pos) env) Q E s := by
  show wpAny M A (do standAt pos; raiseStmt env (some (do let v ← eval e env; standAt pos; pure v)) none) Q E s
  refine wpAny_bind (wpAny_standAt ?_)
  have hcB : (Value.ref 52 :: bmG).contains (.type "BaseException") = true := by decide +kernel
  unfold raiseStmt
  dsimp only
  refine wpAny_bind (wpAny_bind (wpAny_mono h (fun v s₁ h₁ => wpAny_bind (wpAny_standAt (wpAny_pure ?_))) fun _ _ x => x))
  obtain ⟨x, tx, d, rfl, X, he, hE⟩ := h₁
  have hC := gp_at X
  obtain ⟨hp, g, dd, tk, os⟩ := s₁
  repeat (first | with_reducible refine wpAny_loadPart_at he ?_ | with_reducible refine wpAny_loadPart_at hC ?_ | (with_reducible refine wpAny_isSubtype_exc hC ?_; rw [hcB]) | wp_step)
  exact wpAny_raiseNew_none hh hE

def FlyG (G base : Heap) (l : List Env) (e dx : Addr) (kept : List (Addr × Obj)) (h : Heap) : Prop :=
  ∃ B, base.StaysIn B ∧ (∀ b o, G.get? b = some o → b ∉ l.filterMap (·.frame) → B.get? b = some o) ∧ (∀ q ∈ kept, B.get? q.1 = some q.2 ∧ G.get? q.1 = none) ∧ OnG B l e dx .none h
section
variable {M : Model} {A : Around} {E : Value → Shared → Prop} {s' : Shared} {base g g₂ : Heap} {outer : List Env} {L a e tx dx : Addr} {m : Str → Option Value} {name : Str} {scope : Scope} {cd : Value} {Q : Unit → Shared → Prop} {news kept : List (Addr × Obj)}
theorem leave_G0 (K : Below A base outer g) (F : Fr g L s'.heap m) (N : News g L s'.heap news) (he : (e, exD tx (some dx)) ∈ news) (hk : ∀ p ∈ kept, p ∈ news) (hne : ∀ p ∈ kept, p.1 ≠ e)
    (hQ : ∀ h', FlyG g base outer e dx kept h' → g.UpToSlots h' → Q () { s' with heap := h' }) (hkind : scope.kind = .function := by rfl) :
    wpAny M (A.deeper (envOf name scope L a cd)) (leaving (envOf name scope L a cd) (.ref e)) Q E s' := by
  have K' := K.push (name := name) (a := a) (cd := cd) F hkind
  have heh := (N _ he).1
  have heg := (N _ he).2.2
  generalize hfs : (envOf name scope L a cd :: outer).filterMap (·.frame) = fs
  have hinB : ∀ b o, s'.heap.get? b = some o → b ≠ e → b ∉ fs → (hideAll s'.heap (e :: fs)).get? b = some o := by
    intro b o q n1 n2
    refine hideAll_get _ q fun hm => ?_
    rcases List.mem_cons.mp hm with z | z
    · exact n1 z
    · exact n2 z
  have bne : ∀ b o, g.get? b = some o → b ≠ e := by
    intro b o q z
    rw [z, heg] at q
    cases q
  have st : base.StaysIn (hideAll s'.heap (e :: fs)) := by
    intro b o q
    refine hinB b o (K'.stays b o q) (bne b o (K.stays b o q)) fun hm => ?_
    rw [← hfs] at hm
    rw [(K'.frames.mem hm).1] at q
    cases q
  have sg : ∀ b o, g.get? b = some o → b ∉ outer.filterMap (·.frame) → (hideAll s'.heap (e :: fs)).get? b = some o := by
    intro b o q nm
    refine hinB b o (F.keep b o q) (bne b o q) fun hm => ?_
    rw [← hfs] at hm
    obtain ⟨env, hv, hf⟩ := List.mem_filterMap.mp hm
    rcases List.mem_cons.mp hv with rfl | hv
    · have z : L = b := Option.some.inj hf
      exact absurd (z ▸ Nat.lt_of_lt_of_le (Heap.lt_size q) F.above) (Nat.lt_irrefl _)
    · exact nm (List.mem_filterMap.mpr ⟨env, hv, hf⟩)
  have kp : ∀ q ∈ kept, (hideAll s'.heap (e :: fs)).get? q.1 = some q.2 ∧ g.get? q.1 = none := by
    intro q hq
    obtain ⟨n1, n2, n3⟩ := N q (hk q hq)
    refine ⟨hinB q.1 q.2 n1 (hne q hq) fun hm => ?_, n3⟩
    rw [← hfs] at hm
    obtain ⟨env, hv, hf⟩ := List.mem_filterMap.mp hm
    rcases List.mem_cons.mp hv with rfl | hv
    · exact n2 (Option.some.inj hf).symm
    · obtain ⟨o, ho, _⟩ := (K.frames.mem (List.mem_filterMap.mpr ⟨env, hv, hf⟩)).2
      rw [n3] at ho
      cases ho
  have ff : s'.heap.FunFrames (hideAll s'.heap (e :: fs)) (envOf name scope L a cd :: outer) :=
    funFrames_hide K'.frames fun env hv b hb => by
      refine .tail _ ?_
      rw [← hfs]
      exact List.mem_filterMap.mpr ⟨env, hv, hb⟩
  unfold leaving
  refine wpAny_bind (g_note0 (base := hideAll s'.heap (e :: fs)) K'.stack ff rfl heh (fun b o q => of_hideAll _ q) (hideAll_none _ (.head _)) fun h₁ x₁ sm₁ => ?_)
  refine g_land x₁ fun h₂ x₂ sm₂ => ?_
  refine hQ h₂ ⟨_, st, sg, kp, x₂.keep, x₂.new, x₂.frames.2.2, x₂.at_⟩ ((Heap.UpToSlots.of_keeps F.keep).trans (sm₁.trans sm₂))
theorem leave_GN (K : Below A base outer g) (F : Fr g L g₂ m) (R : FlyG g₂ base (envOf name scope L a cd :: outer) e dx kept s'.heap) (hsm : g₂.UpToSlots s'.heap)
    (hQ : ∀ h', FlyG g base outer e dx kept h' → g.UpToSlots h' → Q () { s' with heap := h' }) :
    wpAny M (A.deeper (envOf name scope L a cd)) (leaving (envOf name scope L a cd) (.ref e)) Q E s' := by
  obtain ⟨B, st, sg, kp, x⟩ := R
  unfold leaving
  refine wpAny_bind (g_note (Around.frames_deeper K.stack) rfl x fun h₁ x₁ sm₁ => ?_)
  refine g_land x₁ fun h₂ x₂ sm₂ => ?_
  refine hQ h₂ ⟨B, st, fun b o q nm => sg b o (F.keep b o q) fun hm => ?_, fun q hq => ⟨(kp q hq).1, ?_⟩, x₂.keep, x₂.new, x₂.frames.2.2, x₂.at_⟩ ((Heap.UpToSlots.of_keeps F.keep).trans (hsm.trans (sm₁.trans sm₂)))
  · obtain ⟨env, hv, hf⟩ := List.mem_filterMap.mp hm
    rcases List.mem_cons.mp hv with rfl | hv
    · have z : L = b := Option.some.inj hf
      exact absurd (z ▸ Nat.lt_of_lt_of_le (Heap.lt_size q) F.above) (Nat.lt_irrefl _)
    · exact nm (List.mem_filterMap.mpr ⟨env, hv, hf⟩)
  · cases z : g.get? q.1 with
    | none => rfl
    | some o =>
      have := (kp q hq).2
      rw [F.keep _ _ z] at this
      cases this
end
section
variable {prog : Program} {w : World} {A : Around} {E : Value → Shared → Prop} {s' : Shared} {base g g₂ : Heap} {outer : List Env} {L a e tx dx : Addr} {m : Str → Option Value} {name : Str} {scope : Scope} {cd : Value} {Q : Flow → Shared → Prop} {kept : List (Addr × Obj)}
  {P : Params} {mg mb : Str → Option Value} {mean : ExcName → Option Value} {n : Str} {b₀ : Stmt} {suite : List Stmt} {pos np : Pos} {rest : List ExceptHandler} {h₀ : Heap} {p : Program} {loose : List Str} {L₀ : Addr} {oL : Obj}
abbrev under (g : Heap) (outer : List Env) : Heap := hideAll g (outer.filterMap (·.frame))
theorem caught_G (K : Below A base outer g) (F : Fr g L g₂ m) (R : FlyG g₂ base (envOf name scope L a cd :: outer) e dx kept s'.heap) (hsm : g₂.UpToSlots s'.heap)
    (X : (hd.heap_1 P).In (under g outer)) (T : TopRead p loose mg mb (under g outer)) (hL₀ : g.get? L₀ = some oL) (hnd : ∀ vs, oL.data ≠ .fields vs) (hout : L₀ ∈ outer.filterMap (·.frame))
    (k : ∀ h' tk vs sl sl₀, Fr (under g outer) L h' (fun y => if y = n then some (.ref e) else m y) → News (under g outer) L h' ((e, exF dx vs sl) :: (L₀, { oL with slots := sl₀ }) :: kept) →
      wpAny (model prog w) ((A.deeper (envOf name scope L a cd)).mark (some (.ref e))) (execs (b₀ :: suite) (envOf name scope L a cd))
        (fun f s₄ => wpAny (model prog w) (A.deeper (envOf name scope L a cd)) (do bindName (envOf name scope L a cd) n .none; unbindBehindTheSuite (envOf name scope L a cd) n pos) (fun _ s₅ => Q f s₅) E s₄)
        (AsSuiteRaised (model prog w) ((A.deeper (envOf name scope L a cd)).mark (some (.ref e))) (envOf name scope L a cd) n pos (notedBy (model prog w) ((A.deeper (envOf name scope L a cd)).mark (some (.ref e))) (envOf name scope L a cd) (cameBackBy (model prog w) (A.deeper (envOf name scope L a cd)) (envOf name scope L a cd) E)))
        { s' with heap := h', toks := tk })
    (hk : scope.kind = .function := by rfl) (hlo : (envOf name scope L a cd).kindOf n = some .local := by rfl) (hx : (envOf name scope L a cd).kindOf (Str.ofString "GoPanic") = some .globalImplicit := by rfl) :
    wpAny (model prog w) (A.deeper (envOf name scope L a cd)) (noteFrame (.ref e) (envOf name scope L a cd))
      (fun _ s₂ => wpAny (model prog w) (A.deeper (envOf name scope L a cd)) (setFlight (.ref e) none) (fun _ s₃ =>
        wpAny (model prog w) (A.deeper (envOf name scope L a cd)) (handleBy (.ref e) (envOf name scope L a cd) (.ExceptHandler (some (.Name (Str.ofString "GoPanic") np)) (some n) (b₀ :: suite) pos :: rest)) Q E s₃) E s₂) E s' := by
  obtain ⟨B, st, sg, kp, x⟩ := R
  have hL : B.get? L = none := by
    obtain ⟨_, ⟨L', _, hf, hn', _⟩, _⟩ := x.frames
    obtain rfl : L = L' := Option.some.inj hf
    exact hn'
  have hun : ∀ b o, (under g outer).get? b = some o → B.get? b = some o := by
    intro b o q
    have q' := of_hideAll _ q
    refine sg b o (F.keep b o q') fun hm => ?_
    obtain ⟨env, hv, hf⟩ := List.mem_filterMap.mp hm
    rcases List.mem_cons.mp hv with rfl | hv
    · have z : L = b := Option.some.inj hf
      exact absurd (z ▸ Nat.lt_of_lt_of_le (Heap.lt_size q') F.above) (Nat.lt_irrefl _)
    · rw [hideAll_none _ (List.mem_filterMap.mpr ⟨env, hv, hf⟩)] at q
      cases q
  have none_ : ∀ b, B.get? b = none → (under g outer).get? b = none := by
    intro b q
    cases z : (under g outer).get? b with
    | none => rfl
    | some o =>
      rw [hun b o z] at q
      cases q
  have frOf : ∀ h', B.StaysIn h' → s'.heap.UpToSlots h' → Fr (under g outer) L h' m := fun h' kb sm =>
    ⟨(hsm.trans sm).ns F.ns, fun b o q => kb b o (hun b o q), by rw [hideAll_size]; exact F.above⟩
  refine g_note (Around.frames_deeper K.stack) rfl x fun h₄ x₄ sm₄ => ?_
  refine g_land x₄ fun h₅ x₅ sm₅ => ?_
  have F₅ := frOf h₅ x₅.keep (sm₄.trans sm₅)
  obtain ⟨vs₅, sl₅, he₅⟩ := x₅.there
  refine wpAny_handleBy_cons (codeAny_handlers_test (name_K (v := .ref 52) F₅ X T rfl ?_ hk hx (by decide +kernel))) (by intro q; cases q)
  refine wpAny_excMatches_sub_self (gp_at (X.keeps F₅.keep)) he₅ rfl (by decide +kernel) (codeAny_handlers_suite_as ?_)
  refine g_land x₅ fun h₆ x₆ sm₆ => ?_
  have F₆ := frOf h₆ x₆.keep (sm₄.trans (sm₅.trans sm₆))
  obtain ⟨vs, sl, he₆⟩ := x₆.there
  obtain ⟨sl₀, hL₆⟩ := ((Heap.UpToSlots.of_keeps F.keep).trans (hsm.trans (sm₄.trans (sm₅.trans sm₆)))) L₀ oL hL₀ hnd
  have N₆ : News (under g outer) L h₆ ((e, exF dx vs sl) :: (L₀, { oL with slots := sl₀ }) :: kept) := by
    intro q hq
    rcases List.mem_cons.mp hq with rfl | hq
    · refine ⟨he₆, fun z => ?_, none_ _ x₆.new⟩
      obtain ⟨o, es, ep, ho, hd', _⟩ := F₆.ns
      rw [← z, he₆] at ho
      cases ho
      cases hd'
    rcases List.mem_cons.mp hq with rfl | hq
    · exact ⟨hL₆, Nat.ne_of_lt (Nat.lt_of_lt_of_le (Heap.lt_size hL₀) F.above), hideAll_none _ hout⟩
    · refine ⟨x₆.keep _ _ (kp q hq).1, fun z => ?_, ?_⟩
      · have := (kp q hq).1
        rw [z, hL] at this
        cases this
      · cases z : (under g outer).get? q.1 with
        | none => rfl
        | some o =>
          have := F.keep _ _ (of_hideAll _ z)
          rw [(kp q hq).2] at this
          cases this
  exact stN F₆ N₆ (fun h₇ F₇ N₇ => k h₇ _ vs sl sl₀ F₇ N₇) hk hlo
end
inductive Drops (d : Addr) (o : Obj) : List (Addr × Obj) → List (Addr × Obj) → Prop
  | head {r} : (∀ p ∈ r, p.1 ≠ d) → Drops d o ((d, o) :: r) r
  | tail {p r r'} : p.1 ≠ d → Drops d o r r' → Drops d o (p :: r) (p :: r')
theorem Drops.facts {d : Addr} {o : Obj} : ∀ {l l' : List (Addr × Obj)}, Drops d o l l' → (d, o) ∈ l ∧ (∀ p ∈ l', p ∈ l) ∧ ∀ p ∈ l', p.1 ≠ d
  | _, _, .head h => ⟨.head _, fun _ hp => .tail _ hp, h⟩
  | _, _, .tail h r =>
    have ⟨a, b, c⟩ := r.facts
    ⟨.tail _ a, fun p hp => by
      rcases List.mem_cons.mp hp with rfl | hp
      · exact .head _
      · exact .tail _ (b p hp), fun p hp => by
      rcases List.mem_cons.mp hp with rfl | hp
      · exact h
      · exact c p hp⟩
section
variable {M : Model} {A : Around} {E : Value → Shared → Prop} {s' : Shared} {base g : Heap} {outer : List Env} {L a e tx dx : Addr} {m : Str → Option Value} {name : Str} {scope : Scope} {cd : Value} {Q : Unit → Shared → Prop} {news kept : List (Addr × Obj)}
theorem leave_G1 (K : Below A base outer g) (F : Fr g L s'.heap m) (N : News g L s'.heap news) (D : Drops e (exD tx (some dx)) news kept)
    (hQ : ∀ h', FlyG g base outer e dx kept h' → g.UpToSlots h' → Q () { s' with heap := h' }) (hkind : scope.kind = .function := by rfl) :
    wpAny M (A.deeper (envOf name scope L a cd)) (leaving (envOf name scope L a cd) (.ref e)) Q E s' :=
  leave_G0 K F N D.facts.1 D.facts.2.1 D.facts.2.2 hQ hkind
end
theorem under_stays {h₀ g : Heap} {L a : Addr} {m : Str → Option Value} {cn : Str} {cs : Scope} {ccd : Value} {cl : List (Str × Addr)} (F : Fr h₀ L g m) : h₀.StaysIn (under g [envX cn cs L a ccd cl]) := by
  intro b o q
  refine hideAll_get _ (F.keep b o q) fun hm => ?_
  obtain ⟨env, hv, hf⟩ := List.mem_filterMap.mp hm
  rcases List.mem_cons.mp hv with rfl | hv
  · have z : L = b := Option.some.inj hf
    exact absurd (z ▸ Nat.lt_of_lt_of_le (Heap.lt_size q) F.above) (Nat.lt_irrefl _)
  · cases hv
theorem under_keep {g h' : Heap} {L a : Addr} {cn : Str} {cs : Scope} {ccd : Value} {cl : List (Str × Addr)} (k : (under g [envX cn cs L a ccd cl]).StaysIn h') : ∀ b o, g.get? b = some o → b ≠ L → h'.get? b = some o := by
  intro b o q n
  refine k b o (hideAll_get _ q fun hm => ?_)
  obtain ⟨env, hv, hf⟩ := List.mem_filterMap.mp hm
  rcases List.mem_cons.mp hv with rfl | hv
  · exact n (Option.some.inj hf).symm
  · cases hv
section
variable {prog : Program} {w : World} {A A₀ : Around} {s : Shared} {K : Frag} {L : Addr} {h₀ base : Heap} {m mg mb : Str → Option Value} {p : Program} {loose : List Str} {mean : ExcName → Option Value}
  {env : Env} {outer : List Env} {R : Result → Shared → Prop} {name qual : Str} {params : Arguments} {body : List Stmt} {scope : Scope} {dV kV doc pm cdv ct oc : Value} {an od : Option Addr} {osl : Array (Option Value)} {f : Addr} {args : Args} {binds : List (Str × Value)}
theorem code_plain (B : Below A₀ base outer h₀) (F : Fr h₀ L s.heap m) (X₀ : K.In h₀) (T : Top p loose mean mg mb h₀) (hA : A.frames = some (env :: outer)) (hf : env.frame = some L) (hke : env.scope.kind = .function)
    (ho : K.lookup f = some ⟨oc, od, .func (fnOf name qual params body scope dV kV doc pm an cdv ct), osl⟩) (hcd : codeIn K cdv qual = true) (hroom : A.depth < recursionLimit)
    (hbind : BindsTo s (fnOf name qual params body scope dV kV doc pm an cdv ct) args binds) (hloc : ∀ y ∈ binds, scope.names.lookup y.1 = some .local)
    (h : ∀ g L' h₁, g = s.heap → Fr h₀ L g m → Fr g L' h₁ (fun y => binds.reverse.lookup y) → News g L' h₁ [] → Below A base (env :: outer) g → K.In g → Top p loose mean mg mb g →
      wpAny (model prog w) (A.deeper (envOf qual scope L' f cdv)) (execs body (envOf qual scope L' f cdv))
        (fun fl s' => R (.ok (.ret (match fl with | .ret v => v | _ => .none))) s')
        (fun e s' => wpAny (model prog w) (A.deeper (envOf qual scope L' f cdv)) (leaving (envOf qual scope L' f cdv) e) (fun _ s'' => R (.error e) s'') (fun e' s'' => R (.error e') s'') s')
        { s with heap := h₁, toks := s.toks + binds.length })
    (hco : scope.isCoroutine = false) (hgen : scope.isGenerator = false) (hk : scope.kind = .function) (hcell : ∀ x ∈ scope.names, x.2 ≠ .cell) : codeAny (model prog w) A (.call (.ref f) args) R s := by
  obtain ⟨_, BG, _, _⟩ := groundX (R := R) (news := []) B F News.nil hA hf hke
  refine codeAny_call_def (fd := fnOf name qual params body scope dV kV doc pm an cdv ct) (body := body) (binds := binds) hroom ((X₀.keeps F.keep) _ _ ho) rfl (T.nolimit.keeps F.keep) (codeRec_of (X₀.keeps F.keep) hcd) rfl hbind hcell hloc (fun h₁ hns hk₁ => ?_) hco hgen hk
  exact h s.heap s.heap.objs.size h₁ rfl F ⟨hns, hk₁, Nat.le_refl _⟩ News.nil BG (X₀.keeps F.keep) (T.keeps F.keep)
end
def ConP (w : World) (lv : Nat) (f : Addr) (vs : List Value) (R : Tok → Value) : Prop :=
  ∀ (mean : ExcName → Option Value) (mg mb : Str → Option Value) (dp un : Nat) (gd : Option (List Code)) (cn : Str) (cs : Scope) (a : Addr) (ccd : Value) (cl : List (Str × Addr)) (A₀ : Around) (base h₀ : Heap) (L : Addr) (m : Str → Option Value) (s : Shared) (Q E : Value → Shared → Prop),
    Below A₀ base [] h₀ → Fr h₀ L s.heap m → (hd.heap_1 w.params).In h₀ → Top lawView (looseW lawView [Str.ofString "ChanError", Str.ofString "KIND_BITS"]) mean mg mb h₀ → cs.kind = .function →
    dp + lv < recursionLimit → un + 8 * lv < cLine → (∀ (t : Tok) (h' : Heap) (tk' : Nat), (∀ b o, s.heap.get? b = some o → b ≠ L → h'.get? b = some o) → s.heap.UpToSlots h' → Q (R t) { s with heap := h', toks := tk' }) →
      wpAny (model PySem.Challenge.rw_on0005_01.row.prog w) (ktrTop dp un gd cn cs L a ccd cl []) (call (.ref f) vs) Q E s
theorem raisG_mk {E : Value → Shared → Prop} {s : Shared} {P : Params} {h₀ : Heap} {L x tx : Addr} {d : Option Addr} {news : List (Addr × Obj)} (X : (hd.heap_1 P).In s.heap) (N : News h₀ L s.heap news) (hm : (x, exD tx d) ∈ news) (h : E (.ref x) s) : RaisG P E (.ref x) s :=
  ⟨x, tx, d, rfl, X, N.get hm, h⟩
theorem raise_G1 {M : Model} {A : Around} {E : Value → Shared → Prop} {s : Shared} {env : Env} {P : Params} {e : Expr} {pos : Pos} {Q : Flow → Shared → Prop} {h₀ : Heap} (_ : (hd.heap_1 P).In h₀) (hh : A.handled = none)
    (h : wpAny M A (eval e env) (RaisG P E) E s) : wpAny M A (exec (.Raise (some e) none pos) env) Q E s := raise_G hh h
section
variable {prog : Program} {w : World} {A : Around} {E : Value → Shared → Prop} {s : Shared} {P : Params}
theorem ga_eq (self : Value) (name : Str) (tk : Tok) : Builtin.«object.__getattribute__» ⟨[self, .str name tk], []⟩ = (typeOf self >>= fun tp => Builtin.ObjectAttr.find self tp name >>= fun r => match r with
  | .value v => ret v
  | .bind g a => Builtin.ObjectAttr.bindTo g a self tp
  | .missing => (do
    if tp == .type "module" then
      if ← isOpaqueModuleObj self then
        let byTheModulesOwnEntry := match (← stack).drop 1 with
          | (.builtin "module.__getattribute__" ⟨m :: _, _⟩, _) :: _ => m == self
          | _ => false
        if !byTheModulesOwnEntry then unsupported "thirdparty:object.__getattribute__:a-miss-on-an-opaque-module"
    if tp == .type "type" then
      if let some key ← opaqueClassAbove self then unsupported s!"thirdparty:{key.toString}.{name.toString}:object.__getattribute__-misses-on-an-opaque-class"
    Builtin.ObjectAttr.noSuchAttribute self name)) := by kernel_rfl
theorem ex_get {x : Addr} {ox : Obj} {od : Option Obj} {name : Str} {v : Value} {expr : Bool} {Q : Value → Shared → Prop} (X : (hd.heap_1 P).In s.heap) (I : InstAt s.heap x ox 52 od) (hf : findObj (hd.heap_1 P) 52 od name = some (.value v)) (hh : handedIn v = true)
    (h : Q v { s with toks := s.toks + 1 }) : wpAny (model prog w) A (getAttr (.ref x) name expr) Q E s := by
  obtain ⟨hp, g, d, t, os⟩ := s
  have L0 := I.type (M := model prog w)
  have L1 : Looks (model prog w) hp (typeLookup (.ref 52) "__getattribute__") (some (.builtin "BaseException.__getattribute__")) := looks_findIn X rfl
  have L2 : Looks (model prog w) hp (typeLookup (.ref 52) "__getattr__") none := looks_findIn X rfl
  have L3 := looks_find (M := model prog w) X I hf
  have ga := PySem.F.attr_Exception.ga
  have hx0 : (expr && onTheHeap (Value.builtin "BaseException.__getattribute__")) = false := by cases expr <;> rfl
  have sub : Looks (model prog w) hp (isInstance (.ref x) (.type "BaseException")) true := L0.andThen (looks_subIn (K := hd.heap_1 P) (t := .ref 52) X rfl)
  unfold getAttr getAttrBy
  refine wpAny_bind (wpAny_mkText (wpAny_holding (wpAny_bind (L0.at (wpAny_bind (L1.at ?_))))))
  show wpAny _ _ (getAttrByItsOwn _ _ _ _ _ _) _ _ _
  unfold getAttrByItsOwn hookBefore callGetattribute boundAndCalled
  simp only [hx0, Bool.false_eq_true, if_false]
  have bind := ga.bind (.ref x)
  refine wpAny_bind (L2.at ?_)
  show wpAny _ _ ((boundAndCalled _ _ _).attempt >>= _) _ _ _
  unfold boundAndCalled
  rw [bind]
  refine wpAny_bind (wpAny_attempt (wpAny_bind (wpAny_pure (wpAny_call ?_))))
  show codeAny (model prog w) A (.call (.builtin "BaseException.__getattribute__") ⟨[.ref x, .str name t], []⟩) _ _
  have hk : builtinKind "BaseException.__getattribute__" = some .slot := by decide +kernel
  have hsp : splitId "BaseException.__getattribute__" = some ("BaseException", "__getattribute__") := by decide +kernel
  refine codeAny_call_builtin ga.plain PySem.F.entry_bexc_ga (@check_slot (model prog w) _ _ ⟨hp, g, d, t + 1, os⟩ "BaseException.__getattribute__" "BaseException" "__getattribute__" (.ref x) [.str name t] [] _ hk hsp sub (PySem.F.args_bexc_ga (.ref x) (.str name t)) ?_)
  rw [ga_eq]
  refine wpAny_bind (L0.at (wpAny_bind (L3.at (wpAny_pure ?_))))
  show wpAny _ _ (handedOut v) _ _ _
  rw [handedOut_of hh]
  exact wpAny_pure h
theorem ex_getN {x dx : Addr} {vs : Array Value} {sl : Array (Option Value)} {es : List DictEntry} {n : Nat} {name : Str} {v : Value} {expr : Bool} {Q : Value → Shared → Prop} {h₀ : Heap} {L : Addr} {m : Str → Option Value} {news : List (Addr × Obj)}
    (F : Fr h₀ L s.heap m) (X₀ : (hd.heap_1 P).In h₀) (N : News h₀ L s.heap news) (hx : (x, exF dx vs sl) ∈ news) (hd' : (dx, dictOf es n) ∈ news) (hn : findIn (hd.heap_1 P) (.ref 52) name = some none) (hl : getL name es = some (some v)) (hh : handedIn v = true)
    (h : Q v { s with toks := s.toks + 1 }) : wpAny (model prog w) A (getAttr (.ref x) name expr) Q E s :=
  ex_get (X₀.keeps F.keep) ⟨(N _ hx).1, rfl, rfl, (N _ hd').1⟩ (findObj_own (od := dictOf es n) rfl hn rfl (by rw [lookIn_dict]; exact hl)) hh h
end
section
variable {prog : Program} {w : World} {A : Around} {E : Value → Shared → Prop} {s : Shared} {h₀ : Heap} {L : Addr} {m : Str → Option Value} {news : List (Addr × Obj)}
theorem applied_2 {sl : Addr} {u : Tok} {Q : Int × Int × Nat → Shared → Prop} (hs : s.heap.IsSliceOf sl .none (.int 2 u) .none) (h : Q (0, 1, 2) s) :
    wpAny (model prog w) A (Builtin.Slice.sliceApplied (.ref sl) (pure (3 : Int))) Q E s := by
  obtain ⟨os, hos, hcs, hds⟩ := id hs
  unfold Builtin.Slice.sliceApplied Builtin.Slice.sliceFields
  refine wpAny_bind (wpAny_bind (wpAny_field hos hds (x := .none) rfl (wpAny_bind (wpAny_field hos hds (x := .int 2 u) rfl (wpAny_bind (wpAny_field hos hds (x := .none) rfl (wpAny_pure ?_)))))))
  refine wpAny_bind (slicePart_none ?_)
  show wpAny _ _ (if ((1 : Int) == 0) = true then _ else _) _ _ s
  rw [if_neg (by decide)]
  refine wpAny_bind (slicePart_none (wpAny_bind (slicePart_int (wpAny_bind (wpAny_pure ?_)))))
  exact wpAny_pure h
theorem getItem_2 {t sl : Addr} {x y z : Value} {u : Tok} {Q : Value → Shared → Prop} (ht : IsTup s.heap t #[x, y, z]) (hs : s.heap.IsSliceOf sl .none (.int 2 u) .none)
    (h : Q (.ref s.heap.objs.size) { s with heap := s.heap.push (tupO [x, y]) }) : wpAny (model prog w) A (getItem (.ref t) (.ref sl)) Q E s := by
  have hfit : sizeOk (.seq [x, y].toArray) := by
    show [x, y].toArray.size ≤ sizeLine
    exact Nat.le_of_ble_eq_true rfl
  obtain ⟨os, hos, hcs, hds⟩ := id hs
  have hTs : s.TypeIs (.ref sl) "slice" := ⟨os, hos, hcs⟩
  unfold getItem
  try with_reducible refine wpAny_holding ?_
  first | refine wpAny_bind (wpAny_pure ?_) | skip
  refine wpAny_bind (wpAny_sequenceKey ht.typeIs (by decide) ?_)
  refine wpAny_bind (wpAny_callSpecial?_slot (name := Str.ofString "__getitem__") ht.typeIs slot_tuple_getitem
    (wpAny_call_entry slot_tuple_getitem ht.typeIs entry_tuple_getitem ?_ (args_tuple_getitem _ _)))
  show wpAny _ _ (Builtin.Tuple.tupleItemsOf (.ref t) >>= _) _ _ s
  refine wpAny_bind (tupleItemsOf_ ht ?_)
  refine wpAny_bind (wpAny_typeOf hTs ?_)
  rw [if_pos (by decide)]
  refine wpAny_bind (applied_2 hs ?_)
  show wpAny _ _ (if ((0 : Int) == 0 && (1 : Int) == 1 && (2 : Nat) == 3) = true then _ else _) _ _ s
  rw [if_neg (by decide)]
  show wpAny _ _ (Builtin.Tuple.tupleExact #[x, y] >>= _) _ _ s
  first
    | exact wpAny_bind (m := Builtin.Tuple.tupleExact _) (wpAny_newObj_type (wpAny_pure ⟨_, rfl, wpAny_pure h⟩) hfit)
    | exact wpAny_bind (m := Builtin.Tuple.tupleExact _) (wpAny_newObj_type (wpAny_bind (wpAny_pure (wpAny_pure ⟨_, rfl, wpAny_pure h⟩))) hfit)
theorem tup_cut2 {value slice : Expr} {t : Addr} {x y z : Value} {u : Tok} {Q : Value → Shared → Prop} (F : Fr h₀ L s.heap m) (N : News h₀ L s.heap news) (ht : (t, tupO [x, y, z]) ∈ news)
    (h : ∀ D h', Fr h₀ L h' m → News h₀ L h' ((D, tupO [x, y]) :: news) → (∀ p ∈ news, p.1 < D) → Q (.ref D) { s with heap := h' })
    (hs : subscripted slice false (.ref t) (.ref s.heap.objs.size) = operate [.ref s.heap.objs.size, .ref t] (getItem (.ref t) (.ref s.heap.objs.size)) := by with_unfolding_all rfl)
    (hg : ∀ r, letTemporaryGo value (.ref t) r = pure () := by intro _; with_unfolding_all rfl) :
    wpAny (model prog w) A (subscriptTail value slice (.ref t) (.ref s.heap.objs.size)) Q E { s with heap := s.heap.push { cls := .type "slice", data := .fields #[.none, .int 2 u, .none] } } := by
  have tt := News.isTup N ht
  have ht' : IsTup (s.heap.push { cls := .type "slice", data := .fields #[.none, .int 2 u, .none] }) t #[x, y, z] := tt.keeps fun _ _ e => Heap.get?_push_of_some _ e
  refine subscriptTail_ops (s := { s with heap := s.heap.push { cls := .type "slice", data := .fields #[.none, .int 2 u, .none] } }) ht'.typeIs slot_tuple_getitem.lookup
    (getItem_2 ht' (Heap.IsSliceOf.new ..) ?_) hs hg
  have N1 := News.push (F.push { cls := .type "slice", data := .fields #[.none, .int 2 u, .none] }) (N.grown fun _ _ e => Heap.get?_push_of_some _ e) (tupO [x, y])
  exact h _ _ ((F.push _).push _) N1 fun p hp => by
    rw [Heap.size_push]
    exact Nat.lt_succ_of_lt (Heap.lt_size (N p hp).1)
end
section
variable {prog : Program} {w : World} {A : Around} {E : Value → Shared → Prop} {s : Shared} {h₀ : Heap} {L : Addr} {m : Str → Option Value} {news : List (Addr × Obj)} {P : Params}
theorem face_eq {d1 d2 d3 : Addr} {t1 t2 t3 t4 : Tok} {Q : Value → Shared → Prop} (F : Fr h₀ L s.heap m) (X₀ : (hd.heap_1 P).In h₀) (N : News h₀ L s.heap news) (h1 : (d1, tupO [.str (Str.ofString "face") t1, .ref 55]) ∈ news)
    (h2 : (d2, tupO [.str (Str.ofString "face") t2, .ref d3]) ∈ news) (h3 : (d3, tupO [.str (Str.ofString "named") t3, .str (Str.ofString "runtime.Error") t4]) ∈ news) (hu : A.units + 64 < cLine) (h : Q (.bool true) s) :
    wpAny (model prog w) A (compareOp .Eq (.ref d1) (.ref d2)) Q E s := by
  have X := X₀.keeps F.keep
  have h55 : s.heap.get? 55 = some (tupO [.str (Str.ofString "named") 246, .str (Str.ofString "runtime.Error") 247]) := X _ _ rfl
  have r55 := reads_tuple_at h55 rfl rfl (ReadsAll.cons (Reads.str _ _) (ReadsAll.cons (Reads.str _ _) ReadsAll.nil))
  have r3 := reads_tuple_at (News.get N h3) rfl rfl (ReadsAll.cons (Reads.str _ _) (ReadsAll.cons (Reads.str _ _) ReadsAll.nil))
  have r1 := reads_tuple_at (News.get N h1) rfl rfl (ReadsAll.cons (Reads.str _ _) (ReadsAll.cons r55 ReadsAll.nil))
  have r2 := reads_tuple_at (News.get N h2) rfl rfl (ReadsAll.cons (Reads.str _ _) (ReadsAll.cons r3 ReadsAll.nil))
  refine eq_dataH r1 r2 (by decide +kernel) (by decide +kernel) hu ?_
  have e : PyData.eqv (PyData.tuple [.str (Str.ofString "face"), .tuple [.str (Str.ofString "named"), .str (Str.ofString "runtime.Error")]]) (PyData.tuple [.str (Str.ofString "face"), .tuple [.str (Str.ofString "named"), .str (Str.ofString "runtime.Error")]]) = true := by decide +kernel
  rw [e]
  exact h
end
theorem panic_end {g h' : Heap} {L L' a : Addr} {oL : Obj} {m' : Str → Option Value} {sl : Array (Option Value)} {news : List (Addr × Obj)} {cn : Str} {cs : Scope} {ccd : Value} {cl : List (Str × Addr)} {Q : Value → Shared → Prop} {s : Shared} {R : Tok → Value} {t : Tok} {tk : Nat}
    (hret : ∀ (t : Tok) (h' : Heap) (tk' : Nat), (∀ b o, s.heap.get? b = some o → b ≠ L → h'.get? b = some o) → s.heap.UpToSlots h' → Q (R t) { s with heap := h', toks := tk' }) (hg : g = s.heap)
    (F : Fr (under g [envX cn cs L a ccd cl]) L' h' m') (N : News (under g [envX cn cs L a ccd cl]) L' h' news) (hL : g.get? L = some oL) (hm : (L, { oL with slots := sl }) ∈ news) : Q (R t) { s with heap := h', toks := tk } := by
  subst hg
  have k := under_keep F.keep
  refine hret t h' tk k fun b o q _ => ?_
  by_cases z : b = L
  · subst z
    rw [hL] at q
    cases q
    exact ⟨sl, (N _ hm).1⟩
  · exact ⟨o.slots, k b o q z⟩
end
-- part SE
section
theorem conS_use {w : World} {lv : Nat} {f : Addr} {vs : List Value} {src l : Addr} {P : Value → Prop} (C : ConS w lv f vs src l P)
    {mean : ExcName → Option Value} {mg mb : Str → Option Value} {news r1 r2 : List (Addr × Obj)} {dp un : Nat} {gd : Option (List Code)} {cn : Str} {cs : Scope} {a : Addr} {ccd : Value} {cl : List (Str × Addr)} {outer : List Env} {A₀ : Around} {base h₀ : Heap} {L : Addr} {m : Str → Option Value} {s : Shared} {Q E : Value → Shared → Prop} {o ol : Obj}
    (B : Below A₀ base outer h₀ := by k_asm) (F : Fr h₀ L s.heap m := by k_asm) (X : (hd.heap_1 w.params).In h₀ := by k_asm) (N : News h₀ L s.heap news := by k_asm) (T : Top lawView (looseW lawView [Str.ofString "ChanError", Str.ofString "KIND_BITS"]) mean mg mb h₀ := by k_asm) (hcs : cs.kind = .function := by first | exact rfl | assumption)
    (hdp : dp + lv < recursionLimit := by ktr_room) (hun : un + 8 * lv < cLine := by ktr_units) (hso : SrcOk l o := by assumption) (hro : RowOk ol := by assumption) (D1 : Drops src o news r1 := by walk_at "k_drops") (D2 : Drops l ol r1 r2 := by walk_at "k_drops")
    (h : ∀ v h' tk' o' ol', P v → SrcOk l o' → RowOk ol' → Fr h₀ L h' m → News h₀ L h' ((src, o') :: (l, ol') :: r2) → Q v { s with heap := h', toks := tk' }) :
    wpAny (model PySem.Challenge.rw_on0005_01.row.prog w) (ktrTop dp un gd cn cs L a ccd cl outer) (call (.ref f) vs) Q E s := by
  obtain ⟨s1, s2, s3⟩ := D1.facts
  obtain ⟨l1, l2, l3⟩ := D2.facts
  have hne : src ≠ l := fun e => s3 _ l1 e.symm
  have N2 : News h₀ L s.heap [(src, o), (l, ol)] := fun p hp => by
    rcases List.mem_cons.mp hp with rfl | hp
    · exact N _ s1
    · rw [List.mem_singleton.mp hp]; exact N _ (s2 _ l1)
  refine C mean mg mb dp un gd cn cs a ccd cl outer A₀ base h₀ L m s Q E o ol B F X N2 T hne hso hro hcs hdp hun ?_
  intro v h' tk' o' ol' hP hs' hr' e1 e2 k
  have nk : ∀ b x p, h₀.get? b = some x → p ∈ news → b ≠ p.1 := fun b x p e hp z => by
    have q := (N p hp).2.2
    rw [← z, e] at q
    cases q
  have f1 : ∀ b x, h₀.get? b = some x → b ≠ src ∧ b ≠ l := fun b x e => ⟨nk b x _ e s1, nk b x _ e (s2 _ l1)⟩
  refine h v h' tk' o' ol' hP hs' hr' ?_ ?_
  · obtain ⟨oL, es, ep, hL, r⟩ := F.ns
    refine ⟨⟨oL, es, ep, k _ _ hL (Ne.symm (N _ s1).2.1) (Ne.symm (N _ (s2 _ l1)).2.1), r⟩, fun b x e => ?_, F.above⟩
    exact k b x (F.keep b x e) (f1 b x e).1 (f1 b x e).2
  · intro p hp
    rcases List.mem_cons.mp hp with rfl | hp
    · exact ⟨e1, (N _ s1).2⟩
    rcases List.mem_cons.mp hp with rfl | hp
    · exact ⟨e2, (N _ (s2 _ l1)).2⟩
    · have hp2 := N _ (s2 _ (l2 _ hp))
      exact ⟨k _ _ hp2.1 (s3 _ (l2 _ hp)) (l3 _ hp), hp2.2⟩
end
-- part PP
section

local macro_rules | `(tactic| walk_at "getMethod str") => `(tactic| (k_here; with_reducible refine enc_get ?_))
local macro_rules | `(tactic| walk_at "call builtin:str.encode") => `(tactic| (k_here; k_dflt (first | (refine' enc_call (enc_zd _ _) ?z ?_; (case z => decide +kernel)) | (refine' enc_call (enc_ns _ _) ?z ?_; (case z => decide +kernel))); intro t9 tk9; (try dsimp only)))
local macro_rules | `(tactic| walk_at "call ref") => `(tactic| (k_here; (with_reducible show wpAny _ _ (call (Value.ref 52) _) _ _ _); k_dflt (refine' gp_call ?k1 ?k2 ?k3 ?k4 ?_; (case k1 => k_asm); (case k2 => k_asm); (case k3 => k_asm); (case k4 => size_fits)); intro x' d' h' F' N' l1 l2; (try k_lt l1); (try k_lt2 l2); (try k_sweep); (try dsimp only [List.toArray]); k_dflt ((first
  | (refine' code_def ?k1 ?k2 ?k3 ?k4 ?k5 ?kA ?kF ?kK ?k6 ?k7 ?k8 ?k9 ?kB ?_ ?c2 ?c3 ?c4 ?c5; (case kA => exact rfl); (case kF => exact rfl); (case kK => first | exact rfl | assumption); (case k1 => k_asm); (case k2 => k_asm); (case k3 => k_asm); (case k4 => k_asm); (case k5 => k_asm); (case k6 => k_is); (case k7 => k_is); (case k8 => ktr_room); (case k9 => first | exact BindsTo.of_eq rfl | exact binds_K (by k_in) rfl (by k_is) rfl rfl rfl); (case c5 => decide); (case kB => exact locs rfl); (case c2 => exact rfl); (case c3 => exact rfl); (case c4 => exact rfl); k_whole; intro g' L' h' FG' F' N' B' X' T'; (try dsimp only); (try k_lift B'); (try k_fold))
  | (refine' code_defC ?k1 ?k2 ?k3 ?k4 ?k5 ?kA ?kF ?kK ?k6 ?k7 ?k8 ?k9 ?kB ?kD ?_ ?c2 ?c3 ?c4; (case kA => exact rfl); (case kF => exact rfl); (case kK => first | exact rfl | assumption); (case k1 => k_asm); (case k2 => k_asm); (case k3 => k_asm); (case k4 => k_asm); (case k5 => k_asm); (case k6 => k_is); (case k7 => k_is); (case k8 => ktr_room); (case k9 => first | exact BindsTo.of_eq rfl | exact binds_K (by k_in) rfl (by k_is) rfl rfl rfl); (case kB => exact rfl); (case kD => decide +kernel); (case c2 => exact rfl); (case c3 => exact rfl); (case c4 => exact rfl); k_whole; intro g' L' h' tk' cells' FG' F' N' Y' B' X' T' l1; (try k_lt l1); k_cells Y'; (try simp only [List.cons_append, List.nil_append] at N'); (try dsimp only); (try k_lift B'); (try k_fold))))))
local macro_rules | `(tactic| walk_at "getMethod type:Exception") => `(tactic| (k_here; refine' method_type ?F ?X ?m (by decide +kernel) ?e ?h ?_; (case F => k_asm); (case X => k_asm); (case m => exact meta_exc); (case e => k_dflt k_is); (case h => k_handed)))
local macro_rules | `(tactic| walk_at "call builtin:Exception.__init__") => `(tactic| (k_here; k_dflt (refine' ei_call ?k1 ?k2 ?k3 ?k4 ?_; (case k1 => k_asm); (case k2 => k_asm); (case k3 => k_asm); (case k4 => k_updF)); intro t' h' F' N' l1; (try k_lt l1); (try dsimp only at N'); (try k_sweep)))
local macro_rules | `(tactic| walk_at "setAttr ref") => `(tactic| (k_here; k_dflt (first
  | (refine' ex_set1 ?k1 ?k2 ?k3 ?k4 ?k5 ?_; (case k1 => k_asm); (case k2 => k_asm); (case k3 => k_asm); (case k4 => k_updF); (case k5 => k_is); k_whole; intro D' h' F' N' l1; (try k_lt l1); (try dsimp only at N'); (try k_sweep))
  | (refine' ex_set2 ?k1 ?k2 ?k3 ?k4 ?k5 ?k6 ?k7 ?k8 ?k9 ?_; (case k1 => k_asm); (case k2 => k_asm); (case k3 => k_asm); (case k4 => k_mem); (case k5 => k_updF); (case k6 => k_is); (case k7 => exact rfl); (case k8 => k_put); (case k9 => exact Nat.le_of_ble_eq_true rfl); k_whole; intro h' F' N'; (try dsimp only at N'); (try k_sweep)))))
local macro_rules | `(tactic| walk_at "exec Raise some none") => `(tactic| (k_here; k_dflt (refine' raise_G1 ?k1 rfl ?_; (case k1 => assumption))))
local macro_rules | `(tactic| walk_at "RaisG") => `(tactic| (k_here; k_dflt (refine' raisG_mk ?k1 ?k2 ?k3 ?_; (case k1 => k_in); (case k2 => k_asm); (case k3 => k_mem)); (try dsimp only)))
local macro_rules | `(tactic| k_updF) => `(tactic| first | (refine' Drops.head ?a; (case a => k_all)) | (refine' Drops.tail ?a ?b; (case a => k_ne); (case b => k_updF)))
local macro_rules | `(tactic| walk_at "leaving ref") => `(tactic| (k_here; k_dflt (first
  | (refine' leave_GN ?k1 ?k2 ?k3 ?k4 ?_; (case k3 => assumption); (case k1 => assumption); (case k4 => assumption); (case k2 => assumption); k_whole; intro h' R' U'; (try dsimp only at R' U' ⊢))
  | (refine' leave_G1 ?k1 ?k2 ?k3 ?k4 ?_; (case k1 => assumption); (case k2 => assumption); (case k3 => k_asm); (case k4 => k_updF); k_whole; intro h' R' U'; (try dsimp only at R' U' ⊢)))))
local macro_rules | `(tactic| walk_at "noteFrame ref") => `(tactic| (k_here; k_dflt (refine' caught_G ?k1 ?k2 ?k3 ?k4 ?k5 ?k6 ?k7 ?k8 ?k9 ?_; (case k3 => assumption); (case k1 => assumption); (case k4 => assumption); (case k2 => assumption); (case k5 => assumption); (case k6 => k_asm); (case k7 => assumption); (case k8 => assumption); (case k9 => exact List.mem_singleton.mpr rfl); k_whole; intro h' tk' vs' sl' sl₀' F' N')))
local macro_rules | `(tactic| walk_at "getAttr ref") => `(tactic| (k_here; k_dflt (refine' ex_getN ?k1 ?k2 ?k3 ?k4 ?k5 ?k6 ?k7 ?k8 ?_; (case k1 => k_asm); (case k2 => assumption); (case k3 => k_asm); (case k4 => k_mem); (case k5 => k_mem); (case k6 => k_is); (case k7 => k_get); (case k8 => k_handed); k_whole)))
local macro_rules | `(tactic| walk_at "subscriptTail Name Slice ref ref") => `(tactic| (k_here; (with_reducible show wpAny _ _ (subscriptTail _ (PySem.Expr.Slice _ _ none _) (Value.ref _) (Value.ref _)) _ _ _); k_dflt (refine' tup_cut2 ?F ?N ?l ?_ ?s ?t; (case F => k_asm); (case N => k_asm); (case l => k_mem); (case s => with_unfolding_all rfl); (case t => intro _; with_unfolding_all rfl); k_whole); intro D' h' F' N' l1; (try k_lt l1); (try k_sweep)))
local macro_rules | `(tactic| walk_at "compareOp Eq ref ref") => `(tactic| (k_here; k_dflt (refine' face_eq ?k1 ?k2 ?k3 ?k4 ?k5 ?k6 ?k7 ?_; (case k1 => k_asm); (case k2 => assumption); (case k3 => k_asm); (case k4 => k_mem); (case k5 => k_mem); (case k6 => k_mem); (case k7 => (simp only [units_in1, units_deeper, Around.mark_units, units_caller, ktrTop] at *; omega)); k_whole)))
theorem pan_div_c (w : World) {k : Str} {a : Int} {t o u v : Tok} (hk : k ∈ kinds) : ConP w 20 200 [.str k t, .str (Str.ofString "/") o, .int a u, .int 0 v] (fun t => .bytes zdB t) := by
  unfold ConP
  w_top off
  k_fill
  intro mean mg mb dp un gd cn cs a9 ccd cl A₀ base h₀ L m s Q E B F X T hcs hdp hun hret
  refine wpAny_call ?_
  refine' code_plain ?k1 ?k2 ?k3 ?k5 ?kA ?kF ?kK ?k6 ?k7 ?k8 ?k9 ?kB ?_ ?c2 ?c3 ?c4 ?c5; (case kA => exact rfl); (case kF => exact rfl); (case kK => assumption); (case k1 => k_asm); (case k2 => k_asm); (case k3 => k_asm); (case k5 => k_asm); (case k6 => k_dflt k_is); (case k7 => k_dflt k_is); (case k8 => ktr_room); (case k9 => exact BindsTo.of_eq rfl); (case c5 => decide); (case kB => exact locs rfl); (case c2 => exact rfl); (case c3 => exact rfl); (case c4 => exact rfl)
  intro g' L' h' hG' FG' F' N' B' X' T'
  have XU := X.keeps (under_stays (a := a9) (cn := cn) (cs := cs) (ccd := ccd) (cl := cl) FG')
  have TU := T.keeps (under_stays (a := a9) (cn := cn) (cs := cs) (ccd := ccd) (cl := cl) FG')
  obtain ⟨oL, esL, epL, hgL, hdL, hrL⟩ := FG'.ns
  have hnL : ∀ vs, oL.data ≠ .fields vs := fun vs q => by rw [hdL] at q; cases q
  clear hrL hdL
  (try dsimp only)
  (try k_fold)
  k_steps
  all_goals exact panic_end hret hG' (by k_asm) (by k_asm) hgL (by k_mem)
theorem pan_mod_c (w : World) {k : Str} {a : Int} {t o u v : Tok} (hk : k ∈ kinds) : ConP w 20 200 [.str k t, .str (Str.ofString "%") o, .int a u, .int 0 v] (fun t => .bytes zdB t) := by
  unfold ConP
  w_top off
  k_fill
  intro mean mg mb dp un gd cn cs a9 ccd cl A₀ base h₀ L m s Q E B F X T hcs hdp hun hret
  refine wpAny_call ?_
  refine' code_plain ?k1 ?k2 ?k3 ?k5 ?kA ?kF ?kK ?k6 ?k7 ?k8 ?k9 ?kB ?_ ?c2 ?c3 ?c4 ?c5; (case kA => exact rfl); (case kF => exact rfl); (case kK => assumption); (case k1 => k_asm); (case k2 => k_asm); (case k3 => k_asm); (case k5 => k_asm); (case k6 => k_dflt k_is); (case k7 => k_dflt k_is); (case k8 => ktr_room); (case k9 => exact BindsTo.of_eq rfl); (case c5 => decide); (case kB => exact locs rfl); (case c2 => exact rfl); (case c3 => exact rfl); (case c4 => exact rfl)
  intro g' L' h' hG' FG' F' N' B' X' T'
  have XU := X.keeps (under_stays (a := a9) (cn := cn) (cs := cs) (ccd := ccd) (cl := cl) FG')
  have TU := T.keeps (under_stays (a := a9) (cn := cn) (cs := cs) (ccd := ccd) (cl := cl) FG')
  obtain ⟨oL, esL, epL, hgL, hdL, hrL⟩ := FG'.ns
  have hnL : ∀ vs, oL.data ≠ .fields vs := fun vs q => by rw [hdL] at q; cases q
  clear hrL hdL
  (try dsimp only)
  (try k_fold)
  k_steps
  all_goals exact panic_end hret hG' (by k_asm) (by k_asm) hgL (by k_mem)
theorem pan_shl_c (w : World) {k : Str} {a n : Int} {t o u v : Tok} (hk : k ∈ kinds) (hn : n < 0) : ConP w 20 200 [.str k t, .str (Str.ofString "<<") o, .int a u, .int n v] (fun t => .bytes nsB t) := by
  unfold ConP
  w_top off
  k_fill
  intro mean mg mb dp un gd cn cs a9 ccd cl A₀ base h₀ L m s Q E B F X T hcs hdp hun hret
  refine wpAny_call ?_
  refine' code_plain ?k1 ?k2 ?k3 ?k5 ?kA ?kF ?kK ?k6 ?k7 ?k8 ?k9 ?kB ?_ ?c2 ?c3 ?c4 ?c5; (case kA => exact rfl); (case kF => exact rfl); (case kK => assumption); (case k1 => k_asm); (case k2 => k_asm); (case k3 => k_asm); (case k5 => k_asm); (case k6 => k_dflt k_is); (case k7 => k_dflt k_is); (case k8 => ktr_room); (case k9 => exact BindsTo.of_eq rfl); (case c5 => decide); (case kB => exact locs rfl); (case c2 => exact rfl); (case c3 => exact rfl); (case c4 => exact rfl)
  intro g' L' h' hG' FG' F' N' B' X' T'
  have XU := X.keeps (under_stays (a := a9) (cn := cn) (cs := cs) (ccd := ccd) (cl := cl) FG')
  have TU := T.keeps (under_stays (a := a9) (cn := cn) (cs := cs) (ccd := ccd) (cl := cl) FG')
  obtain ⟨oL, esL, epL, hgL, hdL, hrL⟩ := FG'.ns
  have hnL : ∀ vs, oL.data ≠ .fields vs := fun vs q => by rw [hdL] at q; cases q
  clear hrL hdL
  (try dsimp only)
  (try k_fold)
  k_steps
  all_goals exact panic_end hret hG' (by k_asm) (by k_asm) hgL (by k_mem)
theorem pan_shr_c (w : World) {k : Str} {a n : Int} {t o u v : Tok} (hk : k ∈ kinds) (hn : n < 0) : ConP w 20 200 [.str k t, .str (Str.ofString ">>") o, .int a u, .int n v] (fun t => .bytes nsB t) := by
  unfold ConP
  w_top off
  k_fill
  intro mean mg mb dp un gd cn cs a9 ccd cl A₀ base h₀ L m s Q E B F X T hcs hdp hun hret
  refine wpAny_call ?_
  refine' code_plain ?k1 ?k2 ?k3 ?k5 ?kA ?kF ?kK ?k6 ?k7 ?k8 ?k9 ?kB ?_ ?c2 ?c3 ?c4 ?c5; (case kA => exact rfl); (case kF => exact rfl); (case kK => assumption); (case k1 => k_asm); (case k2 => k_asm); (case k3 => k_asm); (case k5 => k_asm); (case k6 => k_dflt k_is); (case k7 => k_dflt k_is); (case k8 => ktr_room); (case k9 => exact BindsTo.of_eq rfl); (case c5 => decide); (case kB => exact locs rfl); (case c2 => exact rfl); (case c3 => exact rfl); (case c4 => exact rfl)
  intro g' L' h' hG' FG' F' N' B' X' T'
  have XU := X.keeps (under_stays (a := a9) (cn := cn) (cs := cs) (ccd := ccd) (cl := cl) FG')
  have TU := T.keeps (under_stays (a := a9) (cn := cn) (cs := cs) (ccd := ccd) (cl := cl) FG')
  obtain ⟨oL, esL, epL, hgL, hdL, hrL⟩ := FG'.ns
  have hnL : ∀ vs, oL.data ≠ .fields vs := fun vs q => by rw [hdL] at q; cases q
  clear hrL hdL
  (try dsimp only)
  (try k_fold)
  k_steps
  all_goals exact panic_end hret hG' (by k_asm) (by k_asm) hgL (by k_mem)
inductive PanOk (k : Str) : Str → Int → Array UInt8 → Prop
  | div (hk : k ∈ kinds) : PanOk k (Str.ofString "/") 0 zdB
  | mod (hk : k ∈ kinds) : PanOk k (Str.ofString "%") 0 zdB
  | shl {n : Int} (hk : k ∈ kinds) (hn : n < 0) : PanOk k (Str.ofString "<<") n nsB
  | shr {n : Int} (hk : k ∈ kinds) (hn : n < 0) : PanOk k (Str.ofString ">>") n nsB
theorem pan_any (w : World) {k op : Str} {a n : Int} {z : Array UInt8} {t o u v : Tok} (H : PanOk k op n z) : ConP w 20 200 [.str k t, .str op o, .int a u, .int n v] (fun t => .bytes z t) := by
  cases H with
  | div h0 => exact pan_div_c w h0
  | mod h0 => exact pan_mod_c w h0
  | shl h0 h1 => exact pan_shl_c w h0 h1
  | shr h0 h1 => exact pan_shr_c w h0 h1
end
-- part PL
section
-- the plain law
theorem kind_nums {k : Str} (hk : k ∈ kinds) :
    (sg k = true ∧ bt k = 8 ∧ least k = -128 ∧ great k = 127) ∨ (sg k = true ∧ bt k = 16 ∧ least k = -32768 ∧ great k = 32767) ∨ (sg k = true ∧ bt k = 32 ∧ least k = -2147483648 ∧ great k = 2147483647) ∨
    (sg k = true ∧ bt k = 64 ∧ least k = -9223372036854775808 ∧ great k = 9223372036854775807) ∨
    (sg k = false ∧ bt k = 8 ∧ least k = 0 ∧ great k = 255) ∨ (sg k = false ∧ bt k = 16 ∧ least k = 0 ∧ great k = 65535) ∨ (sg k = false ∧ bt k = 32 ∧ least k = 0 ∧ great k = 4294967295) ∨
    (sg k = false ∧ bt k = 64 ∧ least k = 0 ∧ great k = 18446744073709551615) := by
  have h : ∀ k ∈ kinds, (sg k = true ∧ bt k = 8 ∧ least k = -128 ∧ great k = 127) ∨ (sg k = true ∧ bt k = 16 ∧ least k = -32768 ∧ great k = 32767) ∨ (sg k = true ∧ bt k = 32 ∧ least k = -2147483648 ∧ great k = 2147483647) ∨
    (sg k = true ∧ bt k = 64 ∧ least k = -9223372036854775808 ∧ great k = 9223372036854775807) ∨
    (sg k = false ∧ bt k = 8 ∧ least k = 0 ∧ great k = 255) ∨ (sg k = false ∧ bt k = 16 ∧ least k = 0 ∧ great k = 65535) ∨ (sg k = false ∧ bt k = 32 ∧ least k = 0 ∧ great k = 4294967295) ∨
    (sg k = false ∧ bt k = 64 ∧ least k = 0 ∧ great k = 18446744073709551615) := by decide +kernel
  exact h k hk
theorem pow_nums : (2 : Int) ^ ((8 : Nat) : Int).toNat = 256 ∧ (2 : Int) ^ ((16 : Nat) : Int).toNat = 65536 ∧ (2 : Int) ^ ((32 : Nat) : Int).toNat = 4294967296 ∧ (2 : Int) ^ ((64 : Nat) : Int).toNat = 18446744073709551616 ∧
    (2 : Int) ^ (((8 : Nat) : Int) - 1).toNat = 128 ∧ (2 : Int) ^ (((16 : Nat) : Int) - 1).toNat = 32768 ∧ (2 : Int) ^ (((32 : Nat) : Int) - 1).toNat = 2147483648 ∧ (2 : Int) ^ (((64 : Nat) : Int) - 1).toNat = 9223372036854775808 := by decide +kernel
/-- the width of a kind as a number -/
theorem wrap_eq {k : Str} (hk : k ∈ kinds) (x : Int) : wrap k x = (x - least k) % (great k - least k + 1) + least k ∧ great k - least k + 1 = 2 ^ (bt k) ∧ (2 : Int) ^ ((bt k : Int)).toNat = 2 ^ (bt k) := by
  obtain ⟨p1, p2, p3, p4, _, _, _, _⟩ := pow_nums
  rcases kind_nums hk with ⟨h1, h2, h3, h4⟩ | ⟨h1, h2, h3, h4⟩ | ⟨h1, h2, h3, h4⟩ | ⟨h1, h2, h3, h4⟩ | ⟨h1, h2, h3, h4⟩ | ⟨h1, h2, h3, h4⟩ | ⟨h1, h2, h3, h4⟩ | ⟨h1, h2, h3, h4⟩ <;>
    (unfold wrap; rw [h2, h3, h4]; first | rw [p1] | rw [p2] | rw [p3] | rw [p4]) <;> rw [Int.fmod_eq_emod_of_nonneg _ (by decide)] <;> exact ⟨rfl, by decide, by decide⟩
theorem rim {k : Str} (hk : k ∈ kinds) : least k ≤ 0 ∧ 127 ≤ great k ∧ (least k = 0 ∨ least k = - great k - 1) ∧ -9223372036854775808 ≤ least k ∧ great k ≤ 18446744073709551615 ∧ (least k = 0 ∨ least k ≤ -128) ∧ (sg k = true ↔ least k < 0) := by
  rcases kind_nums hk with ⟨h1, h2, h3, h4⟩ | ⟨h1, h2, h3, h4⟩ | ⟨h1, h2, h3, h4⟩ | ⟨h1, h2, h3, h4⟩ | ⟨h1, h2, h3, h4⟩ | ⟨h1, h2, h3, h4⟩ | ⟨h1, h2, h3, h4⟩ | ⟨h1, h2, h3, h4⟩ <;>
    rw [h1, h3, h4] <;> simp
theorem wrap_in {k : Str} (hk : k ∈ kinds) (x : Int) : least k ≤ wrap k x ∧ wrap k x ≤ great k := by
  obtain ⟨e, _, _⟩ := wrap_eq hk x
  obtain ⟨r1, r2, _⟩ := rim hk
  rw [e]
  have h1 := Int.emod_nonneg (x - least k) (b := great k - least k + 1) (by omega)
  have h2 := Int.emod_lt_of_pos (x - least k) (b := great k - least k + 1) (by omega)
  omega
theorem wrap_id {k : Str} (hk : k ∈ kinds) {x : Int} (h1 : least k ≤ x) (h2 : x ≤ great k) : wrap k x = x := by
  obtain ⟨e, _, _⟩ := wrap_eq hk x
  rw [e, Int.emod_eq_of_lt (by omega) (by omega)]
  omega
theorem wrap_mod {k : Str} (hk : k ∈ kinds) (x : Int) : ∃ c, wrap k x = x + 2 ^ (bt k) * c := by
  obtain ⟨e, e2, _⟩ := wrap_eq hk x
  refine ⟨-((x - least k) / (great k - least k + 1)), ?_⟩
  rw [e, ← e2, Int.emod_def]
  have := Int.mul_neg (great k - least k + 1) ((x - least k) / (great k - least k + 1))
  omega
theorem wrap_uniq {k : Str} (hk : k ∈ kinds) {x y c : Int} (h1 : least k ≤ y) (h2 : y ≤ great k) (h : y = x + 2 ^ (bt k) * c) : wrap k x = y := by
  obtain ⟨e, e2, _⟩ := wrap_eq hk x
  rw [e, e2]
  have hx : x - least k = (y - least k) + 2 ^ (bt k) * (-c) := by
    rw [h, Int.mul_neg]; omega
  rw [hx, Int.add_mul_emod_self_left, Int.emod_eq_of_lt (by omega) (by omega)]
  omega
theorem low_eq {k : Str} (hk : k ∈ kinds) (x : Int) : lowI k x = x % 2 ^ (bt k) := by
  obtain ⟨_, _, e3⟩ := wrap_eq hk x
  unfold lowI
  rw [e3, kbt_mask]
theorem told_wrap {k : Str} (hk : k ∈ kinds) (x : Int) : toldI k x = wrap k x := by
  have l := low_eq hk x
  have m := Int.emod_add_mul_ediv x (2 ^ (bt k))
  obtain ⟨_, e2, e3⟩ := wrap_eq hk x
  have n1 := Int.emod_nonneg x (b := 2 ^ (bt k)) (by rw [← e2]; have := rim hk; omega)
  have n2 := Int.emod_lt_of_pos x (b := 2 ^ (bt k)) (by rw [← e2]; have := rim hk; omega)
  have half : sg k = true → (2 : Int) ^ ((bt k : Int) - 1).toNat = great k + 1 := by
    obtain ⟨_, _, _, _, p5, p6, p7, p8⟩ := pow_nums
    rcases kind_nums hk with ⟨h1, h2, h3, h4⟩ | ⟨h1, h2, h3, h4⟩ | ⟨h1, h2, h3, h4⟩ | ⟨h1, h2, h3, h4⟩ | ⟨h1, h2, h3, h4⟩ | ⟨h1, h2, h3, h4⟩ | ⟨h1, h2, h3, h4⟩ | ⟨h1, h2, h3, h4⟩ <;>
      rw [h1, h2, h4] <;> intro hs <;> first | (rw [p5]; decide) | (rw [p6]; decide) | (rw [p7]; decide) | (rw [p8]; decide) | (cases hs)
  obtain ⟨r1, r2, r3, _, _, _, r7⟩ := rim hk
  symm
  unfold toldI
  by_cases hs : sg k = true
  · have hh := half hs
    have hl := r7.mp hs
    rw [l, hh, e3]
    by_cases hc : great k + 1 ≤ x % 2 ^ bt k
    · rw [if_pos ⟨hs, hc⟩]
      refine wrap_uniq hk (c := -(x / 2 ^ bt k) - 1) (by omega) (by omega) ?_
      rw [Int.mul_sub, Int.mul_neg, Int.mul_one]
      omega
    · rw [if_neg (fun h => hc h.2)]
      refine wrap_uniq hk (c := -(x / 2 ^ bt k)) (by omega) (by omega) ?_
      rw [Int.mul_neg]
      omega
  · have hl : ¬ least k < 0 := fun h => hs (r7.mpr h)
    rw [if_neg (fun h => hs h.1), l]
    refine wrap_uniq hk (c := -(x / 2 ^ bt k)) (by omega) (by omega) ?_
    rw [Int.mul_neg]
    omega
theorem cq_tdiv {a b : Int} (hb : b ≠ 0) : cq a b = a.tdiv b := by
  unfold cq absI
  by_cases ha : a < 0 <;> by_cases hb' : b < 0 <;> simp only [ha, hb', decide_true, decide_false, beq_self_eq_true, if_true, if_false, Bool.false_eq_true, Bool.true_eq_false, beq_iff_eq, reduceCtorEq]
  · rw [Int.fdiv_eq_ediv_of_nonneg _ (by omega), ← Int.tdiv_eq_ediv_of_nonneg (by omega), Int.neg_tdiv, Int.tdiv_neg, Int.neg_neg]
  · rw [Int.fdiv_eq_ediv_of_nonneg _ (by omega), ← Int.tdiv_eq_ediv_of_nonneg (by omega), Int.neg_tdiv]; omega
  · rw [Int.fdiv_eq_ediv_of_nonneg _ (by omega), ← Int.tdiv_eq_ediv_of_nonneg (by omega), Int.tdiv_neg]; omega
  · rw [Int.fdiv_eq_ediv_of_nonneg _ (by omega), ← Int.tdiv_eq_ediv_of_nonneg (by omega)]
/-- the rest: smaller than the divisor, on the number's side -/
theorem rest_facts {a b : Int} (hb : b ≠ 0) : (a - b * cq a b).natAbs < b.natAbs ∧ (0 ≤ a → 0 ≤ a - b * cq a b) ∧ (a ≤ 0 → a - b * cq a b ≤ 0) ∧ (a - b * cq a b).natAbs ≤ a.natAbs := by
  rw [cq_tdiv hb, ← Int.tmod_def]
  refine ⟨?_, fun h => ?_, fun h => ?_, ?_⟩
  · rw [Int.natAbs_tmod]
    exact Nat.mod_lt _ (by omega)
  · exact Int.tmod_nonneg b h
  · have := Int.tmod_nonneg (a := -a) b (by omega)
    rw [Int.neg_tmod] at this
    omega
  · rw [Int.natAbs_tmod]
    exact Nat.mod_le _ _
theorem quot_facts {a b : Int} (hb : b ≠ 0) : (cq a b).natAbs ≤ a.natAbs ∧ (b.natAbs ≠ 1 → 2 * (cq a b).natAbs ≤ a.natAbs) ∧ (b = 1 → cq a b = a) ∧ (b = -1 → cq a b = -a) ∧ (0 ≤ a → 0 ≤ b → 0 ≤ cq a b) := by
  rw [cq_tdiv hb]
  refine ⟨?_, fun h => ?_, fun h => ?_, fun h => ?_, fun h1 h2 => Int.tdiv_nonneg h1 h2⟩
  · rw [Int.natAbs_tdiv]
    exact Nat.div_le_self _ _
  · rw [Int.natAbs_tdiv]
    show 2 * (a.natAbs / b.natAbs) ≤ a.natAbs
    have h2 : 2 ≤ b.natAbs := by omega
    have := Nat.div_le_div_left (c := 2) (a := a.natAbs) h2 (by omega)
    omega
  · rw [h, Int.tdiv_one]
  · rw [h, Int.tdiv_neg, Int.tdiv_one]
theorem qi_1 {a g l : Int} (h1 : l ≤ 0) (h3 : l = 0 ∨ l = - g - 1) (ha1 : l ≤ a) (hb1 : l ≤ -1) (hn : a ≠ l) (ha2 : a ≤ g) : l ≤ -a ∧ -a ≤ g := by omega
theorem qi_2 {a c g : Int} (h : 2 * c.natAbs ≤ a.natAbs) (hc : 0 ≤ c) (ha : 0 ≤ a) (hg : a ≤ g) : 0 ≤ c ∧ c ≤ g := by omega
theorem qi_3 {a c g l : Int} (h : 2 * c.natAbs ≤ a.natAbs) (hl : l = - g - 1) (h0 : l ≤ a) (h1 : a ≤ g) (h2 : 127 ≤ g) : l ≤ c ∧ c ≤ g := by omega
theorem quot_in {k : Str} (hk : k ∈ kinds) {a b : Int} (hb : b ≠ 0) (ha1 : least k ≤ a) (ha2 : a ≤ great k) (hb1 : least k ≤ b) (hn : ¬ (a = least k ∧ b = -1)) : least k ≤ cq a b ∧ cq a b ≤ great k := by
  obtain ⟨q1, q2, q3, q4, q5⟩ := quot_facts (a := a) hb
  obtain ⟨r1, r2, r3, _⟩ := rim hk
  by_cases h1 : b.natAbs = 1
  · rcases Int.natAbs_eq b with e | e <;> rw [h1] at e
    · rw [q3 e]; exact ⟨ha1, ha2⟩
    · have e' : b = -1 := e
      rw [q4 e']
      rw [e'] at hb1
      exact qi_1 r1 r3 ha1 hb1 (fun h => hn ⟨h, e'⟩) ha2
  · have h := q2 h1
    rcases r3 with z | z
    · rw [z] at ha1 hb1 ⊢
      exact qi_2 h (q5 ha1 hb1) ha1 ha2
    · exact qi_3 h z ha1 ha2 r2
theorem ri_1 {a c g l : Int} (h : c.natAbs ≤ a.natAbs) (hc : 0 ≤ c) (ha : 0 ≤ a) (hg : a ≤ g) (hl : l ≤ 0) : l ≤ c ∧ c ≤ g := by omega
theorem ri_2 {a c g l : Int} (h : c.natAbs ≤ a.natAbs) (hc : c ≤ 0) (ha : a ≤ 0) (hg : l ≤ a) (hl : 127 ≤ g) : l ≤ c ∧ c ≤ g := by omega
theorem rest_in {k : Str} (hk : k ∈ kinds) {a b : Int} (hb : b ≠ 0) (ha1 : least k ≤ a) (ha2 : a ≤ great k) : least k ≤ a - b * cq a b ∧ a - b * cq a b ≤ great k := by
  obtain ⟨q1, q2, q3, q4⟩ := rest_facts (a := a) hb
  obtain ⟨r1, r2, _⟩ := rim hk
  rcases Int.le_total 0 a with h | h
  · exact ri_1 q4 (q2 h) h ha2 r1
  · exact ri_2 q4 (q3 h) h ha1 r2
/-- what the law asks of a quotient and its rest -/
theorem quot_least {k : Str} (hk : k ∈ kinds) {a b : Int} (ha : a = least k) (hb : b = -1) (hb1 : least k ≤ b) : wrap k (cq a b) = a ∧ wrap k (a - b * cq a b) = 0 := by
  subst hb
  obtain ⟨q1, q2, q3, q4, q5⟩ := quot_facts (a := a) (b := -1) (by decide)
  obtain ⟨r1, r2, r3, r4, r5, r6, r7⟩ := rim hk
  obtain ⟨_, e2, _⟩ := wrap_eq hk 0
  rw [q4 rfl]
  refine ⟨wrap_uniq hk (c := -1) (by omega) (by omega) ?_, ?_⟩
  · rw [← e2]; omega
  · rw [wrap_id hk (by omega) (by omega)]; omega
theorem qr_1 {r b : Int} (h : r.natAbs < b.natAbs) : absI r < absI b := by unfold absI; split <;> split <;> omega
theorem qr_2 {r a : Int} (h1 : 0 ≤ a → 0 ≤ r) (h2 : a ≤ 0 → r ≤ 0) : r = 0 ∨ (r < 0 ↔ a < 0) := by omega
theorem quot_right {k : Str} (hk : k ∈ kinds) {a b : Int} (hb : b ≠ 0) (ha1 : least k ≤ a) (ha2 : a ≤ great k) (hb1 : least k ≤ b) (hn : ¬ (a = least k ∧ b = -1)) :
    wrap k (cq a b) = cq a b ∧ wrap k (a - b * cq a b) = a - b * cq a b ∧ cq a b * b + (a - b * cq a b) = a ∧ absI (a - b * cq a b) < absI b ∧ (a - b * cq a b = 0 ∨ (a - b * cq a b < 0 ↔ a < 0)) := by
  obtain ⟨h1, h2⟩ := quot_in hk hb ha1 ha2 hb1 hn
  obtain ⟨h3, h4⟩ := rest_in hk hb ha1 ha2
  obtain ⟨q1, q2, q3, q4⟩ := rest_facts (a := a) hb
  refine ⟨wrap_id hk h1 h2, wrap_id hk h3 h4, by rw [Int.mul_comm]; omega, ?_, ?_⟩
  · exact qr_1 q1
  · exact qr_2 q2 q3
theorem quot_right' {k : Str} (hk : k ∈ kinds) {a b : Int} (hb : b ≠ 0) (ha1 : least k ≤ a) (ha2 : a ≤ great k) (hb1 : least k ≤ b) (hn : ¬ (a = least k ∧ b = -1)) :
    wrap k (cq a b) * b + wrap k (a - b * cq a b) = a ∧ (if wrap k (a - b * cq a b) < 0 then - wrap k (a - b * cq a b) else wrap k (a - b * cq a b)) < (if b < 0 then -b else b) ∧
      (wrap k (a - b * cq a b) = 0 ∨ (wrap k (a - b * cq a b) < 0 ↔ a < 0)) := by
  obtain ⟨e1, e2, e3, e4, e5⟩ := quot_right hk hb ha1 ha2 hb1 hn
  rw [e1, e2]
  exact ⟨e3, e4, e5⟩
theorem two_pos (n : Nat) : 0 < (2 : Int) ^ n := Int.pow_pos (by decide)
theorem wrap_congr {k : Str} (hk : k ∈ kinds) {x y c : Int} (h : y = x + 2 ^ (bt k) * c) : wrap k x = wrap k y := by
  obtain ⟨c', e⟩ := wrap_mod hk y
  obtain ⟨h1, h2⟩ := wrap_in hk y
  refine wrap_uniq hk (c := c + c') h1 h2 ?_
  rw [e, h, Int.mul_add]
  omega
theorem sh0 {k : Str} (hk : k ∈ kinds) {a : Int} (hal : least k ≤ a) (hag : a ≤ great k) : a = wrap k (a * 2 ^ ([] : List Int).length) ∧ a = a.fdiv (2 ^ ([] : List Int).length) := by
  constructor
  · rw [List.length_nil, Int.pow_zero, Int.mul_one, wrap_id hk hal hag]
  · rw [List.length_nil, Int.pow_zero, Int.fdiv_eq_ediv_of_nonneg _ (by decide), Int.ediv_one]
theorem shS {k : Str} (hk : k ∈ kinds) {a u d x : Int} {p : List Int} (h1 : u = wrap k (a * 2 ^ p.length)) (h2 : d = a.fdiv (2 ^ p.length)) :
    toldI k (u + u) = wrap k (a * 2 ^ (p ++ [x]).length) ∧ (d - d.fmod 2).fdiv 2 = a.fdiv (2 ^ (p ++ [x]).length) := by
  have hp := two_pos p.length
  rw [List.length_append, List.length_singleton, Int.pow_succ]
  constructor
  · rw [told_wrap hk]
    obtain ⟨c, e⟩ := wrap_mod hk (a * 2 ^ p.length)
    symm
    refine wrap_congr hk (c := c + c) ?_
    rw [h1, e, Int.mul_add, ← Int.mul_assoc a]
    omega
  · rw [h2, Int.fdiv_eq_ediv_of_nonneg a (by omega), Int.fdiv_eq_ediv_of_nonneg a (by omega), Int.fmod_eq_emod_of_nonneg _ (by decide), Int.fdiv_eq_ediv_of_nonneg _ (by decide), ← Int.ediv_ediv_of_nonneg (by omega)]
    omega
theorem far {a : Int} {m : Nat} (h1 : -(2 ^ m) ≤ a) (h2 : a < 2 ^ m) : a.fdiv (2 ^ m) = if a < 0 then -1 else 0 := by
  have hp := two_pos m
  rw [Int.fdiv_eq_ediv_of_nonneg a (by omega)]
  split
  · exact ((Int.ediv_emod_unique (r := a + 2 ^ m) (q := -1) hp).mpr ⟨by rw [Int.mul_neg, Int.mul_one]; omega, by omega, by omega⟩).1
  · exact Int.ediv_eq_zero_of_lt (by omega) h2
theorem shE {k : Str} (hk : k ∈ kinds) {a n u d : Int} (hal : least k ≤ a) (hag : a ≤ great k) (hn : 0 ≤ n) (h1 : u = wrap k (a * 2 ^ (rangeKs 0 (n - 0).toNat).length)) (h2 : d = a.fdiv (2 ^ (rangeKs 0 (n - 0).toNat).length)) :
    decide ([wrap k (a * 2 ^ (minI n (bt k)).toNat), a.fdiv (2 ^ (minI n (bt k)).toNat)] = [u, d]) = true := by
  rw [rangeKs_length, Int.sub_zero] at h1 h2
  subst h1 h2
  rw [decide_eq_true_eq]
  unfold minI
  split
  · rename_i hlt
    obtain ⟨_, e2, _⟩ := wrap_eq hk a
    obtain ⟨r1, r2, r3, _⟩ := rim hk
    obtain ⟨r, hr⟩ : ∃ r, n.toNat = bt k + r := ⟨n.toNat - bt k, by omega⟩
    have w1 : wrap k (a * 2 ^ ((bt k : Nat) : Int).toNat) = wrap k (a * 2 ^ n.toNat) := by
      refine wrap_congr hk (c := a * 2 ^ r - a) ?_
      rw [hr, Int.toNat_natCast, Int.pow_add, Int.mul_sub, Int.mul_comm (2 ^ bt k) a, ← Int.mul_assoc a, Int.mul_comm (2 ^ bt k) (a * 2 ^ r), Int.mul_assoc a (2 ^ r), Int.mul_comm (2 ^ r) (2 ^ bt k), ← Int.mul_assoc]
      omega
    have big : (2 : Int) ^ bt k ≤ 2 ^ n.toNat := by
      rw [hr, Int.pow_add]
      have := two_pos r
      have h0 := two_pos (bt k)
      calc (2 : Int) ^ bt k = 2 ^ bt k * 1 := by rw [Int.mul_one]
        _ ≤ 2 ^ bt k * 2 ^ r := Int.mul_le_mul_of_nonneg_left (by omega) (by omega)
    rw [w1, far (m := ((bt k : Nat) : Int).toNat) (by rw [Int.toNat_natCast]; omega) (by rw [Int.toNat_natCast]; omega), far (m := n.toNat) (by omega) (by omega)]
  · rfl
theorem ba_half (x y : Int) : Builtin.bitAnd x y / 2 = Builtin.bitAnd (x / 2) (y / 2) ∧ Builtin.bitAnd x y % 2 = (x % 2) * (y % 2) := by
  have prod : (x % 2) * (y % 2) = if x % 2 = 1 ∧ y % 2 = 1 then 1 else 0 := by
    rcases Int.emod_two_eq x with h | h <;> rcases Int.emod_two_eq y with h' | h' <;> simp [h, h']
  rw [prod, kbt_halves x y]
  generalize Builtin.bitAnd (x / 2) (y / 2) = z
  have hz : (2 * z) / 2 = z ∧ (2 * z) % 2 = 0 ∧ (2 * z + 1) / 2 = z ∧ (2 * z + 1) % 2 = 1 := by
    clear prod x y
    omega
  obtain ⟨h1, h2, h3, h4⟩ := hz
  split
  · exact ⟨h3, h4⟩
  · rw [Int.add_zero]
    exact ⟨h1, h2⟩
def bitI (x : Int) (p : Nat) : Int := (x / 2 ^ p) % 2
theorem bitI_succ (x : Int) (p : Nat) : bitI x (p + 1) = bitI (x / 2) p := by
  unfold bitI
  rw [Int.pow_succ', ← Int.ediv_ediv_of_nonneg (by decide)]
theorem bitI_zero (x : Int) : bitI x 0 = x % 2 := by unfold bitI; rw [Int.pow_zero, Int.ediv_one]
theorem bitI_and (p : Nat) : ∀ x y : Int, bitI (Builtin.bitAnd x y) p = bitI x p * bitI y p := by
  induction p with
  | zero => intro x y; rw [bitI_zero, bitI_zero, bitI_zero, (ba_half x y).2]
  | succ p ih => intro x y; rw [bitI_succ, bitI_succ, bitI_succ, (ba_half x y).1, ih]
theorem bitI_not (p : Nat) : ∀ x : Int, bitI (Builtin.bitNot x) p = 1 - bitI x p := by
  induction p with
  | zero => intro x; rw [bitI_zero, bitI_zero]; unfold Builtin.bitNot; omega
  | succ p ih => intro x; rw [bitI_succ, bitI_succ, ← ih, show Builtin.bitNot x / 2 = Builtin.bitNot (x / 2) by unfold Builtin.bitNot; omega]
theorem bitI_or (p : Nat) (x y : Int) : bitI (Builtin.bitOr x y) p = bitI x p + bitI y p - bitI x p * bitI y p := by
  unfold Builtin.bitOr
  rw [bitI_not, bitI_and, bitI_not, bitI_not, Int.mul_sub, Int.mul_one, Int.sub_mul, Int.one_mul]
  omega
theorem bitI_xor (p : Nat) : ∀ x y : Int, bitI (Builtin.bitXor x y) p = (bitI x p + bitI y p).fmod 2 := by
  induction p with
  | zero =>
    intro x y
    rw [bitI_zero, bitI_zero, bitI_zero, bitXor_and, Int.fmod_eq_emod_of_nonneg _ (by decide)]
    omega
  | succ p ih =>
    intro x y
    have e : Builtin.bitXor x y / 2 = Builtin.bitXor (x / 2) (y / 2) := by
      rw [bitXor_and, bitXor_and]
      obtain ⟨e1, e2⟩ := ba_half x y
      have hx := Int.emod_two_eq x
      have hy := Int.emod_two_eq y
      have e3 : Builtin.bitAnd x y % 2 ≤ x % 2 ∧ Builtin.bitAnd x y % 2 ≤ y % 2 ∧ x % 2 + y % 2 - 1 ≤ Builtin.bitAnd x y % 2 := by
        rw [e2]
        rcases hx with h | h <;> rcases hy with h' | h' <;> rw [h, h'] <;> decide
      rw [← e1]
      generalize Builtin.bitAnd x y = z at *
      clear e1 e2 ih
      omega
    rw [bitI_succ, bitI_succ, bitI_succ, e, ih]
theorem bitI_wrap {k : Str} (hk : k ∈ kinds) {p : Nat} (hp : p < bt k) (x : Int) : bitI (wrap k x) p = bitI x p := by
  obtain ⟨c, e⟩ := wrap_mod hk x
  obtain ⟨r, hr⟩ : ∃ r, bt k = p + (r + 1) := ⟨bt k - p - 1, by omega⟩
  unfold bitI
  have e2 : (2 : Int) ^ bt k * c = 2 ^ p * (2 * (2 ^ r * c)) := by
    rw [hr, Int.pow_add, Int.pow_succ', Int.mul_assoc, Int.mul_assoc]
  rw [e, e2, Int.add_mul_ediv_left _ _ (by have := two_pos p; omega), Int.add_mul_emod_self_left]
/-- the bit as the program reads it -/
theorem bit_read (x : Int) (p : Int) : Builtin.bitAnd (x.fdiv (2 ^ p.toNat)) 1 = bitI x p.toNat := by
  rw [bitAnd_m1, Int.fdiv_eq_ediv_of_nonneg x (by have := two_pos p.toNat; omega)]
  rfl
theorem bits_due {k : Str} (hk : k ∈ kinds) {p : Int} (h0 : 0 ≤ p) (hp : p < bt k) (a b : Int) :
    Builtin.bitAnd ((wrap k (Builtin.bitAnd a b)).fdiv (2 ^ p.toNat)) 1 = Builtin.bitAnd (a.fdiv (2 ^ p.toNat)) 1 * Builtin.bitAnd (b.fdiv (2 ^ p.toNat)) 1 ∧
    Builtin.bitAnd ((wrap k (Builtin.bitOr a b)).fdiv (2 ^ p.toNat)) 1 = Builtin.bitAnd (a.fdiv (2 ^ p.toNat)) 1 + Builtin.bitAnd (b.fdiv (2 ^ p.toNat)) 1 - Builtin.bitAnd (a.fdiv (2 ^ p.toNat)) 1 * Builtin.bitAnd (b.fdiv (2 ^ p.toNat)) 1 ∧
    Builtin.bitAnd ((wrap k (Builtin.bitXor a b)).fdiv (2 ^ p.toNat)) 1 = (Builtin.bitAnd (a.fdiv (2 ^ p.toNat)) 1 + Builtin.bitAnd (b.fdiv (2 ^ p.toNat)) 1).fmod 2 ∧
    Builtin.bitAnd ((wrap k (Builtin.bitAnd a (Builtin.bitNot b))).fdiv (2 ^ p.toNat)) 1 = Builtin.bitAnd (a.fdiv (2 ^ p.toNat)) 1 * (1 - Builtin.bitAnd (b.fdiv (2 ^ p.toNat)) 1) := by
  have hp' : p.toNat < bt k := by omega
  simp only [bit_read, bitI_wrap hk hp']
  exact ⟨bitI_and _ _ _, bitI_or _ _ _, bitI_xor _ _ _, by rw [bitI_and, bitI_not]⟩
theorem bitI_lt (x : Int) (p : Nat) : 0 ≤ bitI x p ∧ bitI x p ≤ 1 := by unfold bitI; omega
end
-- part P7
section
local macro_rules | `(tactic| walk_at "exec Raise some none") => `(tactic| (exfalso; omega))
local macro_rules | `(tactic| walk_at "compareOp In str ref") => `(tactic| (k_here; (with_reducible show wpAny _ _ (compareOp CmpOp.In (Value.str _ _) (Value.ref 64)) _ _ _); k_dflt (refine' sh_in ?k1 ?k2 ?_; (case k1 => k_asm); (case k2 => k_asm))))
local macro_rules | `(tactic| walk_at "binaryOp Mult int int") => `(tactic| (k_here; (with_reducible refine mul_rule ?h1 ?_); (case h1 => assumption); (try dsimp only)))
local macro_rules | `(tactic| walk_at "binaryOp LShift int int") => `(tactic| (k_here; (with_reducible refine shl_rule ?h1 ?h2 ?h3 ?_); (case h1 => assumption); (case h2 => assumption); (case h3 => assumption); (try dsimp only)))
local macro_rules | `(tactic| walk_at "call builtin:min") => `(tactic| (k_here; (with_reducible show wpAny _ _ (call (Value.builtin "min") [Value.int _ _, Value.int _ _]) _ _ _); k_dflt (refine' min_rule rfl ?k1 ?k2 ?_; (case k1 => k_asm); (case k2 => k_asm); (intro t9 h9 tk9 F9 N9; (try dsimp only)))))
theorem quot_c (w : World) {k : Str} {a b : Int} {t u v : Tok} (hk : k ∈ kinds) (hal : least k ≤ a) (hag : a ≤ great k) (hbl : least k ≤ b) (hbg : b ≤ great k) (hb : b ≠ 0) : Con w 20 183 [.str k t, .int a u, .int b v] (fun t => .bool true) := by
  obtain ⟨hkl1, hkl2⟩ := kinds_len hk
  have hkb := kinds_bt hk
  obtain ⟨_, _, _, hr4, hr5, _, _⟩ := rim hk
  have ha1 : -9223372036854775808 ≤ a := Int.le_trans hr4 hal
  have ha2 : a ≤ 18446744073709551615 := Int.le_trans hag hr5
  have ha64 := bits64 ha1 ha2
  have hb1 : -9223372036854775808 ≤ b := Int.le_trans hr4 hbl
  have hb2 : b ≤ 18446744073709551615 := Int.le_trans hbg hr5
  have hb64 := bits64 hb1 hb2
  unfold Con
  w_top off
  k_fill
  intro mean mg mb dp un gd cn cs a9 ccd cl outer A₀ base h₀ L m s Q E B F X T hcs hdp hun hret
  refine wpAny_call ?_
  refine' code_pure ?k1 ?k2 ?k3 ?k5 ?kA ?kF ?kK ?k6 ?k7 ?k8 ?k9 ?kB ?_ ?c2 ?c3 ?c4 ?c5; (case kA => exact rfl); (case kF => exact rfl); (case kK => assumption); (case k1 => k_asm); (case k2 => k_asm); (case k3 => k_asm); (case k5 => k_asm); (case k6 => k_dflt k_is); (case k7 => k_dflt k_is); (case k8 => ktr_room); (case k9 => exact BindsTo.of_eq rfl); (case c5 => decide); (case kB => exact locs rfl); (case c2 => exact rfl); (case c3 => exact rfl); (case c4 => exact rfl)
  intro g' L' h' hG' FG' F' N' B' X' T'
  (try dsimp only)
  (try k_lift B')
  (try k_fold)
  k_steps
  all_goals (refine' pretB (Q := Q) (s := s) hret ?e1 ?e2; (case e2 => exact IsG.stays (by assumption) (by k_asm)); (case e1 => ((simp only [Bool.and_eq_true, beq_iff_eq, decide_eq_true_eq, decide_eq_decide]); by_cases hn9 : a = least k ∧ b = -1; (case pos => (obtain ⟨e1, e2⟩ := quot_least hk hn9.1 hn9.2 hbl; obtain ⟨hn1, hn2⟩ := hn9; first | exact ⟨e1, e2⟩ | exact e2 | (exfalso; omega))); (case neg => (obtain ⟨e3, e4, e5⟩ := quot_right' hk hb hal hag hbl hn9; generalize wrap k (a - b * cq a b) = W2 at *; generalize wrap k (cq a b) * b = W3 at *; omega)))))
end
-- part P8
section
local macro_rules | `(tactic| walk_at "exec Raise some none") => `(tactic| (exfalso; omega))
local macro_rules | `(tactic| walk_at "compareOp In str ref") => `(tactic| (k_here; (with_reducible show wpAny _ _ (compareOp CmpOp.In (Value.str _ _) (Value.ref 64)) _ _ _); k_dflt (refine' sh_in ?k1 ?k2 ?_; (case k1 => k_asm); (case k2 => k_asm))))
local macro_rules | `(tactic| walk_at "binaryOp Mult int int") => `(tactic| (k_here; (with_reducible refine mul_rule ?h1 ?_); (case h1 => assumption); (try dsimp only)))
local macro_rules | `(tactic| walk_at "binaryOp LShift int int") => `(tactic| (k_here; (with_reducible refine shl_rule ?h1 ?h2 ?h3 ?_); (case h1 => assumption); (case h2 => assumption); (case h3 => assumption); (try dsimp only)))
local macro_rules | `(tactic| walk_at "call builtin:min") => `(tactic| (k_here; (with_reducible show wpAny _ _ (call (Value.builtin "min") [Value.int _ _, Value.int _ _]) _ _ _); k_dflt (refine' min_rule rfl ?k1 ?k2 ?_; (case k1 => k_asm); (case k2 => k_asm); (intro t9 h9 tk9 F9 N9; (try dsimp only)))))
local macro_rules | `(tactic| walk_at "CompRest") => `(tactic| (with_unfolding_all first
  | (refine LCg.CompRest.succ ?_; intro v' I' oI' C' oC' D' m' h' tk' E' hv' hC' hx' F' N' off' ne'; (first | lcg_open hv' | (obtain ⟨t9', hv9'⟩ := hv'; subst hv9')); (try clear ne'))
  | refine LCg.CompRest.zero ?_))
local macro_rules | `(tactic| walk_at "CompEnd") => `(tactic| (k_here; (rename LCg.Off3 _ _ _ _ => off9); k_dflt (refine' LCg.CompEnd.intro ?F ?N _ (fun _ h9 => h9) off9 ?S ?_; (case F => k_asm); (case N => k_asm); (case S => lcg_src))))
theorem shifts_c (w : World) {k : Str} {a n : Int} {t u v : Tok} (hk : k ∈ kinds) (hal : least k ≤ a) (hag : a ≤ great k) (hn : 0 ≤ n) (hn2 : n ≤ 70) : Con w 20 193 [.str k t, .int a u, .int n v] (fun t => .bool true) := by
  obtain ⟨hkl1, hkl2⟩ := kinds_len hk
  have hkb := kinds_bt hk
  obtain ⟨_, _, _, hr4, hr5, _, _⟩ := rim hk
  have ha1 : -9223372036854775808 ≤ a := Int.le_trans hr4 hal
  have ha2 : a ≤ 18446744073709551615 := Int.le_trans hag hr5
  have ha64 := bits64 ha1 ha2
  k_with_none
  k_with "pyIter ref" => k_state (fun pre up down => up = wrap k (a * 2 ^ pre.length) ∧ down = a.fdiv (2 ^ pre.length)) "up" "down"
  k_with "state" => first | exact sh0 hk hal hag | exact shS hk (by assumption) (by assumption)
  unfold Con
  w_top off
  k_fill
  intro mean mg mb dp un gd cn cs a9 ccd cl outer A₀ base h₀ L m s Q E B F X T hcs hdp hun hret
  refine wpAny_call ?_
  refine' code_pureC ?k1 ?k2 ?k3 ?k5 ?kA ?kF ?kK ?k6 ?k7 ?k8 ?k9 ?kB ?kD ?_ ?c2 ?c3 ?c4; (case kA => exact rfl); (case kF => exact rfl); (case kK => assumption); (case k1 => k_asm); (case k2 => k_asm); (case k3 => k_asm); (case k5 => k_asm); (case k6 => k_dflt k_is); (case k7 => k_dflt k_is); (case k8 => ktr_room); (case k9 => exact BindsTo.of_eq rfl); (case kB => exact rfl); (case kD => decide +kernel); (case c2 => exact rfl); (case c3 => exact rfl); (case c4 => exact rfl)
  intro g' L' h' tk' cells' hG' FG' F' N' Y' B' X' T'
  k_cells Y'
  (try dsimp only)
  (try k_lift B')
  (try k_fold)
  k_steps
  all_goals (refine' pretB (Q := Q) (s := s) hret ?e1 ?e2; (case e2 => exact IsG.stays (by assumption) (by k_asm)); (case e1 => exact shE hk hal hag hn (by assumption) (by assumption)))
end
-- part PD
section
-- dict(a list of pairs)
section
variable {prog : Program} {w : World} {A : Around} {E : Value → Shared → Prop} {s : Shared}
theorem miss_keys : typeLookup (.type "list") "keys" = pure none := by rw [typeLookup_type, builtinLookup_eq_fast]; kernel_rfl
theorem keys_none {a : Addr} {o : Obj} {xs : Array Value} {k : Nat} {Q : Option Value → Shared → Prop} (hx : s.heap.get? a = some o) (hc : o.cls = .type "list") (hdat : o.data = .seq xs k) (hd : o.dict = none) (hA : A.handled = none)
    (h : ∀ h' tk, (∀ b o, s.heap.get? b = some o → h'.get? b = some o) → Q none { s with heap := h', toks := tk }) : wpAny (model prog w) A (getAttr? (.ref a) "keys") Q E s := by
  obtain ⟨c, dct, dat, sl⟩ := o
  simp only at hc hdat hd
  subst hc hdat hd
  obtain ⟨hp, g, d, tk, os⟩ := s
  have hT : ∀ tk', (⟨hp, g, d, tk', os⟩ : Shared).TypeIs (.ref a) "list" := fun _ => ⟨_, hx, rfl⟩
  have f1 := sub_AttributeError
  have f3 := F.slot_list_getattribute.lookup
  have f4 := F.slot_list_getattribute.bind (.ref a)
  have f5 := am_list_getattr_none
  have f6 := miss_keys
  unfold getAttr? getAttrBy? getAttrBy
  repeat (any_goals (first | assumption | exact hT _ | ((with_reducible show wpAny _ _ (call (Value.builtin "list.__getattribute__") _ _) _ _ _); refine call_meets F.slot_list_getattribute (hT _) am_entry_list_getattribute (F.args_list_getattribute_2 _ _) (meets_getattribute_miss_list a xs k sl "keys" _ f6 (by decide +kernel) (by size_fits)) ⟨hx, hA, fun h' tk' e hx' => ?_⟩) | wp_step))
  obtain ⟨t', u', he⟩ := hx'.there
  show wpAny _ _ (getattributeRaised _ _ _ _ _ _ _) _ _ _
  unfold getattributeRaised
  repeat (any_goals (first | assumption | wp_step))
  exact h _ _ hx'.keeps
end
section
variable {prog : Program} {w : World} {A : Around} {E : Value → Shared → Prop}
abbrev PairL := List (Addr × Str × Tok × Value)
abbrev kvsOf (l : PairL) : List (Str × Value) := l.map fun p => (p.2.1, p.2.2.2)
theorem entry_loop : entryFor table "dict.update.loop" = some Builtin.«dict.update.loop» := entryFor_of_tree (by kernel_rfl)
theorem quiet_loop : Code.quiet (.builtin "dict.update.loop" ⟨[], []⟩) = true := by decide +kernel
theorem in1_handled (A : Around) : A.in1.handled = A.handled := rfl
theorem upd_loop {l it d : Addr} {pairs : PairL} {R : Result → Shared → Prop} (hA : A.handled = none) (hnd : (pairs.map (·.2.1)).Nodup) (hlen : pairs.length ≤ 1000) (hid : it ≠ d) (hli : l ≠ it) (hld : l ≠ d) (hp1 : ∀ p ∈ pairs, p.1 ≠ it ∧ p.1 ≠ d) :
    ∀ (rest pre : PairL) (_ : pairs = pre ++ rest) (s : Shared) (_ : s.heap.IsListIter it l pre.length) (_ : s.heap.IsList l (pairs.map fun p => Value.ref p.1).toArray)
      (_ : ∀ p ∈ pairs, IsTup s.heap p.1 #[.str p.2.1 p.2.2.1, p.2.2.2]) (_ : s.heap.DictOf (strKind prog w) d (kvsOf pre))
      (_ : ∀ h' tk, h'.DictOf (strKind prog w) d (kvsOf pairs) → (∀ b o, b ≠ it → b ≠ d → s.heap.get? b = some o → h'.get? b = some o) → R (.ok (.ret .none)) { s with heap := h', toks := tk }),
      codeAny (model prog w) A (.builtin "dict.update.loop" ⟨[.ref d, .ref it, .int pre.length 0, .none], []⟩) R s
  | [], pre, e, s, hit, hl, _, hd, h => by
    have e' : pairs = pre := by rw [e, List.append_nil]
    refine codeAny_builtin entry_loop ?_
    unfold Builtin.«dict.update.loop»
    refine wpAny_bind (wpAny_pyNext_list_end (by rw [in1_handled]; exact hA) hit hl (by rw [e']; simp) fun h' hx => ?_)
    show wpAny _ _ (Builtin.Dict.addKeywords d [] >>= _) _ _ _
    refine wpAny_bind (wpAny_pure (wpAny_pure ?_))
    refine h h' s.toks ?_ fun b o nb _ q => hx b o nb q
    rw [e']
    obtain ⟨o, es, ep, ho, r⟩ := hd
    exact ⟨o, es, ep, hx d o (Ne.symm hid) ho, r⟩
  | p :: rest, pre, e, s, hit, hl, ht, hd, h => by
    have hmem : p ∈ pairs := by rw [e]; simp
    have hlt : pre.length < pairs.length := by rw [e]; simp
    refine codeAny_builtin entry_loop ?_
    unfold Builtin.«dict.update.loop»
    refine wpAny_bind (wpAny_pyNext_list_item (x := .ref p.1) hit hl (by rw [e]; simp) fun h₁ hit₁ hs₁ => ?_)
    have tp := ht p hmem
    obtain ⟨hpi, hpd⟩ := hp1 p hmem
    have same : ∀ b o, b ≠ it → s.heap.get? b = some o → h₁.get? b = some o := fun b o nb q => (hs₁.2 b nb).trans q
    obtain ⟨ot, hot, hct, nt, hdt⟩ := tp
    have hot₁ := same _ _ hpi hot
    have tp₁ : IsTup h₁ p.1 #[.str p.2.1 p.2.2.1, p.2.2.2] := ⟨ot, hot₁, hct, nt, hdt⟩
    dsimp only
    have hT : ({ s with heap := h₁ } : Shared).TypeIs (.ref p.1) "tuple" := ⟨ot, hot₁, hct⟩
    refine wpAny_bind (wpAny_holding (wpAny_bind ?_))
    refine wpAny_tryCatch ?_
    unfold Builtin.Dict.pairItems
    refine wpAny_bind (wpAny_typeOf hT ?_)
    rw [if_pos (by decide)]
    refine wpAny_bind (wpAny_seqItems (o := ot) hot₁ hdt (wpAny_pure ?_))
    show wpAny _ _ (holding _ (dictSet d (.str p.2.1 p.2.2.1) p.2.2.2)) _ _ _
    have hd₁ : h₁.DictOf (strKind prog w) d (kvsOf pre) := by
      obtain ⟨o, es, ep, ho, r⟩ := hd
      exact ⟨o, es, ep, same d o (Ne.symm hid) ho, r⟩
    have hl₁ : h₁.IsList l (pairs.map fun p => Value.ref p.1).toArray := by
      obtain ⟨o, ho, r⟩ := hl
      exact ⟨o, same l o hli ho, r⟩
    have hk : (kvsOf pre).length ≤ sizeLine := by
      have : (kvsOf pre).length = pre.length := by simp
      rw [this, sizeLine_eq]
      omega
    refine wpAny_holding (wpAny_dictSet_pairs (knd := strKind prog w) (k := p.2.1) (strKind_is _ _ _ _) hd₁ (fun h₂ hd₂ hs₂ => ?_) hk)
    refine wpAny_pure (a := Fin.again (.builtin "dict.update.loop" ⟨[.ref d, .ref it, rawInt ((pre.length : Int) + 1), .none], []⟩)) ⟨Code.quiet_builtin _ (by decide +kernel), ?_⟩
    have hst : stored (kvsOf pre) p.2.1 p.2.2.2 = kvsOf (pre ++ [p]) := by
      rw [stored_absent]
      · simp
      · unfold valueAt
        rw [Option.map_eq_none_iff, List.find?_eq_none]
        intro x hx
        rw [decide_eq_true_eq]
        intro z
        rw [e, List.map_append, List.nodup_append] at hnd
        obtain ⟨y, hy, rfl⟩ := List.mem_map.mp hx
        exact hnd.2.2 y.2.1 (List.mem_map_of_mem hy) p.2.1 (by simp) z
    rw [hst] at hd₂
    have two : ∀ b o, b ≠ it → b ≠ d → s.heap.get? b = some o → h₂.get? b = some o := fun b o n1 n2 q => (hs₂.2 b n2).trans (same b o n1 q)
    have go := upd_loop (R := R) hA hnd hlen hid hli hld hp1 rest (pre ++ [p]) (by rw [e]; simp) { s with heap := h₂, toks := s.toks + 1 } (by
        obtain ⟨o, ho, r⟩ := hit₁
        rw [List.length_append, List.length_singleton]
        exact ⟨o, (hs₂.2 it hid).trans ho, r⟩) (by
        obtain ⟨o, ho, r⟩ := hl₁
        exact ⟨o, (hs₂.2 l hld).trans ho, r⟩) (fun q hq => by
        obtain ⟨o, ho, r⟩ := ht q hq
        obtain ⟨n1, n2⟩ := hp1 q hq
        exact ⟨o, two _ _ n1 n2 ho, r⟩) hd₂ (fun h' tk hd' hk' => h h' tk hd' fun b o n1 n2 q => hk' b o n1 n2 (two b o n1 n2 q))
    rw [List.length_append, List.length_singleton] at go
    exact go
end
section
variable {prog : Program} {w : World} {A : Around} {E : Value → Shared → Prop} {s : Shared}
theorem dict_of_pairs {l : Addr} {nE : Nat} {pairs : PairL} {Q : Value → Shared → Prop} (hA : A.handled = none) (hnd : (pairs.map (·.2.1)).Nodup) (hlen : pairs.length ≤ 1000)
    (hl : s.heap.get? l = some (listOf (pairs.map fun p => Value.ref p.1).toArray nE)) (ht : ∀ p ∈ pairs, IsTup s.heap p.1 #[.str p.2.1 p.2.2.1, p.2.2.2])
    (h : ∀ h' tk, h'.DictOf (strKind prog w) s.heap.objs.size (kvsOf pairs) → (∀ b o, s.heap.get? b = some o → h'.get? b = some o) → Q (.ref s.heap.objs.size) { s with heap := h', toks := tk }) :
    wpAny (model prog w) A (call (.type "dict") [.ref l]) Q E s := by
  refine callType_codes (Q₁ := fun obj s₁ => obj = .ref s.heap.objs.size ∧ s₁ = { s with heap := s.heap.push { cls := .type "dict", data := .dict #[] } }) F.kt_called_dict (F.kt_typeCall_dict_1 _) F.entry_dict_init (kt_code_dict_new _ ⟨rfl, rfl⟩) ?_
  rintro obj s₁ ⟨rfl, rfl⟩
  have hnew : (s.heap.push { cls := .type "dict", data := .dict #[] }).DictOf (strKind prog w) s.heap.objs.size [] := Heap.DictOf.new s.heap
  have hl1 : (s.heap.push { cls := .type "dict", data := .dict #[] }).get? l = some (listOf (pairs.map fun p => Value.ref p.1).toArray nE) := Heap.get?_push_of_some _ hl
  have hT : ({ s with heap := s.heap.push { cls := .type "dict", data := .dict #[] } } : Shared).TypeIs (.ref l) "list" := ⟨_, hl1, rfl⟩
  refine ⟨hnew.typeIs, F.args_dict_init_2 _ _, ?_⟩
  unfold Builtin.«dict.__init__»
  refine wpAny_bind ?_
  unfold Builtin.Dict.selfAndRest
  refine wpAny_bind (wpAny_notOrdered_dict hnew.typeIs ?_)
  show wpAny _ _ (pure (s.heap.objs.size, [Value.ref l])) _ _ _
  refine wpAny_pure ?_
  show wpAny _ _ (Builtin.Dict.updateFrom "dict.__init__" s.heap.objs.size (.ref l) [] .none) _ _ _
  unfold Builtin.Dict.updateFrom
  refine wpAny_bind (wpAny_typeOf hT ?_)
  rw [if_pos (by decide)]
  refine wpAny_bind (keys_none (s := { s with heap := s.heap.push { cls := .type "dict", data := .dict #[] } }) hl1 rfl rfl rfl hA fun h₂ tk₂ k₂ => ?_)
  have hl2 : h₂.get? l = some (listOf (pairs.map fun p => Value.ref p.1).toArray nE) := k₂ _ _ hl1
  have il2 : h₂.IsList l (pairs.map fun p => Value.ref p.1).toArray := ⟨_, hl2, rfl, _, rfl⟩
  simp only [Option.isNone_none, if_true]
  refine wpAny_bind (wpAny_rule (wpAny_bind (wpAny_pyIter_list il2 ?_)))
  have kk : ∀ b o, h₂.get? b = some o → (h₂.push { cls := .type "list_iterator", data := .fields #[.ref l, .int 0 0] }).get? b = some o := fun b o q => Heap.get?_push_of_some _ q
  have ks : ∀ b o, s.heap.get? b = some o → h₂.get? b = some o := fun b o q => k₂ b o (Heap.get?_push_of_some _ q)
  obtain ⟨od, es, ep, hod, rd⟩ := hnew
  have hdlt : s.heap.objs.size < h₂.objs.size := Heap.lt_size (k₂ _ _ hod)
  have hllt : l < s.heap.objs.size := Heap.lt_size hl
  have htl : ∀ p ∈ pairs, p.1 < s.heap.objs.size := fun p hp => by
    obtain ⟨o, ho, _⟩ := ht p hp
    exact Heap.lt_size ho
  have fin := upd_loop (prog := prog) (w := w) (A := A.in1) (l := l) (it := h₂.objs.size) (d := s.heap.objs.size) (pairs := pairs) (R := wants (fun r s₂ => r = .none ∧ Q (.ref s.heap.objs.size) s₂) E)
    hA hnd hlen (Nat.ne_of_gt hdlt) (Nat.ne_of_lt (Nat.lt_trans hllt hdlt)) (Nat.ne_of_lt hllt) (fun p hp => ⟨Nat.ne_of_lt (Nat.lt_trans (htl p hp) hdlt), Nat.ne_of_lt (htl p hp)⟩)
    pairs [] rfl { s with heap := h₂.push { cls := .type "list_iterator", data := .fields #[.ref l, .int 0 0] }, toks := tk₂ } ⟨_, Heap.get?_push_size _ rfl, rfl, rfl⟩ ⟨_, kk _ _ hl2, rfl, _, rfl⟩
    (fun p hp => by
      obtain ⟨o, ho, r⟩ := ht p hp
      exact ⟨o, kk _ _ (ks _ _ ho), r⟩) ⟨od, es, ep, kk _ _ (k₂ _ _ hod), rd⟩ (fun h' tk hd' hk' => ⟨rfl, h h' tk hd' fun b o q => hk' b o (Nat.ne_of_lt (Nat.lt_trans (Heap.lt_size q) hdlt)) (Nat.ne_of_lt (Heap.lt_size q)) (kk _ _ (ks _ _ q))⟩)
  exact wpAny_pure (a := Fin.again (.builtin "dict.update.loop" ⟨[.ref s.heap.objs.size, .ref h₂.objs.size, rawInt 0, .none], []⟩)) ⟨Code.quiet_builtin _ (by decide +kernel), fin⟩
end
section
variable {prog : Program} {w : World} {A : Around} {E : Value → Shared → Prop} {s : Shared} {h₀ : Heap} {L : Addr} {m : Str → Option Value} {news : List (Addr × Obj)}
/-- the same on the ledger -/
theorem dict_pairsK {l : Addr} {nE : Nat} (pairs : PairL) {Q : Value → Shared → Prop} (F : Fr h₀ L s.heap m) (N : News h₀ L s.heap news) (hbig : h₀.NoLimit) (hA : A.handled = none) (hnd : (pairs.map (·.2.1)).Nodup) (hlen : pairs.length ≤ 1000)
    (hl : (l, listOf (pairs.map fun p => Value.ref p.1).toArray nE) ∈ news) (ht : ∀ p ∈ pairs, (p.1, ({ cls := .type "tuple", data := .seq #[.str p.2.1 p.2.2.1, p.2.2.2] } : Obj)) ∈ news)
    (k : ∀ d h' tk o, Fr h₀ L h' m → News h₀ L h' ((d, o) :: news) → (∀ p ∈ news, p.1 < d) → (d == sysModules) = false → o.IsDictOf (strKind prog w) (kvsOf pairs) → Q (.ref d) { s with heap := h', toks := tk }) :
    wpAny (model prog w) A (call (.type "dict") [.ref l]) Q E s := by
  refine dict_of_pairs hA hnd hlen (N _ hl).1 (fun p hp => News.isTup N (ht p hp)) fun h' tk hm hk => ?_
  obtain ⟨o', ho', hd'⟩ := Heap.dictOf_iff.mp hm
  refine k _ h' tk o' (F.grownK hk) ?_ (fun p hp => Heap.lt_size (N p hp).1) (F.notModules (modules_low hbig)) hd'
  intro q hq
  rcases List.mem_cons.mp hq with rfl | hq
  · exact ⟨ho', Nat.ne_of_gt F.ns.lt, none_at_size F⟩
  · exact ⟨hk _ _ (N q hq).1, (N q hq).2⟩
theorem dict_4 {nE : Nat} {l a1 a2 a3 a4 : Addr} {k1 k2 k3 k4 : Str} {t1 t2 t3 t4 : Tok} {n1 n2 n3 n4 : Int} {u1 u2 u3 u4 : Tok} {Q : Value → Shared → Prop} (F : Fr h₀ L s.heap m) (N : News h₀ L s.heap news) (hbig : h₀.NoLimit) (hA : A.handled = none) (hnd : [k1, k2, k3, k4].Nodup)
    (hl : (l, listOf #[.ref a1, .ref a2, .ref a3, .ref a4] nE) ∈ news) (m1 : (a1, ({ cls := .type "tuple", data := .seq #[.str k1 t1, .int n1 u1] } : Obj)) ∈ news) (m2 : (a2, ({ cls := .type "tuple", data := .seq #[.str k2 t2, .int n2 u2] } : Obj)) ∈ news)
    (m3 : (a3, ({ cls := .type "tuple", data := .seq #[.str k3 t3, .int n3 u3] } : Obj)) ∈ news) (m4 : (a4, ({ cls := .type "tuple", data := .seq #[.str k4 t4, .int n4 u4] } : Obj)) ∈ news)
    (k : ∀ d h' tk o, Fr h₀ L h' m → News h₀ L h' ((d, o) :: news) → (∀ p ∈ news, p.1 < d) → (d == sysModules) = false → o.IsDictOf (strKind prog w) [(k1, .int n1 u1), (k2, .int n2 u2), (k3, .int n3 u3), (k4, .int n4 u4)] →
      PyProof.V.FlatPairs PyData.str [(k1, .int n1 u1), (k2, .int n2 u2), (k3, .int n3 u3), (k4, .int n4 u4)] [(.str k1, .int n1), (.str k2, .int n2), (.str k3, .int n3), (.str k4, .int n4)] → Q (.ref d) { s with heap := h', toks := tk }) :
    wpAny (model prog w) A (call (.type "dict") [.ref l]) Q E s := by
  refine dict_pairsK [(a1, k1, t1, .int n1 u1), (a2, k2, t2, .int n2 u2), (a3, k3, t3, .int n3 u3), (a4, k4, t4, .int n4 u4)] F N hbig hA hnd (Nat.le_of_ble_eq_true rfl) hl ?_ fun d h' tk o F' N' lt lo hd' =>
    k d h' tk o F' N' lt lo hd' (.cons (.int _ _) (.cons (.int _ _) (.cons (.int _ _) (.cons (.int _ _) .nil))))
  intro p hp
  simp only [List.mem_cons, List.not_mem_nil, or_false] at hp
  rcases hp with rfl | rfl | rfl | rfl <;> assumption
end
end
-- part PT
section
-- a loop over a range whose own name may be a cell: an invariant over frame and ledger
section
variable {prog : Program} {w : World} {A : Around} {E : Value → Shared → Prop} {s : Shared} {env : Env} {h₀ : Heap} {x : Str} {px : Pos} {body : List Stmt} {Q : Flow → Shared → Prop}
theorem iter_rangeT {r : Addr} {a₀ b₀ : Int} {t₀ u₀ v₀ : Tok} {n : Nat} {m₀ : Str → Option Value} {news : List (Addr × Obj)} (J : Nat → (Str → Option Value) → List (Addr × Obj) → Prop)
    (hh : A.handled = none) (hr : IsRange s.heap r a₀ b₀ 1 t₀ u₀ v₀) (hsmall : Builtin.Range.small a₀ b₀ 1 = true) (hn : Builtin.Range.rangeSize a₀ b₀ 1 = (n : Int)) (F : Fr h₀ env.locals s.heap m₀) (N : News h₀ env.locals s.heap news) (hj : J 0 m₀ news)
    (turn : ∀ (I : Addr), (∀ p ∈ news, p.1 < I) → ∀ (i : Nat) t m₁ news₁ h tk it, i < n → J i m₁ news₁ → Fr h₀ env.locals h m₁ → News h₀ env.locals h ((I, it) :: news₁) →
      wpAny (model prog w) A (assign (.Name x px) env (.int (a₀ + (i : Int)) t)) (fun _ s₃ => wpAny (model prog w) A (execs body env) (UnrPost h₀ env.locals { s with heap := h, toks := tk } I it (J (i + 1)) Q) E s₃) E { s with heap := h, toks := tk })
    (done : ∀ m₁ news₁ h tk, J n m₁ news₁ → Fr h₀ env.locals h m₁ → News h₀ env.locals h news₁ → Q .next { s with heap := h, toks := tk }) :
    wpAny (model prog w) A (pyIter (.ref r)) (fun it s₂ => TurnsAt prog w A h₀ env (.Name x px) body Q E it s₂) E s := by
  refine wpAny_pyIter_range hr hsmall ?_
  have W : Walks prog w A s.heap.objs.size [s.heap.objs.size] [s.heap.objs.size] n (fun i v => i < n ∧ ∃ t, v = .int (a₀ + i * 1) t)
      (fun i h => IsRangeIter h s.heap.objs.size (a₀ + (i : Nat) * 1) ((n : Int) - (i : Nat)) 1) := (Walks.range hh _ a₀ 1 n).bound
  have hnew := next_is_new F
  refine ⟨_, _, _, n, _, _, _, m₀, news, J, rfl, KTurns.ofWalks W fun i v s Q E st q => wpAny_pure q, ?_, ?_, ?_, (by show IsRangeIter _ _ _ _ _; rw [hn]; simpa using Heap.get?_push_size _ rfl), F.push _, (fun p hp => ⟨Heap.get?_push_of_some _ (N p hp).1, (N p hp).2⟩), hj, ?_, ?_⟩
  · intro hm
    exact absurd F.ns.lt ((List.mem_singleton.mp hm) ▸ Nat.lt_irrefl _)
  · intro b hb
    rw [List.mem_singleton.mp hb]
    exact hnew
  · intro p hp hI
    exact absurd (Heap.lt_size (N p hp).1) ((List.mem_singleton.mp hI) ▸ Nat.lt_irrefl _)
  · rintro i v m₁ news₁ h₁ tk₁ own hin ⟨_, t, rfl⟩ hJ hoff hown hget hall hst F₁ N₁
    have hst' : h₁.get? s.heap.objs.size = some (itR (a₀ + ((i + 1 : Nat) : Int)) ((n : Int) - ((i + 1 : Nat) : Int))) := by
      have q : IsRangeIter h₁ s.heap.objs.size (a₀ + ((i + 1 : Nat) : Int) * 1) ((n : Int) - ((i + 1 : Nat) : Int)) 1 := hst
      rw [Int.mul_one] at q
      exact q
    have hmem := hall s.heap.objs.size (List.mem_singleton.mpr rfl) hnew _ hst'
    have e1 : a₀ + (i : Int) * 1 = a₀ + (i : Int) := by rw [Int.mul_one]
    rw [e1]
    have N₂ : News h₀ env.locals h₁ ((s.heap.objs.size, itR (a₀ + ((i + 1 : Nat) : Int)) ((n : Int) - ((i + 1 : Nat) : Int))) :: news₁) := fun p hp => by
      rcases List.mem_cons.mp hp with rfl | hp
      · exact N₁ _ (List.mem_append_left _ hmem)
      · exact N₁ _ (List.mem_append_right _ hp)
    refine wpAny_mono (turn s.heap.objs.size (fun p hp => Heap.lt_size (N p hp).1) i t m₁ news₁ h₁ tk₁ _ hin hJ F₁ N₂) (fun _ s₃ p => wpAny_mono p (fun f s₂ p => ?_) fun _ _ e => e) fun _ _ e => e
    have fin : UnrEnd h₀ env.locals { s with heap := h₁, toks := tk₁ } s.heap.objs.size (itR (a₀ + ((i + 1 : Nat) : Int)) ((n : Int) - ((i + 1 : Nat) : Int))) (J (i + 1)) s₂ →
        LoopStepU h₀ env.locals [s.heap.objs.size] own (J (i + 1)) { s with heap := h₁, toks := tk₁ } .next s₂ := by
      rintro ⟨h', tk, m', news', e, F', N', ho, r⟩
      refine ⟨rfl, h', tk, m', news', e, F', fun p hp => ?_, fun p hp hI => ho p hp (List.mem_singleton.mp hI), r⟩
      rcases List.mem_append.mp hp with hp | hp
      · have h1 : p.1 = s.heap.objs.size := List.mem_singleton.mp (hown p hp)
        have h2 : h₁.get? p.1 = some p.2 := hget p hp
        have h3 : p = (s.heap.objs.size, itR (a₀ + ((i + 1 : Nat) : Int)) ((n : Int) - ((i + 1 : Nat) : Int))) := by
          rw [h1, hst'] at h2
          exact Prod.ext h1 (Option.some.inj h2).symm
        rw [h3]; exact N' _ (List.mem_cons_self ..)
      · exact N' _ (List.mem_cons_of_mem _ hp)
    cases f with
    | ret v => exact .ret p
    | brk => exact .brk p
    | next => exact .next (fin p)
    | cont => exact .cont (fin p)
  · rintro h' tk m' news' F' N' _ hJ
    exact done m' news' h' tk hJ F' N'
/-- the head of such a loop -/
theorem For_T {iter : Expr} {pos : Pos} {m : Str → Option Value} (F : Fr h₀ env.locals s.heap m) (_hx : env.kindOf x = some .cell)
    (h : wpAny (model prog w) A (eval iter env) (fun xv s₁ => wpAny (model prog w) A (pyIter xv) (fun it s₂ => TurnsAt prog w A h₀ env (.Name x px) body Q E it s₂) E s₁) E s)
    (hs : ∀ x, foldedSetIterable iter env x = pure x := by intro _; rfl)
    (hE : PassesOwn (model prog w) A env E := by passes_own) :
    wpAny (model prog w) A (exec (.For (.Name x px) iter body [] pos) env) Q E s := For_turns F h hs hE
end
end
-- part PB
section
/-- what a turn of the bits' loop leaves: two cells turned -/
def BitsJ (d : Addr) (o : Obj) (q p : Addr) (rest : List (Addr × Obj)) (_ : Nat) (_ : Str → Option Value) (nx : List (Addr × Obj)) : Prop :=
  ∃ oD oP vD vP, oD.data = .cell vD ∧ oP.data = .cell vP ∧ nx = (d, o) :: (q, oD) :: (p, oP) :: rest
structure BitsOff (I d q p : Addr) (rest : List (Addr × Obj)) : Prop where
  d : d < I
  q : q < I
  p : p < I
  r : ∀ x ∈ rest, x.1 < I
theorem range_bt {k : Str} (hk : k ∈ kinds) : Builtin.Range.small 0 (bt k : Int) 1 = true ∧ Builtin.Range.rangeSize 0 (bt k : Int) 1 = ((bt k : Nat) : Int) := by
  rcases kinds_bt hk with h | h | h | h <;> rw [h] <;> decide
theorem bit64 (x : Int) (p : Int) : Builtin.Int.intBits (Builtin.bitAnd (x.fdiv (2 ^ p.toNat)) 1) ≤ 64 := by
  have := bitI_lt x p.toNat
  rw [bit_read]
  exact PySem.intBits_le_64 (by omega) (by omega)
section
variable {prog : Program} {w : World} {A : Around} {E : Value → Shared → Prop} {s : Shared} {env : Env} {h₀ : Heap} {x : Str} {px : Pos} {body : List Stmt} {Q : Flow → Shared → Prop}
theorem iter_bits {r : Addr} {t₀ u₀ v₀ : Tok} {k : Str} {m₀ : Str → Option Value} {d q p : Addr} {o oq op : Obj} {x1 x2 x3 x4 x5 x6 : Addr × Obj} {rest : List (Addr × Obj)} {vq vp : Option Value} (hk : k ∈ kinds)
    (hh : A.handled = none) (hr : IsRange s.heap r 0 (bt k : Int) 1 t₀ u₀ v₀) (F : Fr h₀ env.locals s.heap m₀) (N : News h₀ env.locals s.heap ((d, o) :: x1 :: x2 :: x3 :: x4 :: x5 :: x6 :: (q, oq) :: (p, op) :: rest)) (hq : oq.data = .cell vq) (hp : op.data = .cell vp)
    (turn : ∀ (I : Addr), BitsOff I d q p rest → (∀ y ∈ (d, o) :: (q, oq) :: (p, op) :: rest, y.1 < I) → ∀ (i : Nat) (pl : Int) t m₁ h tk it oD oP vD vP, 0 ≤ pl → pl < bt k → oD.data = .cell vD → oP.data = .cell vP → Fr h₀ env.locals h m₁ → News h₀ env.locals h ((I, it) :: (d, o) :: (q, oD) :: (p, oP) :: rest) →
      wpAny (model prog w) A (assign (.Name x px) env (.int pl t)) (fun _ s₃ => wpAny (model prog w) A (execs body env) (UnrPost h₀ env.locals { s with heap := h, toks := tk } I it (BitsJ d o q p rest i) Q) E s₃) E { s with heap := h, toks := tk })
    (done : ∀ m₁ h tk oD oP vD vP, oD.data = .cell vD → oP.data = .cell vP → Fr h₀ env.locals h m₁ → News h₀ env.locals h ((d, o) :: (q, oD) :: (p, oP) :: rest) → Q .next { s with heap := h, toks := tk }) :
    wpAny (model prog w) A (pyIter (.ref r)) (fun it s₂ => TurnsAt prog w A h₀ env (.Name x px) body Q E it s₂) E s := by
  obtain ⟨hs, hn⟩ := range_bt hk
  have N2 : News h₀ env.locals s.heap ((d, o) :: (q, oq) :: (p, op) :: rest) := fun y hy => N y (by
    simp only [List.mem_cons] at hy ⊢
    rcases hy with h | h | h | h <;> simp [h])
  refine iter_rangeT (BitsJ d o q p rest) hh hr hs hn F N2 ⟨_, _, _, _, hq, hp, rfl⟩ ?_ ?_
  · rintro I hI i t m₁ news₁ h tk it hi ⟨oD, oP, vD, vP, hD, hP, rfl⟩ F₁ N₁
    exact turn I ⟨hI _ (.head _), hI _ (.tail _ (.head _)), hI _ (.tail _ (.tail _ (.head _))), fun y hy => hI y (by simp [hy])⟩ hI (i + 1) (0 + (i : Int)) t m₁ h tk it oD oP vD vP (by omega) (by omega) hD hP F₁ N₁
  · rintro m₁ news₁ h tk ⟨oD, oP, vD, vP, hD, hP, rfl⟩ F₁ N₁
    exact done m₁ h tk oD oP vD vP hD hP F₁ N₁
theorem bits_end {s₁ : Shared} {L I d q p : Addr} {o oD oP it : Obj} {rest : List (Addr × Obj)} {vD vP : Option Value} {m' : Str → Option Value} {all : List (Addr × Obj)} {i : Nat} {h' : Heap} {tk : Nat} (hoff : BitsOff I d q p rest) (F : Fr h₀ L h' m') (N : News h₀ L h' all)
    (h1 : (I, it) ∈ all) (h2 : (d, o) ∈ all) (h3 : (q, oD) ∈ all) (h4 : (p, oP) ∈ all) (h5 : SubL rest all) (hD : oD.data = .cell vD) (hP : oP.data = .cell vP) :
    UnrEnd h₀ L s₁ I it (BitsJ d o q p rest i) { s₁ with heap := h', toks := tk } := by
  obtain ⟨o1, o2, o3, o4⟩ := hoff
  refine UnrEnd.intro F N ((d, o) :: (q, oD) :: (p, oP) :: rest) ?_ ?_ ⟨_, _, _, _, hD, hP, rfl⟩
  · intro y hy
    simp only [List.mem_cons] at hy
    rcases hy with rfl | rfl | rfl | rfl | hy
    · exact h1
    · exact h2
    · exact h3
    · exact h4
    · exact h5.mem y hy
  · intro y hy
    simp only [List.mem_cons] at hy
    rcases hy with rfl | rfl | rfl | hy
    · exact Nat.ne_of_lt o1
    · exact Nat.ne_of_lt o2
    · exact Nat.ne_of_lt o3
    · exact Nat.ne_of_lt (o4 y hy)
end
end
-- part PC
section
-- a list comprehension with one test over a dict of text keys
section
variable {prog : Program} {w : World} {A : Around} {E : Value → Shared → Prop} {s : Shared} {h₀ : Heap} {L : Addr} {m : Str → Option Value} {env : Env}
def KeyP (ks : List Str) (i : Nat) (v : Value) : Prop := ∃ k t, ks[i]? = some k ∧ v = .str k t
def SrcD (prog : Program) (w : World) (A : Around) (h₀ : Heap) (L : Addr) (m : Str → Option Value) (env : Env) (ct elt : Expr) (x : Str) (scope : Scope) (cl : List (Str × Addr)) (Fin : Shared → List Value → List (Addr × Obj) → Prop) (xv : Value) (s₁ : Shared) : Prop :=
  ∃ d od kvs news, xv = .ref d ∧ A.handled = none ∧ Fr h₀ L s₁.heap m ∧ News h₀ L s₁.heap news ∧ (d, od) ∈ news ∧ Obj.IsDictOf (strKind prog w) od kvs ∧ (d == sysModules) = false ∧ kvs.length ≤ sizeLine ∧
    ∀ s₂ : Shared, (∃ h, s₂ = { s₁ with heap := h }) → LCt.CompRestT prog w A h₀ L m env ct elt x scope cl s₂ (fun nw => (d, od) ∈ nw) (KeyP (kvs.map (·.1))) (Fin s₂) kvs.length 0 [] news
theorem SrcD.mk' {ct elt : Expr} {x : Str} {scope : Scope} {cl : List (Str × Addr)} {Fin : Shared → List Value → List (Addr × Obj) → Prop} {d : Addr} {od : Obj} {kvs : List (Str × Value)} {ks : List Str} {n : Nat} {news : List (Addr × Obj)} {s₁ : Shared}
    (hh : A.handled = none) (F : Fr h₀ L s₁.heap m) (N : News h₀ L s₁.heap news) (hm : (d, od) ∈ news) (hd : Obj.IsDictOf (strKind prog w) od kvs) (lo : (d == sysModules) = false) (hsz : kvs.length ≤ sizeLine) (hks : kvs.map (·.1) = ks) (hn : kvs.length = n)
    (h : ∀ g, LCt.CompRestT prog w A h₀ L m env ct elt x scope cl { s₁ with heap := g } (fun nw => (d, od) ∈ nw) (KeyP ks) (Fin { s₁ with heap := g }) n 0 [] news) :
    SrcD prog w A h₀ L m env ct elt x scope cl Fin (.ref d) s₁ := by
  subst hks hn
  exact ⟨d, od, kvs, news, rfl, hh, F, N, hm, hd, lo, hsz, fun _ ⟨g, e⟩ => e ▸ h g⟩
theorem dict_walks {I d : Addr} {od : Obj} {kvs : List (Str × Value)} {es : Array DictEntry} {ep : Nat} (hh : A.handled = none) (hne : d ≠ I)
    (r : od.ExactDict ∧ od.data = .dict es ep ∧ KeysOf (strKind prog w) es ∧ Pairs (strKind prog w) es.toList kvs ∧ (kvs.map (·.1)).Nodup) :
    Walks prog w A I [I, d] [I] kvs.length (KeyP (kvs.map (·.1))) (fun i h => h.IsKeyIter I d i kvs.length ep ∧ h.get? d = some od) :=
  let W := Walks.dictKeys (prog := prog) (w := w) (knd := strKind prog w) hh I d hne kvs ep
  have at_ : ∀ h : Heap, h.get? d = some od → h.DictAt (strKind prog w) d kvs ep := fun h e => ⟨od, es, e, r⟩
  { sub := W.sub
    frame := fun i h h' st hk => ⟨(W.frame i h h' ⟨st.1, at_ h st.2⟩ hk).1, hk d (by simp) _ st.2⟩
    item := fun i s Q E hi st hQ => W.item i s Q E hi ⟨st.1, at_ _ st.2⟩ fun v h' tk hP st' hk => hQ v h' tk (by
      obtain ⟨k, x, hx, hv⟩ := hP
      obtain ⟨t, rfl⟩ := Value.isStrOf_shape hv
      exact ⟨k, t, by rw [List.getElem?_map, hx]; rfl, rfl⟩) ⟨st'.1, hk d od (by simpa using hne) st.2⟩ hk
    done := fun s Q E st hQ => W.done s Q E ⟨st.1, at_ _ st.2⟩ hQ
    self := fun i s Q E st hQ => W.self i s Q E ⟨st.1, at_ _ st.2⟩ hQ }
theorem ListComp_DT {ct elt iter : Expr} {x : Str} {px : Pos} {scope : Scope} {cl : List (Str × Addr)} {pos : Pos} {Q : Value → Shared → Prop} (F₀ : Fr h₀ L s.heap m)
    (hclos : closureFor scope env = pure cl) (hcell : ∀ y ∈ scope.names, y.2 ≠ .cell) (hkind : scope.kind = .function)
    (hnames : ∀ y ∈ scope.names, y.2 = .local → scope.names.lookup y.1 = some .local) (hx : scope.names.lookup x = some .local)
    (h : wpAny (model prog w) A (eval iter env) (SrcD prog w A h₀ L m env ct elt x scope cl (fun s₂ => LCg.FinE h₀ L m s₂ Q)) E s)
    (hs : ∀ x, foldedSetIterable iter env x = pure x := by intro _; rfl) :
    wpAny (model prog w) A (eval (.ListComp elt [⟨.Name x px, iter, [ct], 0⟩] scope pos) env) Q E s := by
  rw [eval_ListComp]
  refine wpAny_comprehension_free (use := none) rfl hs hclos hkind hnames (wpAny_mono h (fun xv s₁ h₁ => ?_) fun _ _ e => e)
  obtain ⟨d, od, kvs, news, rfl, hh, F, N, hm, hd, lo, hsz, R⟩ := h₁
  have hod := (N _ hm).1
  obtain ⟨es, ep, r⟩ := hd
  have hlt : d < s₁.heap.objs.size := Heap.lt_size hod
  have hat : s₁.heap.DictAt (strKind prog w) d kvs ep := ⟨od, es, hod, r⟩
  refine wpAny_pyIter_dict lo hat ?_
  have up : ∀ b o, s₁.heap.get? b = some o → (s₁.heap.push { cls := .type "dict_keyiterator", data := .fields #[.ref d, .int 0 0, .int kvs.length 0, .int ep 0] }).get? b = some o := fun b o e => Heap.get?_push_of_some _ e
  refine LCt.block_T (dict_walks hh (I := s₁.heap.objs.size) (Nat.ne_of_lt hlt) r) hsz (fun i h st => by obtain ⟨o, e, _⟩ := st.1; exact ⟨o, e⟩) ?_ hcell hkind hx ⟨⟨_, Heap.get?_push_size _ rfl, rfl, rfl⟩, up _ _ hod⟩ (fun b hb => ?_)
    (F.keeps up) (N.grown up) (Nat.ne_of_lt F.ns.lt) (next_is_new F) (fun p hp => Nat.ne_of_lt (Heap.lt_size (N p hp).1)) hm (R _ ⟨_, rfl⟩) ?_
  · rintro i h h' o nw st e e' k N' hS
    refine ⟨?_, (N' _ hS).1⟩
    obtain ⟨o', q, r⟩ := st.1
    rw [e] at q
    cases q
    exact ⟨o, e', r⟩
  · show b < (s₁.heap.push _).objs.size
    rw [Heap.size_push]
    rcases List.mem_cons.mp hb with rfl | hb
    · exact Nat.lt_succ_self _
    · rw [List.mem_singleton.mp hb]; exact Nat.lt_succ_of_lt hlt
  · intro D C h tk m' ys news' F' N' o1 hn hC₀ hD₀ hCL hDL hCD offC fin
    refine ⟨m', hn, fun h'' hs'' => fin D h'' tk (F'.change hs'' hCL hC₀) (fun p hp => ?_) o1⟩
    refine ⟨hs''.extBut _ _ ?_ (N' p hp).1, (N' p hp).2⟩
    rcases List.mem_cons.mp hp with rfl | hp
    · exact Ne.symm hCD
    · exact offC p hp
theorem KeyP.open {ks : List Str} {i : Nat} {v : Value} {k : Str} (h : KeyP ks i v) (e : ks[i]? = some k) : ∃ t, v = .str k t := by
  obtain ⟨k', t, e', rfl⟩ := h
  rw [e] at e'
  cases e'
  exact ⟨t, rfl⟩
end
theorem sub_one {α : Type} {a b c t : α} {r : List α} : ∀ p ∈ a :: b :: c :: t :: r, p ∈ t :: a :: b :: c :: r := fun p h => by
  simp only [List.mem_cons] at h ⊢
  rcases h with h | h | h | h | h <;> simp [h]
theorem ne_off {x y : Int} (h : x = y) : ¬ ((x != y) = true) := by simp [h]
end
-- part P9
section
theorem fits_in {w : World} {k : Str} {t : Tok} {n : Int} {u : Tok} (hk : k ∈ kinds) (h1 : least k ≤ n) (h2 : n ≤ great k) : Con w 6 92 [.str k t, .int n u] (fun _ => .bool true) := by
  have h := fits_c w hk (t := t) (n := n) (u := u)
  rw [decide_eq_true (p := least k ≤ n ∧ n ≤ great k) ⟨h1, h2⟩] at h
  exact h
theorem fits_low {w : World} {k : Str} {t : Tok} {u : Tok} (hk : k ∈ kinds) : Con w 6 92 [.str k t, .int (least k - 1) u] (fun _ => .bool false) := by
  have h := fits_c w hk (t := t) (n := least k - 1) (u := u)
  rw [decide_eq_false (p := least k ≤ least k - 1 ∧ least k - 1 ≤ great k) (fun h => by omega)] at h
  exact h
theorem fits_high {w : World} {k : Str} {t : Tok} {u : Tok} (hk : k ∈ kinds) : Con w 6 92 [.str k t, .int (great k + 1) u] (fun _ => .bool false) := by
  have h := fits_c w hk (t := t) (n := great k + 1) (u := u)
  rw [decide_eq_false (p := least k ≤ great k + 1 ∧ great k + 1 ≤ great k) (fun h => by omega)] at h
  exact h
local macro_rules | `(tactic| walk_at "exec Raise some none") => `(tactic| (exfalso; omega))
local macro_rules | `(tactic| walk_at "compareOp In str ref") => `(tactic| (k_here; (with_reducible show wpAny _ _ (compareOp CmpOp.In (Value.str _ _) (Value.ref 64)) _ _ _); k_dflt (refine' sh_in ?k1 ?k2 ?_; (case k1 => k_asm); (case k2 => k_asm))))
local macro_rules | `(tactic| walk_at "binaryOp Mult int int") => `(tactic| (k_here; (with_reducible refine mul_rule ?h1 ?_); (case h1 => assumption); (try dsimp only)))
local macro_rules | `(tactic| walk_at "binaryOp LShift int int") => `(tactic| (k_here; (with_reducible refine shl_rule ?h1 ?h2 ?h3 ?_); (case h1 => assumption); (case h2 => assumption); (case h3 => assumption); (try dsimp only)))
local macro_rules | `(tactic| walk_at "call builtin:min") => `(tactic| (k_here; (with_reducible show wpAny _ _ (call (Value.builtin "min") [Value.int _ _, Value.int _ _]) _ _ _); k_dflt (refine' min_rule rfl ?k1 ?k2 ?_; (case k1 => k_asm); (case k2 => k_asm); (intro t9 h9 tk9 F9 N9; (try dsimp only)))))
local macro_rules | `(tactic| walk_at "call type:dict") => `(tactic| (k_here; k_dflt (refine' dict_4 ?k1 ?k2 ?k3 ?k4 ?k5 ?k6 ?k7 ?k8 ?k9 ?k10 ?_; (case k1 => k_asm); (case k2 => k_asm); (case k3 => exact Top.nolimit (by k_asm)); (case k4 => rfl); (case k6 => k_mem); (case k7 => k_mem); (case k8 => k_mem); (case k9 => k_mem); (case k10 => k_mem); (case k5 => decide +kernel)); intro d' h' tk' o' F' N' l1 lo' hd' hf'; (try k_lt l1)))
local macro_rules | `(tactic| walk_at "eval IfExp") => `(tactic| (k_here; (with_reducible show wpAny _ _ (eval (Expr.IfExp (Expr.Compare _ [CmpOp.In] _ _) _ _ _) _) _ _ _); k_dflt (refine' cut_kind ?hk ?k1 ?k2 ?k3 ?_; (case hk => assumption); (case k1 => k_asm); (case k2 => k_asm); (case k3 => ((intro Q9 hret9; (rename _ ∈ kinds => hk9); simp only [kinds, List.mem_cons, List.not_mem_nil, or_false] at hk9; rcases hk9 with h9 | h9 | h9 | h9 | h9 | h9 | h9 | h9 | h9 | h9) <;> subst h9 <;> (k_steps <;> (refine' cb_retI (Q := Q9) hret9 ?e1 ?e2 ?e3; (case e2 => k_asm); (case e3 => first | k_asm | (refine' cb_drop ?cbN ?cbS; (case cbN => assumption); (case cbS => kcj_all))); (case e1 => decide +kernel))))); (intro t9 h9 tk9 F9 N9; (try dsimp only)))))
local macro_rules | `(tactic| walk_at "newList") => `(tactic| (k_here; k_dflt (refine' newList_K ?k1 ?k2 ?_ ?k3; (case k1 => k_asm); (case k2 => k_asm); (case k3 => exact Nat.le_of_ble_eq_true rfl); k_whole); intro l' h' F' N' l1; (try k_lt l1); (try k_sweep)))
local macro_rules | `(tactic| k_ne) => `(tactic| first | assumption | (refine Ne.symm ?_; assumption))
local macro_rules | `(tactic| walk_at "FinE") => `(tactic| ((unfold LCg.FinE); intro D' h' tk' F' N' o1'; (try simp only [LCg.Off1, and_true] at o1'); (try (repeat (obtain ⟨_, o1'⟩ := o1'))); (try simp only [List.nil_append, List.cons_append] at N'); (try dsimp only)))
local macro_rules | `(tactic| walk_at "CompRest") => `(tactic| (with_unfolding_all first
  | (refine LCg.CompRest.succ ?_; intro v' I' oI' C' oC' D' m' h' tk' E' hv' hC' hx' F' N' off' ne'; (first | lcg_open hv' | (obtain ⟨t9', hv9'⟩ := hv'; subst hv9')))
  | refine LCg.CompRest.zero ?_))
local macro_rules | `(tactic| walk_at "CompEnd") => `(tactic| (k_here; (rename LCg.Off3 _ _ _ _ => off9); k_dflt (first
  | (refine' LCg.CompEnd.intro ?F ?N _ (fun _ h9 => h9) off9 ?S ?_; (case F => k_asm); (case N => k_asm); (case S => lcg_src))
  | (refine' LCg.CompEnd.intro ?F ?N (_ :: _) sub_one ⟨⟨?a, ?b, ?c⟩, off9⟩ ?S ?_; (case F => k_asm); (case N => k_asm); (case a => k_ne); (case b => k_ne); (case c => k_ne); (case S => lcg_src)))))
local macro_rules | `(tactic| walk_at "eval Call") => `(tactic| (k_here; (try k_unmd); k_dflt (refine Call_ ?_)))
local macro_rules | `(tactic| lcg_src) => `(tactic| ((try dsimp only); k_mem))
local macro_rules | `(tactic| walk_at "ite") => `(tactic| (k_here; (with_reducible refine ite_neg (ne_off (by assumption)) ?_)))
local macro_rules | `(tactic| walk_at "eval ListComp") => `(tactic| (k_here; lct_look; lcg_calm; k_dflt (refine ListComp_DT (F₀ := by k_asm) (by with_unfolding_all rfl) (by decide) (by rfl) (by decide) (by rfl) ?_)))
local macro_rules | `(tactic| walk_at "SrcD") => `(tactic| (k_here; k_dflt (first
  | (refine' SrcD.mk' (n := 4) ?k1 ?k2 ?k3 ?k4 ?k5 ?k6 ?k7 ?k8 ?k9 ?_; (case k1 => rfl); (case k2 => k_asm); (case k3 => k_asm); (case k4 => k_mem); (case k5 => k_asm); (case k6 => k_asm); (case k7 => exact Nat.le_of_ble_eq_true rfl); (case k8 => exact rfl); (case k9 => exact rfl))
  | (refine' SrcD.mk' (n := 6) ?k1 ?k2 ?k3 ?k4 ?k5 ?k6 ?k7 ?k8 ?k9 ?_; (case k1 => rfl); (case k2 => k_asm); (case k3 => k_asm); (case k4 => k_mem); (case k5 => k_asm); (case k6 => k_asm); (case k7 => exact Nat.le_of_ble_eq_true rfl); (case k8 => exact rfl); (case k9 => exact rfl))); intro g'; (try dsimp only)))
local macro_rules | `(tactic| walk_at "CompRestT") => `(tactic| (with_unfolding_all first
  | (refine LCt.CompRestT.succ ?_; intro v' I' oI' C' oC' D' m' h' tk' E' hv' hC' hx' F' N' off' ne'; (obtain ⟨t9', hv9'⟩ := KeyP.open hv' rfl); (try dsimp only at hv9'); clear hv'; subst hv9'; (try clear ne'))
  | refine LCt.CompRestT.zero ?_))
local macro_rules | `(tactic| walk_at "b_clean") => `(tactic| ((repeat (rename _ ≠ _ ∧ _ ≠ _ ∧ _ ≠ _ => z9; clear z9)); (repeat (rename (_ ≠ _ ∧ _ ≠ _ ∧ _ ≠ _) ∧ _ => z9; clear z9)); (repeat (rename (LCg.NsObj _ _) => z9; clear z9)); (repeat (rename (InElt _ _) => z9; clear z9))))
local macro_rules | `(tactic| walk_at "b_cleanL") => `(tactic| (repeat (rename _ < _ ∧ _ => z9; clear z9)))
local macro_rules | `(tactic| walk_at "exec For Name Call cons nil") => `(tactic| (k_here; (rename Fr _ _ _ _ => lF'); (with_unfolding_all refine' For_T lF' ?k1 ?_; (case k1 => exact rfl); k_whole)))
local macro_rules | `(tactic| walk_at "call ref") => `(tactic| (k_here; (with_reducible show wpAny _ _ (call (Value.ref 92) _) _ _ _); k_dflt (refine' con_use (C := fits_in (by assumption) (by first | assumption | exact (wrap_in (by assumption) _).1) (by first | assumption | exact (wrap_in (by assumption) _).2)) (hret := ?_); walk_at "use")))
local macro_rules | `(tactic| walk_at "UnrEnd") => `(tactic| (k_here; k_dflt (refine' bits_end ?k1 ?k2 ?k3 ?k4 ?k5 ?k6 ?k7 ?k8 ?k9 ?k10; (case k1 => assumption); (case k2 => k_asm); (case k3 => k_asm); (case k4 => k_mem); (case k5 => k_mem); (case k6 => k_mem); (case k7 => k_mem); (case k8 => k_subL); (case k9 => assumption); (case k10 => assumption))))
theorem bits_gt {I d q p : Addr} {rest} (_ : BitsOff I d q p rest) (h : @LT.lt Nat _ q d) : @LT.lt Nat _ q d := h
theorem bits_c (w : World) {k : Str} {a b : Int} {t u v : Tok} (hk : k ∈ kinds) (hal : least k ≤ a) (hag : a ≤ great k) (hbl : least k ≤ b) (hbg : b ≤ great k) : Con w 20 188 [.str k t, .int a u, .int b v] (fun t => .bool true) := by
  obtain ⟨hkl1, hkl2⟩ := kinds_len hk
  have hkb := kinds_bt hk
  obtain ⟨_, _, _, hr4, hr5, _, _⟩ := rim hk
  have ha1 : -9223372036854775808 ≤ a := Int.le_trans hr4 hal
  have ha2 : a ≤ 18446744073709551615 := Int.le_trans hag hr5
  have ha64 := bits64 ha1 ha2
  have hb1 : -9223372036854775808 ≤ b := Int.le_trans hr4 hbl
  have hb2 : b ≤ 18446744073709551615 := Int.le_trans hbg hr5
  have hb64 := bits64 hb1 hb2
  have hdue := fun (p : Int) (h0 : 0 ≤ p) (h1 : p < bt k) => bits_due hk h0 h1 a b
  have hbA := bit64 a
  have hbB := bit64 b
  k_with_none
  unfold Con
  w_top off
  k_fill
  intro mean mg mb dp un gd cn cs a9 ccd cl outer A₀ base h₀ L m s Q E B F X T hcs hdp hun hret
  refine wpAny_call ?_
  refine' code_pureC ?k1 ?k2 ?k3 ?k5 ?kA ?kF ?kK ?k6 ?k7 ?k8 ?k9 ?kB ?kD ?_ ?c2 ?c3 ?c4; (case kA => exact rfl); (case kF => exact rfl); (case kK => assumption); (case k1 => k_asm); (case k2 => k_asm); (case k3 => k_asm); (case k5 => k_asm); (case k6 => k_dflt k_is); (case k7 => k_dflt k_is); (case k8 => ktr_room); (case k9 => exact BindsTo.of_eq rfl); (case kB => exact rfl); (case kD => decide +kernel); (case c2 => exact rfl); (case c3 => exact rfl); (case c4 => exact rfl)
  intro g' L' h' tk' cells' hG' FG' F' N' Y' B' X' T'
  k_cells Y'
  (try dsimp only)
  (try k_lift B')
  (try k_fold)
  walk_at "KST"
  rename News _ _ _ _ => NN
  rename Fr _ _ _ _ => FF
  rename _ ∈ kinds => hk
  rename ∀ p : Int, 0 ≤ p → _ => hdue
  k_dflt (refine' iter_bits hk ?hh ?hr FF NN ?hq ?hp ?turn ?done; (case hh => rfl); (case hr => assumption); (case hq => assumption); (case hp => assumption))
  · intro I hoff hIl i pl t₉ m₁ h' tk it oD oP vD vP hpl0 hpl1 hD hP F' N'
    rename ∀ p : Int, Builtin.Int.intBits (Builtin.bitAnd (Int.fdiv _ _) 1) ≤ 64 => hB
    replace hB := hB pl
    rename ∀ p : Int, Builtin.Int.intBits (Builtin.bitAnd (Int.fdiv _ _) 1) ≤ 64 => hA
    replace hA := hA pl
    obtain ⟨e1, e2, e3, e4⟩ := hdue pl hpl0 hpl1
    clear NN FF hdue
    (repeat (rename IsRange _ _ _ _ _ _ _ => z9; clear z9))
    walk_at "b_clean"
    have hdL := bits_gt hoff (by (rename _ < _ ∧ _ => hll); exact hll.2.2.2.2.2.2.1)
    (repeat (rename _ < _ ∧ _ => hll; clear hll))
    (k_lt hIl)
    walk_at "KST"
  · intro m₁ h' tk oD oP vD vP hD hP F' N'
    walk_at "b_clean"
    (repeat (rename IsRange _ _ _ _ _ _ _ => z9; clear z9))
    k_sweep
    walk_at "KST"
    all_goals (refine' pretB (Q := Q) (s := s) hret ?e1 ?e2; (case e2 => exact IsG.stays (by assumption) (by k_asm)); (case e1 => rfl))
end
-- part NB
section
-- two lists of two like bytes
theorem bytes_eqAt {A : Around} {s : Shared} {x : Array UInt8} {t u : Tok} : SeqAt.EqAt A s (.bytes x t) (.bytes x u) true := fun prog w E Q h => by
  unfold eqBool
  refine wpAny_holding ?_
  refine wpAny_ite_split (fun _ => ?_) (fun _ => ?_)
  · exact wpAny_bind (wpAny_rule (wpAny_pure h))
  · refine wpAny_bind (eq_bytes ?_)
    rw [beq_self_eq_true]
    exact wpAny_truthy_bool h
section
variable {prog : Program} {w : World} {A : Around} {E : Value → Shared → Prop} {s : Shared}
theorem ne_bytes2 {a b : Addr} {x : Array UInt8} {t1 t2 u1 u2 : Tok} {Q : Value → Shared → Prop} (ha : s.heap.IsList a #[.bytes x t1, .bytes x t2]) (hb : s.heap.IsList b #[.bytes x u1, .bytes x u2]) (hu : A.units < cLine)
    (h : Q (.bool false) s) : wpAny (model prog w) A (compareOp .NotEq (.ref a) (.ref b)) Q E s := by
  refine SeqAt.RcNeAt.lists (e := fun _ => true) ha hb rfl hu ?_ prog w E Q ?_
  · intro j h1 h2
    match j, h1, h2 with
    | 0, _, _ => exact bytes_eqAt
    | 1, _, _ => exact bytes_eqAt
  · exact h
end
theorem law_good {cl : Str → Option Addr} {mean : ExcName → Option Value} {ns : List Int} {s₁ : Shared} {h' : Heap} {tk : Nat} {L : Addr} {m : Str → Option Value} (F : Fr s₁.heap L h' m) (hg : s₁.gens = #[]) :
    GoodW PySem.Challenge.rw_on0005_01.row.claim cl mean [ofPy (PyData.list (List.map PyData.int ns))] s₁ (.ok (.ret (.bool true))) { heap := h', gens := s₁.gens, drawn := s₁.drawn, toks := tk, os := s₁.os } := by
  wrow_close
end
-- part S2
section
local macro_rules | `(tactic| walk_at "k_drops") => `(tactic| first | (refine' Drops.head ?a; (case a => k_all)) | (refine' Drops.tail ?a ?b; (case a => k_ne); (case b => walk_at "k_drops")))
local macro_rules | `(tactic| walk_at "call ref") => `(tactic| (k_here; (with_reducible show wpAny _ _ (call (Value.ref 155) _) _ _ _); k_dflt (refine' conS_use (C := take_c _ (by (with_unfolding_all decide)) (by (with_unfolding_all decide))) (h := ?_); (rename SrcOk _ _ => z8; clear z8); (rename RowOk _ => z7; clear z7); (intro v9 h9 tk9 o9 ol9 hP9 so9 ro9 F9 N9; (try dsimp only); (obtain ⟨r9, t9, e9, lo9, hi9⟩ := hP9; subst e9); (try dsimp only); (try k_fold)))))
def DrawnP (k : Str) (v : Value) : Prop := ∃ r t, v = .int r t ∧ least k ≤ r ∧ r ≤ great k
theorem drawn_getD {k : Str} {xs : List Int} {r : Int} {t : Tok} (h0 : 0 ≤ r) (h1 : r < xs.length) (hall : ∀ x ∈ xs, least k ≤ x ∧ x ≤ great k) : DrawnP k (.int (xs.getD r.toNat 0) t) := by
  have hlt : r.toNat < xs.length := by omega
  have h := hall _ (List.getElem_mem hlt)
  have e : xs.getD r.toNat 0 = xs[r.toNat] := by simp [hlt]
  refine ⟨_, _, rfl, ?_, ?_⟩ <;> rw [e]
  · exact h.1
  · exact h.2
theorem DrawnP.mk {k : Str} {r : Int} {t : Tok} (h1 : least k ≤ r) (h2 : r ≤ great k) : DrawnP k (.int r t) := ⟨_, _, rfl, h1, h2⟩
local macro_rules | `(tactic| walk_at "subscriptTail Name Call ref int") => `(tactic| (k_here; k_dflt (refine' pick_made (DrawnP _) ?k1 ?k2 ?h0 ?h1 ?h2 ?hall ?_ ?hs; (case k1 => k_asm); (case k2 => k_mem); (case h0 => assumption); (case h1 => assumption); (case h2 => decide); (case hs => with_unfolding_all rfl); (case hall => simp only [List.forall_mem_cons, List.not_mem_nil, false_implies, implies_true, and_true]; refine ⟨?_, ?_, ?_, ?_, ?_, ?_, ?_, ?_, ?_, ?_, ?_⟩ <;> (refine DrawnP.mk ?_ ?_ <;> omega)); (intro v9 hv9; (try dsimp only)))))
theorem drawn_c (w : World) {src l : Addr} {k : Str} {t : Tok} (hk : k ∈ kinds) : ConS w 18 176 [.ref src, .str k t] src l (DrawnP k) := by
  unfold ConS
  w_top off
  k_fill
  intro mean mg mb dp un gd cn cs a9 ccd cl outer A₀ base h₀ L m s Q E o ol B F X N T hne hso hro hcs hdp hun hret
  obtain ⟨hr1, hr2, hr3, hr4, hr5, hr6, hr7⟩ := rim hk
  have hne2 := Ne.symm hne
  refine wpAny_call ?_
  refine' code_defG ?k1 ?k2 ?k3 ?k4 ?k5 ?kA ?kF ?kK ?k6 ?k7 ?k8 ?k9 ?kB ?_ ?c2 ?c3 ?c4 ?c5; (case kA => exact rfl); (case kF => exact rfl); (case kK => assumption); (case k1 => k_asm); (case k2 => k_asm); (case k3 => k_asm); (case k4 => k_asm); (case k5 => k_asm); (case k6 => k_dflt k_is); (case k7 => k_dflt k_is); (case k8 => ktr_room); (case k9 => exact BindsTo.of_eq rfl); (case c5 => decide); (case kB => exact locs rfl); (case c2 => exact rfl); (case c3 => exact rfl); (case c4 => exact rfl)
  intro g' L' h' FG' F' N' B' X' T' hS'
  (try dsimp only)
  (try k_lift B')
  (try k_fold)
  k_steps
  all_goals (k_dflt (refine' srcS_end hret hS' ?k1 ?k2 ?k3 ?k4 ?k5 ?k6 ?k7; (case k1 => k_asm); (case k2 => k_asm); (case k3 => k_mem); (case k4 => k_mem); (case k5 => (refine drawn_getD (by assumption) (by assumption) ?_; simp only [List.forall_mem_cons, List.not_mem_nil, false_implies, implies_true, and_true]; refine ⟨?_, ?_, ?_, ?_, ?_, ?_, ?_, ?_, ?_, ?_, ?_⟩ <;> omega)); (case k6 => assumption); (case k7 => assumption)))
end
-- part LL
section
-- the loop of the law: what a turn leaves
structure SrcAt (m : Str → Option Value) (src : Addr) : Prop where
  at_ : m (Str.ofString "source") = some (.ref src)
structure CellO (o : Obj) : Prop where
  c : ∃ v, o.data = .cell v
theorem CellO.mk' {o : Obj} {v : Option Value} (h : o.data = .cell v) : CellO o := ⟨_, h⟩
def LawJ (src l ck ca cb ct cd : Addr) (ok : Obj) (_ : Nat) (m : Str → Option Value) (nx : List (Addr × Obj)) : Prop :=
  ∃ o ol oa ob ot od, SrcAt m src ∧ SrcOk l o ∧ RowOk ol ∧ CellO oa ∧ CellO ob ∧ CellO ot ∧ CellO od ∧ nx = [(src, o), (l, ol), (ck, ok), (ca, oa), (cb, ob), (ct, ot), (cd, od)]
structure LawOff (I src l ck ca cb ct cd : Addr) : Prop where
  s : src < I
  l : l < I
  k : ck < I
  a : ca < I
  b : cb < I
  t : ct < I
  d : cd < I
section
variable {prog : Program} {w : World} {A : Around} {E : Value → Shared → Prop} {s : Shared} {env : Env} {h₀ : Heap} {x : Str} {px : Pos} {body : List Stmt} {Q : Flow → Shared → Prop}
theorem iter_law {r : Addr} {t₀ u₀ v₀ : Tok} {m₀ : Str → Option Value} {news : List (Addr × Obj)} {src l ck ca cb ct cd : Addr} {o ol ok oa ob ot od : Obj}
    (_ : @LT.lt Nat _ cd l) (_ : @LT.lt Nat _ cb l) (_ : @LT.lt Nat _ ca l) (_ : @LT.lt Nat _ ct l) (_ : @LT.lt Nat _ ck l)
    (hh : A.handled = none) (hr : IsRange s.heap r 0 3 1 t₀ u₀ v₀) (F : Fr h₀ env.locals s.heap m₀) (N : News h₀ env.locals s.heap news) (hS : SrcAt m₀ src) (so : SrcOk l o) (ro : RowOk ol)
    (m1 : (src, o) ∈ news) (m2 : (l, ol) ∈ news) (m3 : (ck, ok) ∈ news) (m4 : (ca, oa) ∈ news) (m5 : (cb, ob) ∈ news) (m6 : (ct, ot) ∈ news) (m7 : (cd, od) ∈ news)
    (d1 : CellO oa) (d2 : CellO ob) (d3 : CellO ot) (d4 : CellO od)
    (turn : ∀ (I : Addr), LawOff I src l ck ca cb ct cd → ∀ (pl : Int) t m₁ h tk it o ol oa ob ot od va vb vt vd, 0 ≤ pl → pl < 3 → SrcAt m₁ src → SrcOk l o → RowOk ol → oa.data = .cell va → ob.data = .cell vb → ot.data = .cell vt → od.data = .cell vd → Fr h₀ env.locals h m₁ →
      News h₀ env.locals h [(I, it), (src, o), (l, ol), (ck, ok), (ca, oa), (cb, ob), (ct, ot), (cd, od)] →
      wpAny (model prog w) A (assign (.Name x px) env (.int pl t)) (fun _ s₃ => wpAny (model prog w) A (execs body env) (UnrPost h₀ env.locals { s with heap := h, toks := tk } I it (LawJ src l ck ca cb ct cd ok 0) Q) E s₃) E { s with heap := h, toks := tk })
    (done : ∀ m₁ h tk o ol oa ob ot od, SrcOk l o → RowOk ol → CellO oa → CellO ob → CellO ot → CellO od → Fr h₀ env.locals h m₁ → News h₀ env.locals h [(src, o), (l, ol), (ck, ok), (ca, oa), (cb, ob), (ct, ot), (cd, od)] → Q .next { s with heap := h, toks := tk }) :
    wpAny (model prog w) A (pyIter (.ref r)) (fun it s₂ => TurnsAt prog w A h₀ env (.Name x px) body Q E it s₂) E s := by
  have N2 : News h₀ env.locals s.heap [(src, o), (l, ol), (ck, ok), (ca, oa), (cb, ob), (ct, ot), (cd, od)] := fun y hy => N y (by
    simp only [List.mem_cons, List.not_mem_nil, or_false] at hy
    rcases hy with rfl | rfl | rfl | rfl | rfl | rfl | rfl <;> assumption)
  refine iter_rangeT (n := 3) (LawJ src l ck ca cb ct cd ok) hh hr rfl rfl F N2 ⟨_, _, _, _, _, _, hS, so, ro, d1, d2, d3, d4, rfl⟩ ?_ ?_
  · rintro I hI i t m₁ news₁ h tk it hi ⟨o, ol, oa, ob, ot, od, hS, so, ro, ⟨va, d1⟩, ⟨vb, d2⟩, ⟨vt, d3⟩, ⟨vd, d4⟩, rfl⟩ F₁ N₁
    exact turn I ⟨hI _ (.head _), hI _ (.tail _ (.head _)), hI _ (.tail _ (.tail _ (.head _))), hI _ (.tail _ (.tail _ (.tail _ (.head _)))), hI _ (.tail _ (.tail _ (.tail _ (.tail _ (.head _))))), hI _ (.tail _ (.tail _ (.tail _ (.tail _ (.tail _ (.head _)))))), hI _ (.tail _ (.tail _ (.tail _ (.tail _ (.tail _ (.tail _ (.head _)))))))⟩
      (0 + (i : Int)) t m₁ h tk it _ _ _ _ _ _ _ _ _ _ (by omega) (by omega) hS so ro d1 d2 d3 d4 F₁ N₁
  · rintro m₁ news₁ h tk ⟨o, ol, oa, ob, ot, od, hS, so, ro, d1, d2, d3, d4, rfl⟩ F₁ N₁
    exact done m₁ h tk o ol oa ob ot od so ro d1 d2 d3 d4 F₁ N₁
theorem law_end {s₁ : Shared} {L I src l ck ca cb ct cd : Addr} {o ol ok oa ob ot od it : Obj} {m' : Str → Option Value} {all : List (Addr × Obj)} {h' : Heap} {tk : Nat} (hoff : LawOff I src l ck ca cb ct cd) (F : Fr h₀ L h' m') (N : News h₀ L h' all)
    (hS : SrcAt m' src) (so : SrcOk l o) (ro : RowOk ol)
    (h1 : (I, it) ∈ all) (m1 : (src, o) ∈ all) (m2 : (l, ol) ∈ all) (m3 : (ck, ok) ∈ all) (m4 : (ca, oa) ∈ all) (m5 : (cb, ob) ∈ all) (m6 : (ct, ot) ∈ all) (m7 : (cd, od) ∈ all)
    (d1 : CellO oa) (d2 : CellO ob) (d3 : CellO ot) (d4 : CellO od) :
    UnrEnd h₀ L s₁ I it (LawJ src l ck ca cb ct cd ok 0) { s₁ with heap := h', toks := tk } := by
  refine UnrEnd.intro F N [(src, o), (l, ol), (ck, ok), (ca, oa), (cb, ob), (ct, ot), (cd, od)] ?_ ?_ ⟨_, _, _, _, _, _, hS, so, ro, d1, d2, d3, d4, rfl⟩
  · intro y hy
    simp only [List.mem_cons, List.not_mem_nil, or_false] at hy
    rcases hy with rfl | rfl | rfl | rfl | rfl | rfl | rfl | rfl <;> assumption
  · intro y hy
    simp only [List.mem_cons, List.not_mem_nil, or_false] at hy
    obtain ⟨q1, q2, q3, q4, q5, q6, q7⟩ := hoff
    rcases hy with rfl | rfl | rfl | rfl | rfl | rfl | rfl
    all_goals (apply Nat.ne_of_lt; assumption)
structure PoolTok : Prop where
structure BoolTok : Prop where
theorem cut_pool {M : Model} {A : Around} {T : Sem Value} {Q E : Value → Shared → Prop} {s : Shared} {h₀ : Heap} {L c1 c2 c3 c4 c5 : Addr} {o1 o2 o3 o4 o5 : Obj} {m : Str → Option Value}
    (_ : Fr h₀ L s.heap m) (_ : News h₀ L s.heap [(c1, o1), (c2, o2), (c3, o3), (c4, o4), (c5, o5)])
    (h1 : ∀ Q' : Value → Shared → Prop, (∀ (src l : Addr) (o ol : Obj) (h' : Heap) (tk' : Nat), @LT.lt Nat _ l src → @LT.lt Nat _ c1 l → @LT.lt Nat _ c2 l → @LT.lt Nat _ c3 l → @LT.lt Nat _ c4 l → @LT.lt Nat _ c5 l → SrcOk l o → RowOk ol → Fr h₀ L h' m → News h₀ L h' [(src, o), (l, ol), (c1, o1), (c2, o2), (c3, o3), (c4, o4), (c5, o5)] → Q' (.ref src) { s with heap := h', toks := tk' }) → wpAny M A T Q' E s)
    (h2 : ∀ (src l : Addr) (o ol : Obj) (h' : Heap) (tk' : Nat), @LT.lt Nat _ l src → @LT.lt Nat _ c1 l → @LT.lt Nat _ c2 l → @LT.lt Nat _ c3 l → @LT.lt Nat _ c4 l → @LT.lt Nat _ c5 l → SrcOk l o → RowOk ol → Fr h₀ L h' m → News h₀ L h' [(src, o), (l, ol), (c1, o1), (c2, o2), (c3, o3), (c4, o4), (c5, o5)] → Q (.ref src) { s with heap := h', toks := tk' }) :
    wpAny M A T Q E s := h1 Q h2
theorem pool_leaf {Q' : Value → Shared → Prop} {s : Shared} {h₀ h1 : Heap} {L c1 c2 c3 c4 c5 src l : Addr} {ol o1 o2 o3 o4 o5 : Obj} {m : Str → Option Value} {x y : Int} {tx ty : Tok} {n tk : Nat} {all : List (Addr × Obj)}
    (hret : ∀ (src l : Addr) (o ol : Obj) (h' : Heap) (tk' : Nat), @LT.lt Nat _ l src → @LT.lt Nat _ c1 l → @LT.lt Nat _ c2 l → @LT.lt Nat _ c3 l → @LT.lt Nat _ c4 l → @LT.lt Nat _ c5 l → SrcOk l o → RowOk ol → Fr h₀ L h' m → News h₀ L h' [(src, o), (l, ol), (c1, o1), (c2, o2), (c3, o3), (c4, o4), (c5, o5)] → Q' (.ref src) { s with heap := h', toks := tk' })
    (F : Fr h₀ L h1 m) (N : News h₀ L h1 all) (p1 : (src, PySem.W.listOf #[.int x tx, .int y ty, .ref l] n) ∈ all) (p2 : (l, ol) ∈ all) (p3 : (c1, o1) ∈ all) (p4 : (c2, o2) ∈ all) (p5 : (c3, o3) ∈ all) (p6 : (c4, o4) ∈ all) (p7 : (c5, o5) ∈ all)
    (hlt : @LT.lt Nat _ l src) (q1 : @LT.lt Nat _ c1 l) (q2 : @LT.lt Nat _ c2 l) (q3 : @LT.lt Nat _ c3 l) (q4 : @LT.lt Nat _ c4 l) (q5 : @LT.lt Nat _ c5 l) (hy : 0 ≤ y ∧ y < 2147483647) (hro : RowOk ol) : Q' (.ref src) { s with heap := h1, toks := tk } :=
  hret src l _ ol h1 tk hlt q1 q2 q3 q4 q5 (SrcOk.mk hy) hro F fun p hp => N p (by
    simp only [List.mem_cons, List.not_mem_nil, or_false] at hp
    rcases hp with rfl | rfl | rfl | rfl | rfl | rfl | rfl <;> assumption)
theorem cut_bool {M : Model} {A : Around} {T : Sem Value} {Q E : Value → Shared → Prop} {s : Shared} {h₀ : Heap} {L : Addr} {m : Str → Option Value} {news : List (Addr × Obj)} (b : Bool)
    (_ : Fr h₀ L s.heap m) (_ : News h₀ L s.heap news)
    (h1 : ∀ Q' : Value → Shared → Prop, (∀ (h' : Heap) (tk' : Nat), Fr h₀ L h' m → News h₀ L h' news → Q' (.bool b) { s with heap := h', toks := tk' }) → wpAny M A T Q' E s)
    (h2 : ∀ (h' : Heap) (tk' : Nat), Fr h₀ L h' m → News h₀ L h' news → Q (.bool b) { s with heap := h', toks := tk' }) : wpAny M A T Q E s := h1 Q h2
theorem LawOff.nat {I src l ck ca cb ct cd : Addr} (h : LawOff I src l ck ca cb ct cd) : @LT.lt Nat _ src I ∧ @LT.lt Nat _ l I ∧ @LT.lt Nat _ ck I ∧ @LT.lt Nat _ ca I ∧ @LT.lt Nat _ cb I ∧ @LT.lt Nat _ ct I ∧ @LT.lt Nat _ cd I := ⟨h.s, h.l, h.k, h.a, h.b, h.t, h.d⟩
theorem pool_bad {ns : List Int} (h : decide (ns = []) = false) (x : (0 : Int) < -(ns.length : Int) ∨ (ns.length : Int) ≤ 0) : False := by
  have h1 : ns ≠ [] := by simpa using h
  cases ns with
  | nil => exact h1 rfl
  | cons y r =>
    simp only [List.length_cons] at x
    omega
theorem kinds_getD : ∀ r : Int, 0 ≤ r → r < 10 → ∀ d, kinds.getD r.toNat d ∈ kinds := by
  intro r h0 h1 d
  have hlt : r.toNat < kinds.length := by
    show r.toNat < 10
    omega
  have e : kinds.getD r.toNat d = kinds[r.toNat] := by simp [hlt]
  rw [e]
  exact List.getElem_mem hlt
theorem kind_cell {o : Obj} {r : Int} {t : Tok} {d : Str} (h : o.data = .cell (some (.str (kinds.getD r.toNat d) t))) (h0 : 0 ≤ r) (h1 : r < 10) : ∃ k t, k ∈ kinds ∧ o.data = .cell (some (.str k t)) :=
  ⟨_, _, kinds_getD r h0 h1 d, h⟩
theorem conP_use {w : World} {lv : Nat} {f : Addr} {vs : List Value} {R : Tok → Value} (C : ConP w lv f vs R)
    {mean : ExcName → Option Value} {mg mb : Str → Option Value} {news : List (Addr × Obj)} {dp un : Nat} {gd : Option (List Code)} {cn : Str} {cs : Scope} {a : Addr} {ccd : Value} {cl : List (Str × Addr)} {A₀ : Around} {base h₀ : Heap} {L : Addr} {m : Str → Option Value} {s : Shared} {Q E : Value → Shared → Prop}
    (B : Below A₀ base [] h₀ := by k_asm) (F : Fr h₀ L s.heap m := by k_asm) (X : (hd.heap_1 w.params).In h₀ := by k_asm) (N : News h₀ L s.heap news := by k_asm) (T : Top lawView (looseW lawView [Str.ofString "ChanError", Str.ofString "KIND_BITS"]) mean mg mb h₀ := by k_asm) (hcs : cs.kind = .function := by first | exact rfl | assumption)
    (hdp : dp + lv < recursionLimit := by ktr_room) (hun : un + 8 * lv < cLine := by ktr_units) (hret : CbRet h₀ L m news s Q R) :
    wpAny (model PySem.Challenge.rw_on0005_01.row.prog w) (ktrTop dp un gd cn cs L a ccd cl []) (call (.ref f) vs) Q E s :=
  C _ _ _ _ _ _ _ _ _ _ _ _ _ _ _ _ _ _ _ B F X T hcs hdp hun fun t h' tk' k U => hret t h' tk'
    ⟨U.ns F.ns, fun b o e => k b o (F.keep b o e) (Nat.ne_of_lt (Nat.lt_of_lt_of_le (Heap.lt_size e) F.above)), F.above⟩
    fun p hp => ⟨k _ _ (N p hp).1 (N p hp).2.1, (N p hp).2⟩
theorem a_64 {k : Str} {a : Int} (hk : k ∈ kinds) (h1 : least k ≤ a) (h2 : a ≤ great k) : Builtin.Int.intBits a ≤ 64 := by
  obtain ⟨_, _, _, h3, h4, _, _⟩ := rim hk
  exact bits64 (Int.le_trans h3 h1) (Int.le_trans h2 h4)
theorem off_b {x y : Bool} (h : x = y) : ¬ ((x != y) = true) := by simp [h]
theorem off_wrap {k : Str} {x : Int} (hk : k ∈ kinds) : ¬ ((wrap k x != toldI k x) = true) := by simp [told_wrap hk]
theorem off_un {k : Str} {a : Int} (hk : k ∈ kinds) : ¬ ((!decide ([a, wrap k (0 - a), wrap k (-1 - a)] = [a, toldI k (-a), toldI k (-1 - a)])) = true) := by simp [told_wrap hk]
theorem off_eq {a b : Int} : ¬ (((a == b) != (a - b == 0)) = true) := off_b (by rw [Bool.eq_iff_iff]; simp only [beq_iff_eq]; omega)
theorem off_ne {a b : Int} : ¬ (((a != b) != (a - b != 0)) = true) := off_b (by rw [Bool.eq_iff_iff]; simp only [bne_iff_ne, ne_eq]; omega)
theorem off_lt {a b : Int} : ¬ ((decide (a < b) != decide (a - b < 0)) = true) := off_b (by rw [decide_eq_decide]; omega)
theorem off_le {a b : Int} : ¬ ((decide (a ≤ b) != decide (a - b ≤ 0)) = true) := off_b (by rw [decide_eq_decide]; omega)
theorem off_gt {a b : Int} : ¬ ((decide (b < a) != decide (0 < a - b)) = true) := off_b (by rw [decide_eq_decide]; omega)
theorem off_ge {a b : Int} : ¬ ((decide (b ≤ a) != decide (0 ≤ a - b)) = true) := off_b (by rw [decide_eq_decide]; omega)
end
end
-- part law
section
structure KindP (v : Value) : Prop where
  k : ∃ k t, k ∈ kinds ∧ v = .str k t
theorem KindP.mk' {k : Str} {t : Tok} (h : k ∈ kinds) : KindP (.str k t) := ⟨⟨_, _, h, rfl⟩⟩
theorem cut_test {M : Model} {A : Around} {T : Sem Bool} {Q : Bool → Shared → Prop} {E : Value → Shared → Prop} {s : Shared} {h₀ : Heap} {L : Addr} {m : Str → Option Value} {news : List (Addr × Obj)} (b : Bool)
    (_ : Fr h₀ L s.heap m) (_ : News h₀ L s.heap news)
    (h1 : ∀ Q' : Bool → Shared → Prop, (∀ (h' : Heap) (tk' : Nat), Fr h₀ L h' m → News h₀ L h' news → Q' b { s with heap := h', toks := tk' }) → wpAny M A T Q' E s)
    (h2 : ∀ (h' : Heap) (tk' : Nat), Fr h₀ L h' m → News h₀ L h' news → Q b { s with heap := h', toks := tk' }) : wpAny M A T Q E s := h1 Q h2
theorem prune_law {h₀ h : Heap} {L I src l ck ca cb ct cd : Addr} {it o ol ok oa ob ot od : Obj} {news : List (Addr × Obj)} (_ : LawOff I src l ck ca cb ct cd) (N : News h₀ L h news)
    (m0 : (I, it) ∈ news) (m1 : (src, o) ∈ news) (m2 : (l, ol) ∈ news) (m3 : (ck, ok) ∈ news) (m4 : (ca, oa) ∈ news) (m5 : (cb, ob) ∈ news) (m6 : (ct, ot) ∈ news) (m7 : (cd, od) ∈ news) :
    News h₀ L h [(I, it), (src, o), (l, ol), (ck, ok), (ca, oa), (cb, ob), (ct, ot), (cd, od)] := fun y hy => N y (by
  simp only [List.mem_cons, List.not_mem_nil, or_false] at hy
  rcases hy with rfl | rfl | rfl | rfl | rfl | rfl | rfl | rfl <;> assumption)
theorem cut_leaf {Q9 : Bool → Shared → Prop} {s : Shared} {h₀ h' : Heap} {L : Addr} {m : Str → Option Value} {news news' : List (Addr × Obj)} {b b' : Bool} {tk : Nat}
    (hret : ∀ (h' : Heap) (tk' : Nat), Fr h₀ L h' m → News h₀ L h' news → Q9 b { s with heap := h', toks := tk' }) (e : b' = b) (F : Fr h₀ L h' m) (N : News h₀ L h' news') (hs : ∀ p ∈ news, p ∈ news') : Q9 b' { s with heap := h', toks := tk } := by
  subst e
  exact hret h' tk F fun p hp => N p (hs p hp)
theorem ne_b2 {prog : Program} {w : World} {A : Around} {E : Value → Shared → Prop} {s : Shared} {h₀ : Heap} {L : Addr} {m : Str → Option Value} {news : List (Addr × Obj)} {a b : Addr} {oa ob : Obj} {x y z : Array UInt8} {t1 t2 u1 u2 : Tok} {na nb : Nat} {Q : Value → Shared → Prop} (_ : Fr h₀ L s.heap m) (N : News h₀ L s.heap news)
    (ma : (a, oa) ∈ news) (mb : (b, ob) ∈ news) (ca : oa.cls = .type "list") (cb : ob.cls = .type "list") (da : oa.data = .seq #[.bytes x t1, .bytes x t2] na) (db : ob.data = .seq #[.bytes y u1, .bytes z u2] nb) (e : x = y) (e' : x = z) (hu : A.units < cLine)
    (h : Q (.bool false) s) : wpAny (model prog w) A (compareOp .NotEq (.ref a) (.ref b)) Q E s := by
  subst e e'
  exact ne_bytes2 ⟨oa, (N _ ma).1, ca, na, da⟩ ⟨ob, (N _ mb).1, cb, nb, db⟩ hu h
theorem wrap_ends {k : Str} (hk : k ∈ kinds) : (wrap k (great k + 1) == least k && wrap k (least k - 1) == great k) = true := by
  have h : ∀ k ∈ kinds, (wrap k (great k + 1) == least k && wrap k (least k - 1) == great k) = true := by decide +kernel
  exact h k hk
local macro_rules | `(tactic| walk_at "k_row") => `(tactic| (first | exact ⟨_, .inl rfl⟩ | exact ⟨_, .inr (.inl ⟨_, _, rfl⟩)⟩ | exact ⟨_, .inr (.inr (.inl ⟨_, _, _, _, rfl⟩))⟩ | exact ⟨_, .inr (.inr (.inr (.inl ⟨_, _, _, _, _, _, rfl⟩)))⟩ | exact ⟨_, .inr (.inr (.inr (.inr ⟨_, _, _, _, _, _, _, _, rfl⟩)))⟩))
local macro_rules | `(tactic| walk_at "k_drops") => `(tactic| first | (refine' Drops.head ?a; (case a => k_all)) | (refine' Drops.tail ?a ?b; (case a => k_ne); (case b => walk_at "k_drops")))
local macro_rules | `(tactic| walk_at "call ref") => `(tactic| (k_here; (with_reducible show wpAny _ _ (call (Value.ref 155) _) _ _ _); k_dflt (refine' conS_use (C := take_c _ (by (with_unfolding_all decide)) (by (with_unfolding_all decide))) (h := ?_); (rename SrcOk _ _ => z8; clear z8); (rename RowOk _ => z7; clear z7); (intro v9 h9 tk9 o9 ol9 hP9 so9 ro9 F9 N9; (try dsimp only); (obtain ⟨r9, t9, e9, lo9, hi9⟩ := hP9; subst e9); (try dsimp only); (try k_fold)))))
local macro_rules | `(tactic| walk_at "call ref") => `(tactic| (k_here; (with_reducible show wpAny _ _ (call (Value.ref 176) _) _ _ _); k_dflt (refine' conS_use (C := drawn_c _ (by assumption)) (h := ?_); (rename SrcOk _ _ => z8; clear z8); (rename RowOk _ => z7; clear z7); (intro v9 h9 tk9 o9 ol9 hP9 so9 ro9 F9 N9; (try dsimp only); (obtain ⟨r9, t9, e9, lo9, hi9⟩ := hP9; subst e9; have b64 := a_64 (by assumption) lo9 hi9); (try dsimp only); (try k_fold)))))
local macro_rules | `(tactic| walk_at "subscriptTail Name Call ref int") => `(tactic| (k_here; k_dflt (refine' pick_made KindP ?k1 ?k2 ?h0 ?h1 ?h2 ?hall ?_ ?hs; (case k1 => k_asm); (case k2 => k_mem); (case h0 => assumption); (case h1 => assumption); (case h2 => decide); (case hs => with_unfolding_all rfl); (case hall => simp only [List.forall_mem_cons, List.not_mem_nil, false_implies, implies_true, and_true]; refine ⟨?_, ?_, ?_, ?_, ?_, ?_, ?_, ?_, ?_, ?_⟩ <;> exact KindP.mk' (by decide +kernel)); (intro v9 hv9; obtain ⟨k9, tk9, hk9, hv9⟩ := hv9; subst hv9; (try dsimp only)))))
local macro_rules | `(tactic| walk_at "exec For Name Call cons nil") => `(tactic| (k_here; (rename Fr _ _ _ _ => lF'); (with_unfolding_all refine' For_T lF' ?k1 ?_; (case k1 => exact rfl); k_whole)))
local macro_rules | `(tactic| walk_at "k_glob") => `(tactic| ((repeat (rename Glob _ _ _ _ _ _ _ _ => z9; clear z9)); (repeat (rename BMod _ _ _ _ _ => z9; clear z9)); (repeat (rename TopE _ _ _ _ => z9; clear z9)); (repeat (rename TopW _ _ _ => z9; clear z9)); (repeat (rename Tables _ _ _ _ => z9; clear z9)); (repeat (rename Ground _ _ _ _ _ _ _ _ _ => z9; clear z9)); (repeat (rename LooseAre _ _ _ => z9; clear z9)); (repeat (rename CellsAre _ _ _ => z9; clear z9)); (repeat (rename Dflts _ _ _ _ => z9; clear z9)); (repeat (rename Heap.CodeRec _ _ _ => z9; clear z9)); (repeat (rename ReadsAll _ _ _ _ => z9; clear z9)); (repeat (rename Reads _ _ _ _ => z9; clear z9))))
local macro_rules | `(tactic| walk_at "eval Name") => `(tactic| (k_here; (with_reducible show wpAny _ _ (eval (Expr.Name (Str.ofString "source") _) _) _ _ _); k_dflt (refine' nameX_L ?k1 ?k2 ?_ ?k3 ?k4; (case k1 => k_asm); (case k2 => exact SrcAt.at_ (by assumption)); (case k3 => rfl); (case k4 => rfl); k_whole)))
local macro_rules | `(tactic| walk_at "call ref") => `(tactic| (k_here; (with_reducible show wpAny _ _ (call (Value.ref 183) _) _ _ _); k_dflt (refine' con_use (C := quot_c _ (by assumption) (by assumption) (by assumption) (by assumption) (by assumption) (by assumption)) (hret := ?_); walk_at "use")))
local macro_rules | `(tactic| walk_at "call ref") => `(tactic| (k_here; (with_reducible show wpAny _ _ (call (Value.ref 193) _) _ _ _); k_dflt (refine' con_use (C := shifts_c _ (by first | assumption | omega) (by first | assumption | omega) (by first | assumption | omega) (by first | assumption | omega) (by first | assumption | omega)) (hret := ?_); walk_at "use")))
local macro_rules | `(tactic| walk_at "call ref") => `(tactic| (k_here; (with_reducible show wpAny _ _ (call (Value.ref 188) _) _ _ _); k_dflt (refine' con_use (C := bits_c _ (by assumption) (by assumption) (by assumption) (by assumption) (by assumption)) (hret := ?_); walk_at "use")))
local macro_rules | `(tactic| walk_at "binaryOp Mult int int") => `(tactic| (k_here; (with_reducible refine mul_rule ?h1 ?_); (case h1 => exact a_64 (by assumption) (by assumption) (by assumption)); (try dsimp only)))
local macro_rules | `(tactic| walk_at "ite") => `(tactic| (k_here; (with_reducible refine ite_neg (off_wrap (by assumption)) ?_)))
local macro_rules | `(tactic| walk_at "b_clean") => `(tactic| ((repeat (rename _ ≠ _ ∧ _ ≠ _ ∧ _ ≠ _ => z9; clear z9)); (repeat (rename (_ ≠ _ ∧ _ ≠ _ ∧ _ ≠ _) ∧ _ => z9; clear z9)); (repeat (rename (LCg.NsObj _ _) => z9; clear z9)); (repeat (rename (InElt _ _) => z9; clear z9))))
local macro_rules | `(tactic| walk_at "b_cleanL") => `(tactic| (repeat (rename _ < _ ∧ _ => z9; clear z9)))
local macro_rules | `(tactic| walk_at "newList") => `(tactic| (k_here; k_dflt (refine' newList_K ?k1 ?k2 ?_ ?k3; (case k1 => k_asm); (case k2 => k_asm); (case k3 => exact Nat.le_of_ble_eq_true rfl); k_whole); intro l' h' F' N' l1; (try k_lt l1); (try k_sweep)))
local macro_rules | `(tactic| k_ne) => `(tactic| first | assumption | (refine Ne.symm ?_; assumption))
local macro_rules | `(tactic| walk_at "FinE") => `(tactic| ((unfold LCg.FinE); intro D' h' tk' F' N' o1'; (try simp only [LCg.Off1, and_true] at o1'); (try (repeat (obtain ⟨_, o1'⟩ := o1'))); (try simp only [List.nil_append, List.cons_append] at N'); (try dsimp only)))
local macro_rules | `(tactic| walk_at "CompRest") => `(tactic| (with_unfolding_all first
  | (refine LCg.CompRest.succ ?_; intro v' I' oI' C' oC' D' m' h' tk' E' hv' hC' hx' F' N' off' ne'; (first | lcg_open hv' | (obtain ⟨t9', hv9'⟩ := hv'; subst hv9')))
  | refine LCg.CompRest.zero ?_))
local macro_rules | `(tactic| walk_at "CompEnd") => `(tactic| (k_here; (rename LCg.Off3 _ _ _ _ => off9); k_dflt (first
  | (refine' LCg.CompEnd.intro ?F ?N _ (fun _ h9 => h9) off9 ?S ?_; (case F => k_asm); (case N => k_asm); (case S => lcg_src))
  | (refine' LCg.CompEnd.intro ?F ?N (_ :: _) sub_one ⟨⟨?a, ?b, ?c⟩, off9⟩ ?S ?_; (case F => k_asm); (case N => k_asm); (case a => k_ne); (case b => k_ne); (case c => k_ne); (case S => lcg_src)))))
local macro_rules | `(tactic| walk_at "eval Call") => `(tactic| (k_here; (try k_unmd); k_dflt (refine Call_ ?_)))
local macro_rules | `(tactic| lcg_src) => `(tactic| ((try dsimp only); k_mem))
local macro_rules | `(tactic| walk_at "ite") => `(tactic| (k_here; (with_reducible refine ite_neg (ne_off (by assumption)) ?_)))
local macro_rules | `(tactic| walk_at "eval ListComp") => `(tactic| (k_here; lct_look; lcg_calm; k_dflt (refine ListComp_DT (F₀ := by k_asm) (by with_unfolding_all rfl) (by decide) (by rfl) (by decide) (by rfl) ?_)))
local macro_rules | `(tactic| walk_at "SrcD") => `(tactic| (k_here; k_dflt (first
  | (refine' SrcD.mk' (n := 4) ?k1 ?k2 ?k3 ?k4 ?k5 ?k6 ?k7 ?k8 ?k9 ?_; (case k1 => rfl); (case k2 => k_asm); (case k3 => k_asm); (case k4 => k_mem); (case k5 => k_asm); (case k6 => k_asm); (case k7 => exact Nat.le_of_ble_eq_true rfl); (case k8 => exact rfl); (case k9 => exact rfl))
  | (refine' SrcD.mk' (n := 6) ?k1 ?k2 ?k3 ?k4 ?k5 ?k6 ?k7 ?k8 ?k9 ?_; (case k1 => rfl); (case k2 => k_asm); (case k3 => k_asm); (case k4 => k_mem); (case k5 => k_asm); (case k6 => k_asm); (case k7 => exact Nat.le_of_ble_eq_true rfl); (case k8 => exact rfl); (case k9 => exact rfl))); intro g'; (try dsimp only)))
local macro_rules | `(tactic| walk_at "CompRestT") => `(tactic| (with_unfolding_all first
  | (refine LCt.CompRestT.succ ?_; intro v' I' oI' C' oC' D' m' h' tk' E' hv' hC' hx' F' N' off' ne'; (obtain ⟨t9', hv9'⟩ := KeyP.open hv' rfl); (try dsimp only at hv9'); clear hv'; subst hv9'; (try clear ne'))
  | refine LCt.CompRestT.zero ?_))
local macro_rules | `(tactic| walk_at "ite") => `(tactic| (k_here; (with_reducible first | refine ite_neg off_eq ?_ | refine ite_neg off_ne ?_ | refine ite_neg off_lt ?_ | refine ite_neg off_le ?_ | refine ite_neg off_gt ?_ | refine ite_neg off_ge ?_)))
local macro_rules | `(tactic| walk_at "call ref") => `(tactic| (k_here; (with_reducible show wpAny _ _ (call (Value.ref 200) _) _ _ _); k_dflt (refine' conP_use (C := pan_any _ (by with_reducible constructor <;> first | assumption | omega)) (hret := ?_); walk_at "use")))
local macro_rules | `(tactic| walk_at "compareOp NotEq ref ref") => `(tactic| (k_here; k_dflt (refine' ne_b2 ?F ?N ?ma ?mb ?ca ?cb ?da ?db ?e1 ?e2 ?hu ?_; (case F => k_asm); (case N => k_asm); (case ma => k_mem); (case mb => k_mem); (case ca => rfl); (case cb => rfl); (case da => rfl); (case db => rfl); (case e1 => decide +kernel); (case e2 => decide +kernel); (case hu => first | (ktr_units; done) | decide | exact Nat.le_of_ble_eq_true rfl); (try dsimp only))))
local macro_rules | `(tactic| walk_at "UnrEnd") => `(tactic| (k_here; k_dflt (refine' law_end ?h ?k1 ?k2 ?k3 ?so ?ro ?m0 ?m1 ?m2 ?m3 ?m4 ?m5 ?m6 ?m7 ?d1 ?d2 ?d3 ?d4; (case h => assumption); (case k1 => k_asm); (case k2 => k_asm); (case k3 => exact ⟨SrcAt.at_ (by assumption)⟩); (case m0 => k_mem); (case m1 => k_mem); (case m2 => k_mem); (case m3 => k_mem); (case m4 => k_mem); (case m5 => k_mem); (case m6 => k_mem); (case m7 => k_mem); (case so => assumption); (case ro => assumption); (case d1 => exact CellO.mk' (by assumption)); (case d2 => exact CellO.mk' (by assumption)); (case d3 => exact CellO.mk' (by assumption)); (case d4 => exact CellO.mk' (by assumption)))))
local macro_rules | `(tactic| walk_at "isTrue BoolOp") => `(tactic| (k_here; (with_reducible show wpAny _ _ (isTrue (Expr.BoolOp BoolOp.Or [_, _] _) _ _) _ _ _); (rename BoolTok => btk); k_dflt ((rename News _ _ _ _ => N8); (replace N8 := prune_law (by assumption) N8 (by k_mem) (by k_mem) (by k_mem) (by k_mem) (by k_mem) (by k_mem) (by k_mem) (by k_mem)); (walk_at "b_cleanL"); refine' cut_test false ?k1 N8 ?k3 ?_; (case k1 => k_asm); (case k3 => (clear btk; intro Q9 hret9; walk_at "KST"; all_goals (refine' cut_leaf hret9 ?e1 ?e2 ?e3 ?e4; (case e2 => k_asm); (case e3 => k_asm); (case e4 => lcg_sub); (case e1 => first | rfl | exact eq_false_of_ne_true (off_un (by assumption)))))); (clear N8; intro h9 tk9 F9 N9; (try dsimp only); (try k_sweep)))))
local macro_rules | `(tactic| walk_at "isTrue Compare") => `(tactic| (k_here; (with_reducible show wpAny _ _ (isTrue (Expr.Compare (Expr.ListComp _ _ _ _) _ _ _) _ _) _ _ _); (rename BoolTok => btk); k_dflt (refine' cut_test false ?k1 ?k2 ?k3 ?_; (case k1 => k_asm); (case k2 => k_asm); (case k3 => (clear btk; intro Q9 hret9; walk_at "KST"; all_goals (refine' cut_leaf hret9 ?e1 ?e2 ?e3 ?e4; (case e2 => k_asm); (case e3 => k_asm); (case e4 => lcg_sub); (case e1 => first | rfl | exact eq_false_of_ne_true (off_un (by assumption)))))); (intro h9 tk9 F9 N9; (try dsimp only); (try k_sweep)))))
local macro_rules | `(tactic| walk_at "call ref") => `(tactic| (k_here; (with_reducible show wpAny _ _ (call (Value.ref 92) _) _ _ _); k_dflt (refine' con_use (C := fits_low (by assumption)) (hret := ?_); walk_at "use")))
local macro_rules | `(tactic| walk_at "call ref") => `(tactic| (k_here; (with_reducible show wpAny _ _ (call (Value.ref 92) _) _ _ _); k_dflt (refine' con_use (C := fits_high (by assumption)) (hret := ?_); walk_at "use")))
local macro_rules | `(tactic| walk_at "ite") => `(tactic| (with_reducible refine ite_neg Bool.false_ne_true ?_))
theorem law_t : PySem.Challenge.rw_on0005_01.Holds := hdW (by
  k_go0
  all_goals (try k_fold)
  walk1
  walk1
  refine' cut_pool ?k1 ?k2 ?k3 ?k4
  case k1 => k_asm
  case k2 => k_asm
  case k3 =>
    intro Q9 hret9
    walk_at "KST"
    all_goals first | (exfalso; exact pool_bad (by assumption) (by assumption)) | (refine' pool_leaf hret9 ?p1 ?p2 ?p3 ?p4 ?p5 ?p6 ?p7 ?p8 ?p9 ?p10 ?p11 ?p12 ?p13 ?p14 ?p15 ?p16 ?p17; (case p1 => k_asm); (case p2 => k_asm); (case p3 => k_mem); (case p4 => k_mem); (case p5 => k_mem); (case p6 => k_mem); (case p7 => k_mem); (case p8 => k_mem); (case p9 => k_mem); (case p10 => (first | assumption | omega | (dsimp only at *; omega))); (case p11 => (first | assumption | omega | (dsimp only at *; omega))); (case p12 => (first | assumption | omega | (dsimp only at *; omega))); (case p13 => (first | assumption | omega | (dsimp only at *; omega))); (case p14 => (first | assumption | omega | (dsimp only at *; omega))); (case p15 => (first | assumption | omega | (dsimp only at *; omega))); (case p16 => exact fm_y); (case p17 => walk_at "k_row"))
  intro src9 l9 o9 ol9 h9 tk9 z1 z2 z3 z4 z5 z6 so9 ro9 F9 N9
  (try dsimp only)
  (try k_fold)
  walk_at "KST"
  rename Obj.data _ = Data.cell (some (Value.str (List.getD [Str.ofString "int", _, _, _, _, _, _, _, _, _] _ _) _)) => hkc
  obtain ⟨k, tkk, hk, hkd⟩ := kind_cell hkc (by assumption) (by assumption)
  clear hkc
  walk_at "k_glob"
  rename News _ _ _ _ => NN
  rename Fr _ _ _ _ => FF
  k_dflt (refine' iter_law ?p1 ?p2 ?p3 ?p4 ?p5 ?hh ?hr FF NN ?hS ?so ?ro (.head _) (.tail _ (.head _)) (.tail _ (.tail _ (.tail _ (.tail _ (.tail _ (.tail _ (.tail _ (.head _)))))))) (.tail _ (.tail _ (.tail _ (.tail _ (.tail _ (.head _)))))) (.tail _ (.tail _ (.tail _ (.tail _ (.head _))))) (.tail _ (.tail _ (.tail _ (.tail _ (.tail _ (.tail _ (.head _))))))) (.tail _ (.tail _ (.tail _ (.head _)))) ?d1 ?d2 ?d3 ?d4 ?turn ?done)
  case hh => rfl
  case hr => assumption
  case hS => exact ⟨rfl⟩
  case so => assumption
  case ro => assumption
  case p1 => assumption
  case p2 => assumption
  case p3 => assumption
  case p4 => assumption
  case p5 => assumption
  case d1 => exact CellO.mk' (by assumption)
  case d2 => exact CellO.mk' (by assumption)
  case d3 => exact CellO.mk' (by assumption)
  case d4 => exact CellO.mk' (by assumption)
  case turn =>
    (repeat (rename SrcOk _ _ => z9; clear z9)); (repeat (rename RowOk _ => z9; clear z9))
    intro I hoff pl tp m₁ h₂ tk₂ it o₂ ol₂ oa₂ ob₂ ot₂ od₂ va vb vt vd hp0 hp1 hS so₂ ro₂ da db dt dd F₂ N₂
    clear FF NN
    have btk : BoolTok := ⟨⟩
    obtain ⟨hf1, hf2, hf3, hf4, hf5, hf6, hf7⟩ := hoff.nat
    walk_at "KST"
  case done =>
    (repeat (rename SrcOk _ _ => z9; clear z9)); (repeat (rename RowOk _ => z9; clear z9))
    intro m₁ h₂ tk₂ o₂ ol₂ oa₂ ob₂ ot₂ od₂ so₂ ro₂ da db dt dd F₂ N₂
    clear FF NN
    walk_at "KST"
    all_goals (rw [wrap_ends hk]; exact law_good (by assumption) (by assumption)))
end
end Mine

theorem PySem.Challenge.cw_on0005_01_holds : PySem.Challenge.rw_on0005_01.Holds :=
  Mine.law_t
