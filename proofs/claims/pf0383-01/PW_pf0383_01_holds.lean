import PyProof.Rows.All
import Wide.All
import OpenK.AllK
import Wide.FinOn
import PySem.Challenge.RW_pf0383_01
open PySem PySem.W PySem.W.X PyProof.Rows PySem.Calls PySem.Spec
set_option Elab.async false
namespace Mine
def pickI {α : Type} (f : Nat → Bool) : Nat → List α → List α
  | _, [] => []
  | n, a :: l => match f n with | true => a :: pickI f (n + 1) l | false => pickI f (n + 1) l
noncomputable abbrev prg : Program := PySem.Challenge.rw_pf0383_01.row.toRowW.prog
def hd.view_39 : Program := { PySem.Challenge.rw_pf0383_01.row.toRowW.prog with main := { PySem.Challenge.rw_pf0383_01.row.toRowW.prog.main with body := pickI (fun n => !([0, 4, 11, 33] : List Nat).contains n) 0 PySem.Challenge.rw_pf0383_01.row.toRowW.prog.main.body } }
theorem left_rows {p q : Program} {loose : List Str} {Xt : Shared → Bool} {α : Type} {Yf : Shared → α} {Ya : World → α} {N : Nat} {g0 : Bool} (row : String)
    (sf : ∀ w : World, (fencedOpening treeTable p w N).map (fun s₀ => (topFrom treeTable p (w.withFollow row false) N s₀).map (openSeen q loose (importedModules p.main.body) Xt g0)) = some (some (openGood q loose)))
    (st : ∀ w : World, (fencedOpening treeTable p w N).map (fun s₀ => (topFrom treeTable p (w.withFollow row true) N s₀).map (openSeen q loose (importedModules p.main.body) Xt g0)) = some (some (openGood q loose)))
    (yf : ∀ w : World, (fencedOpening treeTable p w N).map (fun s₀ => (topFrom treeTable p (w.withFollow row false) N s₀).map Yf) = some (some (Ya (w.withFollow row false))))
    (yt : ∀ w : World, (fencedOpening treeTable p w N).map (fun s₀ => (topFrom treeTable p (w.withFollow row true) N s₀).map Yf) = some (some (Ya (w.withFollow row true)))) : LeftO p q loose Xt Yf Ya N g0 := LeftO.of_split row fun w => by
  obtain ⟨s₀, a, b⟩ := Option.map_eq_some_iff.mp (sf w)
  obtain ⟨s₁, c, d⟩ := Option.map_eq_some_iff.mp b
  have b' := st w
  rw [a] at b'
  obtain ⟨s₂, c', d'⟩ := Option.map_eq_some_iff.mp (Option.some.inj b')
  have e := yf w
  rw [a] at e
  have e1 : (topFrom treeTable p (w.withFollow row false) N s₀).map Yf = some (Ya (w.withFollow row false)) := Option.some.inj e
  rw [c] at e1
  have f := yt w
  rw [a] at f
  have f1 : (topFrom treeTable p (w.withFollow row true) N s₀).map Yf = some (Ya (w.withFollow row true)) := Option.some.inj f
  rw [c'] at f1
  rw [a]
  show some ((topFrom treeTable p (w.withFollow row false) N s₀).map _, (topFrom treeTable p (w.withFollow row true) N s₀).map _) = _
  rw [c, c']
  show some (some (openSeen q loose (importedModules p.main.body) Xt g0 s₁, Yf s₁), some (openSeen q loose (importedModules p.main.body) Xt g0 s₂, Yf s₂)) = _
  rw [d, d', show Yf s₁ = _ from Option.some.inj e1, show Yf s₂ = _ from Option.some.inj f1]
set_option maxRecDepth 100000
set_option maxHeartbeats 8000000
local macro_rules | `(tactic| o_head $_) => `(tactic| refine (by assumption : PySem.Challenge.rw_pf0383_01.row.wellSaid = true → PySem.Challenge.rw_pf0383_01.row.Holds) (by assumption))
theorem hd (h : PySem.Challenge.rw_pf0383_01.row.wellSaid = true → PySem.Challenge.rw_pf0383_01.row.Holds) : PySem.Challenge.rw_pf0383_01.Holds := by
  w_on
  o_law
  k_head
def asK : List Addr := [2, 3, 15, 22, 24, 25, 27, 28, 29, 30, 31, 32, 35, 42, 43, 44, 47, 54, 55, 56, 59, 62, 63, 64, 66, 67, 69, 70, 71, 73, 74, 76, 77, 78, 80, 81, 83, 84, 85, 87, 88, 90, 91, 92, 94, 95, 97, 98, 99, 100, 101, 103, 104, 106, 107, 108, 110, 111, 113, 114, 115, 117, 118, 120, 121, 122, 124, 125, 127, 128, 129, 132, 133, 134, 137, 138, 139, 141, 142, 144, 145, 146, 148, 149, 151, 152, 153, 155, 156, 158, 159, 160, 162, 163, 165, 166, 167, 169, 170, 172, 173, 174, 176, 177, 179, 180, 181, 183, 184, 186, 187, 188, 190, 191, 193, 194, 195, 197, 198, 200, 201, 202, 204, 205, 207, 208, 209, 211, 212, 214, 215, 216, 218, 219, 221, 222, 223, 225, 226, 228, 229, 230, 232, 233, 235, 236, 237, 239, 240, 242, 243, 244, 246, 247, 249, 250, 251, 253, 254, 256, 257]
theorem asK_is (P : Params) : asK = (hd.heap_39 P).map (·.1) := by kernel_rfl
noncomputable abbrev XtK (s : Shared) : Bool := xlAt hd.view_39 [] s && recOk (RowW.records (OpenRow.toRowW (OpenLaw.row PySem.Challenge.rw_pf0383_01))) s
theorem run_sf (w : World) : (fencedOpening treeTable prg w 3610).map (fun s₀ => (topFrom treeTable prg (w.withFollow "special-get-raises" false) 3610 s₀).map (openSeen hd.view_39 [Str.ofString "TEXT_TYPES"] (importedModules prg.main.body) XtK true)) = some (some (openGood hd.view_39 [Str.ofString "TEXT_TYPES"])) := by
  unfold prg hd.view_39 XtK fencedOpening topFrom
  rewrite [PySem.W.Fast.te4187177175401517315, PySem.W.Fast.te14082659384304107361, PySem.W.Fast.te10274390034422433532, PySem.W.Fast.te14289696077712309145, PySem.W.Fast.te1435165496053646825, PySem.W.Fast.te14364793385576792824, PySem.W.Fast.te5923862056798008813, PySem.W.Fast.te12428993319455954715, PySem.W.Fast.te8920871248978507458]
  kernel_rfl
theorem run_st (w : World) : (fencedOpening treeTable prg w 3610).map (fun s₀ => (topFrom treeTable prg (w.withFollow "special-get-raises" true) 3610 s₀).map (openSeen hd.view_39 [Str.ofString "TEXT_TYPES"] (importedModules prg.main.body) XtK true)) = some (some (openGood hd.view_39 [Str.ofString "TEXT_TYPES"])) := by
  unfold prg hd.view_39 XtK fencedOpening topFrom
  rewrite [PySem.W.Fast.te4187177175401517315, PySem.W.Fast.te14082659384304107361, PySem.W.Fast.te10274390034422433532, PySem.W.Fast.te14289696077712309145, PySem.W.Fast.te1435165496053646825, PySem.W.Fast.te14364793385576792824, PySem.W.Fast.te5923862056798008813, PySem.W.Fast.te12428993319455954715, PySem.W.Fast.te8920871248978507458]
  kernel_rfl
theorem run_yf (w : World) : (fencedOpening treeTable prg w 3610).map (fun s₀ => (topFrom treeTable prg (w.withFollow "special-get-raises" false) 3610 s₀).map (Hook.obs (kmHook hd.heap_39 asK asK_is [231, 252]))) = some (some (Hook.val (kmHook hd.heap_39 asK asK_is [231, 252]) (w.withFollow "special-get-raises" false))) := by
  unfold prg fencedOpening topFrom
  rewrite [PySem.W.Fast.te14082659384304107361, PySem.W.Fast.te10274390034422433532, PySem.W.Fast.te14289696077712309145, PySem.W.Fast.te1435165496053646825, PySem.W.Fast.te14364793385576792824, PySem.W.Fast.te5923862056798008813, PySem.W.Fast.te12428993319455954715, PySem.W.Fast.te8920871248978507458]
  kernel_rfl
theorem run_yt (w : World) : (fencedOpening treeTable prg w 3610).map (fun s₀ => (topFrom treeTable prg (w.withFollow "special-get-raises" true) 3610 s₀).map (Hook.obs (kmHook hd.heap_39 asK asK_is [231, 252]))) = some (some (Hook.val (kmHook hd.heap_39 asK asK_is [231, 252]) (w.withFollow "special-get-raises" true))) := by
  unfold prg fencedOpening topFrom
  rewrite [PySem.W.Fast.te14082659384304107361, PySem.W.Fast.te10274390034422433532, PySem.W.Fast.te14289696077712309145, PySem.W.Fast.te1435165496053646825, PySem.W.Fast.te14364793385576792824, PySem.W.Fast.te5923862056798008813, PySem.W.Fast.te12428993319455954715, PySem.W.Fast.te8920871248978507458]
  kernel_rfl
theorem left_run : LeftO prg hd.view_39 [Str.ofString "TEXT_TYPES"] XtK (Hook.obs (kmHook hd.heap_39 asK asK_is [231, 252])) (Hook.val (kmHook hd.heap_39 asK asK_is [231, 252])) 3610 := left_rows "special-get-raises" run_sf run_st run_yf run_yt
set_option maxRecDepth 100000
set_option maxHeartbeats 800000
theorem top_off : True := by
  w_top off
  trivial

abbrev pr : Program := PySem.Challenge.pw_pf0383_01
noncomputable abbrev LW0 : List Str := looseW hd.view_39 [Str.ofString "TEXT_TYPES"]
noncomputable abbrev LW : List Str := LW0 ++ (recsOf hd.view_39).map (·.name) ++ (litsOf hd.view_39).map (·.1) ++ (clssOf hd.view_39 LW0).map (·.name)
theorem fillit : PySem.Challenge.rw_pf0383_01 = PySem.Challenge.rw_pf0383_01 ∧ hd.heap_39 = hd.heap_39 := by
  k_fill
  exact ⟨rfl, rfl⟩

@[reducible] def AR (D U : Nat) (outer : List Env) : Around := { handled := none, depth := D, frames := some outer, guards := none, units := U }

theorem wpAny_weaken {α : Type} {M : Model} {A : Around} {D U : Nat} {outer : List Env} {t : Sem α} {Q : α → Shared → Prop} {E : Value → Shared → Prop} {s : Shared}
    (h : wpAny M (AR D U outer) t Q E s) (h1 : A.handled = none) (h2 : A.frames = some outer) (h3 : A.depth ≤ D) (h4 : A.units ≤ U) : wpAny M A t Q E s := fun Γ p hΓ =>
  h Γ p ⟨hΓ.1.trans h1, Nat.le_trans hΓ.2.1 h3, fun l hl => hΓ.2.2.1 l (h2.trans hl), fun g hg => (nomatch hg), Nat.le_trans hΓ.2.2.2.2 h4⟩

def Keep (h h' : Heap) : Prop := ∀ b o, h.get? b = some o → h'.get? b = some o
theorem Keep.refl (h : Heap) : Keep h h := fun _ _ e => e
theorem Keep.trans {a b c : Heap} (x : Keep a b) (y : Keep b c) : Keep a c := fun _ _ e => y _ _ (x _ _ e)

def frs (l : List Env) : List Addr := l.filterMap (·.frame)
/-- the frames stand, but for their slots -/
def FrsKept (h : Heap) (l : List Env) (h' : Heap) : Prop := ∀ b ∈ frs l, ∀ o, h.get? b = some o → (∀ vs, o.data ≠ .fields vs) → ∃ sl, h'.get? b = some { o with slots := sl }
def Fly (h : Heap) (l : List Env) (e : Addr) (cls : Value) (h' : Heap) : Prop := (∃ a0, Heap.FlyingW (hideAll h (frs l)) l e cls a0 h') ∧ FrsKept h l h'

/-- a new exception object -/
structure NewX (h h' : Heap) (e : Addr) (cls : Value) : Prop where
  keeps : Keep h h'
  new : h.get? e = none
  there : ∃ ob t, h'.get? e = some ob ∧ ob.cls = cls ∧ ob.data = .fields #[t, .none, .none, .none, .bool false, .none]

theorem hideAll_stays {g h : Heap} {as bs : List Addr} (k : Keep g h) (hb : ∀ b ∈ bs, b ∈ as ∨ g.get? b = none) : (hideAll g as).StaysIn (hideAll h bs) := fun b o e => by
  have e1 := of_hideAll as e
  refine hideAll_get bs (k b o e1) fun hm => ?_
  rcases hb b hm with q | q
  · rw [hideAll_none as q] at e; cases e
  · rw [q] at e1; cases e1

section
variable {M : Model} {A : Around} {E : Value → Shared → Prop} {s' : Shared} {base g h : Heap} {outer : List Env} {L a e : Addr} {m : Str → Option Value} {name : Str} {scope : Scope} {cd : Value} {cl : List (Str × Addr)} {Q : Unit → Shared → Prop} {cls : Value}

theorem mem_frs {env : Env} {l : List Env} {b : Addr} (he : env ∈ l) (hf : env.frame = some b) : b ∈ frs l := List.mem_filterMap.mpr ⟨env, he, hf⟩

theorem leave_first (B : Below A base outer g) (F : Fr g L h m) (hx : NewX h s'.heap e cls)
    (hQ : ∀ h', Fly g outer e cls h' → Q () { s' with heap := h' }) (hk : scope.kind = .function := by rfl) :
    wpAny M (A.deeper (envX name scope L a cd cl)) (leaving (envX name scope L a cd cl) (.ref e)) Q E s' := by
  have gL := kts_self F
  have K' : Below (A.deeper (envX name scope L a cd cl)) base (envX name scope L a cd cl :: outer) h := by
    have hnew : base.get? L = none := fresh_of_stays B.stays gL
    refine ⟨Around.frames_deeper B.stack, fun b o e => F.keep b o (B.stays b o e), ?_⟩
    exact .cons (by show scope.kind ≠ .module; rw [hk]; decide) rfl F.ns hnew (B.frames.of_keeps fun b o e _ => ⟨o, F.keep b o e, rfl⟩)
  have hin : ∀ env ∈ (envX name scope L a cd cl :: outer), ∀ b, env.frame = some b → b ∈ frs (envX name scope L a cd cl :: outer) := fun env he b hb => mem_frs he hb
  obtain ⟨ob, tp, he, hcls, hd⟩ := hx.there
  have hen : (hideAll h (frs (envX name scope L a cd cl :: outer))).get? e = none := by
    cases q : (hideAll h (frs (envX name scope L a cd cl :: outer))).get? e with
    | none => rfl
    | some o => have := of_hideAll _ q; rw [hx.new] at this; cases this
  refine wpAny_leaving_firstW (a0 := tp) K'.stack ((funFrames_hide K'.frames hin).of_keeps fun b o hb _ => ⟨o, hx.keeps b o hb, rfl⟩) rfl he (fun b o hb => hx.keeps b o (of_hideAll _ hb)) hen hd rfl rfl fun h' hL => ?_
  obtain ⟨k1, ⟨_, _, k2⟩, k3, k4⟩ := hL
  refine hQ h' ⟨⟨tp, flyingW_base (hideAll_stays (fun b o q => F.keep b o q) fun b hb => ?_) ⟨k1, hen, k2, by rw [← hcls]; exact k3⟩⟩, fun b _ o e nf => k4 b o (hx.keeps b o (F.keep b o e)) nf⟩
  have hb' : b ∈ L :: frs outer := hb
  rcases List.mem_cons.mp hb' with rfl | q
  · exact .inr gL
  · exact .inl q

theorem leave_next (B : Below A base outer g) (F : Fr g L h m) (hx : Fly h (envX name scope L a cd cl :: outer) e cls s'.heap)
    (hQ : ∀ h', Fly g outer e cls h' → Q () { s' with heap := h' }) :
    wpAny M (A.deeper (envX name scope L a cd cl)) (leaving (envX name scope L a cd cl) (.ref e)) Q E s' := by
  have gL := kts_self F
  obtain ⟨⟨a0, hfl⟩, hkp⟩ := hx
  refine wpAny_leaves_onW (Around.frames_deeper B.stack) rfl hfl fun h' x1 x2 => hQ h' ⟨⟨a0, flyingW_base (hideAll_stays (fun b o q => F.keep b o q) fun b hb => ?_) x1⟩, fun b hb o e nf => ?_⟩
  rotate_left
  · obtain ⟨sl, e2⟩ := hkp b (List.mem_cons_of_mem _ hb) o (F.keep b o e) nf
    exact x2 b { o with slots := sl } e2 nf
  have hb' : b ∈ L :: frs outer := hb
  rcases List.mem_cons.mp hb' with rfl | q
  · exact .inr gL
  · exact .inl q
end

theorem enterP {w : World} {A : Around} {K : Frag} {s : Shared} (hide : List Addr) {qual name : Str} {params : Arguments} {body : List Stmt} {scope : Scope} {dV kV doc pm cdv ct oc : Value} {an od : Option Addr} {osl : Array (Option Value)} {f : Addr} {vs : List Value}
    {R : Result → Shared → Prop} {p : Program} {loose : List Str} {mean : ExcName → Option Value} {mg mb : Str → Option Value}
    (X : K.In (hideAll s.heap hide)) (T : Top p loose mean mg mb (hideAll s.heap hide)) (hroom : A.depth < recursionLimit)
    (ho : K.lookup f = some ⟨oc, od, .func (fnOf name qual params body scope dV kV doc pm an cdv ct), osl⟩) (hcd : codeIn K cdv qual = true)
    (hbind : BindsTo s (fnOf name qual params body scope dV kV doc pm an cdv ct) ⟨vs, []⟩ ((params.args.map (·.arg)).zip vs)) (hloc : ∀ y ∈ (params.args.map (·.arg)).zip vs, scope.names.lookup y.1 = some .local)
    (h : ∀ L h₁ tk, Fr (hideAll s.heap hide) L h₁ (fun y => ((params.args.map (·.arg)).zip vs).reverse.lookup y) → Keep s.heap h₁ → L = s.heap.objs.size →
      wpAny (model pr w) (A.deeper (envX qual scope L f cdv [])) (execs body (envX qual scope L f cdv [])) (fun fl s' => R (.ok (.ret (match fl with | .ret v => v | _ => .none))) s')
        (fun e s' => wpAny (model pr w) (A.deeper (envX qual scope L f cdv [])) (leaving (envX qual scope L f cdv []) e) (fun _ s'' => R (.error e) s'') (fun e' s'' => R (.error e') s'') s')
        { s with heap := h₁, toks := tk })
    (hco : scope.isCoroutine = false) (hgen : scope.isGenerator = false) (hk : scope.kind = .function)
    (hcell : ∀ x ∈ scope.names, x.2 ≠ .cell) : codeAny (model pr w) A (.call (.ref f) ⟨vs, []⟩) R s := by
  have kk : Keep (hideAll s.heap hide) s.heap := fun b o e => of_hideAll _ e
  refine codeAny_call_def (fd := fnOf name qual params body scope dV kV doc pm an cdv ct) (body := body) (binds := (params.args.map (·.arg)).zip vs) hroom (kk _ _ (X _ _ ho)) rfl (T.nolimit.keeps kk) (codeRec_of (X.keeps kk) hcd) rfl hbind hcell hloc (fun h₁ hns hk₁ => ?_) hco hgen hk
  exact h _ h₁ _ ⟨hns, fun b o e => hk₁ b o (kk b o e), Nat.le_of_eq (hideAll_size _ _)⟩ hk₁ rfl

theorem news_enter {s h₁ : Heap} {hide : List Addr} {L : Addr} {news : List (Addr × Obj)} (kp : Keep s h₁) (hL : L = s.objs.size) (hn : ∀ p ∈ news, s.get? p.1 = some p.2 ∧ p.1 ∈ hide) : News (hideAll s hide) L h₁ news := fun p hp =>
  ⟨kp _ _ (hn p hp).1, by rw [hL]; exact Nat.ne_of_lt (Heap.lt_size (hn p hp).1), hideAll_none _ (hn p hp).2⟩

/-- a pure call: what it gives back (post) or raises (xs) -/
def PT (w : World) (D U : Nat) (f : Addr) (vs : List Value) (pre : Heap → Prop) (post : Heap → Value → Prop) (xs : Value → Prop) : Prop :=
  ∀ (outer : List Env) (base : Heap) (s : Shared) (mean : ExcName → Option Value) (mg mb : Str → Option Value) (Q E : Value → Shared → Prop),
    Below (AR D U outer) base outer s.heap → Frag.In (hd.heap_39 w.params) s.heap → Top topProg LW mean mg mb s.heap → pre s.heap →
    (∀ v h' tk', Keep s.heap h' → post h' v → Q v { s with heap := h', toks := tk' }) →
    (∀ e cls h' tk', xs cls → Fly s.heap outer e cls h' → E (.ref e) { s with heap := h', toks := tk' }) →
    wpAny (model pr w) (AR D U outer) (call (.ref f) vs) Q E s

/-- a pure call seen from a frame that walks -/
theorem PT.use {w : World} {D U : Nat} {f : Addr} {vs : List Value} {pre : Heap → Prop} {post : Heap → Value → Prop} {xs : Value → Prop} (C : PT w D U f vs pre post xs)
    {A A₀ : Around} {base g : Heap} {outer : List Env} {env : Env} {L : Addr} {m : Str → Option Value} {news : List (Addr × Obj)} {s : Shared} {mean : ExcName → Option Value} {mg mb : Str → Option Value} {Q E : Value → Shared → Prop}
    (B : Below A₀ base outer g) (F : Fr g L s.heap m) (N : News g L s.heap news) (X : Frag.In (hd.heap_39 w.params) g) (T : Top topProg LW mean mg mb g)
    (hA : A.frames = some (env :: outer)) (hh : A.handled = none) (hf : env.frame = some L) (hk : env.scope.kind = .function) (hd : A.depth ≤ D) (hu : A.units ≤ U) (hp : pre s.heap)
    (ret : ∀ v h' tk', Fr g L h' m → News g L h' news → Keep s.heap h' → post h' v → Q v { s with heap := h', toks := tk' })
    (exc : ∀ e cls h' tk', xs cls → Fly s.heap (env :: outer) e cls h' → E (.ref e) { s with heap := h', toks := tk' }) :
    wpAny (model pr w) A (call (.ref f) vs) Q E s := by
  have gL := kts_self F
  refine wpAny_weaken (C (env :: outer) base s mean mg mb Q E ⟨rfl, fun b o e => F.keep b o (B.stays b o e), ?_⟩ (X.keeps F.keep) (T.keeps F.keep) hp (fun v h' tk' k p => ret v h' tk' ⟨?_, fun b o e => k _ _ (F.keep b o e), F.above⟩ (fun q hq => ⟨k _ _ (N q hq).1, (N q hq).2⟩) k p) exc) hh hA hd hu
  · have hnew : base.get? L = none := fresh_of_stays B.stays gL
    exact .cons (by rw [hk]; decide) hf F.ns hnew (B.frames.of_keeps fun b o e _ => ⟨o, F.keep b o e, rfl⟩)
  · exact F.ns.keeps k

section
variable {prog : Program} {w : World} {M : Model} {A : Around} {E : Value → Shared → Prop} {h : Heap} {g : Array GenState} {d : Drawn} {t : Nat} {os : OsState}
variable {nm q : Str} {C N : Addr} {bs bm : List Value} {hdct : Bool} {sn : List Str} {sub : List Value} {ab : Bool} {col : Option Bool} {dd : Option Addr} {k0 k1 k2 k3 k5 : Option Value}

theorem own_check_new {rest : List Value} {Q : Unit → Shared → Prop} (hcont : (Value.ref C :: bm).contains (.type "Exception") = true)
    (hC : h.get? C = some (excClassObj nm q C N bs bm hdct sn sub ab col dd k0 k1 k2 k3 k5 "Exception.__new__"))
    (hq : Q () ⟨h, g, d, t, os⟩) : wpAny M A (checkBuiltinCall "Exception.__new__" ⟨.ref C :: rest, []⟩) Q E ⟨h, g, d, t, os⟩ :=
  wpAny_check_new_subU PySem.F.excBase_Exception (by simpa using hcont) OwnTail.base hC hq

theorem own_new {rest : List Value} {R : Result → Shared → Prop} (hcB : (Value.ref C :: bm).contains (.type "Exception") = true)
    (hcA : (Value.ref C :: bm).contains (.type "AttributeError") = false) (hcN : (Value.ref C :: bm).contains (.type "NameError") = false)
    (hC : h.get? C = some (excClassObj nm q C N bs bm hdct sn sub ab col dd k0 k1 k2 k3 k5 "Exception.__new__"))
    (hq : R (.ok (.ret (.ref (h.objs.size + 1)))) ⟨(h.push { cls := .type "tuple", data := .seq rest.toArray }).push
      { cls := .ref C, data := .fields #[.ref h.objs.size, .none, .none, .none, .bool false, .none] }, g, d, t, os⟩) (hrest : rest.length ≤ sizeLine) :
    codeAny (model prog w) A (.builtin "Exception.__new__" ⟨.ref C :: rest, []⟩) R ⟨h, g, d, t, os⟩ := by
  have F := PySem.F.excBase_Exception
  have hends := F.ends
  refine codeAny_builtinAt F.entry ?_
  unfold Builtin.«BaseException.__new__»
  refine PySem.wpAt_bind ?_
  show PySem.wpAt _ _ _ (stack >>= _) _ _ _
  refine PySem.wpAt_bind (PySem.wpAt_stack fun p below => PySem.wpAt_of_wpAny ?_)
  wp_walk
  refine PySem.wpAt_of_wpAny ?_
  rw [F.owner]
  repeat (first | with_reducible refine wpAny_madeHere_exc F.canon hC ?_ | with_reducible refine wpAny_loadPart_at hC ?_ | (with_reducible refine wpAny_isSubtype_exc hC ?_; first | rw [hcB] | rw [hcA] | rw [hcN]) | wp_step)
  show R _ _
  rw [Heap.size_push]
  exact hq

theorem own_type_call {rest : List Value} {fI : Addr} {oI : Obj} {Q : Fin → Shared → Prop} (hcB : (Value.ref C :: bm).contains (.type "Exception") = true)
    (hcA : (Value.ref C :: bm).contains (.type "AttributeError") = false) (hcN : (Value.ref C :: bm).contains (.type "NameError") = false)
    (hC : h.get? C = some (excClassObj nm q C N bs bm hdct sn sub ab col dd k0 k1 k2 k3 k5 "Exception.__new__"))
    (hi : Looks (model prog w) h (typeLookup (.ref C) "__init__") (some (.ref fI)))
    (hfI : h.get? fI = some oI) (hfc : oI.cls = .type "function")
    (hq : ∀ h' e, Heap.MadeExcOf h h' e (.ref C) rest →
      wpAny (model prog w) A (call (.ref fI) (.ref e :: rest)) (fun r s' => r = .none ∧ Q (.done (.ret (.ref e))) s') E ⟨h', g, d, t, os⟩) (hrest : rest.length ≤ sizeLine) :
    wpAny (model prog w) A (Builtin.«type.__call__» ⟨.ref C :: rest, []⟩) Q E ⟨h, g, d, t, os⟩ := by
  have F := PySem.F.excBase_Exception
  repeat (first | with_reducible refine wpAny_loadPart_at hC ?_ | with_reducible refine wpAny_madeBy_exc hC ?_ | wp_step)
  refine codeAny_call_builtin_code (Code.quiet_builtin _ F.quiet) (own_check_new hcB hC ?_)
  refine own_new hcB hcA hcN hC ?_ hrest
  show wpAny _ _ _ _ _ _
  have kk : ∀ b o, h.get? b = some o → ((h.push { cls := .type "tuple", data := .seq rest.toArray }).push
      { cls := .ref C, data := .fields #[.ref h.objs.size, .none, .none, .none, .bool false, .none] }).get? b = some o := fun b o e => Heap.get?_push_of_some _ (Heap.get?_push_of_some _ e)
  have hC₁ := kk _ _ hC
  have hfI₁ := kk _ _ hfI
  have hi₁ := hi.keeps kk
  have hget : ((h.push { cls := .type "tuple", data := .seq rest.toArray }).push
      { cls := .ref C, data := .fields #[.ref h.objs.size, .none, .none, .none, .bool false, .none] }).get? (h.objs.size + 1) = some
      { cls := .ref C, data := .fields #[.ref h.objs.size, .none, .none, .none, .bool false, .none] } := by heap_get
  have hcC : (Value.ref C :: bm).contains (.ref C) = true := by simp
  unfold isInstance
  repeat (first | with_reducible refine wpAny_loadPart_at hget ?_ | (with_reducible refine wpAny_isSubtype_exc hC₁ ?_; rw [hcC]) | wp_step)
  show wpAny _ _ (typeLookup (.ref C) _) _ _ _
  refine hi₁.here ?_
  refine wpAny_holding (wpAny_bind ?_)
  unfold bindSpecial
  refine wpAny_bind (wpAny_typeOf (T := "function") ⟨_, hfI₁, hfc⟩ ?_)
  rw [if_pos (by decide)]
  refine wpAny_pure (wpAny_bind (wpAny_mono (hq _ (h.objs.size + 1) ⟨kk, Heap.get?_none_of_le (Nat.le_succ _), h.objs.size, hget, Heap.get?_none_of_le (Nat.le_refl _), ?_⟩) (fun r s' hr => ?_) fun _ _ x => x))
  · exact Heap.get?_push_of_some _ (Heap.get?_push_at rfl rfl)
  · obtain ⟨rfl, hQ⟩ := hr
    wp_walk
    exact hQ

theorem own_call {rest : List Value} {fI : Addr} {oI : Obj} {Q : Value → Shared → Prop} (hcB : (Value.ref C :: bm).contains (.type "Exception") = true)
    (hcA : (Value.ref C :: bm).contains (.type "AttributeError") = false) (hcN : (Value.ref C :: bm).contains (.type "NameError") = false)
    (hC : h.get? C = some (excClassObj nm q C N bs bm hdct sn sub ab col dd k0 k1 k2 k3 k5 "Exception.__new__"))
    (hi : Looks (model prog w) h (typeLookup (.ref C) "__init__") (some (.ref fI)))
    (hfI : h.get? fI = some oI) (hfc : oI.cls = .type "function")
    (hq : ∀ h' e, Heap.MadeExcOf h h' e (.ref C) rest →
      wpAny (model prog w) (A.under (.builtin "type.__call__" ⟨.ref C :: rest, []⟩)) (call (.ref fI) (.ref e :: rest)) (fun r s' => r = .none ∧ Q (.ref e) s') E ⟨h', g, d, t, os⟩) (hrest : rest.length ≤ sizeLine) :
    wpAny (model prog w) A (call (.ref C) rest) Q E ⟨h, g, d, t, os⟩ := by
  have f1 := tc_lookup
  have f2 := tc_bind (.ref C)
  have hT : (⟨h, g, d, t, os⟩ : Shared).TypeIs (.ref C) "type" := ⟨_, hC, rfl⟩
  refine wpAny_call (codeAny_of_tree ?_)
  show wpAny _ _ (callAny (.ref C) _) _ _ _
  repeat (any_goals (first | assumption | with_reducible refine wpAny_loadPart_at hC ?_ | wp_step))
  refine ⟨rfl, ?_⟩
  refine codeAny_call_builtin_at (Code.quiet_builtin _ (by decide +kernel)) entry_typeCall (wpAny_check_type_call_sub hC (own_type_call (hrest := hrest) hcB hcA hcN hC hi hfI hfc fun h' e hm => ?_))
  exact hq h' e hm
end

section
variable {prog : Program} {w : World} {M : Model} {A : Around} {E : Value → Shared → Prop} {h : Heap} {g : Array GenState} {d : Drawn} {t : Nat} {os : OsState}
variable {nm q : Str} {C N : Addr} {bs bm : List Value} {hdct : Bool} {sn : List Str} {sub : List Value} {ab : Bool} {col : Option Bool} {dd : Option Addr} {k0 k1 k2 k3 k5 : Option Value}

theorem own_check_init {rest : List Value} {e : Addr} {oe : Obj} {Q : Unit → Shared → Prop} (hcB : (Value.ref C :: bm).contains (.type "Exception") = true)
    (hC : h.get? C = some (excClassObj nm q C N bs bm hdct sn sub ab col dd k0 k1 k2 k3 k5 "Exception.__new__")) (he : h.get? e = some oe) (hcls : oe.cls = .ref C) (hq : Q () ⟨h, g, d, t, os⟩) :
    wpAny M A (checkBuiltinCall "Exception.__init__" ⟨.ref e :: rest, []⟩) Q E ⟨h, g, d, t, os⟩ := by
  have F := PySem.F.excBase_Exception
  have hshort := F.noStar
  simp only [checkBuiltinCall, F.initKind, F.initSplit, F.initRow]
  repeat (first | (with_reducible refine wpAny_loadPart_at he ?_; rw [hcls]) | with_reducible refine wpAny_loadPart_at hC ?_ | (with_reducible refine wpAny_isSubtype_exc hC ?_; rw [hcB]) | wp_step)
  refine wpAny_onRaise ?_
  rw [show ∀ (a b : String) (n : Nat), Bind.check ⟨.positional, "*", "Exception", .self, [⟨"args", .varPos, false⟩]⟩ a b n (List.map (fun x => x.fst) ({ pos := Value.ref e :: rest } : Args).kw) = pure () from
    fun a b n => check_star_args _ _ _ _ _ _]
  exact wpAny_pure hq

theorem own_init_call {rest : List Value} {e tp : Addr} {Q : Value → Shared → Prop} (hcB : (Value.ref C :: bm).contains (.type "Exception") = true)
    (hC : h.get? C = some (excClassObj nm q C N bs bm hdct sn sub ab col dd k0 k1 k2 k3 k5 "Exception.__new__"))
    (he : h.get? e = some { cls := .ref C, data := .fields #[.ref tp, .none, .none, .none, .bool false, .none] })
    (hq : ∀ h' t1, h'.get? e = some { cls := .ref C, data := .fields #[t1, .none, .none, .none, .bool false, .none] } → (∀ b o, b ≠ e → h.get? b = some o → h'.get? b = some o) → Q .none ⟨h', g, d, t, os⟩) (hrest : rest.length ≤ sizeLine) :
    wpAny (model prog w) A (call (.builtin "Exception.__init__") (.ref e :: rest)) Q E ⟨h, g, d, t, os⟩ := by
  have F := PySem.F.excBase_Exception
  refine wpAny_call (codeAny_call_builtin F.init.plain F.initEntry (own_check_init hcB hC he rfl ?_))
  have he' := Heap.get?_push_of_some { cls := .type "tuple", data := .seq rest.toArray } he
  wp_walk
  simp only []
  wp_walk
  refine hq _ (.ref h.objs.size) ?_ ?_
  · rw [Heap.get?_update_self _ he' rfl]; rfl
  · intro b o hb hbo
    exact (Heap.get?_update_ne _ _ _ _ hb).trans (Heap.get?_push_of_some _ hbo)

theorem own_check_sa {x : Addr} {o : Obj} {nameV v : Value} {Q : Unit → Shared → Prop} (hcO : (Value.ref C :: bm).contains (.type "object") = true)
    (hC : h.get? C = some (excClassObj nm q C N bs bm hdct sn sub ab col dd k0 k1 k2 k3 k5 "Exception.__new__")) (hx : h.get? x = some o) (hc : o.cls = .ref C) (hq : Q () ⟨h, g, d, t, os⟩) :
    wpAny M A (checkBuiltinCall "object.__setattr__" ⟨[.ref x, nameV, v], []⟩) Q E ⟨h, g, d, t, os⟩ := by
  have SF := PySem.F.store_Exception
  have ha := SF.args (.ref x) nameV v
  simp only [checkBuiltinCall, SF.kind, SF.split]
  refine wpAny_bind ?_
  unfold isInstance
  repeat (first | (with_reducible refine wpAny_loadPart_at hx ?_; rw [hc]) | (with_reducible refine wpAny_isSubtype_exc hC ?_; rw [hcO]) | wp_step)
  exact hq

theorem own_store {x : Addr} {o : Obj} {name : Str} {tk : Tok} {v : Value} {Q : PySem.Fin → Shared → Prop}
    (hpass : refuseLoop (.ref x) "__setattr__" (.ref C :: bm) = pure ())
    (hl : Looks (model prog w) h (typeLookup (.ref C) name) none)
    (hC : h.get? C = some (excClassObj nm q C N bs bm true sn sub ab col dd k0 k1 k2 k3 k5 "Exception.__new__")) (hx : h.get? x = some o) (hc : o.cls = .ref C) (hnc : ∀ c, o.data ≠ .cls c) (hdn : o.dict = none)
    (hq : ∀ h' tk' dx, h'.get? x = some { o with dict := some dx } → (∀ b ob, b ≠ x → h.get? b = some ob → h'.get? b = some ob) → Q (.done (.ret .none)) ⟨h', g, d, tk', os⟩) :
    wpAny (model prog w) A (Builtin.«object.__setattr__» ⟨[.ref x, .str name tk, v], []⟩) Q E ⟨h, g, d, t, os⟩ := by
  unfold Builtin.«object.__setattr__»
  repeat (first | rw [refuse_eq] | rw [hpass] | (with_reducible refine wpAny_loadPart_at hx ?_; rw [hc]) | with_reducible refine wpAny_mroOf_exc hC ?_ | with_reducible refine hl.here ?_ | wp_step)
  rw [hdn, if_neg (by simp [typeHasDict])]
  split
  · rename_i hcd
    cases hcd
  split
  · rename_i c hcd
    exact absurd hcd (hnc c)
  · have hx₁ : (h.push { cls := .type "dict", data := .dict #[] }).get? x = some o := Heap.get?_push_of_some _ hx
    have hxs : x ≠ h.objs.size := Nat.ne_of_lt (Heap.lt_size hx)
    refine wpAny_bind (wpAny_alloc' ?_)
    refine wpAny_bind (wpAny_update' hx₁ ?_)
    refine wpAny_pure ?_
    have hgd : ((h.push { cls := .type "dict", data := .dict #[] }).update x fun o => { cls := o.cls, dict := some h.objs.size, data := o.data, slots := o.slots }).get? h.objs.size
        = some { cls := .type "dict", data := .dict #[] } :=
      (Heap.get?_update_ne _ _ _ _ hxs.symm).trans (Heap.get?_push_at rfl rfl)
    have hnd : ((h.push { cls := .type "dict", data := .dict #[] }).update x fun o => { cls := o.cls, dict := some h.objs.size, data := o.data, slots := o.slots }).Ns h.objs.size (fun _ => none) :=
      ⟨_, #[], _, hgd, rfl, fun e he => absurd he (by simp), fun _ => rfl⟩
    show wpAny _ _ (Builtin.ObjectAttr.storeInDict h.objs.size (.str name tk) name v) _ _ _
    unfold Builtin.ObjectAttr.storeInDict Builtin.ObjectAttr.newKeyGuard
    refine wpAny_bind (wpAny_pure (wpAny_bind (wpAny_nsSet1 (Heap.Ns1.of_empty hnd) fun h' hn' hs => ?_)))
    obtain ⟨oD, esD, epD, hoD, hdD, hcD⟩ := hn'.count (Within.cons name v Within.nil)
    refine wpAny_bind (wpAny_lookBehind hoD (by rw [hdD]; exact pastItsLine_dict (Nat.le_trans hcD (by rw [List.length_cons, List.length_nil, sizeLine_eq]; omega))) ?_)
    wp_walk
    refine hq h' _ h.objs.size ((hs.2 x hxs).trans (Heap.get?_update_self _ hx₁ ?_)) fun b ob hbx hb => ?_
    · have hfr := (Heap.get?_some_iff.mp hx).2
      obtain ⟨oc, od, odt, osl⟩ := o
      cases odt <;> first | rfl | exact hfr
    · exact (hs.2 b (Nat.ne_of_lt (Heap.lt_size hb))).trans ((Heap.get?_update_ne _ _ _ _ hbx).trans (Heap.get?_push_of_some _ hb))

theorem own_setAttr {x : Addr} {o : Obj} {name : Str} {v : Value} {Q : Unit → Shared → Prop} (hcO : (Value.ref C :: bm).contains (.type "object") = true)
    (hpass : refuseLoop (.ref x) "__setattr__" (.ref C :: bm) = pure ())
    (hs : Looks (model prog w) h (typeLookup (.ref C) "__setattr__") (some (.builtin "object.__setattr__")))
    (hl : Looks (model prog w) h (typeLookup (.ref C) name) none)
    (hC : h.get? C = some (excClassObj nm q C N bs bm true sn sub ab col dd k0 k1 k2 k3 k5 "Exception.__new__")) (hx : h.get? x = some o) (hc : o.cls = .ref C) (hnc : ∀ c, o.data ≠ .cls c) (hdn : o.dict = none)
    (hq : ∀ h' tk' dx, h'.get? x = some { o with dict := some dx } → (∀ b ob, b ≠ x → h.get? b = some ob → h'.get? b = some ob) → Q () ⟨h', g, d, tk', os⟩) :
    wpAny (model prog w) A (setAttr (.ref x) name v) Q E ⟨h, g, d, t, os⟩ := by
  have SF := PySem.F.store_Exception
  have f3 := SF.slot.bind (.ref x)
  unfold setAttr callSpecial? specialOf
  repeat (any_goals (first | assumption | (with_reducible refine wpAny_loadPart_at hx ?_; rw [hc]) | with_reducible refine hs.here ?_ | wp_step))
  refine codeAny_call_builtin SF.slot.plain SF.entry (own_check_sa hcO hC hx hc (own_store hpass hl hC hx hc hnc hdn fun h' tk' dx k1 k2 => ?_))
  repeat (any_goals (first | assumption | wp_step))
  exact hq h' tk' dx k1 k2
end
local macro_rules | `(tactic| walk_at $s:str) => `(tactic| k_extra $s)

set_option pp.maxSteps 900

theorem rows_E6 : True := by
  w_top off
  k_with_none
  k_with "mine enter" => (refine wpAny_call ?_; k_dflt (refine' enterP [] ?kX ?kT ?kr ?ko ?kc ?kb ?kl ?_ ?c2 ?c3 ?c4 ?c5; (case kX => k_asm); (case kT => k_asm); (case kr => exact Nat.le_of_ble_eq_true rfl); (case ko => k_is); (case kc => k_is); (case kb => exact BindsTo.of_eq rfl); (case kl => exact locs rfl); (case c2 => exact rfl); (case c3 => exact rfl); (case c4 => exact rfl); (case c5 => decide); k_whole; intro L' h' tk' F' K' l1; (dsimp only [List.map, List.zip, List.zipWith, List.reverse, List.reverseAux] at F'); (have N' := news_enter (hide := []) (news := []) K' l1 (fun _ h => nomatch h)); (dsimp only [hideAll] at F' N'); (try dsimp only); (try k_fold)))
  k_with "exec Raise some none" => (refine raise_ex (w := w) rfl ?_)
  k_with "call ref" => ((with_reducible show wpAny _ _ (call (Value.ref 44) [Value.str _ _]) _ _ _); (with_reducible rename Fr _ _ _ _ => FF); refine mk_exc w (exc44 w) (X.keeps FF.keep) (T.keeps FF.keep) (by rw [depth_under_make]; exact Nat.le_of_ble_eq_true rfl) (fun e h2 tk2 hx => ?_))
  k_with "call ref" => ((with_reducible show wpAny _ _ (call (Value.ref 56) [Value.str _ _]) _ _ _); (with_reducible rename Fr _ _ _ _ => FF); refine mk_exc w (exc56 w) (X.keeps FF.keep) (T.keeps FF.keep) (by rw [depth_under_make]; exact Nat.le_of_ble_eq_true rfl) (fun e h2 tk2 hx => ?_))
  k_with "mine ret" => ((try dsimp only); (with_reducible rename Fr _ _ _ _ => FF); refine hret _ _ _ FF.keep ?_)
  k_with "Raised" => ((with_reducible rename Fr _ _ _ _ => FF); refine Raised.of (by first | exact exc44 w | exact exc56 w) (X.keeps FF.keep) hx ?_; (try dsimp only); (try k_unfold); refine leave_first B FF hx (fun h3 hfly => hexc _ _ _ _ ?_ hfly))
  k_with "subscriptTail" => ((with_reducible show wpAny _ _ (subscriptTail _ (Expr.Slice _ _ none _) (Value.bytes _ _) (Value.ref _)) _ _ _); (with_reducible rename Fr _ _ _ _ => FF); (with_reducible rename News _ _ _ _ => NN); (refine KBc.slice_K (s := ⟨_, _, _, _, _⟩) FF NN rfl (by constructor) (by constructor) ?hz ?_); (case hz => (rw [KBw.ints_length]; l_fact)); intro h2 t2' k2 F2 N2 _; (try simp only [hpick]))
  trivial

theorem frn_but {g h h' : Heap} {L e : Addr} {m : Str → Option Value} {o0 o' : Obj} (F : Fr g L h m) (N : News g L h [(e, o0)]) (k : ∀ b o, b ≠ e → h.get? b = some o → h'.get? b = some o) (he : h'.get? e = some o') :
    Fr g L h' m ∧ News g L h' [(e, o')] := by
  have z := N (e, o0) (List.mem_singleton.mpr rfl)
  refine ⟨⟨F.ns.at' fun o q => k L o (Ne.symm z.2.1) q, fun b o q => k b o (fun w => ?_) (F.keep b o q), F.above⟩, fun p hp => ?_⟩
  · subst w; have := z.2.2; rw [q] at this; cases this
  · rw [List.mem_singleton.mp hp]; exact ⟨he, z.2⟩

abbrev excBm : List Value := [.ref 31, .type "Exception", .type "BaseException", .type "object"]
theorem exc_pass (self : Value) (C : Addr) : refuseLoop self "__setattr__" (.ref C :: excBm) = pure () := by
  rw [refuseLoop_ref, refuseLoop_ref]
  exact PySem.F.store_Exception.passes self
theorem hasE (C : Addr) : (Value.ref C :: excBm).contains (.type "Exception") = true := by
  rw [List.contains_cons]; simp [excBm]
theorem hasO (C : Addr) : (Value.ref C :: excBm).contains (.type "object") = true := by
  rw [List.contains_cons]; simp [excBm]
theorem hasB (C : Addr) : (Value.ref C :: excBm).contains (.type "BaseException") = true := by
  rw [List.contains_cons]; simp [excBm]
theorem noA (C : Addr) : (Value.ref C :: excBm).contains (.type "AttributeError") = false := by
  rw [List.contains_cons]; simp [excBm]
theorem noN (C : Addr) : (Value.ref C :: excBm).contains (.type "NameError") = false := by
  rw [List.contains_cons]; simp [excBm]

/-- what is asked of FormError and SizeError -/
structure ExcIs (w : World) (C : Addr) : Prop where
  cls : ∃ nm q N bs sn sub ab col dd k0 k1 k2 k3 k5, (hd.heap_39 w.params).lookup C = some (excClassObj nm q C N bs excBm true sn sub ab col dd k0 k1 k2 k3 k5 "Exception.__new__")
  set : findIn (hd.heap_39 w.params) (.ref C) "__setattr__" = some (some (.builtin "object.__setattr__"))
  msg : findIn (hd.heap_39 w.params) (.ref C) "message" = some none
  init : findIn (hd.heap_39 w.params) (.ref C) "__init__" = some (some (.ref 28))

theorem exc44 (w : World) : ExcIs w 44 := by
  refine' ⟨⟨Str.ofString "FormError", Str.ofString "FormError", 43, [.ref 31], [], [], false, none, none, some (.ref 35), none, some (.str (Str.ofString "FormError") 218), some (.str (Str.ofString "FormError") 226), some (.bool true), ?a⟩, ?b, ?c, ?d⟩
  (case a => k_is)
  (case b => k_is)
  (case c => k_is)
  (case d => k_is)
theorem exc56 (w : World) : ExcIs w 56 := by
  refine' ⟨⟨Str.ofString "SizeError", Str.ofString "SizeError", 55, [.ref 31], [], [], false, none, none, some (.ref 47), none, some (.str (Str.ofString "SizeError") 234), some (.str (Str.ofString "SizeError") 242), some (.bool true), ?a⟩, ?b, ?c, ?d⟩
  (case a => k_is)
  (case b => k_is)
  (case c => k_is)
  (case d => k_is)

theorem isType_Exception : typeOf (.type "Exception") = pure (.type "type") := by first | rfl | kernel_rfl

theorem init28 (w : World) {A : Around} {s : Shared} {C e tp : Addr} {msg : Str} {t : Tok} {mean : ExcName → Option Value} {mg mb : Str → Option Value} {Q E : Value → Shared → Prop} (W : ExcIs w C)
    (X : Frag.In (hd.heap_39 w.params) (hideAll s.heap [e])) (T : Top topProg LW mean mg mb (hideAll s.heap [e])) (hroom : A.depth < recursionLimit)
    (he : s.heap.get? e = some { cls := .ref C, data := .fields #[.ref tp, .none, .none, .none, .bool false, .none] })
    (hq : ∀ h' tk', (∀ b o, b ≠ e → s.heap.get? b = some o → h'.get? b = some o) → (∃ ob t1, h'.get? e = some ob ∧ ob.cls = .ref C ∧ ob.data = .fields #[t1, .none, .none, .none, .bool false, .none]) → Q .none { s with heap := h', toks := tk' }) :
    wpAny (model pr w) A (call (.ref 28) [.ref e, .str msg t]) Q E s := by
  obtain ⟨⟨nm, q, N, bs, sn, sub, ab, col, dd, k0, k1, k2, k3, k5, hC⟩, hset, hmsg, hini⟩ := W
  refine wpAny_call ?_
  refine enterP (vs := [.ref e, .str msg t]) [e] X T hroom (by k_is) (by k_is) (BindsTo.of_eq rfl) (locs rfl) ?_ rfl rfl rfl (by decide)
  intro L h₁ tk F KP hL
  dsimp only [List.map, List.zip, List.zipWith, List.reverse, List.reverseAux] at F
  have N₁ := news_enter (hide := [e]) (news := [(e, { cls := .ref C, data := .fields #[.ref tp, .none, .none, .none, .bool false, .none] })]) KP hL (fun p hp => by rw [List.mem_singleton.mp hp]; exact ⟨he, List.mem_singleton.mpr rfl⟩)
  generalize hg : hideAll s.heap [e] = g at X T F N₁
  (try dsimp only)
  try k_fold
  k_with "getMethod type:Exception" => (refine' method_type ?F ?X isType_Exception (by decide +kernel) ?e ?h ?_; (case F => k_asm); (case X => k_asm); (case e => k_dflt k_is); (case h => k_handed))
  k_with "call builtin:Exception.__init__" => ((rename Fr _ _ _ _ => FF); (rename News _ _ _ _ => NN); refine own_init_call (hasE _) (X.keeps FF.keep _ _ hC) (NN _ (List.mem_singleton.mpr rfl)).1 (fun h2 t2 k1 k2 => ?_) (Nat.le_of_ble_eq_true rfl); obtain ⟨F2, N2⟩ := frn_but FF NN k2 k1)
  k_with "setAttr ref" => ((rename Fr _ _ _ _ => FF); (rename News _ _ _ _ => NN); refine own_setAttr (hasO _) (exc_pass _ _) (looks_findIn (X.keeps FF.keep) hset) (looks_findIn (X.keeps FF.keep) hmsg) (X.keeps FF.keep _ _ hC) (NN _ (List.mem_singleton.mpr rfl)).1 rfl (fun _ q => nomatch q) rfl (fun h2 tk2 dx k1 k2 => ?_); obtain ⟨F2, N2⟩ := frn_but FF NN k2 k1)
  k_steps
  rename Fr _ _ _ _ => F3
  exact hq _ _ (fun b o hb q => F3.keep b o (hg ▸ hideAll_get [e] q (by simpa using hb))) ⟨_, _, k1, rfl, rfl⟩

theorem mk_exc (w : World) {A : Around} {s : Shared} {C : Addr} {msg : Str} {t : Tok} {mean : ExcName → Option Value} {mg mb : Str → Option Value} {Q E : Value → Shared → Prop} (W : ExcIs w C)
    (X : Frag.In (hd.heap_39 w.params) s.heap) (T : Top topProg LW mean mg mb s.heap) (hroom : (A.under (.builtin "type.__call__" ⟨.ref C :: [.str msg t], []⟩)).depth < recursionLimit)
    (hQ : ∀ e h' tk', NewX s.heap h' e (.ref C) → Q (.ref e) { s with heap := h', toks := tk' }) :
    wpAny (model pr w) A (call (.ref C) [.str msg t]) Q E s := by
  obtain ⟨⟨nm, q, N, bs, sn, sub, ab, col, dd, k0, k1, k2, k3, k5, hC⟩, hset, hmsg, hini⟩ := id W
  obtain ⟨h, g, d, tk, os⟩ := s
  have hf : ((hd.heap_39 w.params).lookup 28).map (·.cls) = some (.type "function") := by first | kernel_rfl | rfl
  obtain ⟨oI, hI, hIc⟩ := Option.map_eq_some_iff.mp hf
  refine own_call (hasE C) (noA C) (noN C) (X _ _ hC) (looks_findIn X hini) (X _ _ hI) hIc (fun h' e hm => ?_) (Nat.le_of_ble_eq_true rfl)
  have kk : Keep h (hideAll h' [e]) := fun b o q => hideAll_get [e] (hm.keeps b o q) fun z => by
    rw [List.mem_singleton.mp z, hm.new] at q; cases q
  obtain ⟨tp, he, _⟩ := hm.there
  refine init28 w W (X.keeps kk) (T.keeps kk) hroom he fun h2 tk2 k1 k2 => ⟨rfl, hQ e h2 tk2 ⟨fun b o q => k1 b o (fun z => ?_) (hm.keeps b o q), hm.new, k2⟩⟩
  rw [z, hm.new] at q; cases q

def Raised (w : World) (E : Value → Shared → Prop) (v : Value) (s₁ : Shared) : Prop :=
  ∃ e C ob t1, v = .ref e ∧ ExcIs w C ∧ Frag.In (hd.heap_39 w.params) s₁.heap ∧ s₁.heap.get? e = some ob ∧ ob.cls = .ref C ∧ ob.data = .fields #[t1, .none, .none, .none, .bool false, .none] ∧ E (.ref e) s₁
theorem Raised.of {w : World} {E : Value → Shared → Prop} {s₁ : Shared} {h : Heap} {e C : Addr} (W : ExcIs w C) (X : Frag.In (hd.heap_39 w.params) h) (hx : NewX h s₁.heap e (.ref C)) (hE : E (.ref e) s₁) : Raised w E (.ref e) s₁ := by
  obtain ⟨ob, t1, ho, hc, hdt⟩ := hx.there
  exact ⟨e, C, ob, t1, rfl, W, X.keeps hx.keeps, ho, hc, hdt, hE⟩

theorem own_raiseStmt {M : Model} {A : Around} {env : Env} {E : Value → Shared → Prop} {s : Shared} {x : Sem Value} {Q : Flow → Shared → Prop} {w : World} (hh : A.handled = none)
    (h : wpAny M A x (Raised w E) E s) :
    wpAny M A (raiseStmt env (some x) none) Q E s := by
  unfold raiseStmt
  refine wpAny_bind (wpAny_mono h (fun v s₁ h₁ => ?_) fun _ _ x => x)
  obtain ⟨e, C, ob, t1, rfl, W, X, he, hcls, hdt, hE⟩ := h₁
  obtain ⟨⟨nm, q, N, bs, sn, sub, ab, col, dd, k0, k1, k2, k3, k5, hC⟩, _⟩ := W
  have hC' := X _ _ hC
  obtain ⟨hp, g, d, tk, os⟩ := s₁
  obtain ⟨oc, od, odt, osl⟩ := ob
  dsimp only at hcls hdt
  subst hcls hdt
  repeat (first | with_reducible refine wpAny_loadPart_at he ?_ | with_reducible refine wpAny_loadPart_at hC' ?_ | (with_reducible refine wpAny_isSubtype_exc hC' ?_; rw [hasB]) | wp_step)
  exact wpAny_raiseNew_none hh hE

theorem raise_ex {M : Model} {A : Around} {env : Env} {E : Value → Shared → Prop} {s : Shared} {x : Expr} {pos : Pos} {Q : Flow → Shared → Prop} {w : World} (hh : A.handled = none)
    (h : wpAny M A (eval x env) (Raised w E) E s) :
    wpAny M A (exec (.Raise (some x) none pos) env) Q E s := by
  rw [arm_exec_Raise]
  exact wpAny_bind (wpAny_standAt (own_raiseStmt hh (wpAny_bind (wpAny_mono h (fun v s₁ h₁ => wpAny_bind (wpAny_standAt (wpAny_pure h₁))) fun _ _ x => x))))

theorem rows_A1 : True := by
  w_top off
  k_with_none
  k_with "mine enter" => (refine wpAny_call ?_; k_dflt (refine' enterP [] ?kX ?kT ?kr ?ko ?kc ?kb ?kl ?_ ?c2 ?c3 ?c4 ?c5; (case kX => k_asm); (case kT => k_asm); (case kr => exact Nat.le_of_ble_eq_true rfl); (case ko => k_is); (case kc => k_is); (case kb => exact BindsTo.of_eq rfl); (case kl => exact locs rfl); (case c2 => exact rfl); (case c3 => exact rfl); (case c4 => exact rfl); (case c5 => decide); k_whole; intro L' h' tk' F' K' l1; (dsimp only [List.map, List.zip, List.zipWith, List.reverse, List.reverseAux] at F'); (have N' := news_enter (hide := []) (news := []) K' l1 (fun _ h => nomatch h)); (dsimp only [hideAll] at F' N'); (try dsimp only); (try k_fold)))
  k_with "exec Raise some none" => (refine raise_ex (w := w) rfl ?_)
  k_with "call ref" => ((with_reducible show wpAny _ _ (call (Value.ref 44) [Value.str _ _]) _ _ _); (with_reducible rename Fr _ _ _ _ => FF); refine mk_exc w (exc44 w) (X.keeps FF.keep) (T.keeps FF.keep) (by rw [depth_under_make]; exact Nat.le_of_ble_eq_true rfl) (fun e h2 tk2 hx => ?_))
  k_with "call ref" => ((with_reducible show wpAny _ _ (call (Value.ref 56) [Value.str _ _]) _ _ _); (with_reducible rename Fr _ _ _ _ => FF); refine mk_exc w (exc56 w) (X.keeps FF.keep) (T.keeps FF.keep) (by rw [depth_under_make]; exact Nat.le_of_ble_eq_true rfl) (fun e h2 tk2 hx => ?_))
  k_with "mine ret" => ((try dsimp only); (with_reducible rename Fr _ _ _ _ => FF); refine hret _ _ _ FF.keep ?_)
  k_with "Raised" => ((with_reducible rename Fr _ _ _ _ => FF); refine Raised.of (by first | exact exc44 w | exact exc56 w) (X.keeps FF.keep) hx ?_; (try dsimp only); (try k_unfold); refine leave_first B FF hx (fun h3 hfly => hexc _ _ _ _ ?_ hfly))
  k_with "subscriptTail" => ((with_reducible show wpAny _ _ (subscriptTail _ (Expr.Slice _ _ none _) (Value.bytes _ _) (Value.ref _)) _ _ _); (with_reducible rename Fr _ _ _ _ => FF); (with_reducible rename News _ _ _ _ => NN); (refine KBc.slice_K (s := ⟨_, _, _, _, _⟩) FF NN rfl (by constructor) (by constructor) ?hz ?_); (case hz => (rw [KBw.ints_length]; l_fact)); intro h2 t2' k2 F2 N2 _; (try simp only [hpick]))
  trivial

theorem bitOr_nat (a b : Nat) : Builtin.bitOr (a : Int) (b : Int) = ((a ||| b : Nat) : Int) := by
  have hn : ∀ x : Nat, Builtin.bitNot (x : Int) = Int.negSucc x := fun x => by unfold Builtin.bitNot; omega
  have hm : ∀ x : Nat, (Builtin.bitNot (Int.negSucc x)) = (x : Int) := fun x => by unfold Builtin.bitNot; omega
  unfold Builtin.bitOr Builtin.bitAnd
  rw [hn, hn, hm, hm]
  have e : ∀ x : Nat, decide (Int.negSucc x ≥ 0) = false := fun x => by simp
  simp
  rw [hn, hm]
theorem or8 {a b : Int} (h0 : 0 ≤ a) (h1 : 0 ≤ b) (h2 : b < 256) : Builtin.bitOr (a * 256) b = a * 256 + b := by
  obtain ⟨n, rfl⟩ := Int.eq_ofNat_of_zero_le h0
  obtain ⟨k, rfl⟩ := Int.eq_ofNat_of_zero_le h1
  have : ((n : Int) * 256) = ((n * 256 : Nat) : Int) := by omega
  rw [this, bitOr_nat]
  have h3 := Nat.shiftLeft_add_eq_or_of_lt (i := 8) (show k < 2 ^ 8 by omega) n
  rw [Nat.shiftLeft_eq] at h3
  have h4 : n * 256 ||| k = n * 256 + k := h3.symm
  rw [h4]; omega
section
variable {prog : Program} {w : World} {A : Around} {E : Value → Shared → Prop} {s : Shared}
theorem lsh8 {a : Int} {t u : Tok} {Q : Value → Shared → Prop} (h0 : 0 ≤ a) (h1 : a < 72057594037927936) (h : Q (.int (a * 256) s.toks) { s with toks := s.toks + 1 }) : wpAny (model prog w) A (binaryOp .LShift (.int a t) (.int 8 u)) Q E s := by
  refine lshift_int (by decide) ?_ h
  have := PySem.intBits_le_64 (k := a) (by omega) (by omega)
  omega
theorem bor8 {a b : Int} {t u : Tok} {Q : Value → Shared → Prop} (h0 : 0 ≤ a) (h1 : 0 ≤ b) (h2 : b < 256) (h : Q (.int (a * 256 + b) s.toks) { s with toks := s.toks + 1 }) : wpAny (model prog w) A (binaryOp .BitOr (.int (a * 256) t) (.int b u)) Q E s :=
  or_int (by rw [or8 h0 h1 h2]; exact h)
end
theorem picked_ext (b : Array UInt8) (lo hi : Option Int) : KBy.picked b lo hi = b.extract (lo.elim 0 (clipAt b.size)) (hi.elim b.size (clipAt b.size)) := by
  rw [KBc.picked_eq]
  apply Array.ext'
  rw [Array.toList_extract]
  try simp [List.extract]
theorem clip_nat (n : Nat) {i : Int} (h0 : 0 ≤ i) (h1 : i ≤ n) : clipAt n i = i.toNat := by
  have := clipAt_cast n i
  rw [if_neg (by omega)] at this
  omega
def by2 (b : Array UInt8) (i : Nat) : Nat := (b.getD i 0).toNat * 256 + (b.getD (i + 1) 0).toNat
def by4 (b : Array UInt8) (i : Nat) : Nat := (((b.getD i 0).toNat * 256 + (b.getD (i + 1) 0).toNat) * 256 + (b.getD (i + 2) 0).toNat) * 256 + (b.getD (i + 3) 0).toNat
theorem pick2 {b : Array UInt8} {i : Int} (h0 : 0 ≤ i) (h1 : i + 2 ≤ b.size) : KBy.picked b (some i) (some (i + 2)) = #[b.getD i.toNat 0, b.getD (i.toNat + 1) 0] := by
  rw [picked_ext]
  show b.extract (clipAt b.size i) (clipAt b.size (i + 2)) = _
  rw [clip_nat _ h0 (by omega), clip_nat _ (by omega) h1]
  apply Array.ext
  · rw [Array.size_extract]; simp; omega
  · intro j h1 h2
    have : j = 0 ∨ j = 1 := by simp at h2; omega
    rcases this with rfl | rfl <;> simp [Array.getD] <;> omega
theorem pick4 {b : Array UInt8} {i : Int} (h0 : 0 ≤ i) (h1 : i + 4 ≤ b.size) : KBy.picked b (some i) (some (i + 4)) = #[b.getD i.toNat 0, b.getD (i.toNat + 1) 0, b.getD (i.toNat + 2) 0, b.getD (i.toNat + 3) 0] := by
  rw [picked_ext]
  show b.extract (clipAt b.size i) (clipAt b.size (i + 4)) = _
  rw [clip_nat _ h0 (by omega), clip_nat _ (by omega) h1]
  apply Array.ext
  · rw [Array.size_extract]; simp; omega
  · intro j h1 h2
    have : j = 0 ∨ j = 1 ∨ j = 2 ∨ j = 3 := by simp at h2; omega
    rcases this with rfl | rfl | rfl | rfl <;> simp [Array.getD] <;> omega

theorem rows_B1 : True := by
  w_top off
  k_with_none
  k_with "mine enter" => (refine wpAny_call ?_; k_dflt (refine' enterP [] ?kX ?kT ?kr ?ko ?kc ?kb ?kl ?_ ?c2 ?c3 ?c4 ?c5; (case kX => k_asm); (case kT => k_asm); (case kr => exact Nat.le_of_ble_eq_true rfl); (case ko => k_is); (case kc => k_is); (case kb => exact BindsTo.of_eq rfl); (case kl => exact locs rfl); (case c2 => exact rfl); (case c3 => exact rfl); (case c4 => exact rfl); (case c5 => decide); k_whole; intro L' h' tk' F' K' l1; (dsimp only [List.map, List.zip, List.zipWith, List.reverse, List.reverseAux] at F'); (have N' := news_enter (hide := []) (news := []) K' l1 (fun _ h => nomatch h)); (dsimp only [hideAll] at F' N'); (try dsimp only); (try k_fold)))
  k_with "exec Raise some none" => (refine raise_ex (w := w) rfl ?_)
  k_with "call ref" => ((with_reducible show wpAny _ _ (call (Value.ref 44) [Value.str _ _]) _ _ _); (with_reducible rename Fr _ _ _ _ => FF); refine mk_exc w (exc44 w) (X.keeps FF.keep) (T.keeps FF.keep) (by rw [depth_under_make]; exact Nat.le_of_ble_eq_true rfl) (fun e h2 tk2 hx => ?_))
  k_with "call ref" => ((with_reducible show wpAny _ _ (call (Value.ref 56) [Value.str _ _]) _ _ _); (with_reducible rename Fr _ _ _ _ => FF); refine mk_exc w (exc56 w) (X.keeps FF.keep) (T.keeps FF.keep) (by rw [depth_under_make]; exact Nat.le_of_ble_eq_true rfl) (fun e h2 tk2 hx => ?_))
  k_with "mine ret" => ((try dsimp only); (with_reducible rename Fr _ _ _ _ => FF); refine hret _ _ _ FF.keep ?_)
  k_with "Raised" => ((with_reducible rename Fr _ _ _ _ => FF); refine Raised.of (by first | exact exc44 w | exact exc56 w) (X.keeps FF.keep) hx ?_; (try dsimp only); (try k_unfold); refine leave_first B FF hx (fun h3 hfly => hexc _ _ _ _ ?_ hfly))
  k_with "subscriptTail" => ((with_reducible show wpAny _ _ (subscriptTail _ (Expr.Slice _ _ none _) (Value.bytes _ _) (Value.ref _)) _ _ _); (with_reducible rename Fr _ _ _ _ => FF); (with_reducible rename News _ _ _ _ => NN); (refine KBc.slice_K (s := ⟨_, _, _, _, _⟩) FF NN rfl (by constructor) (by constructor) ?hz ?_); (case hz => (rw [KBw.ints_length]; l_fact)); intro h2 t2' k2 F2 N2 _; (try simp only [hpick]))
  trivial

open PySem.F in
theorem bytes_count {prog : Program} {w : World} {A : Around} {s : Shared} {Q E : Value → Shared → Prop} {n : Int} {t : Tok} (h0 : 0 ≤ n) (h1 : n ≤ 1048576)
  (hQ : ∀ t' k, Q (.bytes (Array.replicate n.toNat 0) t') { s with toks := k }) :
  wpAny (model prog w) A (call (.type "bytes") [.int n t]) Q E s := by
  refine callType_codes (Q₁ := fun obj s₁ => s₁.TypeIs obj "bytes" ∧ Q obj s₁) F.bm_called (F.bm_typeCall _) F.entry_object_init
    ?_ fun obj s₁ h₁ => ⟨h₁.1, F.args_object_init_2 obj _, object_init_meets F.bm_called.init.lookup F.bm_called.made (by decide) prog w A.in1 _ s₁ ⟨h₁.1, rfl, h₁.2⟩⟩
  refine codeAny_of_tree ?_
  show wpAny _ A.in1.in1 (do checkBuiltinCall "bytes.__new__" ⟨[.type "bytes", .int n t], []⟩; again (.builtin "bytes.__new__" ⟨[.type "bytes", .int n t], []⟩)) _ _ s
  refine wpAny_bind (wpAny_of_eq (F.bm_newCall _) (wpAny_pure ⟨plainId_quiet F.bm_plain _, codeAny_builtin F.bm_entry ?_⟩))
  rw [Around.under_plainId F.bm_plain _]
  have e1 : specialOf (.int n t) "__bytes__" = pure none := by
    show typeLookup (.type "int") "__bytes__" = pure none
    rw [typeLookup_type, builtinLookup_eq_fast]; kernel_rfl
  have e2 : specialOf (.int n t) "__index__" = pure (some (.builtin "int.__index__")) := by
    show typeLookup (.type "int") "__index__" = _
    rw [typeLookup_type, builtinLookup_eq_fast]; kernel_rfl
  unfold Builtin.«bytes.__new__»
  refine wpAny_bind (wpAny_of_eq (a := true) rfl ?_)
  refine bm_if_false rfl ?_
  refine wpAny_bind (wpAny_of_eq F.bm_sub ?_)
  refine bm_if_false rfl ?_
  refine wpAny_bind (wpAny_of_eq (F.bm_bind _) ?_)
  refine wpAny_bind (wpAny_of_eq (a := ()) rfl ?_)
  refine wpAny_bind (wpAny_of_eq (a := ()) rfl ?_)
  refine bm_if_false rfl ?_
  refine wpAny_bind (wpAny_of_eq e1 ?_)
  refine wpAny_bind (wpAny_of_eq (a := false) rfl ?_)
  refine bm_if_false rfl ?_
  refine wpAny_bind (wpAny_of_eq e2 ?_)
  refine bm_if_false rfl ?_
  refine wpAny_bind (wpAny_of_eq (a := .ok n) rfl ?_)
  have f1 : Builtin.Bytes.fitsIndex n = true := by
    simp only [Builtin.Bytes.fitsIndex, Bool.and_eq_true, decide_eq_true_eq]
    omega
  have f2 : Builtin.Bytes.tooLong n.toNat = false := KBy.tooLong_not (by omega)
  dsimp only
  refine bm_if_false (by rw [f1]; rfl) ?_
  rw [if_neg (show ¬ n < 0 by omega), if_neg (show ¬ n > 2 ^ 63 - 34 by omega)]
  refine bm_if_false f2 ?_
  refine wpAny_bind (wpAny_rule ?_)
  have f3 : mkBytes (Array.replicate n.toNat 0) = (do return .bytes (Array.replicate n.toNat 0) (← fresh)) := by
    unfold mkBytes
    rw [if_neg (by rw [Array.size_replicate, sizeLine_eq]; omega)]
  rw [f3]
  refine wpAny_bind (wpAny_bind (wpAny_fresh ?_))
  refine wpAny_pure (wpAny_of_eq (a := .done (.ret (.bytes (Array.replicate n.toNat 0) s.toks))) (by first | rfl | kernel_rfl) ?_)
  exact ⟨PySem.W.typeIs_bytes _ _ _, hQ _ _⟩

theorem rows_C3 : True := by
  w_top off
  k_with_none
  k_with "mine enter" => (refine wpAny_call ?_; k_dflt (refine' enterP [] ?kX ?kT ?kr ?ko ?kc ?kb ?kl ?_ ?c2 ?c3 ?c4 ?c5; (case kX => k_asm); (case kT => k_asm); (case kr => exact Nat.le_of_ble_eq_true rfl); (case ko => k_is); (case kc => k_is); (case kb => exact BindsTo.of_eq rfl); (case kl => exact locs rfl); (case c2 => exact rfl); (case c3 => exact rfl); (case c4 => exact rfl); (case c5 => decide); k_whole; intro L' h' tk' F' K' l1; (dsimp only [List.map, List.zip, List.zipWith, List.reverse, List.reverseAux] at F'); (have N' := news_enter (hide := []) (news := []) K' l1 (fun _ h => nomatch h)); (dsimp only [hideAll] at F' N'); (try dsimp only); (try k_fold)))
  k_with "exec Raise some none" => (refine raise_ex (w := w) rfl ?_)
  k_with "call ref" => ((with_reducible show wpAny _ _ (call (Value.ref 44) [Value.str _ _]) _ _ _); (with_reducible rename Fr _ _ _ _ => FF); refine mk_exc w (exc44 w) (X.keeps FF.keep) (T.keeps FF.keep) (by rw [depth_under_make]; exact Nat.le_of_ble_eq_true rfl) (fun e h2 tk2 hx => ?_))
  k_with "call ref" => ((with_reducible show wpAny _ _ (call (Value.ref 56) [Value.str _ _]) _ _ _); (with_reducible rename Fr _ _ _ _ => FF); refine mk_exc w (exc56 w) (X.keeps FF.keep) (T.keeps FF.keep) (by rw [depth_under_make]; exact Nat.le_of_ble_eq_true rfl) (fun e h2 tk2 hx => ?_))
  k_with "mine ret" => ((try dsimp only); (with_reducible rename Fr _ _ _ _ => FF); refine hret _ _ _ FF.keep ?_)
  k_with "Raised" => ((with_reducible rename Fr _ _ _ _ => FF); refine Raised.of (by first | exact exc44 w | exact exc56 w) (X.keeps FF.keep) hx ?_; (try dsimp only); (try k_unfold); refine leave_first B FF hx (fun h3 hfly => hexc _ _ _ _ ?_ hfly))
  k_with "subscriptTail" => ((with_reducible show wpAny _ _ (subscriptTail _ (Expr.Slice _ _ none _) (Value.bytes _ _) (Value.ref _)) _ _ _); (with_reducible rename Fr _ _ _ _ => FF); (with_reducible rename News _ _ _ _ => NN); (refine KBc.slice_K (s := ⟨_, _, _, _, _⟩) FF NN rfl (by constructor) (by constructor) ?hz ?_); (case hz => (rw [KBw.ints_length]; l_fact)); intro h2 t2' k2 F2 N2 _; (try simp only [hpick]))
  trivial

theorem rows_get : True := by
  k_with "exec For Name Subscript cons nil" => ((rename Fr _ _ _ _ => lF); (with_unfolding_all refine' For_invVF lF ?k1 ?k2 ?_; (case k1 => exact rfl); (case k2 => exact rfl); k_whole))
  k_with "pyIter bytes" => (refine' iter_bytesUnr (l := [_, _]) ?ka ?kF ?kN ?kd ?_; (case ka => rfl); (case kF => k_asm); (case kN => k_asm); (case kd => rfl); intro _ _)
  k_with "pyIter bytes" => (refine' iter_bytesUnr (l := [_, _, _, _]) ?ka ?kF ?kN ?kd ?_; (case ka => rfl); (case kF => k_asm); (case kN => k_asm); (case kd => rfl); intro _ _)
  k_with "BytesRest" => (with_unfolding_all (refine BytesRest.succ (fun c0 c1 u' it' h' tk' F' N' => ?_)); (try dsimp only at c0 c1 F'))
  k_with "binaryOp LShift int int" => ((with_reducible show wpAny _ _ (binaryOp _ _ (Value.int 8 _)) _ _ _); refine lsh8 (by omega) (by omega) ?_)
  k_with "binaryOp BitOr int int" => ((with_reducible show wpAny _ _ (binaryOp _ (Value.int (_ * 256) _) _) _ _ _); refine bor8 (by omega) (by omega) (by omega) ?_)
  trivial
theorem c_getn2 (w : World) {b : Array UInt8} {i : Int} {t t2 t3 : Tok} (hb : b.size ≤ 1048576) (h0 : 0 ≤ i) (h1 : i + 2 ≤ b.size) :
    PT w 560 400 70 [.bytes b t, .int i t2, .int 2 t3] (fun _ => True) (fun _ v => ∃ t', v = .int (by2 b i.toNat : Nat) t') (fun c => False) := by
  intro outer base s mean mg mb Q E B X T hpre hret hexc
  have hpick := pick2 h0 h1
  k_extra "mine enter"
  k_steps
  all_goals first
    | (k_extra "mine ret"; refine ⟨_, congrArg (fun z => Value.int z _) ?_⟩; simp only [by2]; omega)
    | w_report
theorem c_getn4 (w : World) {b : Array UInt8} {i : Int} {t t2 t3 : Tok} (hb : b.size ≤ 1048576) (h0 : 0 ≤ i) (h1 : i + 4 ≤ b.size) :
    PT w 560 400 70 [.bytes b t, .int i t2, .int 4 t3] (fun _ => True) (fun _ v => ∃ t', v = .int (by4 b i.toNat : Nat) t') (fun c => False) := by
  intro outer base s mean mg mb Q E B X T hpre hret hexc
  have hpick := pick4 h0 h1
  k_extra "mine enter"
  k_steps
  all_goals first
    | (k_extra "mine ret"; refine ⟨_, congrArg (fun z => Value.int z _) ?_⟩; simp only [by4]; omega)
    | w_report

theorem rows_P1 : True := by
  w_top off
  k_with_none
  k_with "mine enter" => (refine wpAny_call ?_; k_dflt (refine' enterP [] ?kX ?kT ?kr ?ko ?kc ?kb ?kl ?_ ?c2 ?c3 ?c4 ?c5; (case kX => k_asm); (case kT => k_asm); (case kr => exact Nat.le_of_ble_eq_true rfl); (case ko => k_is); (case kc => k_is); (case kb => exact BindsTo.of_eq rfl); (case kl => exact locs rfl); (case c2 => exact rfl); (case c3 => exact rfl); (case c4 => exact rfl); (case c5 => decide); k_whole; intro L' h' tk' F' K' l1; (dsimp only [List.map, List.zip, List.zipWith, List.reverse, List.reverseAux] at F'); (have N' := news_enter (hide := []) (news := []) K' l1 (fun _ h => nomatch h)); (dsimp only [hideAll] at F' N'); (try dsimp only); (try k_fold)))
  k_with "exec Raise some none" => (refine raise_ex (w := w) rfl ?_)
  k_with "call ref" => ((with_reducible show wpAny _ _ (call (Value.ref 44) [Value.str _ _]) _ _ _); (with_reducible rename Fr _ _ _ _ => FF); refine mk_exc w (exc44 w) (X.keeps FF.keep) (T.keeps FF.keep) (by rw [depth_under_make]; exact Nat.le_of_ble_eq_true rfl) (fun e h2 tk2 hx => ?_))
  k_with "call ref" => ((with_reducible show wpAny _ _ (call (Value.ref 56) [Value.str _ _]) _ _ _); (with_reducible rename Fr _ _ _ _ => FF); refine mk_exc w (exc56 w) (X.keeps FF.keep) (T.keeps FF.keep) (by rw [depth_under_make]; exact Nat.le_of_ble_eq_true rfl) (fun e h2 tk2 hx => ?_))
  k_with "mine ret" => ((try dsimp only); (with_reducible rename Fr _ _ _ _ => FF); refine hret _ _ _ FF.keep ?_)
  k_with "Raised" => ((with_reducible rename Fr _ _ _ _ => FF); refine Raised.of (by first | exact exc44 w | exact exc56 w) (X.keeps FF.keep) hx ?_; (try dsimp only); (try k_unfold); refine leave_first B FF hx (fun h3 hfly => hexc _ _ _ _ ?_ hfly))
  k_with "subscriptTail" => ((with_reducible show wpAny _ _ (subscriptTail _ (Expr.Slice _ _ none _) (Value.bytes _ _) (Value.ref _)) _ _ _); (with_reducible rename Fr _ _ _ _ => FF); (with_reducible rename News _ _ _ _ => NN); (refine KBc.slice_K (s := ⟨_, _, _, _, _⟩) FF NN rfl (by constructor) (by constructor) ?hz ?_); (case hz => (rw [KBw.ints_length]; l_fact)); intro h2 t2' k2 F2 N2 _; (try simp only [hpick]))
  trivial

set_option linter.unusedVariables false
def be2 (n : Int) : Array UInt8 := byteArr [n.fdiv 256 % 256, n.fdiv 1 % 256]
def be4 (n : Int) : Array UInt8 := byteArr [n.fdiv 16777216 % 256, n.fdiv 65536 % 256, n.fdiv 256 % 256, n.fdiv 1 % 256]
theorem enterC {w : World} {A : Around} {K : Frag} {s : Shared} {qual name : Str} {params : Arguments} {body : List Stmt} {scope : Scope} {dV kV doc pm cdv ct oc : Value} {an od : Option Addr} {osl : Array (Option Value)} {f : Addr} {vs : List Value}
    {R : Result → Shared → Prop} {p : Program} {loose : List Str} {mean : ExcName → Option Value} {mg mb : Str → Option Value} {binds : List (Str × Value)}
    (X : K.In s.heap) (T : Top p loose mean mg mb s.heap) (hroom : A.depth < recursionLimit)
    (ho : K.lookup f = some ⟨oc, od, .func (fnOf name qual params body scope dV kV doc pm an cdv ct), osl⟩) (hcd : codeIn K cdv qual = true)
    (hbind : BindsTo s (fnOf name qual params body scope dV kV doc pm an cdv ct) ⟨vs, []⟩ binds)
    (hkind : ∀ n, ∀ x ∈ binds, scope.names.lookup x.1 = some .local ∨ (scope.names.lookup x.1 = some .cell ∧ ((cellsFrom n scope.names []).lookup x.1).isSome = true))
    (hnd : ((cellsFrom 0 scope.names []).map (·.1)).Nodup)
    (h : ∀ L h₁ tk cells, Fr s.heap L h₁ (bindL (envOfC qual scope L f cdv).kindOf binds fun _ => none) → News s.heap L h₁ cells → CellsAre (bindC (envOfC qual scope L f cdv).kindOf binds fun _ => none) (cellsFrom (L + 1) scope.names []) cells →
      wpAny (model pr w) (A.deeper (envOfC qual scope L f cdv)) (execs body (envOfC qual scope L f cdv)) (fun fl s' => R (.ok (.ret (match fl with | .ret v => v | _ => .none))) s')
        (fun e s' => wpAny (model pr w) (A.deeper (envOfC qual scope L f cdv)) (leaving (envOfC qual scope L f cdv) e) (fun _ s'' => R (.error e) s'') (fun e' s'' => R (.error e') s'') s')
        { s with heap := h₁, toks := tk })
    (hco : scope.isCoroutine = false) (hgen : scope.isGenerator = false) (hk : scope.kind = .function) : codeAny (model pr w) A (.call (.ref f) ⟨vs, []⟩) R s := by
  refine codeAny_call_function hroom (X _ _ ho) rfl hco hgen rfl (codeRec_of X hcd) (hbind _ _ _ _ ?_)
  refine wpAny_newFunctionEnv_cells hk (hkind _) fun env' he s' x => ?_
  subst he
  refine ⟨T.nolimit.keeps x.toInCall.keep, codeAny_func ?_⟩
  obtain ⟨h₁, tk, rfl, _⟩ := x.done
  obtain ⟨cells, N, Y⟩ := Cl.news (h₀ := s.heap) (Nat.le_refl _) fun n c hm => ⟨x.cell n c (lookup_of_mem_nodup (cellsFrom_names scope.names 0 (s.heap.objs.size + 1) [] [] rfl ▸ hnd) hm), x.above n c hm⟩
  exact h _ h₁ tk cells ⟨x.toInCall.ns, x.toInCall.keep, Nat.le_refl _⟩ N Y
section
open PyProof.Rows.LCg
variable {w : World} {A : Around} {E : Value → Shared → Prop} {s : Shared} {h₀ : Heap} {L : Addr} {m : Str → Option Value} {env : Env}
/-- a comprehension over a range that goes down by one -/
def SrcD (w : World) (A : Around) (h₀ : Heap) (L : Addr) (m : Str → Option Value) (env : Env) (elt : Expr) (x : Str) (scope : Scope) (cl : List (Str × Addr)) (Fin : Shared → List Value → List (Addr × Obj) → Prop) (xv : Value) (s₁ : Shared) : Prop :=
  ∃ r a b t u v n news, xv = .ref r ∧ A.handled = none ∧ Fr h₀ L s₁.heap m ∧ News h₀ L s₁.heap news ∧ IsRange s₁.heap r a b (-1) t u v ∧ Builtin.Range.small a b (-1) = true ∧ Builtin.Range.rangeSize a b (-1) = ((n : Nat) : Int) ∧ n ≤ sizeLine ∧
    ∀ g, CompRest pr w A h₀ L m env elt x scope cl { s₁ with heap := g } (fun _ => True) (fun i v => ∃ t, v = .int (a + (i : Int) * (-1)) t) (Fin { s₁ with heap := g }) n 0 [] news
theorem SrcD.mk {elt : Expr} {x : Str} {scope : Scope} {cl : List (Str × Addr)} {Fin : Shared → List Value → List (Addr × Obj) → Prop} {r : Addr} {a b : Int} {t u v : Tok} {n : Nat} {news : List (Addr × Obj)} {s₁ : Shared}
    (hh : A.handled = none) (F : Fr h₀ L s₁.heap m) (N : News h₀ L s₁.heap news) (hr : IsRange s₁.heap r a b (-1) t u v) (hsm : Builtin.Range.small a b (-1) = true) (hn : Builtin.Range.rangeSize a b (-1) = ((n : Nat) : Int)) (hsz : n ≤ sizeLine)
    (h : ∀ g, CompRest pr w A h₀ L m env elt x scope cl { s₁ with heap := g } (fun _ => True) (fun i v => ∃ t, v = .int (a + (i : Int) * (-1)) t) (Fin { s₁ with heap := g }) n 0 [] news) :
    SrcD w A h₀ L m env elt x scope cl Fin (.ref r) s₁ := ⟨r, a, b, t, u, v, n, news, rfl, hh, F, N, hr, hsm, hn, hsz, h⟩
theorem ListComp_D {elt iter : Expr} {x : Str} {px : Pos} {scope : Scope} {cl : List (Str × Addr)} {pos : Pos} {Q : Value → Shared → Prop} (F₀ : Fr h₀ L s.heap m)
    (hclos : closureFor scope env = pure cl) (hcell : ∀ y ∈ scope.names, y.2 ≠ .cell) (hkind : scope.kind = .function)
    (hnames : ∀ y ∈ scope.names, y.2 = .local → scope.names.lookup y.1 = some .local) (hx : scope.names.lookup x = some .local)
    (h : wpAny (model pr w) A (eval iter env) (SrcD w A h₀ L m env elt x scope cl (fun s₂ => FinE h₀ L m s₂ Q)) E s)
    (hs : ∀ x, foldedSetIterable iter env x = pure x) :
    wpAny (model pr w) A (eval (.ListComp elt [⟨.Name x px, iter, [], 0⟩] scope pos) env) Q E s := by
  rw [eval_ListComp]
  refine wpAny_comprehension_free (use := none) rfl hs hclos hkind hnames (wpAny_mono h (fun xv s₁ h₁ => ?_) fun _ _ e => e)
  obtain ⟨r, a, b, t, u, v, n, news, rfl, hh, F, N, hr, hsm, hn, hsz, R⟩ := h₁
  have up : ∀ (o' : Obj) b o, s₁.heap.get? b = some o → (s₁.heap.push o').get? b = some o := fun _ b o e => Heap.get?_push_of_some _ e
  refine wpAny_pyIter_range hr hsm ?_
  refine block_U (Walks.range hh _ a (-1) n) hsz (fun i h st => ⟨_, st⟩) (fun i h h' o nw st e e' _ _ _ => ?_) hcell hkind hx ?_ (fun b hb => ?_) (F.keeps (up _)) (N.grown (up _)) (Nat.ne_of_lt F.ns.lt) (next_is_new F) (fun p hp => Nat.ne_of_lt (Heap.lt_size (N p hp).1)) trivial (R _) ?_
  · have st' : h.get? s₁.heap.objs.size = some _ := st
    rw [e] at st'
    exact e'.trans st'
  · show IsRangeIter _ _ _ _ _
    rw [hn]; simpa using Heap.get?_push_size _ rfl
  · rw [List.mem_singleton.mp hb]
    show s₁.heap.objs.size < (s₁.heap.push _).objs.size
    rw [Heap.size_push]; exact Nat.lt_succ_self _
  · intro D C h tk m' ys news' F' N' o1 hn' hC₀ hD₀ hCL hDL hCD offC fin
    refine ⟨m', hn', fun h'' hs'' => fin D h'' tk (F'.change hs'' hCL hC₀) (fun p hp => ⟨hs''.extBut _ _ (fun z => ?_) (N' p hp).1, (N' p hp).2⟩) o1⟩
    rcases List.mem_cons.mp hp with q | q
    · subst q; exact hCD z.symm
    · exact offC p q z
end
theorem rowsp_J : True := by
  k_with "mine enterC" => (refine wpAny_call ?_; k_dflt (refine' enterC (binds := [(Str.ofString "number", .int n t), (Str.ofString "many", .int 2 t2)]) ?kX ?kT ?kr ?ko ?kc ?kb ?kl ?kD ?_ ?c2 ?c3 ?c4; (case kX => k_asm); (case kT => k_asm); (case kr => exact Nat.le_of_ble_eq_true rfl); (case ko => k_is); (case kc => k_is); (case kb => exact BindsTo.of_eq rfl); (case kl => exact kindsX rfl); (case kD => decide +kernel); (case c2 => exact rfl); (case c3 => exact rfl); (case c4 => exact rfl); k_whole; intro L' h' tk' cells' F' N' Y'; k_cells Y'; (try simp only [List.cons_append, List.nil_append] at N'); (try dsimp only); (try k_fold)))
  k_with "mine enterC4" => (refine wpAny_call ?_; k_dflt (refine' enterC (binds := [(Str.ofString "number", .int n t), (Str.ofString "many", .int 4 t2)]) ?kX ?kT ?kr ?ko ?kc ?kb ?kl ?kD ?_ ?c2 ?c3 ?c4; (case kX => k_asm); (case kT => k_asm); (case kr => exact Nat.le_of_ble_eq_true rfl); (case ko => k_is); (case kc => k_is); (case kb => exact BindsTo.of_eq rfl); (case kl => exact kindsX rfl); (case kD => decide +kernel); (case c2 => exact rfl); (case c3 => exact rfl); (case c4 => exact rfl); k_whole; intro L' h' tk' cells' F' N' Y'; k_cells Y'; (try simp only [List.cons_append, List.nil_append] at N'); (try dsimp only); (try k_fold)))
  k_with "eval ListComp" => (k_dflt (refine ListComp_D (F₀ := by k_asm) (by rfl) (by decide) (by rfl) (by decide) (by rfl) ?_ (by intro _; rfl)))
  k_with "SrcD" => (refine SrcD.mk (by rfl) (by k_asm) (by k_asm) (by assumption) (by first | decide | rfl) (by first | rfl | decide) (by first | size_fits | exact Nat.le_of_ble_eq_true rfl) ?_; intro g'; lcg_lit)
  trivial
theorem c_put2 (w : World) {n : Int} {t t2 : Tok} (h0 : 0 ≤ n) (h1 : n < 65536) :
    PT w 565 425 63 [.int n t, .int 2 t2] (fun _ => True) (fun _ v => ∃ t', v = .bytes (be2 n) t') (fun c => False) := by
  intro outer base s mean mg mb Q E B X T hpre hret hexc
  k_extra "mine enterC"
  k_steps
  rename Fr _ _ _ _ => FF
  rename News _ _ _ _ => NN
  refine call_bytes_ints (ns := [_,_]) ⟨_, (NN _ (by k_mem)).1, rfl, _, rfl⟩ (by repeat constructor) ?_ (Nat.le_of_ble_eq_true rfl) rfl (fun h3 t3 k3 hk3 => ?_)
  · intro x hx
    simp only [bitAnd_m8, List.mem_cons, List.not_mem_nil, or_false] at hx
    omega
  · refine hret _ _ _ (fun b o e => hk3 b o (FF.keep b o e)) ⟨_, congrArg (fun z => Value.bytes (byteArr z) _) ?_⟩
    simp only [bitAnd_m8]
    rfl
theorem c_put4 (w : World) {n : Int} {t t2 : Tok} (h0 : 0 ≤ n) (h1 : n < 4294967296) :
    PT w 565 425 63 [.int n t, .int 4 t2] (fun _ => True) (fun _ v => ∃ t', v = .bytes (be4 n) t') (fun c => False) := by
  intro outer base s mean mg mb Q E B X T hpre hret hexc
  k_extra "mine enterC4"
  k_steps
  rename Fr _ _ _ _ => FF
  rename News _ _ _ _ => NN
  refine call_bytes_ints (ns := [_,_,_,_]) ⟨_, (NN _ (by k_mem)).1, rfl, _, rfl⟩ (by repeat constructor) ?_ (Nat.le_of_ble_eq_true rfl) rfl (fun h3 t3 k3 hk3 => ?_)
  · intro x hx
    simp only [bitAnd_m8, List.mem_cons, List.not_mem_nil, or_false] at hx
    omega
  · refine hret _ _ _ (fun b o e => hk3 b o (FF.keep b o e)) ⟨_, congrArg (fun z => Value.bytes (byteArr z) _) ?_⟩
    simp only [bitAnd_m8]
    rfl

theorem rows_W1 : True := by
  w_top off
  k_with_none
  k_with "mine enter" => (refine wpAny_call ?_; k_dflt (refine' enterP [] ?kX ?kT ?kr ?ko ?kc ?kb ?kl ?_ ?c2 ?c3 ?c4 ?c5; (case kX => k_asm); (case kT => k_asm); (case kr => exact Nat.le_of_ble_eq_true rfl); (case ko => k_is); (case kc => k_is); (case kb => exact BindsTo.of_eq rfl); (case kl => exact locs rfl); (case c2 => exact rfl); (case c3 => exact rfl); (case c4 => exact rfl); (case c5 => decide); k_whole; intro L' h' tk' F' K' l1; (dsimp only [List.map, List.zip, List.zipWith, List.reverse, List.reverseAux] at F'); (have N' := news_enter (hide := []) (news := []) K' l1 (fun _ h => nomatch h)); (dsimp only [hideAll] at F' N'); (try dsimp only); (try k_fold)))
  k_with "exec Raise some none" => (refine raise_ex (w := w) rfl ?_)
  k_with "call ref" => ((with_reducible show wpAny _ _ (call (Value.ref 44) [Value.str _ _]) _ _ _); (with_reducible rename Fr _ _ _ _ => FF); refine mk_exc w (exc44 w) (X.keeps FF.keep) (T.keeps FF.keep) (by rw [depth_under_make]; exact Nat.le_of_ble_eq_true rfl) (fun e h2 tk2 hx => ?_))
  k_with "call ref" => ((with_reducible show wpAny _ _ (call (Value.ref 56) [Value.str _ _]) _ _ _); (with_reducible rename Fr _ _ _ _ => FF); refine mk_exc w (exc56 w) (X.keeps FF.keep) (T.keeps FF.keep) (by rw [depth_under_make]; exact Nat.le_of_ble_eq_true rfl) (fun e h2 tk2 hx => ?_))
  k_with "mine ret" => ((try dsimp only); (with_reducible rename Fr _ _ _ _ => FF); refine hret _ _ _ FF.keep ?_)
  k_with "Raised" => ((with_reducible rename Fr _ _ _ _ => FF); refine Raised.of (by first | exact exc44 w | exact exc56 w) (X.keeps FF.keep) hx ?_; (try dsimp only); (try k_unfold); refine leave_first B FF hx (fun h3 hfly => hexc _ _ _ _ ?_ hfly))
  k_with "subscriptTail" => ((with_reducible show wpAny _ _ (subscriptTail _ (Expr.Slice _ _ none _) (Value.bytes _ _) (Value.ref _)) _ _ _); (with_reducible rename Fr _ _ _ _ => FF); (with_reducible rename News _ _ _ _ => NN); (refine KBc.slice_K (s := ⟨_, _, _, _, _⟩) FF NN rfl (by constructor) (by constructor) ?hz ?_); (case hz => (rw [KBw.ints_length]; l_fact)); intro h2 t2' k2 F2 N2 _; (try simp only [hpick]))
  trivial

set_option genSizeOf false
set_option genInjectivity false
structure D where
  rel : Heap → Value → Prop
  mono : ∀ h h' v, Keep h h' → rel h v → rel h' v
abbrev Rel (h : Heap) (d : D) (v : Value) : Prop := d.rel h v
def Rels (h : Heap) : List D → List Value → Prop
  | [], vs => vs = []
  | d :: l, vs => ∃ v r, vs = v :: r ∧ d.rel h v ∧ Rels h l r
theorem isTup_keep {h h' : Heap} (k : Keep h h') {a : Addr} {vs : Array Value} (x : IsTup h a vs) : IsTup h' a vs := by
  obtain ⟨o, e, r⟩ := x; exact ⟨o, k _ _ e, r⟩
theorem isList_keep {h h' : Heap} (k : Keep h h') {a : Addr} {vs : Array Value} (x : h.IsList a vs) : h'.IsList a vs := by
  obtain ⟨o, e, r⟩ := x; exact ⟨o, k _ _ e, r⟩
theorem Rels.keep {h h' : Heap} (k : Keep h h') : ∀ {l : List D} {vs : List Value}, Rels h l vs → Rels h' l vs
  | [], _, r => r
  | d :: _, _, ⟨v, q, e, x, y⟩ => ⟨v, q, e, d.mono _ _ _ k x, Rels.keep k y⟩
theorem Rels.length {h : Heap} : ∀ {l : List D} {vs : List Value}, Rels h l vs → vs.length = l.length
  | [], _, r => by cases r; rfl
  | d :: l, _, ⟨v, q, e, _, y⟩ => by rw [e, List.length_cons, List.length_cons, Rels.length y]
theorem Rels.get {h : Heap} : ∀ {l : List D} {vs : List Value}, Rels h l vs → ∀ {i : Nat} {d : D}, l[i]? = some d → ∃ v, vs[i]? = some v ∧ d.rel h v
  | _ :: _, _, ⟨v, _, rfl, x, _⟩, 0, _, rfl => ⟨v, rfl, x⟩
  | _ :: _, _, ⟨_, _, rfl, _, y⟩, i + 1, _, e => Rels.get (i := i) y e
theorem Rels.app {h : Heap} {l2 : List D} {v2 : List Value} (r2 : Rels h l2 v2) (l : List D) : ∀ {vs : List Value}, Rels h l vs → Rels h (l ++ l2) (vs ++ v2) := by
  induction l with
  | nil => intro vs r; cases r; exact r2
  | cons d l ih => intro vs r; obtain ⟨v, q, rfl, x, y⟩ := r; exact ⟨v, q ++ v2, rfl, x, ih y⟩
theorem Rels.rev {h : Heap} {l : List D} : ∀ {vs : List Value}, Rels h l vs → Rels h l.reverse vs.reverse := by
  induction l with
  | nil => intro vs r; cases r; rfl
  | cons d l ih => intro vs r; obtain ⟨v, q, rfl, x, y⟩ := r; rw [List.reverse_cons, List.reverse_cons]; exact Rels.app (l2 := [d]) (v2 := [v]) ⟨v, [], rfl, x, rfl⟩ _ (ih y)
def dI (i : Int) : D := ⟨fun _ v => ∃ t, v = .int i t, fun _ _ _ _ r => r⟩
def dB (b : Bool) : D := ⟨fun _ v => v = .bool b, fun _ _ _ _ r => r⟩
def dS (x : Str) : D := ⟨fun _ v => ∃ t, v = .str x t, fun _ _ _ _ r => r⟩
def dY (b : Array UInt8) : D := ⟨fun _ v => b.size ≤ 1048576 ∧ ∃ t, v = .bytes b t, fun _ _ _ _ r => r⟩
def dV (x : Value) : D := ⟨fun _ v => v = x, fun _ _ _ _ r => r⟩
def dT (l : List D) : D := ⟨fun h v => ∃ a vs, v = .ref a ∧ IsTup h a vs.toArray ∧ Rels h l vs, by
  intro h h' v k r
  obtain ⟨a, vs, e, t, q⟩ := r
  exact ⟨a, vs, e, isTup_keep k t, q.keep k⟩⟩
def dL (l : List D) : D := ⟨fun h v => ∃ a vs, v = .ref a ∧ h.PlainList a vs.toArray ∧ Rels h l vs, by
  intro h h' v k r
  obtain ⟨a, vs, e, t, q⟩ := r
  exact ⟨a, vs, e, t.at fun o e => k _ o e, q.keep k⟩⟩

structure Cx where
  A : Around
  A₀ : Around
  base : Heap
  g : Heap
  outer : List Env
  L : Addr
  a : Addr
  cn : Str
  ccd : Value
  cl : List (Str × Addr)
  hid : List Addr
  I : Heap → Prop
  strict : Bool
  gx : Heap
  gh : List (Str × Value)
/-- what a name of the frame stands for: a cell's held value, or what the dict holds -/
def Cx.val (C : Cx) (m : Str → Option Value) (x : Str) : Option Value := match C.gh.lookup x with
  | some v => some v
  | none => m x
abbrev Cx.env (C : Cx) (sc : Scope) : Env := envX C.cn sc C.L C.a C.ccd C.cl
def Cx.z (C : Cx) (h : Heap) : Heap := hideAll h (C.L :: (frs C.outer ++ C.hid))
def KeepL (L : Addr) (h h' : Heap) : Prop := Heap.ExtBut L h h'

/-- a record that may be called as code -/
def Codey (o : Obj) : Prop := ∃ vs q t, o.data = .fields vs ∧ vs[1]? = some (.str q t)
/-- I speaks of the hidden things and of code alone, and says that the hidden are there -/
structure HI (hs : List Addr) (I : Heap → Prop) : Prop where
  mono : ∀ h h', I h → (∀ b o, b ∈ hs ∨ Codey o → h.get? b = some o → h'.get? b = some o) → I h'
  lt : ∀ h, I h → ∀ b ∈ hs, ∃ o, h.get? b = some o ∧ ¬ Codey o
structure Good (w : World) (sc : Scope) (dl ul : Nat) (C : Cx) : Prop where
  hh : C.A.handled = none
  hA : C.A.frames = some (C.env sc :: C.outer)
  hAd : C.A = C.A₀.deeper (C.env sc)
  dep : C.A.depth ≤ dl
  uni : C.A.units ≤ ul
  B : Below C.A₀ C.base C.outer C.g
  X : Frag.In (hd.heap_39 w.params) C.g
  T : ∃ mean mg mb, Top topProg LW mean mg mb C.g
  hk : sc.kind = .function
  hi : HI C.hid C.I
  hidL : C.L ∉ C.hid
  hidn : ∀ b ∈ C.hid, C.g.get? b = none
  Bx : Below C.A₀ C.base C.outer C.gx
  kx : ∀ h m, Fr C.g C.L h m → C.I h → Fr C.gx C.L h m
  ghl : ∀ x v, C.gh.lookup x = some v → sc.names.lookup x ≠ some .local
  ghc : ∀ x v, C.gh.lookup x = some v → ∃ c, C.cl.lookup x = some c ∧ ∀ h, C.I h → h.IsCell c (some v)
theorem Good.val {w : World} {sc : Scope} {dl ul : Nat} {C : Cx} (G : Good w sc dl ul C) {x : Str} (hk : sc.names.lookup x = some .local) (m : Str → Option Value) : C.val m x = m x := by
  unfold Cx.val
  cases q : C.gh.lookup x with
  | none => rfl
  | some v => exact absurd hk (G.ghl x v q)

def lk (ρ : List (Str × D)) (x : Str) : Option D := ρ.lookup x

def FrD (C : Cx) (ρ : List (Str × D)) (h : Heap) : Prop := C.I h ∧ ∃ m, Fr C.g C.L h m ∧ ∀ x d, lk ρ x = some d → ∃ v, C.val m x = some v ∧ d.rel (C.z h) v

def KK (C : Cx) (h h' : Heap) : Prop := ∀ b o, b ∉ C.L :: C.hid → h.get? b = some o → h'.get? b = some o
theorem KK.refl {C : Cx} (h : Heap) : KK C h h := fun _ _ _ e => e
theorem KK.trans {C : Cx} {a b c : Heap} (x : KK C a b) (y : KK C b c) : KK C a c := fun _ _ n e => y _ _ n (x _ _ n e)
/-- what a statement keeps: all, where a loop over a value asks for it -/
def KS (C : Cx) (h h' : Heap) : Prop := C.strict = true → KK C h h'
theorem KK.s {C : Cx} {h h' : Heap} (k : KK C h h') : KS C h h' := fun _ => k
theorem KS.trans {C : Cx} {a b c : Heap} (x : KS C a b) (y : KS C b c) : KS C a c := fun e => (x e).trans (y e)
theorem KK.z {C : Cx} {h h' : Heap} (k : KK C h h') : Keep (C.z h) (C.z h') := fun b o e => by
  have hb : b ∉ C.L :: (frs C.outer ++ C.hid) := fun m => by have := hideAll_none (h := h) _ m; unfold Cx.z at e; rw [this] at e; cases e
  refine hideAll_get _ (k b o (fun z => hb ?_) (of_hideAll _ e)) hb
  rcases List.mem_cons.mp z with q | q
  · exact q ▸ List.mem_cons_self
  · exact List.mem_cons_of_mem _ (List.mem_append_right _ q)
theorem KeepL.k {C : Cx} {h h' : Heap} (k : KeepL C.L h h') : KK C h h' := fun b o n e => k b o (fun q => n (q ▸ List.mem_cons_self)) e
theorem Keep.kk {C : Cx} {h h' : Heap} (k : Keep h h') : KK C h h' := fun b o _ e => k b o e
theorem z_keepL {C : Cx} {h h' : Heap} (k : KeepL C.L h h') : Keep (C.z h) (C.z h') := k.k.z
theorem Keep.toL {L : Addr} {h h' : Heap} (k : Keep h h') : KeepL L h h' := fun b o _ e => k b o e
theorem z_sub (C : Cx) (h : Heap) : Keep (C.z h) h := fun _ _ e => of_hideAll _ e
theorem fr_keep {g h h' : Heap} {L : Addr} {m : Str → Option Value} (F : Fr g L h m) (k : Keep h h') : Fr g L h' m := ⟨F.ns.keeps k, fun b o e => k b o (F.keep b o e), F.above⟩
theorem FrD.keep {w : World} {sc : Scope} {dl ul : Nat} {C : Cx} {ρ : List (Str × D)} {h h' : Heap} (G : Good w sc dl ul C) (F : FrD C ρ h) (k : Keep h h') : FrD C ρ h' := by
  obtain ⟨hI, m, F, R⟩ := F
  exact ⟨G.hi.mono _ _ hI (fun b o _ e => k b o e), m, fr_keep F k, fun x d e => let ⟨v, e1, r⟩ := R x d e; ⟨v, e1, d.mono _ _ _ (z_keepL k.toL) r⟩⟩

/-- all that the heap holds beyond the frozen part and the frame's own dict -/
def allNews (g : Heap) (L : Addr) (h : Heap) : List (Addr × Obj) :=
  (List.range h.objs.size).filterMap fun b => match h.get? b with
    | some o => if b = L then none else match g.get? b with | none => some (b, o) | some _ => none
    | none => none
theorem allNews_ok (g : Heap) (L : Addr) (h : Heap) : News g L h (allNews g L h) := fun p hp => by
  obtain ⟨b, _, e⟩ := List.mem_filterMap.mp hp
  split at e
  · rename_i o ho
    split at e
    · cases e
    · rename_i hb
      split at e
      · rename_i hg; cases e; exact ⟨ho, hb, hg⟩
      · cases e
  · cases e
theorem allNews_mem {g : Heap} {L : Addr} {h : Heap} {b : Addr} {o : Obj} (hb : b ≠ L) (e : h.get? b = some o) (hg : g.get? b = none) : (b, o) ∈ allNews g L h :=
  List.mem_filterMap.mpr ⟨b, List.mem_range.mpr (Heap.lt_size e), by simp only [e, hg, if_neg hb]⟩
/-- a library rule that keeps every ledger keeps all but the frame's dict -/
theorem keepL_of {g h h' : Heap} {L : Addr} {m m' : Str → Option Value} {more : List (Addr × Obj)} (F : Fr g L h m) (F' : Fr g L h' m') (N' : News g L h' more) (hs : ∀ p ∈ allNews g L h, p ∈ more) : KeepL L h h' := fun b o hb e => by
  cases q : g.get? b with
  | none => exact (N' _ (hs _ (allNews_mem hb e q))).1
  | some o' => have := F.keep b o' q; rw [e] at this; cases this; exact F'.keep b o q

inductive Out (α : Type) where
  | val (a : α)
  | exc (c : Addr)
@[reducible] def bindO {α β : Type} (P : Out β → Prop) (f : α → Prop) : Out α → Prop
  | .val a => f a
  | .exc c => P (.exc c)

/-- an exception that leaves an expression or statement of the frame: to leave the frame gives one in flight -/
def InFl (w : World) (sc : Scope) (C : Cx) (s s' : Shared) (e : Value) (c : Addr) : Prop :=
  wpAny (model pr w) C.A (leaving (C.env sc) e) (fun _ s3 => ∃ a h3 tk3, e = .ref a ∧ s3 = { s with heap := h3, toks := tk3 } ∧ Fly C.gx C.outer a (.ref c) h3) (fun _ _ => False) s'
inductive SOut where
  | next (ρ : List (Str × D))
  | brk (ρ : List (Str × D))
  | ret (d : D)
  | exc (c : Addr)
section
variable (w : World) (sc : Scope) (C : Cx) (ρ : List (Str × D))
structure EvG {α β : Type} (R : Heap → β → α → Prop) (H : Heap → Prop) (t : Sem α) (P : Out β → Prop) : Prop where
  mk ::
  go : ∀ (s : Shared) (Q : α → Shared → Prop) (E : Value → Shared → Prop), FrD C ρ s.heap → H (C.z s.heap) →
  (∀ d v h' tk', P (.val d) → FrD C ρ h' → KK C s.heap h' → R (C.z h') d v → Q v { s with heap := h', toks := tk' }) →
  (∀ c e s', P (.exc c) → InFl w sc C s s' e c → E e s') → wpAny (model pr w) C.A t Q E s
abbrev Ev (e : Expr) (P : Out D → Prop) : Prop := EvG w sc C ρ Rel (fun _ => True) (eval e (C.env sc)) P
abbrev EvL (t : Sem (List Value)) (P : Out (List D) → Prop) : Prop := EvG w sc C ρ Rels (fun _ => True) t P
def isV (_ : Heap) (b : Bool) (c : Value) : Prop := c = .bool b
def isB (_ : Heap) (b c : Bool) : Prop := c = b
def Tst (e : Expr) (P : Out Bool → Prop) : Prop := EvG w sc C ρ isB (fun _ => True) (PySem.isTrue e (C.env sc) (eval e (C.env sc))) P
def Op1 (f : Value → Sem Value) (d : D) (P : Out D → Prop) : Prop := ∀ v, EvG w sc C ρ Rel (fun h => d.rel h v) (f v) P
def Op2 (f : Value → Value → Sem Value) (d1 d2 : D) (P : Out D → Prop) : Prop := ∀ v1 v2, EvG w sc C ρ Rel (fun h => d1.rel h v1 ∧ d2.rel h v2) (f v1 v2) P
def Cm2 (op : CmpOp) (d1 d2 : D) (P : Out Bool → Prop) : Prop := ∀ v1 v2, EvG w sc C ρ isV (fun h => d1.rel h v1 ∧ d2.rel h v2) (compareOp op v1 v2) P
def OpL (f : List Value → Sem Value) (ds : List D) (P : Out D → Prop) : Prop := ∀ vs, EvG w sc C ρ Rel (fun h => Rels h ds vs) (f vs) P
structure ExF (t : Sem Flow) (P : SOut → Prop) : Prop where
  mk ::
  go : ∀ (s : Shared) (Q : Flow → Shared → Prop) (E : Value → Shared → Prop), FrD C ρ s.heap →
  (∀ ρ' h' tk', P (.next ρ') → FrD C ρ' h' → KS C s.heap h' → Q .next { s with heap := h', toks := tk' }) →
  (∀ ρ' h' tk', P (.brk ρ') → FrD C ρ' h' → KS C s.heap h' → Q .brk { s with heap := h', toks := tk' }) →
  (∀ d v h' tk', P (.ret d) → FrD C [] h' → KS C s.heap h' → d.rel (C.z h') v → Q (.ret v) { s with heap := h', toks := tk' }) →
  (∀ c e s', P (.exc c) → InFl w sc C s s' e c → E e s') → wpAny (model pr w) C.A t Q E s
def Ex (l : List Stmt) (P : SOut → Prop) : Prop := ExF w sc C ρ (execs l (C.env sc)) P
def Ex1 (st : Stmt) (P : SOut → Prop) : Prop := ExF w sc C ρ (exec st (C.env sc)) P
end

theorem rows_W2 : True := by
  w_top off
  k_with_none
  k_with "mine enter" => (refine wpAny_call ?_; k_dflt (refine' enterP [] ?kX ?kT ?kr ?ko ?kc ?kb ?kl ?_ ?c2 ?c3 ?c4 ?c5; (case kX => k_asm); (case kT => k_asm); (case kr => exact Nat.le_of_ble_eq_true rfl); (case ko => k_is); (case kc => k_is); (case kb => exact BindsTo.of_eq rfl); (case kl => exact locs rfl); (case c2 => exact rfl); (case c3 => exact rfl); (case c4 => exact rfl); (case c5 => decide); k_whole; intro L' h' tk' F' K' l1; (dsimp only [List.map, List.zip, List.zipWith, List.reverse, List.reverseAux] at F'); (have N' := news_enter (hide := []) (news := []) K' l1 (fun _ h => nomatch h)); (dsimp only [hideAll] at F' N'); (try dsimp only); (try k_fold)))
  k_with "exec Raise some none" => (refine raise_ex (w := w) rfl ?_)
  k_with "call ref" => ((with_reducible show wpAny _ _ (call (Value.ref 44) [Value.str _ _]) _ _ _); (with_reducible rename Fr _ _ _ _ => FF); refine mk_exc w (exc44 w) (X.keeps FF.keep) (T.keeps FF.keep) (by rw [depth_under_make]; exact Nat.le_of_ble_eq_true rfl) (fun e h2 tk2 hx => ?_))
  k_with "call ref" => ((with_reducible show wpAny _ _ (call (Value.ref 56) [Value.str _ _]) _ _ _); (with_reducible rename Fr _ _ _ _ => FF); refine mk_exc w (exc56 w) (X.keeps FF.keep) (T.keeps FF.keep) (by rw [depth_under_make]; exact Nat.le_of_ble_eq_true rfl) (fun e h2 tk2 hx => ?_))
  k_with "mine ret" => ((try dsimp only); (with_reducible rename Fr _ _ _ _ => FF); refine hret _ _ _ FF.keep ?_)
  k_with "Raised" => ((with_reducible rename Fr _ _ _ _ => FF); refine Raised.of (by first | exact exc44 w | exact exc56 w) (X.keeps FF.keep) hx ?_; (try dsimp only); (try k_unfold); refine leave_first B FF hx (fun h3 hfly => hexc _ _ _ _ ?_ hfly))
  k_with "subscriptTail" => ((with_reducible show wpAny _ _ (subscriptTail _ (Expr.Slice _ _ none _) (Value.bytes _ _) (Value.ref _)) _ _ _); (with_reducible rename Fr _ _ _ _ => FF); (with_reducible rename News _ _ _ _ => NN); (refine KBc.slice_K (s := ⟨_, _, _, _, _⟩) FF NN rfl (by constructor) (by constructor) ?hz ?_); (case hz => (rw [KBw.ints_length]; l_fact)); intro h2 t2' k2 F2 N2 _; (try simp only [hpick]))
  trivial

set_option linter.unusedVariables false
section
variable {w : World} {sc : Scope} {dl ul : Nat} {C : Cx} {ρ : List (Str × D)}

theorem news_tail {g h : Heap} {L : Addr} {p : Addr × Obj} {l : List (Addr × Obj)} (N : News g L h (p :: l)) : News g L h l := fun q hq => N q (List.mem_cons_of_mem _ hq)
theorem L_not_hid (G : Good w sc dl ul C) {h : Heap} {m : Str → Option Value} (F : Fr C.g C.L h m) : C.L ∉ C.hid := G.hidL
theorem keepL_I (G : Good w sc dl ul C) {h h' : Heap} {m : Str → Option Value} (F : Fr C.g C.L h m) (hI : C.I h) (k : KeepL C.L h h') : C.I h' := G.hi.mono _ _ hI fun b o hb e => k b o (fun q => hb.elim (fun hb => G.hidL (q ▸ hb)) fun ⟨vs, _, _, hd, _⟩ => by
  obtain ⟨oL, es, ep, e1, e2, _⟩ := F.ns
  rw [q, e1] at e; cases e; rw [e2] at hd; cases hd) e
theorem FrD.out (G : Good w sc dl ul C) {h : Heap} (F : FrD C ρ h) : ∃ m, Fr C.g C.L h m ∧ News C.g C.L h (allNews C.g C.L h) ∧
    ∀ h', Fr C.g C.L h' m → News C.g C.L h' (allNews C.g C.L h) → FrD C ρ h' ∧ KK C h h' := by
  obtain ⟨hI, m, F1, R⟩ := F
  refine ⟨m, F1, allNews_ok _ _ _, fun h' F' N' => ?_⟩
  have k := keepL_of F1 F' N' fun _ x => x
  exact ⟨⟨keepL_I G F1 hI k, m, F', fun x d e => let ⟨v, e1, r⟩ := R x d e; ⟨v, e1, d.mono _ _ _ (z_keepL k) r⟩⟩, k.k⟩

theorem ev_name (G : Good w sc dl ul C) {x : Str} {pos : Pos} {d : D} {P : Out D → Prop} (hl : lk ρ x = some d) (hk : sc.names.lookup x = some .local) (hd : (x == Str.ofString "__debug__") = false) (hp : P (.val d)) :
    Ev w sc C ρ (.Name x pos) P := by
  refine .mk fun s Q E F _ hq he => ?_
  obtain ⟨hI, m, F1, R⟩ := id F
  obtain ⟨v, e1, r⟩ := R x d hl
  exact nameX_L F1 ((G.val hk m).symm.trans e1) (hq d v s.heap s.toks hp F (KK.refl _) r) G.hk hk hd
theorem ev_glob (G : Good w sc dl ul C) {x : Str} {pos : Pos} {d : D} {v : Value} {P : Out D → Prop} (hn : nsIn (hd.heap_39 w.params) mainGlobals x = some (some v)) (hr : ∀ h, d.rel h v) (hk : sc.names.lookup x = some .globalImplicit) (hd : (x == Str.ofString "__debug__") = false) (hp : P (.val d)) :
    Ev w sc C ρ (.Name x pos) P := by
  refine .mk fun s Q E F _ hq he => ?_
  obtain ⟨hI, m, F1, R⟩ := id F
  obtain ⟨mean, mg, mb, T⟩ := G.T
  exact nameX_K F1 G.X (topRead_of T) hn (hq d v s.heap s.toks hp F (KK.refl _) (hr _)) G.hk hk hd
theorem ev_built (G : Good w sc dl ul C) {x : Str} {pos : Pos} {v : Value} {P : Out D → Prop} (hn : nsIn (hd.heap_39 w.params) mainGlobals x = some none) (hb : bootBuiltins x = some v) (hx : x ≠ Str.ofString "__name__") (hk : sc.names.lookup x = some .globalImplicit) (hd : (x == Str.ofString "__debug__") = false) (hp : P (.val (dV v))) :
    Ev w sc C ρ (.Name x pos) P := by
  refine .mk fun s Q E F _ hq he => ?_
  obtain ⟨hI, m, F1, R⟩ := id F
  obtain ⟨mean, mg, mb, T⟩ := G.T
  exact nameX_B F1 G.X (topRead_of T) hn hb hx (hq (dV v) v s.heap s.toks hp F (KK.refl _) rfl) G.hk hk hd
theorem ev_int {i : Int} {k : Nat} {pos : Pos} {P : Out D → Prop} (hp : P (.val (dI i))) : Ev w sc C ρ (.Constant (.int i) k pos) P :=
  .mk fun s _ _ F _ hq _ => wpAny_Constant_int (hq _ _ s.heap (s.toks + 1) hp F (KK.refl _) ⟨_, rfl⟩)
theorem ev_str {x : Str} {k : Nat} {pos : Pos} {P : Out D → Prop} (hp : P (.val (dS x))) : Ev w sc C ρ (.Constant (.str x) k pos) P :=
  .mk fun s _ _ F _ hq _ => wpAny_Constant_str (hq _ _ s.heap (s.toks + 1) hp F (KK.refl _) ⟨_, rfl⟩)
theorem ev_bytes {x : List UInt8} {k : Nat} {pos : Pos} {P : Out D → Prop} (hz : x.length ≤ 1048576) (hp : P (.val (dY x.toArray))) : Ev w sc C ρ (.Constant (.bytes x) k pos) P :=
  .mk fun s _ _ F _ hq _ => Constant_bytes (hq _ _ s.heap (s.toks + 1) hp F (KK.refl _) ⟨hz, _, rfl⟩)
theorem ev_binop {l r : Expr} {op : Operator} {pos : Pos} {P : Out D → Prop} (h : Ev w sc C ρ l (bindO P fun d1 => Ev w sc C ρ r (bindO P fun d2 => Op2 w sc C ρ (binaryOp op) d1 d2 P))) : Ev w sc C ρ (.BinOp l op r pos) P :=
  .mk fun s Q E F z hq he => wpAny_BinOp (h.go s _ E F z (fun _ v1 h2 tk2 p1 F2 k2 r2 => p1.go { s with heap := h2, toks := tk2 } _ E F2 trivial
    (fun _ v2 h3 tk3 p2 F3 k3 r3 => (p2 v1 v2).go { s with heap := h3, toks := tk3 } Q E F3 ⟨D.mono _ _ _ _ k3.z r2, r3⟩ (fun d v h4 tk4 p F4 k4 r => hq d v h4 tk4 p F4 (k2.trans (k3.trans k4)) r) he) he) he)
theorem ev_sub {l r : Expr} {pos : Pos} {P : Out D → Prop} (h : Ev w sc C ρ l (bindO P fun d1 => Ev w sc C ρ r (bindO P fun d2 => Op2 w sc C ρ (subscriptTail l r) d1 d2 P))) : Ev w sc C ρ (.Subscript l r pos) P :=
  .mk fun s Q E F z hq he => Subscript_ (h.go s _ E F z (fun _ v1 h2 tk2 p1 F2 k2 r2 => p1.go { s with heap := h2, toks := tk2 } _ E F2 trivial
    (fun _ v2 h3 tk3 p2 F3 k3 r3 => (p2 v1 v2).go { s with heap := h3, toks := tk3 } Q E F3 ⟨D.mono _ _ _ _ k3.z r2, r3⟩ (fun d v h4 tk4 p F4 k4 r => hq d v h4 tk4 p F4 (k2.trans (k3.trans k4)) r) he) he) he)
theorem ev_ifexp {t b o : Expr} {pos : Pos} {P : Out D → Prop} (h : Tst w sc C ρ t (bindO P fun c => if c = true then Ev w sc C ρ b P else Ev w sc C ρ o P)) : Ev w sc C ρ (.IfExp t b o pos) P :=
  .mk fun s Q E F z hq he => wpAny_IfExp (h.go s _ E F z (fun d v h2 tk2 p1 F2 k2 r2 => by
    cases r2
    cases d
    · exact p1.go { s with heap := h2, toks := tk2 } Q E F2 trivial (fun d v h4 tk4 p F4 k4 r => hq d v h4 tk4 p F4 (k2.trans k4) r) he
    · exact p1.go { s with heap := h2, toks := tk2 } Q E F2 trivial (fun d v h4 tk4 p F4 k4 r => hq d v h4 tk4 p F4 (k2.trans k4) r) he) he)

theorem op_add_int {a b : Int} {P : Out D → Prop} (hp : P (.val (dI (a + b)))) : Op2 w sc C ρ (binaryOp .Add) (dI a) (dI b) P := by
  intro v1 v2; refine .mk ?_; rintro s Q E F ⟨⟨t, rfl⟩, ⟨u, rfl⟩⟩ hq he
  exact add_int (hq _ _ s.heap (s.toks + 1) hp F (KK.refl _) ⟨_, rfl⟩)
theorem op_sub_int {a b : Int} {P : Out D → Prop} (hp : P (.val (dI (a - b)))) : Op2 w sc C ρ (binaryOp .Sub) (dI a) (dI b) P := by
  intro v1 v2; refine .mk ?_; rintro s Q E F ⟨⟨t, rfl⟩, ⟨u, rfl⟩⟩ hq he
  exact sub_int (hq _ _ s.heap (s.toks + 1) hp F (KK.refl _) ⟨_, rfl⟩)
theorem op_mul_int {a b : Int} {P : Out D → Prop} (h1 : -2147483648 ≤ a) (h2 : a ≤ 2147483648) (h3 : -2147483648 ≤ b) (h4 : b ≤ 2147483648) (hp : P (.val (dI (a * b)))) : Op2 w sc C ρ (binaryOp .Mult) (dI a) (dI b) P := by
  intro v1 v2; refine .mk ?_; rintro s Q E F ⟨⟨t, rfl⟩, ⟨u, rfl⟩⟩ hq he
  exact mul_int (hq _ _ s.heap (s.toks + 1) hp F (KK.refl _) ⟨_, rfl⟩)
theorem op_mod_int {a b : Int} {P : Out D → Prop} (hb : b ≠ 0) (hp : P (.val (dI (a.fmod b)))) : Op2 w sc C ρ (binaryOp .Mod) (dI a) (dI b) P := by
  intro v1 v2; refine .mk ?_; rintro s Q E F ⟨⟨t, rfl⟩, ⟨u, rfl⟩⟩ hq he
  exact mod_int' hb (hq _ _ s.heap (s.toks + 1) hp F (KK.refl _) ⟨_, rfl⟩)
theorem op_div_int {a b : Int} {P : Out D → Prop} (hb : b ≠ 0) (hg : Builtin.divisionGoesByPylong a b = false) (hp : P (.val (dI (a.fdiv b)))) : Op2 w sc C ρ (binaryOp .FloorDiv) (dI a) (dI b) P := by
  intro v1 v2; refine .mk ?_; rintro s Q E F ⟨⟨t, rfl⟩, ⟨u, rfl⟩⟩ hq he
  exact floordiv_int hb (hq _ _ s.heap (s.toks + 1) hp F (KK.refl _) ⟨_, rfl⟩) (.inl hg)
theorem op_add_bytes {a b : Array UInt8} {P : Out D → Prop} (hb : a.size + b.size ≤ 1048576) (hp : P (.val (dY (a ++ b)))) : Op2 w sc C ρ (binaryOp .Add) (dY a) (dY b) P := by
  intro v1 v2; refine .mk ?_; rintro s Q E F ⟨⟨_, t, rfl⟩, ⟨_, u, rfl⟩⟩ hq he
  exact KBy.add_bytes (Nat.le_trans hb (by decide)) fun t' k => hq _ _ s.heap k hp F (KK.refl _) ⟨by rw [Array.size_append]; exact hb, _, rfl⟩

theorem evl_nil {pos : Pos} {P : Out (List D) → Prop} (hp : P (.val [])) : EvL w sc C ρ (spliced (backTo pos (starEach [] (C.env sc)))) P :=
  .mk fun s _ _ F _ hq _ => args_nil (hq [] [] s.heap s.toks hp F (KK.refl _) rfl)
theorem evl_cons {e : Expr} {es : List Expr} {pos : Pos} {P : Out (List D) → Prop} (hs : starEach (e :: es) (C.env sc) = (false, eval e (C.env sc)) :: starEach es (C.env sc))
    (h : Ev w sc C ρ e (bindO P fun d => EvL w sc C ρ (spliced (backTo pos (starEach es (C.env sc)))) (bindO P fun ds => P (.val (d :: ds))))) : EvL w sc C ρ (spliced (backTo pos (starEach (e :: es) (C.env sc)))) P :=
  .mk fun s Q E F z hq he => args_cons (h.go s _ E F z (fun d v h2 tk2 p1 F2 k2 r2 => p1.go { s with heap := h2, toks := tk2 } _ E F2 trivial
    (fun ds vs h3 tk3 p F3 k3 r3 => hq _ _ h3 tk3 p F3 (k2.trans k3) ⟨v, vs, rfl, d.mono _ _ _ k3.z r2, r3⟩) he) he) hs
theorem ev_tuple {elts : List Expr} {k : Nat} {pos : Pos} {P : Out D → Prop} (h : EvL w sc C ρ (spliced (backTo pos (starEach elts (C.env sc)))) (bindO P fun ds => OpL w sc C ρ newTuple ds P)) : Ev w sc C ρ (.Tuple elts k pos) P :=
  .mk fun s Q E F z hq he => Tuple_ (h.go s _ E F z (fun _ vs h2 tk2 p1 F2 k2 r2 => (p1 vs).go { s with heap := h2, toks := tk2 } Q E F2 r2 (fun d v h4 tk4 p F4 k4 r => hq d v h4 tk4 p F4 (k2.trans k4) r) he) he)
theorem ev_list {elts : List Expr} {pos : Pos} {P : Out D → Prop} (h : EvL w sc C ρ (spliced (backTo pos (starEach elts (C.env sc)))) (bindO P fun ds => OpL w sc C ρ newList ds P)) : Ev w sc C ρ (.List elts pos) P :=
  .mk fun s Q E F z hq he => List_ (h.go s _ E F z (fun _ vs h2 tk2 p1 F2 k2 r2 => (p1 vs).go { s with heap := h2, toks := tk2 } Q E F2 r2 (fun d v h4 tk4 p F4 k4 r => hq d v h4 tk4 p F4 (k2.trans k4) r) he) he)
end

theorem rows_W3 : True := by
  w_top off
  k_with_none
  k_with "mine enter" => (refine wpAny_call ?_; k_dflt (refine' enterP [] ?kX ?kT ?kr ?ko ?kc ?kb ?kl ?_ ?c2 ?c3 ?c4 ?c5; (case kX => k_asm); (case kT => k_asm); (case kr => exact Nat.le_of_ble_eq_true rfl); (case ko => k_is); (case kc => k_is); (case kb => exact BindsTo.of_eq rfl); (case kl => exact locs rfl); (case c2 => exact rfl); (case c3 => exact rfl); (case c4 => exact rfl); (case c5 => decide); k_whole; intro L' h' tk' F' K' l1; (dsimp only [List.map, List.zip, List.zipWith, List.reverse, List.reverseAux] at F'); (have N' := news_enter (hide := []) (news := []) K' l1 (fun _ h => nomatch h)); (dsimp only [hideAll] at F' N'); (try dsimp only); (try k_fold)))
  k_with "exec Raise some none" => (refine raise_ex (w := w) rfl ?_)
  k_with "call ref" => ((with_reducible show wpAny _ _ (call (Value.ref 44) [Value.str _ _]) _ _ _); (with_reducible rename Fr _ _ _ _ => FF); refine mk_exc w (exc44 w) (X.keeps FF.keep) (T.keeps FF.keep) (by rw [depth_under_make]; exact Nat.le_of_ble_eq_true rfl) (fun e h2 tk2 hx => ?_))
  k_with "call ref" => ((with_reducible show wpAny _ _ (call (Value.ref 56) [Value.str _ _]) _ _ _); (with_reducible rename Fr _ _ _ _ => FF); refine mk_exc w (exc56 w) (X.keeps FF.keep) (T.keeps FF.keep) (by rw [depth_under_make]; exact Nat.le_of_ble_eq_true rfl) (fun e h2 tk2 hx => ?_))
  k_with "mine ret" => ((try dsimp only); (with_reducible rename Fr _ _ _ _ => FF); refine hret _ _ _ FF.keep ?_)
  k_with "Raised" => ((with_reducible rename Fr _ _ _ _ => FF); refine Raised.of (by first | exact exc44 w | exact exc56 w) (X.keeps FF.keep) hx ?_; (try dsimp only); (try k_unfold); refine leave_first B FF hx (fun h3 hfly => hexc _ _ _ _ ?_ hfly))
  k_with "subscriptTail" => ((with_reducible show wpAny _ _ (subscriptTail _ (Expr.Slice _ _ none _) (Value.bytes _ _) (Value.ref _)) _ _ _); (with_reducible rename Fr _ _ _ _ => FF); (with_reducible rename News _ _ _ _ => NN); (refine KBc.slice_K (s := ⟨_, _, _, _, _⟩) FF NN rfl (by constructor) (by constructor) ?hz ?_); (case hz => (rw [KBw.ints_length]; l_fact)); intro h2 t2' k2 F2 N2 _; (try simp only [hpick]))
  trivial

set_option linter.unusedVariables false
abbrev callF (f : Value) (vs : List Value) : Sem Value := call f vs
def bat (b : Array UInt8) (i : Nat) : Nat := (b.getD i 0).toNat
theorem bat_lt (b : Array UInt8) (i : Nat) : bat b i < 256 := (b.getD i 0).toNat_lt
theorem ints_bat {b : Array UInt8} {i : Nat} (h : i < b.size) : (KBw.bInts b).getD i 0 = (bat b i : Int) := by
  simp [KBw.bInts, bat, List.getD, h, Array.getD]
section
variable {w : World} {sc : Scope} {dl ul : Nat} {C : Cx} {ρ : List (Str × D)}

theorem op_item_bytes {b : Array UInt8} {i : Int} {value slice : Expr} {P : Out D → Prop} (h0 : 0 ≤ i) (h1 : i < b.size)
    (hs : ∀ t u, subscripted slice false (Value.bytes b t) (Value.int i u) = operate [Value.bytes b t, Value.int i u] (getItem (Value.bytes b t) (Value.int i u)))
    (ht : ∀ t r, letTemporaryGo value (Value.bytes b t) r = pure ()) (hp : P (.val (dI (bat b i.toNat : Nat)))) : Op2 w sc C ρ (subscriptTail value slice) (dY b) (dI i) P := by
  intro v1 v2; refine .mk ?_; rintro s Q E F ⟨⟨hz, t, rfl⟩, ⟨u, rfl⟩⟩ hq he
  refine KBw.item_K rfl (by rw [KBw.ints_length]; omega) h0 (by rw [KBw.ints_length]; omega) (fun t' k _ _ => ?_) (hs _ _) (ht _)
  rw [ints_bat (by omega)]
  exact hq _ _ s.heap k hp F (KK.refl _) ⟨_, rfl⟩
theorem op_item_tup {l : List D} {i : Int} {d : D} {value slice : Expr} {P : Out D → Prop} (h0 : 0 ≤ i) (h1 : i < 1024) (hd : l[i.toNat]? = some d)
    (hs : ∀ a u, subscripted slice false (Value.ref a) (Value.int i u) = operate [Value.ref a, Value.int i u] (getItem (Value.ref a) (Value.int i u)))
    (hp : P (.val d)) : Op2 w sc C ρ (subscriptTail value slice) (dT l) (dI i) P := by
  intro v1 v2; refine .mk ?_; rintro s Q E F ⟨⟨a, vs, rfl, ht, hr⟩, ⟨u, rfl⟩⟩ hq he
  obtain ⟨v, hv, r⟩ := hr.get hd
  have hlen : i.toNat < vs.length := by rcases Nat.lt_or_ge i.toNat vs.length with x | x; exact x; rw [List.getElem?_eq_none x] at hv; cases hv
  exact item_tupleT (isTup_keep (z_sub C _) ht) (by omega) (by omega) (j := i.toNat) (by unfold seqIndex?; simp; omega) hv (hq _ _ s.heap s.toks hp F (KK.refl _) r) (hs _ _)
def EvP (o : Option Expr) (P : Out (Option Int) → Prop) (w : World) (sc : Scope) (C : Cx) (ρ : List (Str × D)) : Prop := EvG w sc C ρ (fun _ d v => IsPart v d) (fun _ => True) (evalPart o (C.env sc)) P
theorem evp_none {P : Out (Option Int) → Prop} (hp : P (.val none)) : EvP none P w sc C ρ :=
  .mk fun s _ _ F _ hq _ => wpAny_evalPart_none (hq none .none s.heap s.toks hp F (KK.refl _) .none)
theorem evp_some {e : Expr} {P : Out (Option Int) → Prop} (h : Ev w sc C ρ e (bindO P fun d => ∃ i, d = dI i ∧ P (.val (some i)))) : EvP (some e) P w sc C ρ :=
  .mk fun s _ _ F z hq he => wpAny_evalPart_some (h.go s _ _ F z (fun d v h2 tk2 p1 F2 k2 r2 => by
    obtain ⟨i, rfl, p⟩ := p1
    obtain ⟨t, rfl⟩ := r2
    exact hq _ _ h2 tk2 p F2 k2 (.int i t)) he)
theorem picked_le (b : Array UInt8) (l u : Option Int) : (KBy.picked b l u).size ≤ b.size := by
  rw [picked_ext, Array.size_extract]; exact Nat.le_trans (Nat.sub_le _ _) (Nat.min_le_right _ _)
theorem ev_slice_bytes (G : Good w sc dl ul C) {value : Expr} {lo hi : Option Expr} {pos p2 : Pos} {P : Out D → Prop}
    (h : Ev w sc C ρ value (bindO P fun d => EvP lo (bindO P fun l => EvP hi (bindO P fun u => ∃ b, d = dY b ∧ P (.val (dY (KBy.picked b l u)))) w sc C ρ) w sc C ρ))
    (hs : ∀ a r, subscripted (.Slice lo hi none p2) false a (Value.ref r) = operate [Value.ref r, a] (getItem a (Value.ref r)))
    (ht : ∀ b t r, letTemporaryGo value (Value.bytes b t) r = pure ()) : Ev w sc C ρ (.Subscript value (.Slice lo hi none p2) pos) P :=
  .mk fun s Q E F z hq he => Subscript_ (h.go s _ E F z (fun _ v1 h2 tk2 p1 F2 k2 r2 => wpAny_Slice (p1.go { s with heap := h2, toks := tk2 } _ E F2 trivial
    (fun l vl h3 tk3 p3 F3 k3 r3 => p3.go { s with heap := h3, toks := tk3 } _ E F3 trivial (fun u vu h4 tk4 p4 F4 k4 r4 => wpAny_evalPart_none (by
      obtain ⟨b, rfl, p⟩ := p4
      obtain ⟨hb, t, rfl⟩ := r2
      obtain ⟨m, F5, N5, hout⟩ := F4.out G
      exact KBc.slice_K (s := { s with heap := h4, toks := tk4 }) F5 N5 rfl r3 r4 (by rw [KBw.ints_length]; omega)
        (fun h' t' k F' N' _ => hq _ _ h' k p (hout h' F' N').1 (k2.trans (k3.trans (k4.trans (hout h' F' N').2))) ⟨Nat.le_trans (picked_le b l u) hb, _, rfl⟩) (hs _ _) (ht _ _))) he) he)) he)
/-- a call of a def -/
theorem ev_call {f : Str} {a : Addr} {e : Expr} {es : List Expr} {p1 p2 : Pos} {P : Out D → Prop} (G : Good w sc dl ul C) (hn : nsIn (hd.heap_39 w.params) mainGlobals f = some (some (.ref a))) (hk : sc.names.lookup f = some .globalImplicit) (hdb : (f == Str.ofString "__debug__") = false)
    (hki : keepIn (hd.heap_39 w.params) (.ref a) = true)
    (hc : eval (Expr.Call (.Name f p1) (e :: es) [] p2) (C.env sc) = do
          let x ← eval (.Name f p1) (C.env sc)
          callWith p2 x [] (backTo p2 (starEach (e :: es) (C.env sc))) (backToKw p2 (keywordEach [] (C.env sc))))
    (hs : starEach (e :: es) (C.env sc) = (false, eval e (C.env sc)) :: starEach es (C.env sc))
    (hx : ((backTo p2 (starEach es (C.env sc))).any fun x => x.fst) = false)
    (h : EvL w sc C ρ (spliced (backTo p2 (starEach (e :: es) (C.env sc)))) (bindO P fun ds => OpL w sc C ρ (callF (.ref a)) ds P)) : Ev w sc C ρ (.Call (.Name f p1) (e :: es) [] p2) P := by
  refine .mk fun s Q E F z hq he => ?_
  obtain ⟨hI, m, F1, R⟩ := id F
  obtain ⟨mean, mg, mb, T⟩ := G.T
  refine Call_ (nameX_K F1 G.X (topRead_of T) hn (callWith_K G.X hki (h.go s _ E F z (fun ds vs h2 tk2 p F2 k2 r2 => ?_) he) hs hx) G.hk hk hdb) hc
  obtain ⟨_, m2, F3, _⟩ := id F2
  exact ⟨G.X.keeps F3.keep, (p vs).go { s with heap := h2, toks := tk2 } Q E F2 r2 (fun d v h4 tk4 p F4 k4 r => hq d v h4 tk4 p F4 (k2.trans k4) r) he⟩
theorem ev_bcall {f : Str} {id : String} {e : Expr} {es : List Expr} {p1 p2 : Pos} {P : Out D → Prop} (G : Good w sc dl ul C) (hn : nsIn (hd.heap_39 w.params) mainGlobals f = some none) (hb : bootBuiltins f = some (.builtin id)) (hx' : f ≠ Str.ofString "__name__") (hk : sc.names.lookup f = some .globalImplicit) (hdb : (f == Str.ofString "__debug__") = false)
    (hc : eval (Expr.Call (.Name f p1) (e :: es) [] p2) (C.env sc) = do
          let x ← eval (.Name f p1) (C.env sc)
          callWith p2 x [] (backTo p2 (starEach (e :: es) (C.env sc))) (backToKw p2 (keywordEach [] (C.env sc))))
    (hs : starEach (e :: es) (C.env sc) = (false, eval e (C.env sc)) :: starEach es (C.env sc))
    (hx : ((backTo p2 (starEach es (C.env sc))).any fun x => x.fst) = false)
    (h : EvL w sc C ρ (spliced (backTo p2 (starEach (e :: es) (C.env sc)))) (bindO P fun ds => OpL w sc C ρ (callF (.builtin id)) ds P)) : Ev w sc C ρ (.Call (.Name f p1) (e :: es) [] p2) P := by
  refine .mk fun s Q E F z hq he => ?_
  obtain ⟨hI, m, F1, R⟩ := F
  obtain ⟨mean, mg, mb, T⟩ := G.T
  exact Call_ (nameX_B F1 G.X (topRead_of T) hn hb hx' (callWith_builtin1 (h.go s _ E ⟨hI, m, F1, R⟩ z (fun ds vs h2 tk2 p F2 k2 r2 => (p vs).go { s with heap := h2, toks := tk2 } Q E F2 r2 (fun d v h4 tk4 p F4 k4 r => hq d v h4 tk4 p F4 (k2.trans k4) r) he) he) hs hx) G.hk hk hdb) hc
theorem ev_tcall {f : Str} {id : String} {e : Expr} {es : List Expr} {p1 p2 : Pos} {P : Out D → Prop} (G : Good w sc dl ul C) (hn : nsIn (hd.heap_39 w.params) mainGlobals f = some none) (hb : bootBuiltins f = some (.type id)) (hx' : f ≠ Str.ofString "__name__") (hk : sc.names.lookup f = some .globalImplicit) (hdb : (f == Str.ofString "__debug__") = false)
    (hc : eval (Expr.Call (.Name f p1) (e :: es) [] p2) (C.env sc) = do
          let x ← eval (.Name f p1) (C.env sc)
          callWith p2 x [] (backTo p2 (starEach (e :: es) (C.env sc))) (backToKw p2 (keywordEach [] (C.env sc))))
    (hs : starEach (e :: es) (C.env sc) = (false, eval e (C.env sc)) :: starEach es (C.env sc))
    (hx : ((backTo p2 (starEach es (C.env sc))).any fun x => x.fst) = false)
    (h : EvL w sc C ρ (spliced (backTo p2 (starEach (e :: es) (C.env sc)))) (bindO P fun ds => OpL w sc C ρ (callF (.type id)) ds P)) : Ev w sc C ρ (.Call (.Name f p1) (e :: es) [] p2) P := by
  refine .mk fun s Q E F z hq he => ?_
  obtain ⟨hI, m, F1, R⟩ := F
  obtain ⟨mean, mg, mb, T⟩ := G.T
  exact Call_ (nameX_B F1 G.X (topRead_of T) hn hb hx' (callWith_type1 (h.go s _ E ⟨hI, m, F1, R⟩ z (fun ds vs h2 tk2 p F2 k2 r2 => (p vs).go { s with heap := h2, toks := tk2 } Q E F2 r2 (fun d v h4 tk4 p F4 k4 r => hq d v h4 tk4 p F4 (k2.trans k4) r) he) he) hs hx) G.hk hk hdb) hc
theorem op_len_bytes {b : Array UInt8} {P : Out D → Prop} (hp : P (.val (dI b.size))) : OpL w sc C ρ (callF (.builtin "len")) [dY b] P := by
  intro vs; refine .mk ?_; rintro s Q E F ⟨v, _, rfl, ⟨hz, t, rfl⟩, rfl⟩ hq he
  exact len_bytes (Nat.le_trans hz (by decide)) (hq _ _ s.heap _ hp F (KK.refl _) ⟨_, rfl⟩)
theorem not_hid (G : Good w sc dl ul C) {h : Heap} (F : FrD C ρ h) : h.objs.size ∉ C.L :: (frs C.outer ++ C.hid) := by
  obtain ⟨hI, m, F1, _⟩ := F
  intro hm
  rcases List.mem_cons.mp hm with x | x
  · have := F1.ns.lt; rw [x] at this; exact Nat.lt_irrefl _ this
  rcases List.mem_append.mp x with x | x
  · obtain ⟨_, o, e, _⟩ := Heap.FunFrames.mem G.B.frames x
    exact Nat.lt_irrefl _ (Heap.lt_size (F1.keep _ _ e))
  · exact (let ⟨_, e, _⟩ := G.hi.lt _ hI _ x; Nat.lt_irrefl _ (Heap.lt_size e))
theorem op_tuple (G : Good w sc dl ul C) {ds : List D} {P : Out D → Prop} (hz : ds.length ≤ 1048576) (hp : P (.val (dT ds))) : OpL w sc C ρ newTuple ds P := by
  intro vs; refine .mk fun s Q E F r hq he => ?_
  obtain ⟨m, F1, N1, hout⟩ := F.out G
  refine newTuple_N F1 N1 (fun h' F' N' => ?_) (by rw [r.length]; exact Nat.le_trans hz (by decide))
  have hk := hout h' F' (news_tail N')
  exact hq _ _ h' s.toks hp hk.1 hk.2 ⟨_, vs, rfl, ⟨_, hideAll_get _ (N' _ List.mem_cons_self).1 (not_hid G F), rfl, _, rfl⟩, r.keep hk.2.z⟩
theorem op_list (G : Good w sc dl ul C) {ds : List D} {P : Out D → Prop} (hz : ds.length ≤ 1048576) (hp : P (.val (dL ds))) : OpL w sc C ρ newList ds P := by
  intro vs; refine .mk fun s Q E F r hq he => ?_
  obtain ⟨m, F1, N1, hout⟩ := F.out G
  refine newList_N F1 N1 (fun h' F' N' => ?_) (by rw [r.length]; exact Nat.le_trans hz (by decide))
  have hk := hout h' F' (news_tail N')
  exact hq _ _ h' s.toks hp hk.1 hk.2 ⟨_, vs, rfl, ⟨_, hideAll_get _ (N' _ List.mem_cons_self).1 (not_hid G F)⟩, r.keep hk.2.z⟩
end

theorem rows_W4 : True := by
  w_top off
  k_with_none
  k_with "mine enter" => (refine wpAny_call ?_; k_dflt (refine' enterP [] ?kX ?kT ?kr ?ko ?kc ?kb ?kl ?_ ?c2 ?c3 ?c4 ?c5; (case kX => k_asm); (case kT => k_asm); (case kr => exact Nat.le_of_ble_eq_true rfl); (case ko => k_is); (case kc => k_is); (case kb => exact BindsTo.of_eq rfl); (case kl => exact locs rfl); (case c2 => exact rfl); (case c3 => exact rfl); (case c4 => exact rfl); (case c5 => decide); k_whole; intro L' h' tk' F' K' l1; (dsimp only [List.map, List.zip, List.zipWith, List.reverse, List.reverseAux] at F'); (have N' := news_enter (hide := []) (news := []) K' l1 (fun _ h => nomatch h)); (dsimp only [hideAll] at F' N'); (try dsimp only); (try k_fold)))
  k_with "exec Raise some none" => (refine raise_ex (w := w) rfl ?_)
  k_with "call ref" => ((with_reducible show wpAny _ _ (call (Value.ref 44) [Value.str _ _]) _ _ _); (with_reducible rename Fr _ _ _ _ => FF); refine mk_exc w (exc44 w) (X.keeps FF.keep) (T.keeps FF.keep) (by rw [depth_under_make]; exact Nat.le_of_ble_eq_true rfl) (fun e h2 tk2 hx => ?_))
  k_with "call ref" => ((with_reducible show wpAny _ _ (call (Value.ref 56) [Value.str _ _]) _ _ _); (with_reducible rename Fr _ _ _ _ => FF); refine mk_exc w (exc56 w) (X.keeps FF.keep) (T.keeps FF.keep) (by rw [depth_under_make]; exact Nat.le_of_ble_eq_true rfl) (fun e h2 tk2 hx => ?_))
  k_with "mine ret" => ((try dsimp only); (with_reducible rename Fr _ _ _ _ => FF); refine hret _ _ _ FF.keep ?_)
  k_with "Raised" => ((with_reducible rename Fr _ _ _ _ => FF); refine Raised.of (by first | exact exc44 w | exact exc56 w) (X.keeps FF.keep) hx ?_; (try dsimp only); (try k_unfold); refine leave_first B FF hx (fun h3 hfly => hexc _ _ _ _ ?_ hfly))
  k_with "subscriptTail" => ((with_reducible show wpAny _ _ (subscriptTail _ (Expr.Slice _ _ none _) (Value.bytes _ _) (Value.ref _)) _ _ _); (with_reducible rename Fr _ _ _ _ => FF); (with_reducible rename News _ _ _ _ => NN); (refine KBc.slice_K (s := ⟨_, _, _, _, _⟩) FF NN rfl (by constructor) (by constructor) ?hz ?_); (case hz => (rw [KBw.ints_length]; l_fact)); intro h2 t2' k2 F2 N2 _; (try simp only [hpick]))
  trivial

set_option linter.unusedVariables false
section
variable {w : World} {sc : Scope} {dl ul : Nat} {C : Cx} {ρ : List (Str × D)}
theorem ite_of {c : Prop} [Decidable c] {X Y : Prop} (h1 : c → X) (h2 : ¬ c → Y) : if decide c = true then X else Y := by
  by_cases h : c
  · rw [if_pos (by simpa using h)]; exact h1 h
  · rw [if_neg (by simpa using h)]; exact h2 h
theorem cm_lt {a b : Int} {P : Out Bool → Prop} (hp : P (.val (decide (a < b)))) : Cm2 w sc C ρ .Lt (dI a) (dI b) P := by
  intro v1 v2; refine .mk ?_; rintro s Q E F ⟨⟨t, rfl⟩, ⟨u, rfl⟩⟩ hq he
  exact (lt_int (hq _ _ s.heap s.toks hp F (KK.refl _) rfl))
theorem cm_le {a b : Int} {P : Out Bool → Prop} (hp : P (.val (decide (a ≤ b)))) : Cm2 w sc C ρ .LtE (dI a) (dI b) P := by
  intro v1 v2; refine .mk ?_; rintro s Q E F ⟨⟨t, rfl⟩, ⟨u, rfl⟩⟩ hq he
  exact (le_int (hq _ _ s.heap s.toks hp F (KK.refl _) rfl))
theorem cm_gt {a b : Int} {P : Out Bool → Prop} (hp : P (.val (decide (b < a)))) : Cm2 w sc C ρ .Gt (dI a) (dI b) P := by
  intro v1 v2; refine .mk ?_; rintro s Q E F ⟨⟨t, rfl⟩, ⟨u, rfl⟩⟩ hq he
  exact (gt_int (hq _ _ s.heap s.toks hp F (KK.refl _) rfl))
theorem cm_eq {a b : Int} {P : Out Bool → Prop} (hp : P (.val (decide (a = b)))) : Cm2 w sc C ρ .Eq (dI a) (dI b) P := by
  intro v1 v2; refine .mk ?_; rintro s Q E F ⟨⟨t, rfl⟩, ⟨u, rfl⟩⟩ hq he
  exact (eq_int (hq _ _ s.heap s.toks hp F (KK.refl _) (by simp [isV, Bool.beq_eq_decide_eq])))
theorem cm_ne {a b : Int} {P : Out Bool → Prop} (hp : P (.val (decide (¬ a = b)))) : Cm2 w sc C ρ .NotEq (dI a) (dI b) P := by
  intro v1 v2; refine .mk ?_; rintro s Q E F ⟨⟨t, rfl⟩, ⟨u, rfl⟩⟩ hq he
  exact (ne_int (hq _ _ s.heap s.toks hp F (KK.refl _) (by by_cases h : a = b <;> simp [isV, h])))
theorem cm_eqs {a b : Str} {P : Out Bool → Prop} (hp : P (.val (a == b))) : Cm2 w sc C ρ .Eq (dS a) (dS b) P := by
  intro v1 v2; refine .mk ?_; rintro s Q E F ⟨⟨t, rfl⟩, ⟨u, rfl⟩⟩ hq he
  exact (eq_str (hq _ _ s.heap s.toks hp F (KK.refl _) rfl))
theorem tst_cmp {l r : Expr} {op : CmpOp} {pos : Pos} {P : Out Bool → Prop} (hb : behindInMarks op r = false) (h : Ev w sc C ρ l (bindO P fun d1 => Ev w sc C ρ r (bindO P fun d2 => Cm2 w sc C ρ op d1 d2 P))) : Tst w sc C ρ (.Compare l [op] [r] pos) P :=
  .mk fun s Q E F z hq he => wpAny_isTrue_Compare1 (h.go s _ E F z (fun _ v1 h2 tk2 p1 F2 k2 r2 => p1.go { s with heap := h2, toks := tk2 } _ E F2 trivial
    (fun _ v2 h3 tk3 p2 F3 k3 r3 => (p2 v1 v2).go { s with heap := h3, toks := tk3 } _ E F3 ⟨D.mono _ _ _ _ k3.z r2, r3⟩ (fun d v h4 tk4 p F4 k4 r => by
      cases r; exact wpAny_truthy_bool (hq d _ h4 tk4 p F4 (k2.trans (k3.trans k4)) rfl)) he) he) he) hb
theorem tst_chain {l r r2 : Expr} {op op2 : CmpOp} {pos : Pos} {P : Out Bool → Prop} (hb : lastMarks [op, op2] [r, r2] = false)
    (h : Ev w sc C ρ l (bindO P fun d1 => Ev w sc C ρ r (bindO P fun d2 => Cm2 w sc C ρ op d1 d2 (bindO P fun c => if c = true then Ev w sc C ρ r2 (bindO P fun d3 => Cm2 w sc C ρ op2 d2 d3 P) else P (.val false))))) : Tst w sc C ρ (.Compare l [op, op2] [r, r2] pos) P :=
  .mk fun s Q E F z hq he => isTrue_chain (h.go s _ E F z (fun _ v1 h2 tk2 p1 F2 k2 x2 => test_link (p1.go { s with heap := h2, toks := tk2 } _ E F2 trivial
    (fun _ v2 h3 tk3 p2 F3 k3 x3 => (p2 v1 v2).go { s with heap := h3, toks := tk3 } _ E F3 ⟨D.mono _ _ _ _ k3.z x2, x3⟩ (fun d v h4 tk4 p4 F4 k4 x4 => by
      cases x4
      refine wpAny_truthy_bool ?_
      cases d
      · exact hq false _ h4 tk4 p4 F4 (k2.trans (k3.trans k4)) rfl
      · exact test_last (p4.go { s with heap := h4, toks := tk4 } _ E F4 trivial (fun _ v5 h5 tk5 p5 F5 k5 x5 => (p5 v2 v5).go { s with heap := h5, toks := tk5 } _ E F5 ⟨D.mono _ _ _ _ (k4.trans k5).z x3, x5⟩ (fun d v h6 tk6 p6 F6 k6 x6 => by
          cases x6; exact wpAny_truthy_bool (hq d _ h6 tk6 p6 F6 (k2.trans (k3.trans (k4.trans (k5.trans k6)))) rfl)) he) he)) he) he)) he) hb
theorem tst_not {e : Expr} {pos : Pos} {P : Out Bool → Prop} (h : Tst w sc C ρ e (bindO P fun c => P (.val (!c)))) : Tst w sc C ρ (.UnaryOp .Not e pos) P :=
  .mk fun s Q E F z hq he => isTrue_not (h.go s _ E F z (fun c v h2 tk2 p F2 k2 r => by cases r; exact hq _ _ h2 tk2 p F2 k2 rfl) he)
theorem tst_or {e e2 : Expr} {pos : Pos} {P : Out Bool → Prop} (h : Tst w sc C ρ e (bindO P fun c => if c = true then P (.val true) else Tst w sc C ρ e2 P)) : Tst w sc C ρ (.BoolOp .Or [e, e2] pos) P :=
  .mk fun s Q E F z hq he => isTrue_or (h.go s _ E F z (fun c v h2 tk2 p F2 k2 r => by
    cases r
    cases c
    · exact isTrue_or (p.go { s with heap := h2, toks := tk2 } _ E F2 z (fun c v h3 tk3 p F3 k3 r => by
        cases r
        cases c
        · exact isTrue_or_nil (hq false _ h3 tk3 p F3 (k2.trans k3) rfl)
        · exact hq true _ h3 tk3 p F3 (k2.trans k3) rfl) he)
    · exact hq true _ h2 tk2 p F2 k2 rfl) he)

theorem ex_nil {P : SOut → Prop} (hp : P (.next ρ)) : Ex w sc C ρ [] P := .mk fun s Q E F hn _ _ _ => wpAny_execs_nil (hn ρ s.heap s.toks hp F (KK.refl _).s)
@[reducible] def thenS (P : SOut → Prop) (f : List (Str × D) → Prop) : SOut → Prop
  | .next ρ => f ρ
  | o => P o
theorem ex_cons {st : Stmt} {l : List Stmt} {P : SOut → Prop} (h : Ex1 w sc C ρ st (thenS P fun ρ' => Ex w sc C ρ' l P)) : Ex w sc C ρ (st :: l) P :=
  .mk fun s Q E F hn hb hr he => wpAny_execs_cons (h.go s _ E F (fun ρ' h2 tk2 p F2 k2 => p.go { s with heap := h2, toks := tk2 } Q E F2 (fun ρ' h3 tk3 p F3 k3 => hn ρ' h3 tk3 p F3 (k2.trans k3)) (fun ρ' h3 tk3 p F3 k3 => hb ρ' h3 tk3 p F3 (k2.trans k3)) (fun d v h3 tk3 p F3 k3 r => hr d v h3 tk3 p F3 (k2.trans k3) r) he) hb hr he)
theorem ex_ret {e : Expr} {pos : Pos} {P : SOut → Prop} (h : Ev w sc C ρ e fun o => match o with | .val d => P (.ret d) | .exc c => P (.exc c)) : Ex1 w sc C ρ (.Return (some e) pos) P :=
  .mk fun s Q E F hn hb hr he => wpAny_Return_some (h.go s _ E F trivial (fun d v h2 tk2 p F2 k2 r => hr d v h2 tk2 p ⟨F2.1, F2.2.choose, F2.2.choose_spec.1, fun _ _ e => nomatch e⟩ k2.s r) he)
theorem ex_if {t : Expr} {b o : List Stmt} {pos : Pos} {P : SOut → Prop} (h : Tst w sc C ρ t fun x => match x with | .val c => if c = true then Ex w sc C ρ b P else Ex w sc C ρ o P | .exc c => P (.exc c)) : Ex1 w sc C ρ (.If t b o pos) P :=
  .mk fun s Q E F hn hb hr he => wpAny_If (h.go s _ E F trivial (fun c v h2 tk2 p F2 k2 r => by
    cases r
    cases c
    · exact p.go { s with heap := h2, toks := tk2 } Q E F2 (fun ρ' h3 tk3 p F3 k3 => hn ρ' h3 tk3 p F3 (k2.s.trans k3)) (fun ρ' h3 tk3 p F3 k3 => hb ρ' h3 tk3 p F3 (k2.s.trans k3)) (fun d v h3 tk3 p F3 k3 r => hr d v h3 tk3 p F3 (k2.s.trans k3) r) he
    · exact p.go { s with heap := h2, toks := tk2 } Q E F2 (fun ρ' h3 tk3 p F3 k3 => hn ρ' h3 tk3 p F3 (k2.s.trans k3)) (fun ρ' h3 tk3 p F3 k3 => hb ρ' h3 tk3 p F3 (k2.s.trans k3)) (fun d v h3 tk3 p F3 k3 r => hr d v h3 tk3 p F3 (k2.s.trans k3) r) he) he)
theorem frd_set (G : Good w sc dl ul C) {h : Heap} {x : Str} {d : D} {v : Value} {Q : Unit → Shared → Prop} {E : Value → Shared → Prop} {s : Shared} (F : FrD C ρ s.heap) (r : d.rel (C.z s.heap) v) (hx : sc.names.lookup x = some .local)
    (h : ∀ h', FrD C ((x, d) :: ρ) h' → KK C s.heap h' → Q () { s with heap := h', toks := s.toks + 1 }) : wpAny (model pr w) C.A (storeName (C.env sc) x v) Q E s := by
  obtain ⟨hI, m, F1, R⟩ := F
  refine storeX_L F1 (allNews_ok _ _ _) (fun h' F' N' => ?_) G.hk hx
  have k : KeepL C.L s.heap h' := keepL_of F1 F' N' fun _ x => x
  refine h h' ⟨keepL_I G F1 hI k, _, F', fun y d' e => ?_⟩ k.k
  unfold lk at e
  rw [List.lookup_cons] at e
  by_cases hy : y = x
  · subst hy
    simp at e; subst e
    exact ⟨v, (G.val hx _).trans (if_pos rfl), d.mono _ _ _ (z_keepL k) r⟩
  · have : (y == x) = false := by simpa using hy
    rw [this] at e
    obtain ⟨v', e1, r'⟩ := R y d' e
    refine ⟨v', ?_, d'.mono _ _ _ (z_keepL k) r'⟩
    unfold Cx.val at e1 ⊢
    split at e1
    · exact e1
    · exact (if_neg hy).trans e1
theorem ex_assign (G : Good w sc dl ul C) {x : Str} {p1 pos : Pos} {e : Expr} {P : SOut → Prop} (hx : sc.names.lookup x = some .local) (hs : swapsWith e (some (Expr.Name x p1)) pos.line (C.env sc) = pure false)
    (h : Ev w sc C ρ e fun o => match o with | .val d => P (.next ((x, d) :: ρ)) | .exc c => P (.exc c)) : Ex1 w sc C ρ (.Assign [.Name x p1] e pos) P :=
  .mk fun s Q E F hn hb hr he => wpAny_Assign_Name (h.go s _ E F trivial (fun d v h2 tk2 p F2 k2 r => frd_set G (h := h2) F2 r hx fun h3 F3 k3 => hn _ h3 _ p F3 (k2.trans k3).s) he) hs
end

theorem rows_W5 : True := by
  w_top off
  k_with_none
  k_with "mine enter" => (refine wpAny_call ?_; k_dflt (refine' enterP [] ?kX ?kT ?kr ?ko ?kc ?kb ?kl ?_ ?c2 ?c3 ?c4 ?c5; (case kX => k_asm); (case kT => k_asm); (case kr => exact Nat.le_of_ble_eq_true rfl); (case ko => k_is); (case kc => k_is); (case kb => exact BindsTo.of_eq rfl); (case kl => exact locs rfl); (case c2 => exact rfl); (case c3 => exact rfl); (case c4 => exact rfl); (case c5 => decide); k_whole; intro L' h' tk' F' K' l1; (dsimp only [List.map, List.zip, List.zipWith, List.reverse, List.reverseAux] at F'); (have N' := news_enter (hide := []) (news := []) K' l1 (fun _ h => nomatch h)); (dsimp only [hideAll] at F' N'); (try dsimp only); (try k_fold)))
  k_with "exec Raise some none" => (refine raise_ex (w := w) rfl ?_)
  k_with "call ref" => ((with_reducible show wpAny _ _ (call (Value.ref 44) [Value.str _ _]) _ _ _); (with_reducible rename Fr _ _ _ _ => FF); refine mk_exc w (exc44 w) (X.keeps FF.keep) (T.keeps FF.keep) (by rw [depth_under_make]; exact Nat.le_of_ble_eq_true rfl) (fun e h2 tk2 hx => ?_))
  k_with "call ref" => ((with_reducible show wpAny _ _ (call (Value.ref 56) [Value.str _ _]) _ _ _); (with_reducible rename Fr _ _ _ _ => FF); refine mk_exc w (exc56 w) (X.keeps FF.keep) (T.keeps FF.keep) (by rw [depth_under_make]; exact Nat.le_of_ble_eq_true rfl) (fun e h2 tk2 hx => ?_))
  k_with "mine ret" => ((try dsimp only); (with_reducible rename Fr _ _ _ _ => FF); refine hret _ _ _ FF.keep ?_)
  k_with "Raised" => ((with_reducible rename Fr _ _ _ _ => FF); refine Raised.of (by first | exact exc44 w | exact exc56 w) (X.keeps FF.keep) hx ?_; (try dsimp only); (try k_unfold); refine leave_first B FF hx (fun h3 hfly => hexc _ _ _ _ ?_ hfly))
  k_with "subscriptTail" => ((with_reducible show wpAny _ _ (subscriptTail _ (Expr.Slice _ _ none _) (Value.bytes _ _) (Value.ref _)) _ _ _); (with_reducible rename Fr _ _ _ _ => FF); (with_reducible rename News _ _ _ _ => NN); (refine KBc.slice_K (s := ⟨_, _, _, _, _⟩) FF NN rfl (by constructor) (by constructor) ?hz ?_); (case hz => (rw [KBw.ints_length]; l_fact)); intro h2 t2' k2 F2 N2 _; (try simp only [hpick]))
  trivial

set_option linter.unusedVariables false
section
variable {w : World} {sc : Scope} {dl ul : Nat} {C : Cx} {ρ : List (Str × D)}
theorem infl_new (G : Good w sc dl ul C) {s s' : Shared} {h : Heap} {m : Str → Option Value} {e c : Addr} {tk : Nat} (F : Fr C.g C.L h m) (hI : C.I h) (hx : NewX h s'.heap e (.ref c)) (hs : s' = { s with heap := s'.heap, toks := tk } := by rfl) : InFl w sc C s s' (.ref e) c := by
  rw [InFl, G.hAd]
  exact leave_first (a := C.a) (cl := C.cl) G.Bx (G.kx _ _ F hI) hx (fun h3 hf => ⟨e, h3, tk, rfl, by rw [hs], hf⟩) G.hk
theorem infl_fly (G : Good w sc dl ul C) {s s' : Shared} {h : Heap} {m : Str → Option Value} {e c : Addr} {tk : Nat} (F : Fr C.gx C.L h m) (hx : Fly h (C.env sc :: C.outer) e (.ref c) s'.heap) (hs : s' = { s with heap := s'.heap, toks := tk } := by rfl) : InFl w sc C s s' (.ref e) c := by
  rw [InFl, G.hAd]
  exact leave_next (a := C.a) (cl := C.cl) G.Bx F hx fun h3 hf => ⟨e, h3, tk, rfl, by rw [hs], hf⟩
theorem ex_raise (G : Good w sc dl ul C) {cls x : Str} {a : Addr} {k : Nat} {p1 p2 p3 pos : Pos} {P : SOut → Prop} (W : ExcIs w a) (hdl : dl ≤ 900)
    (hn : nsIn (hd.heap_39 w.params) mainGlobals cls = some (some (.ref a))) (hk : sc.names.lookup cls = some .globalImplicit) (hdb : (cls == Str.ofString "__debug__") = false)
    (hki : keepIn (hd.heap_39 w.params) (.ref a) = true) (hp : P (.exc a)) : Ex1 w sc C ρ (.Raise (some (.Call (.Name cls p1) [.Constant (.str x) k p3] [] p2)) none pos) P := by
  refine .mk fun s Q E F _ _ _ he => ?_
  obtain ⟨hI, m, F1, R⟩ := F
  obtain ⟨mean, mg, mb, T⟩ := G.T
  refine raise_ex (w := w) G.hh (Call_ (nameX_K F1 G.X (topRead_of T) hn (callWith_K G.X hki (args_cons (wpAny_Constant_str (args_nil ⟨G.X.keeps F1.keep, ?_⟩))))  G.hk hk hdb))
  refine mk_exc w W (G.X.keeps F1.keep) (T.keeps F1.keep) (by rw [depth_under_make]; have := G.dep; show _ < 1000; omega) (fun e h2 tk2 hx => ?_)
  exact Raised.of W (G.X.keeps F1.keep) hx (he a (.ref e) _ hp (infl_new G F1 hI hx))

def CTG (w : World) (hs : List Addr) (I : Heap → Prop) (D U : Nat) (f : Addr) (ds : List Mine.D) (P : Heap → Out Mine.D → Prop) : Prop :=
  ∀ (vs : List Value) (outer : List Env) (base gx : Heap) (s : Shared) (mean : ExcName → Option Value) (mg mb : Str → Option Value) (Q E : Value → Shared → Prop),
    Below (AR D U outer) base outer (hideAll s.heap hs) → Below (AR D U outer) base outer gx → (∀ h, I h → (∀ b o, b ∉ hs → s.heap.get? b = some o → h.get? b = some o) → Keep gx h) → gx.objs.size ≤ s.heap.objs.size → Frag.In (hd.heap_39 w.params) (hideAll s.heap hs) → Top topProg LW mean mg mb (hideAll s.heap hs) → I s.heap → Rels (hideAll s.heap (frs outer ++ hs)) ds vs →
    (∀ d v h' tk', P (hideAll s.heap hs) (.val d) → I h' → (∀ b o, b ∉ hs → s.heap.get? b = some o → h'.get? b = some o) → d.rel (hideAll h' (frs outer ++ hs)) v → Q v { s with heap := h', toks := tk' }) →
    (∀ c e h' tk', P (hideAll s.heap hs) (.exc c) → Fly gx outer e (.ref c) h' → E (.ref e) { s with heap := h', toks := tk' }) →
    wpAny (model pr w) (AR D U outer) (call (.ref f) vs) Q E s
def CT (w : World) (hs : List Addr) (I : Heap → Prop) (D U : Nat) (f : Addr) (ds : List Mine.D) (P : Out Mine.D → Prop) : Prop := CTG w hs I D U f ds fun _ => P
theorem CTG.mono {w : World} {hs : List Addr} {I : Heap → Prop} {D U : Nat} {f : Addr} {ds : List Mine.D} {P P' : Heap → Out Mine.D → Prop} (c : CTG w hs I D U f ds P) (h : ∀ g o, P g o → P' g o) : CTG w hs I D U f ds P' :=
  fun vs outer base gx s mean mg mb Q E B Bx kgx hgx X T hi hr hq he => c vs outer base gx s mean mg mb Q E B Bx kgx hgx X T hi hr (fun d v h' tk' p => hq d v h' tk' (h _ _ p)) fun cc e h' tk' p => he cc e h' tk' (h _ _ p)
theorem CT.mono {w : World} {hs : List Addr} {I : Heap → Prop} {D U : Nat} {f : Addr} {ds : List Mine.D} {P P' : Out Mine.D → Prop} (c : CT w hs I D U f ds P) (h : ∀ o, P o → P' o) : CT w hs I D U f ds P' := CTG.mono c fun _ => h
def VE (c1 : Prop) (X : Mine.D) (c2 : Prop) (a : Addr) (o : Out Mine.D) : Prop := (c1 ∧ o = .val X) ∨ (c2 ∧ o = .exc a)

theorem stays_hid (G : Good w sc dl ul C) {h : Heap} {m : Str → Option Value} (F : Fr C.g C.L h m) : Keep C.g (hideAll h C.hid) := fun b o e =>
  hideAll_get _ (F.keep b o e) fun hb => by rw [G.hidn b hb] at e; cases e
theorem fr_hid (G : Good w sc dl ul C) {h : Heap} {m : Str → Option Value} (F : Fr C.g C.L h m) : Fr C.g C.L (hideAll h C.hid) m :=
  ⟨F.ns.at' fun o q => hideAll_get _ q (L_not_hid G F), stays_hid G F, F.above⟩
theorem below_hid (G : Good w sc dl ul C) {D U : Nat} {h : Heap} {m : Str → Option Value} (F : Fr C.g C.L h m) : Below (AR D U (C.env sc :: C.outer)) C.base (C.env sc :: C.outer) (hideAll h C.hid) := by
  have gL := kts_self F
  refine ⟨rfl, fun b o e => stays_hid G F b o (G.B.stays b o e), ?_⟩
  have hnew : C.base.get? C.L = none := fresh_of_stays G.B.stays gL
  exact .cons (by show sc.kind ≠ .module; rw [G.hk]; decide) rfl (fr_hid G F).ns hnew (G.B.frames.of_keeps fun b o e _ => ⟨o, stays_hid G F b o e, rfl⟩)
theorem below_all (G : Good w sc dl ul C) {D U : Nat} {h : Heap} {m : Str → Option Value} (F : Fr C.g C.L h m) : Below (AR D U (C.env sc :: C.outer)) C.base (C.env sc :: C.outer) h := by
  have gL := kts_self F
  refine ⟨rfl, fun b o e => F.keep b o (G.B.stays b o e), ?_⟩
  have hnew : C.base.get? C.L = none := fresh_of_stays G.B.stays gL
  exact .cons (by show sc.kind ≠ .module; rw [G.hk]; decide) rfl F.ns hnew (G.B.frames.of_keeps fun b o e _ => ⟨o, F.keep b o e, rfl⟩)
/-- a callee that changes hidden things, as their law lets it, and raises nothing -/
theorem op_callS (G : Good w sc dl ul C) {D' U' : Nat} {f : Addr} {ds : List D} {P' P : Out D → Prop} (c : CT w C.hid C.I D' U' f ds P') (h1 : dl ≤ D') (h2 : ul ≤ U') (hne : ∀ c, ¬ P' (.exc c)) (hp : ∀ d, P' (.val d) → P (.val d)) : OpL w sc C ρ (callF (.ref f)) ds P := by
  intro vs; refine .mk fun s Q E F r hq he => ?_
  obtain ⟨hI0, m, F1, R⟩ := id F
  obtain ⟨mean, mg, mb, T⟩ := G.T
  refine wpAny_weaken (c vs (C.env sc :: C.outer) C.base (hideAll s.heap C.hid) s mean mg mb Q E (below_hid G F1) (below_hid G F1) (fun h _ k b o e => k b o (fun m => by rw [hideAll_none _ m] at e; cases e) (of_hideAll _ e)) (Nat.le_of_eq (hideAll_size _ _)) (G.X.keeps (stays_hid G F1)) (T.keeps (stays_hid G F1)) hI0 r
    (fun d v h' tk' p i k r' => ?_) (fun c e h' tk' p fl => (hne c p).elim)) G.hh G.hA (Nat.le_trans G.dep h1) (Nat.le_trans G.uni h2)
  have kk : KK C s.heap h' := fun b o n e => k b o (fun z => n (List.mem_cons_of_mem _ z)) e
  exact hq d v h' tk' (hp _ p) ⟨i, m, ⟨F1.ns.at' fun o q => k _ _ (L_not_hid G F1) q, fun b o e => k _ _ (fun z => by rw [G.hidn b z] at e; cases e) (F1.keep b o e), F1.above⟩, fun x d e => let ⟨v, e1, r⟩ := R x d e; ⟨v, e1, d.mono _ _ _ kk.z r⟩⟩ kk r'
/-- a callee that keeps all: a CT for whatever holds of the hidden things -/
theorem op_callK (G : Good w sc dl ul C) {D' U' : Nat} {f : Addr} {ds : List D} {P : Out D → Prop} (c : ∀ I, HI C.hid I → CT w C.hid I D' U' f ds P) (h1 : dl ≤ D') (h2 : ul ≤ U') (vs : List Value) (s : Shared) (Q E : Value → Shared → Prop) (F : FrD C ρ s.heap) (r : Rels (C.z s.heap) ds vs)
    (hq : ∀ d v h' tk', P (.val d) → Keep s.heap h' → d.rel (C.z h') v → Q v { s with heap := h', toks := tk' }) (he : ∀ c e h' tk', P (.exc c) → Fly s.heap (C.env sc :: C.outer) e (.ref c) h' → E (.ref e) { s with heap := h', toks := tk' }) : wpAny (model pr w) C.A (callF (.ref f) vs) Q E s := by
  obtain ⟨hI0, m, F1, R⟩ := id F
  obtain ⟨mean, mg, mb, T⟩ := G.T
  have kp : ∀ h', (∀ b ∈ C.hid, ∀ o, s.heap.get? b = some o → h'.get? b = some o) → (∀ b o, b ∉ C.hid → s.heap.get? b = some o → h'.get? b = some o) → Keep s.heap h' := fun h' i k b o e => by
    by_cases m : b ∈ C.hid
    · exact i b m o e
    · exact k b o m e
  exact wpAny_weaken (c (fun h => ∀ b ∈ C.hid, ∀ o, s.heap.get? b = some o → h.get? b = some o) ⟨fun h h' i k b m o e => k b o (.inl m) (i b m o e), fun h i b m => let ⟨o, e, n⟩ := G.hi.lt _ F.1 b m; ⟨o, i b m o e, n⟩⟩ vs (C.env sc :: C.outer) C.base s.heap s mean mg mb Q E (below_hid G F1) (below_all G F1) kp (Nat.le_refl _) (G.X.keeps (stays_hid G F1)) (T.keeps (stays_hid G F1)) (fun _ _ _ e => e) r
    (fun d v h' tk' p i k r' => hq d v h' tk' p (kp h' i k) r') he) G.hh G.hA (Nat.le_trans G.dep h1) (Nat.le_trans G.uni h2)
theorem op_call (G : Good w sc dl ul C) {D' U' : Nat} {f : Addr} {ds : List D} {P' P : Out D → Prop} (c : ∀ I, HI C.hid I → CT w C.hid I D' U' f ds P') (h1 : dl ≤ D') (h2 : ul ≤ U') (hp : ∀ o, P' o → P o) : OpL w sc C ρ (callF (.ref f)) ds P := fun vs => .mk fun s Q E F r hq he =>
  op_callK G c h1 h2 vs s Q E F r (fun d v h' tk' p k r => hq d v h' tk' (hp _ p) (F.keep G k) k.kk r) fun c e h' tk' p fl => let ⟨m, F1, _⟩ := F.2; he c (.ref e) _ (hp _ p) (infl_fly G (G.kx _ _ F1 F.1) fl)
/-- a callee that holds nothing hidden: a CT for all hidden things -/
theorem rels_lookup {h : Heap} (names : List Str) : ∀ {ds : List D} {vs : List Value} {ra : List (Str × D)} {va : List (Str × Value)}, Rels h ds vs → names.length = ds.length →
    (∀ x d, ra.lookup x = some d → ∃ v, va.lookup x = some v ∧ d.rel h v) → ∀ x d, ((names.zip ds).reverseAux ra).lookup x = some d → ∃ v, ((names.zip vs).reverseAux va).lookup x = some v ∧ d.rel h v := by
  induction names with
  | nil => intro ds vs ra va r hl H x d e; exact H x d e
  | cons n ns ih =>
    intro ds vs ra va r hl H x d e
    cases ds with
    | nil => cases hl
    | cons d0 ds =>
      obtain ⟨v, vs, rfl, r0, r⟩ := r
      refine ih (ra := (n, d0) :: ra) (va := (n, v) :: va) r (Nat.succ.inj hl) (fun y d' e' => ?_) x d e
      rw [List.lookup_cons] at e' ⊢
      by_cases hy : (y == n) = true
      · rw [hy] at e' ⊢; cases e'; exact ⟨v, rfl, r0⟩
      · rw [Bool.not_eq_true] at hy; rw [hy] at e' ⊢; exact H y d' e'
def retP (P : Out D → Prop) : SOut → Prop
  | .next _ => P (.val (dV .none))
  | .ret d => P (.val d)
  | .exc c => P (.exc c)
  | _ => False
theorem ct_enterG {hs : List Addr} {I : Heap → Prop} {D' U' : Nat} {f : Addr} {ds : List D} {P : Heap → Out D → Prop} {qual name : Str} {params : Arguments} {body : List Stmt} {scope : Scope} {dV kV doc pm cdv ct oc : Value} {an od : Option Addr} {osl : Array (Option Value)}
    (hI : HI hs I) (hroom : D' ≤ 900) (ho : (hd.heap_39 w.params).lookup f = some ⟨oc, od, .func (fnOf name qual params body scope dV kV doc pm an cdv ct), osl⟩) (hcd : codeIn (hd.heap_39 w.params) cdv qual = true)
    (hbind : ∀ s vs, vs.length = ds.length → BindsTo s (fnOf name qual params body scope dV kV doc pm an cdv ct) ⟨vs, []⟩ ((params.args.map (·.arg)).zip vs))
    (hloc : ∀ y ∈ params.args.map (·.arg), scope.names.lookup y = some .local) (hlen : (params.args.map (·.arg)).length = ds.length)
    (hco : scope.isCoroutine = false) (hgen : scope.isGenerator = false) (hk : scope.kind = .function) (hcell : ∀ x ∈ scope.names, x.2 ≠ .cell)
    (h : ∀ C : Cx, Good w scope (D' + 1) (U' + 3) C → C.hid = hs → C.I = I → C.strict = false → Ex w scope C ((params.args.map (·.arg)).zip ds).reverse body (retP (P C.g))) : CTG w hs I D' U' f ds P := by
  intro vs outer base gx s mean mg mb Q E B Bx kgx hgx X T hi hr hq he
  refine wpAny_call ?_
  refine enterP hs X T (by show D' < 1000; omega) ho hcd (hbind s vs hr.length) (fun y hy => hloc _ (List.of_mem_zip (a := y.1) (b := y.2) hy).1) (fun L h₁ tk F K' hL => ?_) hco hgen hk hcell
  have gL := kts_self F
  have hLn : L ∉ hs := fun z => by obtain ⟨o, e, _⟩ := hI.lt _ hi _ z; have := Heap.lt_size e; rw [hL] at this; exact Nat.lt_irrefl _ this
  have hA : Around.frames (AR D' U' outer) = some outer := rfl
  let C : Cx := ⟨(AR D' U' outer).deeper (envX qual scope L f cdv []), AR D' U' outer, base, hideAll s.heap hs, outer, L, f, qual, cdv, [], hs, I, false, gx, []⟩
  have G : Good w scope (D' + 1) (U' + 3) C := ⟨rfl, rfl, rfl, Nat.le_refl _, Nat.le_refl _, B, X, ⟨mean, mg, mb, T⟩, hk, hI, hLn, fun b z => hideAll_none _ z, Bx, fun h m F i => ⟨F.ns, kgx h i fun b o n e => F.keep b o (hideAll_get _ e n), Nat.le_trans hgx (Nat.le_of_eq hL.symm)⟩, fun x v e => (by have e' : (none : Option Value) = some v := e; cases e'), fun x v e => (by have e' : (none : Option Value) = some v := e; cases e')⟩
  have kz : Keep (hideAll s.heap (frs outer ++ hs)) (C.z h₁) := fun b o e => by
    refine hideAll_get _ (K' b o (of_hideAll _ e)) fun z => ?_
    rcases List.mem_cons.mp z with q | q
    · have := Heap.lt_size (of_hideAll _ e); rw [q, ← hL] at this; exact Nat.lt_irrefl _ this
    · have := hideAll_none (h := s.heap) _ q; rw [this] at e; cases e
  refine (h C G rfl rfl rfl).go { s with heap := h₁, toks := tk } _ _ ⟨hI.mono _ _ hi (fun b o _ e => K' b o e), _, F, ?_⟩ (fun _ h' tk' p F' _ => hq (Mine.dV .none) .none h' tk' p F'.1 (fun b o n e => F'.2.choose_spec.1.keep b o (hideAll_get _ e n)) rfl) (fun _ _ _ p => nomatch p) (fun d v h' tk' p F' k r => ?_) (fun c e s' p fl => wpAny_mono fl (fun _ s3 ⟨a, h3, tk3, e1, e3, hf⟩ => by subst e1 e3; exact he c a h3 tk3 p hf) fun _ _ z => z.elim)
  · exact rels_lookup _ (hr.keep kz) hlen (fun _ _ e => nomatch e)
  · refine hq d v h' tk' p F'.1 (fun b o n e => F'.2.choose_spec.1.keep b o (hideAll_get _ e n)) (d.mono _ _ _ (fun b o e => ?_) r)
    · have e1 : (hideAll (h'.hide L) (frs outer ++ hs)).get? b = some o := e
      refine hideAll_get _ (of_hideAll (L :: (frs outer ++ hs)) e) fun z => ?_
      have := hideAll_none (h := h'.hide L) _ z; rw [this] at e1; cases e1
theorem ct_enter {hs : List Addr} {I : Heap → Prop} {D' U' : Nat} {f : Addr} {ds : List D} {P : Out D → Prop} {qual name : Str} {params : Arguments} {body : List Stmt} {scope : Scope} {dV kV doc pm cdv ct oc : Value} {an od : Option Addr} {osl : Array (Option Value)}
    (hI : HI hs I) (hroom : D' ≤ 900) (ho : (hd.heap_39 w.params).lookup f = some ⟨oc, od, .func (fnOf name qual params body scope dV kV doc pm an cdv ct), osl⟩) (hcd : codeIn (hd.heap_39 w.params) cdv qual = true)
    (hbind : ∀ s vs, vs.length = ds.length → BindsTo s (fnOf name qual params body scope dV kV doc pm an cdv ct) ⟨vs, []⟩ ((params.args.map (·.arg)).zip vs))
    (hloc : ∀ y ∈ params.args.map (·.arg), scope.names.lookup y = some .local) (hlen : (params.args.map (·.arg)).length = ds.length)
    (hco : scope.isCoroutine = false) (hgen : scope.isGenerator = false) (hk : scope.kind = .function) (hcell : ∀ x ∈ scope.names, x.2 ≠ .cell)
    (h : ∀ C : Cx, Good w scope (D' + 1) (U' + 3) C → C.hid = hs → C.I = I → C.strict = false → Ex w scope C ((params.args.map (·.arg)).zip ds).reverse body (retP P)) : CT w hs I D' U' f ds P :=
  ct_enterG (P := fun _ => P) hI hroom ho hcd hbind hloc hlen hco hgen hk hcell h
theorem op_VE (G : Good w sc dl ul C) {D' U' : Nat} {f a : Addr} {ds : List D} {c1 c2 : Prop} {X : D} {P : Out D → Prop} (c : ∀ I, HI C.hid I → CT w C.hid I D' U' f ds (VE c1 X c2 a)) (h1 : dl ≤ D') (h2 : ul ≤ U') (p1 : c1 → P (.val X)) (p2 : c2 → P (.exc a)) : OpL w sc C ρ (callF (.ref f)) ds P :=
  op_call G c h1 h2 fun o h => by
    rcases h with ⟨x, rfl⟩ | ⟨x, rfl⟩
    · exact p1 x
    · exact p2 x
theorem op_pt (G : Good w sc dl ul C) {D' U' : Nat} {f : Addr} {ds : List D} {P : Out D → Prop} (c : ∀ vs h, Rels h ds vs → PT w D' U' f vs (fun _ => True) (fun _ v => ∃ d, P (.val d) ∧ ∀ h, d.rel h v) (fun c => ∃ a, c = .ref a ∧ P (.exc a))) (h1 : dl ≤ D') (h2 : ul ≤ U') : OpL w sc C ρ (callF (.ref f)) ds P := by
  intro vs; refine .mk fun s Q E F r hq he => ?_
  obtain ⟨hI, m, F1, R⟩ := id F
  obtain ⟨mean, mg, mb, T⟩ := G.T
  refine PT.use (c vs _ r) (env := C.env sc) G.B F1 (allNews_ok C.g C.L s.heap) G.X T G.hA G.hh rfl G.hk (Nat.le_trans G.dep h1) (Nat.le_trans G.uni h2) trivial (fun v h' tk' F' N' k ⟨d, p, r⟩ => ?_) (fun e cls h' tk' ⟨a, z, p⟩ fl => ?_)
  · exact hq d v h' tk' p (F.keep G k) k.kk (r _)
  · subst z; exact he a (.ref e) _ p (infl_fly G (G.kx _ _ F1 hI) fl)
theorem ev_globI (G : Good w sc dl ul C) {x : Str} {pos : Pos} {i : Int} {t : Tok} {P : Out D → Prop} (hn : nsIn (hd.heap_39 w.params) mainGlobals x = some (some (.int i t))) (hk : sc.names.lookup x = some .globalImplicit) (hdb : (x == Str.ofString "__debug__") = false) (hp : P (.val (dI i))) :
    Ev w sc C ρ (.Name x pos) P := ev_glob (d := dI i) G hn (fun _ => ⟨_, rfl⟩) hk hdb hp
theorem ev_globV (G : Good w sc dl ul C) {x : Str} {pos : Pos} {a : Addr} {P : Out D → Prop} (hn : nsIn (hd.heap_39 w.params) mainGlobals x = some (some (.ref a))) (hk : sc.names.lookup x = some .globalImplicit) (hdb : (x == Str.ofString "__debug__") = false) (hp : P (.val (dV (.ref a)))) :
    Ev w sc C ρ (.Name x pos) P := ev_glob (d := dV (.ref a)) G hn (fun _ => rfl) hk hdb hp
theorem ve_val {c1 c2 : Prop} {X X' : D} {a : Addr} (h : c1) (e : X' = X) : VE c1 X c2 a (.val X') := .inl ⟨h, congrArg Out.val e⟩
theorem ve_exc {c1 c2 : Prop} {X : D} {a : Addr} (h : c2) : VE c1 X c2 a (.exc a) := .inr ⟨h, rfl⟩
theorem ite_not {c : Prop} [Decidable c] {X Y : Prop} (h1 : ¬ c → X) (h2 : c → Y) : if (!decide c) = true then X else Y := by
  by_cases h : c
  · rw [if_neg (by simp [h])]; exact h2 h
  · rw [if_pos (by simp [h])]; exact h1 h
theorem ite_t {c : Prop} [Decidable c] {X Y : Prop} (h : c) (x : X) : if c then X else Y := by rw [if_pos h]; exact x
theorem ite_f {c : Prop} [Decidable c] {X Y : Prop} (h : ¬ c) (y : Y) : if c then X else Y := by rw [if_neg h]; exact y
end

theorem rows_W6 : True := by
  w_top off
  k_with_none
  k_with "mine enter" => (refine wpAny_call ?_; k_dflt (refine' enterP [] ?kX ?kT ?kr ?ko ?kc ?kb ?kl ?_ ?c2 ?c3 ?c4 ?c5; (case kX => k_asm); (case kT => k_asm); (case kr => exact Nat.le_of_ble_eq_true rfl); (case ko => k_is); (case kc => k_is); (case kb => exact BindsTo.of_eq rfl); (case kl => exact locs rfl); (case c2 => exact rfl); (case c3 => exact rfl); (case c4 => exact rfl); (case c5 => decide); k_whole; intro L' h' tk' F' K' l1; (dsimp only [List.map, List.zip, List.zipWith, List.reverse, List.reverseAux] at F'); (have N' := news_enter (hide := []) (news := []) K' l1 (fun _ h => nomatch h)); (dsimp only [hideAll] at F' N'); (try dsimp only); (try k_fold)))
  k_with "exec Raise some none" => (refine raise_ex (w := w) rfl ?_)
  k_with "call ref" => ((with_reducible show wpAny _ _ (call (Value.ref 44) [Value.str _ _]) _ _ _); (with_reducible rename Fr _ _ _ _ => FF); refine mk_exc w (exc44 w) (X.keeps FF.keep) (T.keeps FF.keep) (by rw [depth_under_make]; exact Nat.le_of_ble_eq_true rfl) (fun e h2 tk2 hx => ?_))
  k_with "call ref" => ((with_reducible show wpAny _ _ (call (Value.ref 56) [Value.str _ _]) _ _ _); (with_reducible rename Fr _ _ _ _ => FF); refine mk_exc w (exc56 w) (X.keeps FF.keep) (T.keeps FF.keep) (by rw [depth_under_make]; exact Nat.le_of_ble_eq_true rfl) (fun e h2 tk2 hx => ?_))
  k_with "mine ret" => ((try dsimp only); (with_reducible rename Fr _ _ _ _ => FF); refine hret _ _ _ FF.keep ?_)
  k_with "Raised" => ((with_reducible rename Fr _ _ _ _ => FF); refine Raised.of (by first | exact exc44 w | exact exc56 w) (X.keeps FF.keep) hx ?_; (try dsimp only); (try k_unfold); refine leave_first B FF hx (fun h3 hfly => hexc _ _ _ _ ?_ hfly))
  k_with "subscriptTail" => ((with_reducible show wpAny _ _ (subscriptTail _ (Expr.Slice _ _ none _) (Value.bytes _ _) (Value.ref _)) _ _ _); (with_reducible rename Fr _ _ _ _ => FF); (with_reducible rename News _ _ _ _ => NN); (refine KBc.slice_K (s := ⟨_, _, _, _, _⟩) FF NN rfl (by constructor) (by constructor) ?hz ?_); (case hz => (rw [KBw.ints_length]; l_fact)); intro h2 t2' k2 F2 N2 _; (try simp only [hpick]))
  trivial

section
variable {w : World} {sc : Scope} {dl ul : Nat} {C : Cx} {ρ : List (Str × D)}
def Ints (l : List D) (ns : List Int) : Prop := l = ns.map dI
theorem ints_nil : Ints [] [] := rfl
theorem ints_cons {i : Int} {l : List D} {ns : List Int} (h : Ints l ns) : Ints (dI i :: l) (i :: ns) := congrArg (dI i :: ·) h
theorem ints_rels {h : Heap} : ∀ {ns : List Int} {vs : List Value}, Rels h (ns.map dI) vs → IntsAre vs ns
  | [], _, rfl => .nil
  | n :: ns, _, ⟨_, _, rfl, ⟨t, rfl⟩, r⟩ => .cons n t (ints_rels r)
theorem op_bytes_ints (G : Good w sc dl ul C) {l : List D} {ns : List Int} {P : Out D → Prop} (hl : Ints l ns) (hr : ∀ n ∈ ns, 0 ≤ n ∧ n < 256) (hz : ns.length ≤ 1048576) (hp : P (.val (dY (byteArr ns)))) : OpL w sc C ρ (callF (.type "bytes")) [dL l] P := by
  subst hl
  intro vs; refine .mk ?_; rintro s Q E F ⟨v, _, rfl, ⟨a, vs, rfl, hi, r⟩, rfl⟩ hq he
  have hl := r.length
  refine call_bytes_ints (isList_keep (z_sub C _) hi.isList) (ints_rels r) hr (by rw [hl, List.length_map]; exact Nat.le_trans hz (by decide)) G.hh (fun h' t k hk => ?_)
  exact hq _ _ h' k hp (F.keep G hk) (Keep.kk hk) ⟨by unfold byteArr; rw [List.size_toArray, List.length_map]; exact hz, _, rfl⟩
theorem op_bytes_n {n : Int} {P : Out D → Prop} (h0 : 0 ≤ n) (h1 : n ≤ 1048576) (hp : P (.val (dY (Array.replicate n.toNat 0)))) : OpL w sc C ρ (callF (.type "bytes")) [dI n] P := by
  intro vs; refine .mk ?_; rintro s Q E F ⟨v, _, rfl, ⟨t, rfl⟩, rfl⟩ hq he
  exact bytes_count h0 h1 fun t' k => hq _ _ s.heap k hp F (KK.refl _) ⟨by rw [Array.size_replicate]; omega, _, rfl⟩
theorem cm_in_ints {x : Int} {l : List D} {ns : List Int} {P : Out Bool → Prop} (hl : Ints l ns) (hp : P (.val (ns.any fun y => y == x))) : Cm2 w sc C ρ .In (dI x) (dT l) P := by
  subst hl
  intro v1 v2; refine .mk ?_; rintro s Q E F ⟨⟨t, rfl⟩, ⟨a, vs, rfl, ht, r⟩⟩ hq he
  exact in_tuple_ints (isTup_keep (z_sub C _) ht) (ints_rels r) (hq _ _ s.heap s.toks hp F (KK.refl _) rfl)
theorem k100 (w : World) : (hd.heap_39 w.params).lookup 100 = some { cls := .type "tuple", data := .seq #[.str (Str.ofString "chassis") 325, .str (Str.ofString "port") 326, .str (Str.ofString "time") 327] } := by kernel_rfl
abbrev ttD : List (Str × KTD.Dat) := [(Str.ofString "port text", .flat (.int 4)), (Str.ofString "name", .flat (.int 5)), (Str.ofString "system text", .flat (.int 6))]
theorem k99 {w : World} {h : Heap} (x : (hd.heap_39 w.params).In h) : KTD.TextTab h 99 ttD := kt_text_in x (by kernel_rfl)
theorem cm_in_first (G : Good w sc dl ul C) {x : Str} {P : Out Bool → Prop} (hp : P (.val ([Str.ofString "chassis", Str.ofString "port", Str.ofString "time"].any fun y => y == x))) : Cm2 w sc C ρ .In (dS x) (dV (.ref 100)) P := by
  intro v1 v2; refine .mk ?_; rintro s Q E F ⟨⟨t, rfl⟩, rfl⟩ hq he
  obtain ⟨hI, m, F1, R⟩ := id F
  exact in_tuple_strs ⟨_, F1.keep _ _ (G.X _ _ (k100 w)), rfl, _, rfl⟩ (.cons _ _ (.cons _ _ (.cons _ _ .nil))) (hq _ _ s.heap s.toks hp F (KK.refl _) rfl)
theorem cm_in_tt (G : Good w sc dl ul C) {x : Str} {P : Out Bool → Prop} (hp : P (.val (KTD.inKeys x ttD))) : Cm2 w sc C ρ .In (dS x) (dV (.ref 99)) P := by
  intro v1 v2; refine .mk ?_; rintro s Q E F ⟨⟨t, rfl⟩, rfl⟩ hq he
  obtain ⟨hI, m, F1, R⟩ := id F
  exact KTD.in_text (h₀ := C.g) ⟨k99 G.X, F1.keep⟩ (hq _ _ s.heap (s.toks + 1) hp F (KK.refl _) rfl)
theorem op_item_tt (G : Good w sc dl ul C) {x : Str} {i : Int} {value slice : Expr} {P : Out D → Prop} (hx : (x, i) ∈ [(Str.ofString "port text", 4), (Str.ofString "name", 5), (Str.ofString "system text", (6 : Int))])
    (hs : ∀ a t, subscripted slice false (Value.ref a) (Value.str x t) = operate [Value.ref a, Value.str x t] (getItem (Value.ref a) (Value.str x t)))
    (ht : ∀ a r, letTemporaryGo value (Value.ref a) r = pure ()) (hp : P (.val (dI i))) : Op2 w sc C ρ (subscriptTail value slice) (dV (.ref 99)) (dS x) P := by
  intro v1 v2; refine .mk ?_; rintro s Q E F ⟨rfl, ⟨t, rfl⟩⟩ hq he
  obtain ⟨hI, m, F1, R⟩ := id F
  have e : ∀ t', Q (.int i t') { s with toks := s.toks + 1 } := fun t' => hq _ _ s.heap (s.toks + 1) hp F (KK.refl _) ⟨t', rfl⟩
  simp only [List.mem_cons, List.not_mem_nil, or_false, Prod.mk.injEq] at hx
  rcases hx with ⟨rfl, rfl⟩ | ⟨rfl, rfl⟩ | ⟨rfl, rfl⟩
  · exact KTD.item_text (h₀ := C.g) ⟨k99 G.X, F1.keep⟩ (by decide) (KTD.eachL_hit (by decide +kernel) (KTD.opened_int e)) (hs _ _) (ht _)
  · exact KTD.item_text (h₀ := C.g) ⟨k99 G.X, F1.keep⟩ (by decide) (KTD.eachL_miss (by decide +kernel) (KTD.eachL_hit (by decide +kernel) (KTD.opened_int e))) (hs _ _) (ht _)
  · exact KTD.item_text (h₀ := C.g) ⟨k99 G.X, F1.keep⟩ (by decide) (KTD.eachL_miss (by decide +kernel) (KTD.eachL_miss (by decide +kernel) (KTD.eachL_last fun _ => KTD.opened_int e))) (hs _ _) (ht _)
/-- values bound in order -/
def insD : List (Str × D) → List (Str × D) → List (Str × D)
  | [], ρ => ρ
  | p :: l, ρ => insD l (p :: ρ)
theorem stores (G : Good w sc dl ul C) {κ : Type} {g : κ → Str} {f : κ → Value → Sem Unit} (hf : ∀ x v Q E (s : Shared), wpAny (model pr w) C.A (storeName (C.env sc) (g x) v) Q E s → wpAny (model pr w) C.A (f x v) Q E s)
    {Q : Unit → Shared → Prop} {E : Value → Shared → Prop} (xs : List κ) : ∀ (ds : List D) (vs : List Value) (ρ : List (Str × D)) (s : Shared), FrD C ρ s.heap → Rels (C.z s.heap) ds vs → (∀ x ∈ xs, sc.names.lookup (g x) = some .local) → xs.length = ds.length →
      (∀ h' tk', FrD C (insD ((xs.map g).zip ds) ρ) h' → KK C s.heap h' → Q () { s with heap := h', toks := tk' }) → wpAny (model pr w) C.A (assignInOrder (xs.map f) vs) Q E s := by
  induction xs with
  | nil =>
    intro ds vs ρ s F r _ hl hq
    cases ds with
    | nil => exact assignInOrder_nil (hq s.heap s.toks F (KK.refl _))
    | cons _ _ => cases hl
  | cons x xs ih =>
    intro ds vs ρ s F r hx hl hq
    cases ds with
    | nil => cases hl
    | cons d ds =>
      obtain ⟨v, vs, rfl, r0, r⟩ := r
      refine assignInOrder_cons (hf _ _ _ _ _ (frd_set G (h := s.heap) F r0 (hx x List.mem_cons_self) fun h' F' k => ?_))
      exact ih ds vs _ { s with heap := h', toks := s.toks + 1 } F' (r.keep k.z) (fun y hy => hx y (List.mem_cons_of_mem _ hy)) (Nat.succ.inj hl) fun h2 tk2 F2 k2 => hq h2 tk2 F2 (k.trans k2)
theorem ext_keep {h h' : Heap} (he : Heap.ExtBut h.objs.size h h') : Keep h h' := fun b o e => he b o (Nat.ne_of_lt (Heap.lt_size e)) e
def nameOf : Expr → List (Str × Pos)
  | .Name x p => [(x, p)]
  | _ => []
def namesOf (es : List Expr) : List (Str × Pos) := es.foldr (fun e l => nameOf e ++ l) []
theorem ex_assignT (G : Good w sc dl ul C) {k : Nat} {tpos pos : Pos} {e : Expr} {es : List Expr} {P : SOut → Prop} (hq : es = (namesOf es).map fun q => Expr.Name q.1 q.2) (hx : ∀ q ∈ (namesOf es), sc.names.lookup q.1 = some .local) (hn1 : (assignEach es (C.env sc)).length = (namesOf es).length)
    (h1 : (assignEach es (C.env sc)).map (·.2) = (namesOf es).map fun q => assign (.Name q.1 q.2) (C.env sc)) (h2 : (assignEach es (C.env sc)).findIdx? (·.1) = none)
    (hs : swapsWithSole [.Tuple es k tpos] e pos.line (C.env sc) = pure false) (hw : swappedStores [.Tuple es k tpos] e (C.env sc) = pure none)
    (h : Ev w sc C ρ e fun o => match o with | .val d => ∃ ds, d = dT ds ∧ (namesOf es).length = ds.length ∧ P (.next (insD (((namesOf es).map (·.1)).zip ds) ρ)) | .exc c => P (.exc c)) : Ex1 w sc C ρ (.Assign [.Tuple es k tpos] e pos) P :=
  by
  generalize namesOf es = qs at *
  subst hq
  exact .mk fun s Q E F hn hb hr he => Assign_Tuple (h.go s _ E F trivial (fun d v h3 tk3 p F3 k3 r3 => by
    obtain ⟨ds, rfl, hl, p⟩ := p
    obtain ⟨a, vs, rfl, ht, r⟩ := r3
    refine assign_Tuple_tuple (s := { s with heap := h3, toks := tk3 }) G.hh (isTup_keep (z_sub C _) ht) ?_ h2 fun h4 e4 => ?_
    · rw [hn1, List.size_toArray, r.length, hl]
    · rw [h1]
      have k4 := ext_keep e4
      exact stores (Q := fun _ => Q .next) (E := E) G (g := (·.1)) (fun x v Q E s z => assign_Name z) qs ds vs ρ { s with heap := h4, toks := tk3 } (F3.keep G k4) (r.keep (Keep.kk k4).z) hx hl fun h5 tk5 F5 k5 => hn _ h5 tk5 p F5 (k3.trans ((Keep.kk k4).trans k5)).s) he) hs hw
theorem ex_assignS (G : Good w sc dl ul C) {elts : List Expr} {k : Nat} {tpos pos : Pos} {e : Expr} {names : List Str} {P : SOut → Prop} (hx : ∀ q ∈ names, sc.names.lookup q = some .local)
    (hs : swapsWithSole [.Tuple elts k tpos] e pos.line (C.env sc) = pure false) (hw : swappedStores [.Tuple elts k tpos] e (C.env sc) = pure (some names))
    (h : Ev w sc C ρ e fun o => match o with | .val d => ∃ ds, d = dT ds ∧ names.length = ds.length ∧ P (.next (insD (names.reverse.zip ds.reverse) ρ)) | .exc c => P (.exc c)) : Ex1 w sc C ρ (.Assign [.Tuple elts k tpos] e pos) P :=
  .mk fun s Q E F hn hb hr he => Assign_Tuple_swapped (h.go s _ E F trivial (fun d v h3 tk3 p F3 k3 r3 => by
    obtain ⟨ds, rfl, hl, p⟩ := p
    obtain ⟨a, vs, rfl, ht, r⟩ := r3
    have hlen : names.length = vs.toArray.size := by rw [List.size_toArray, r.length, hl]
    rw [hlen]
    refine unpackItems_tuple (s := { s with heap := h3, toks := tk3 }) G.hh (isTup_keep (z_sub C _) ht) fun h4 e4 => ?_
    have k4 := ext_keep e4
    have hr' : Rels (C.z h4) ds.reverse vs.reverse := (r.keep (Keep.kk k4).z).rev
    have := stores (Q := fun _ => Q .next) (E := E) G (g := id) (f := fun n => bindName (C.env sc) n) (fun x v Q E s z => bindName_ z) names.reverse ds.reverse vs.reverse ρ { s with heap := h4, toks := tk3 } (F3.keep G k4) hr' (fun x hm => hx x (List.mem_reverse.mp hm)) (by rw [List.length_reverse, List.length_reverse, hl]) fun h5 tk5 F5 k5 => hn _ h5 tk5 p (by rw [List.map_id] at F5; exact F5) (k3.trans ((Keep.kk k4).trans k5)).s
    simpa using this) he) hs hw
theorem ex_dT {n : Nat} {ds : List D} {F : List D → Prop} (hl : n = ds.length) (h : F ds) : ∃ ds', dT ds = dT ds' ∧ n = ds'.length ∧ F ds' := ⟨ds, rfl, hl, h⟩
theorem ex_dI {i : Int} {F : Int → Prop} (h : F i) : ∃ i', dI i = dI i' ∧ F i' := ⟨i, rfl, h⟩
theorem ex_dY {b : Array UInt8} {F : Array UInt8 → Prop} (h : F b) : ∃ b', dY b = dY b' ∧ F b' := ⟨b, rfl, h⟩
theorem ite_b {b : Bool} {X Y : Prop} (h1 : b = true → X) (h2 : b = false → Y) : if b = true then X else Y := by
  cases b
  · exact h2 rfl
  · exact h1 rfl
end

theorem rows_W7 : True := by
  w_top off
  k_with_none
  k_with "mine enter" => (refine wpAny_call ?_; k_dflt (refine' enterP [] ?kX ?kT ?kr ?ko ?kc ?kb ?kl ?_ ?c2 ?c3 ?c4 ?c5; (case kX => k_asm); (case kT => k_asm); (case kr => exact Nat.le_of_ble_eq_true rfl); (case ko => k_is); (case kc => k_is); (case kb => exact BindsTo.of_eq rfl); (case kl => exact locs rfl); (case c2 => exact rfl); (case c3 => exact rfl); (case c4 => exact rfl); (case c5 => decide); k_whole; intro L' h' tk' F' K' l1; (dsimp only [List.map, List.zip, List.zipWith, List.reverse, List.reverseAux] at F'); (have N' := news_enter (hide := []) (news := []) K' l1 (fun _ h => nomatch h)); (dsimp only [hideAll] at F' N'); (try dsimp only); (try k_fold)))
  k_with "exec Raise some none" => (refine raise_ex (w := w) rfl ?_)
  k_with "call ref" => ((with_reducible show wpAny _ _ (call (Value.ref 44) [Value.str _ _]) _ _ _); (with_reducible rename Fr _ _ _ _ => FF); refine mk_exc w (exc44 w) (X.keeps FF.keep) (T.keeps FF.keep) (by rw [depth_under_make]; exact Nat.le_of_ble_eq_true rfl) (fun e h2 tk2 hx => ?_))
  k_with "call ref" => ((with_reducible show wpAny _ _ (call (Value.ref 56) [Value.str _ _]) _ _ _); (with_reducible rename Fr _ _ _ _ => FF); refine mk_exc w (exc56 w) (X.keeps FF.keep) (T.keeps FF.keep) (by rw [depth_under_make]; exact Nat.le_of_ble_eq_true rfl) (fun e h2 tk2 hx => ?_))
  k_with "mine ret" => ((try dsimp only); (with_reducible rename Fr _ _ _ _ => FF); refine hret _ _ _ FF.keep ?_)
  k_with "Raised" => ((with_reducible rename Fr _ _ _ _ => FF); refine Raised.of (by first | exact exc44 w | exact exc56 w) (X.keeps FF.keep) hx ?_; (try dsimp only); (try k_unfold); refine leave_first B FF hx (fun h3 hfly => hexc _ _ _ _ ?_ hfly))
  k_with "subscriptTail" => ((with_reducible show wpAny _ _ (subscriptTail _ (Expr.Slice _ _ none _) (Value.bytes _ _) (Value.ref _)) _ _ _); (with_reducible rename Fr _ _ _ _ => FF); (with_reducible rename News _ _ _ _ => NN); (refine KBc.slice_K (s := ⟨_, _, _, _, _⟩) FF NN rfl (by constructor) (by constructor) ?hz ?_); (case hz => (rw [KBw.ints_length]; l_fact)); intro h2 t2' k2 F2 N2 _; (try simp only [hpick]))
  trivial

set_option linter.unusedVariables false
section
variable {w : World} {sc : Scope} {dl ul : Nat} {C : Cx} {ρ : List (Str × D)}
/-- an exception that passes a loop of its own frame -/
theorem infl_again {s s' : Shared} {e : Value} {c : Addr} {E : Value → Shared → Prop} (x : InFl w sc C s s' e c) (h : ∀ s'', InFl w sc C s s'' e c → E e s'') : notedBy (model pr w) C.A (C.env sc) (fun e s' => cameBackBy (model pr w) C.A (C.env sc) E e s') e s' :=
  wpAny_mono (wpAny_leaving_again (what := "frame.own-activation:exception-without-traceback") (SameStack.refl C.A) x) (fun _ s1 y => wpAny_mono y (fun _ s2 z => h s2 z) fun _ _ e => e) fun _ _ e => e
@[reducible] def loopP (K : List (Str × D) → Prop) (P : SOut → Prop) : SOut → Prop
  | .next ρ => K ρ
  | .brk ρ => P (.next ρ)
  | o => P o
theorem ex_while {test : Expr} {body : List Stmt} {pos : Pos} {P : SOut → Prop} (J : Nat → List (Str × D) → Prop) (n : Nat) (h0 : J n ρ)
    (turn : ∀ k ρ', J k ρ' → Tst w sc C ρ' test fun x => match x with | .val c => if c = true then Ex w sc C ρ' body (loopP (fun ρ2 => ∃ m, m < k ∧ J m ρ2) P) else P (.next ρ') | .exc c => P (.exc c)) : Ex1 w sc C ρ (.While test body [] pos) P := by
  refine .mk fun s Q E F hn hb hr he => ?_
  refine wpAny_While (codeAny_whileLoop (R := fun r s' => match r with | .ok f => Q f s' | .error e => cameBackBy (model pr w) C.A (C.env sc) E e s') (fun k s' => ∃ ρ' h' tk', s' = { s with heap := h', toks := tk' } ∧ J k ρ' ∧ FrD C ρ' h' ∧ KS C s.heap h') ?_ n ⟨ρ, s.heap, s.toks, rfl, h0, F, (KK.refl _).s⟩)
  rintro k s' ⟨ρ', h', tk', rfl, hJ, F', k'⟩
  have hE : ∀ c e s', P (.exc c) → InFl w sc C s s' e c → notedBy (model pr w) C.A (C.env sc) (fun e s' => cameBackBy (model pr w) C.A (C.env sc) E e s') e s' := fun c e s' p x => infl_again x fun s'' y => he c e s'' p y
  refine (turn k ρ' hJ).go { s with heap := h', toks := tk' } _ _ F' trivial (fun c v h2 tk2 p F2 k2 r => ?_) hE
  cases r
  cases c
  · exact wpAny_execs_nil (hn ρ' h2 tk2 p F2 (k'.trans k2.s))
  · exact p.go { s with heap := h2, toks := tk2 } _ _ F2 (fun ρ2 h3 tk3 ⟨m, lt, J3⟩ F3 k3 => ⟨m, lt, ρ2, h3, tk3, rfl, J3, F3, k'.trans (k2.s.trans k3)⟩) (fun ρ2 h3 tk3 p F3 k3 => hn ρ2 h3 tk3 p F3 (k'.trans (k2.s.trans k3)))
      (fun d v h3 tk3 p F3 k3 r => hr d v h3 tk3 p F3 (k'.trans (k2.s.trans k3)) r) hE
theorem tst_true {k : Nat} {pos : Pos} {P : Out Bool → Prop} (hp : P (.val true)) : Tst w sc C ρ (.Constant (.bool true) k pos) P :=
  .mk fun s Q E F _ hq _ => wpAny_isTrue_value (wpAny_Constant_bool (wpAny_truthy_bool (hq true _ s.heap s.toks hp F (KK.refl _) rfl)))
theorem ex_break {pos : Pos} {P : SOut → Prop} (hp : P (.brk ρ)) : Ex1 w sc C ρ (.Break pos) P := .mk fun s Q E F _ hb _ _ => wpAny_Break (hb ρ s.heap s.toks hp F (KK.refl _).s)
/-- what a statement of an expression alone gives -/
theorem ex_none {e : Expr} {pos : Pos} {P : SOut → Prop} (hi : interactive (C.env sc) = false) (hs : swapsWith e none pos.line (C.env sc) = pure false)
    (h : Ev w sc C ρ e fun o => match o with | .val d => d = dV .none ∧ P (.next ρ) | .exc c => P (.exc c)) : Ex1 w sc C ρ (.Expr e pos) P := by
  refine .mk fun s Q E F hn hb hr he => ?_
  show wpAny _ _ (exec (.Expr e pos) (C.env sc)) _ _ _
  rw [exec_Expr (e := e) (pos := pos) (hi := hi) (hs := hs)]
  refine wpAny_bind (wpAny_standAt (wpAny_bind (h.go s _ E F trivial (fun d v h2 tk2 p F2 k2 r => ?_) he)))
  obtain ⟨rfl, p⟩ := p
  cases r
  rw [dropValue_plain (v := Value.none) (fun a x => by cases x)]
  exact wpAny_pure (hn ρ h2 tk2 p F2 k2.s)
/-- how the rounds of a loop over a value go -/
structure Its (w : World) (C : Cx) (h0 : Heap) (n : Nat) (dn : Nat → D) (target : Expr) (it : Addr) (h1 : Heap) (srcs : List Addr) (P : Nat → Value → Prop) (St : Nat → Heap → Prop) : Prop where
  keep : Keep h0 h1
  new : it = h0.objs.size
  W : Walks pr w C.A it (it :: srcs) [it] n P St
  src : ∀ b ∈ srcs, b ∉ C.L :: C.hid ∧ ∃ o, h0.get? b = some o
  st : St 0 h1
  obj : ∀ i h, St i h → ∃ o, h.get? it = some o ∧ ¬ Codey o
  val : ∀ i v, i < n → P i v → (dn i).rel (C.z h0) v
  go : ∀ i v (s : Shared) (Q : Unit → Shared → Prop) (E : Value → Shared → Prop), St i s.heap → Q () s → wpAny (model pr w) C.A (letOwnedTupleGo target (.ref it) v) Q E s
def Itr (w : World) (C : Cx) (d : D) (n : Nat) (dn : Nat → D) (target : Expr) : Prop := ∀ v (s : Shared) (Q : Value → Shared → Prop) (E : Value → Shared → Prop), (∃ m, Fr C.g C.L s.heap m) → d.rel (C.z s.heap) v →
  (∀ it h1 srcs P St, Its w C s.heap n dn target it h1 srcs P St → Q (.ref it) { s with heap := h1 }) → wpAny (model pr w) C.A (pyIter v) Q E s
def Asg (w : World) (sc : Scope) (C : Cx) (target : Expr) (d : D) (f : List (Str × D) → List (Str × D)) : Prop := ∀ ρ (s : Shared) (Q : Unit → Shared → Prop) (E : Value → Shared → Prop) v, FrD C ρ s.heap → d.rel (C.z s.heap) v →
  (∀ h' tk', FrD C (f ρ) h' → KK C s.heap h' → Q () { s with heap := h', toks := tk' }) → wpAny (model pr w) C.A (assign target (C.env sc) v) Q E s
abbrev Cx.more (C : Cx) (it : Addr) (o : Obj) : Cx := { C with hid := it :: C.hid, I := fun h => C.I h ∧ h.get? it = some o, strict := true }
theorem hi_more (G : Good w sc dl ul C) (it : Addr) (o : Obj) (hno : ¬ Codey o) : HI (C.more it o).hid (C.more it o).I :=
  ⟨fun h h' i k => ⟨G.hi.mono _ _ i.1 fun b o m => k b o (m.imp (List.mem_cons_of_mem _) id), k _ _ (.inl List.mem_cons_self) i.2⟩, fun h i b m => by
    rcases List.mem_cons.mp m with rfl | m
    · exact ⟨_, i.2, hno⟩
    · exact G.hi.lt _ i.1 _ m⟩
theorem good_more (G : Good w sc dl ul C) {it : Addr} {o : Obj} (hno : ¬ Codey o) (h1 : it ≠ C.L) (h2 : C.g.get? it = none) : Good w sc dl ul (C.more it o) :=
  ⟨G.hh, G.hA, G.hAd, G.dep, G.uni, G.B, G.X, G.T, G.hk, hi_more G it o hno, fun m => (List.mem_cons.mp m).elim (fun e => h1 e.symm) G.hidL, fun b m => (List.mem_cons.mp m).elim (fun e => e ▸ h2) (G.hidn b), G.Bx, fun h m F i => G.kx h m F i.1, G.ghl, fun x v e => let ⟨c, e1, k⟩ := G.ghc x v e; ⟨c, e1, fun h i => k h i.1⟩⟩
theorem z_more {C : Cx} {it : Addr} {o : Obj} (h : Heap) : Keep ((C.more it o).z h) (C.z h) := fun b x e => by
  refine hideAll_get _ (of_hideAll _ e) fun m => ?_
  have q : b ∈ (C.more it o).L :: (frs (C.more it o).outer ++ (C.more it o).hid) := by
    rcases List.mem_cons.mp m with r | r
    · exact r ▸ List.mem_cons_self
    · rcases List.mem_append.mp r with r | r
      · exact List.mem_cons_of_mem _ (List.mem_append_left _ r)
      · exact List.mem_cons_of_mem _ (List.mem_append_right _ (List.mem_cons_of_mem _ r))
  have := hideAll_none (h := h) _ q
  unfold Cx.z at e; rw [this] at e; cases e
/-- all but the frame's dict, the hidden things and the iterator stay -/
theorem z_into {C : Cx} {it : Addr} {o : Obj} {h h' : Heap} (hn : h.get? it = none) (k : ∀ b x, b ∉ C.L :: C.hid → b ≠ it → h.get? b = some x → h'.get? b = some x) : Keep (C.z h) ((C.more it o).z h') := fun b x e => by
  have hb : b ∉ C.L :: (frs C.outer ++ C.hid) := fun m => by have := hideAll_none (h := h) _ m; unfold Cx.z at e; rw [this] at e; cases e
  have e1 := of_hideAll _ e
  have hi : b ≠ it := fun q => by rw [q, hn] at e1; cases e1
  refine hideAll_get _ (k b x (fun z => hb ?_) hi e1) fun m => hb ?_
  · rcases List.mem_cons.mp z with q | q
    · exact q ▸ List.mem_cons_self
    · exact List.mem_cons_of_mem _ (List.mem_append_right _ q)
  · rcases List.mem_cons.mp m with q | q
    · exact q ▸ List.mem_cons_self
    · rcases List.mem_append.mp q with q | q
      · exact List.mem_cons_of_mem _ (List.mem_append_left _ q)
      · exact (List.mem_cons.mp q).elim (fun q => absurd q hi) fun q => List.mem_cons_of_mem _ (List.mem_append_right _ q)
def KI (C : Cx) (it : Addr) (h h' : Heap) : Prop := ∀ b x, b ∉ C.L :: C.hid → b ≠ it → h.get? b = some x → h'.get? b = some x
theorem ex_for (G : Good w sc dl ul C) {target iter : Expr} {body : List Stmt} {pos : Pos} {P : SOut → Prop} (n : Nat) (dn : Nat → D) (f : Nat → List (Str × D) → List (Str × D)) (J : Nat → List (Str × D) → Prop) (hs : ∀ x, foldedSetIterable iter (C.env sc) x = pure x) (h0 : J 0 ρ)
    (hit : Ev w sc C ρ iter fun o => match o with | .val d => Itr w C d n dn target | .exc c => P (.exc c)) (hasg : ∀ i it o, i < n → Good w sc dl ul (C.more it o) → Asg w sc (C.more it o) target (dn i) (f i))
    (hb : ∀ i ρ' it o, i < n → J i ρ' → it ∉ C.hid → Good w sc dl ul (C.more it o) → Ex w sc (C.more it o) (f i ρ') body (loopP (J (i + 1)) P)) (hd : ∀ ρ', J n ρ' → P (.next ρ')) : Ex1 w sc C ρ (.For target iter body [] pos) P := by
  refine .mk fun s Q E F hn hbk hr he => ?_
  refine wpAny_For (hit.go s _ E F trivial (fun d v h2 tk2 p F2 k2 r => p v { s with heap := h2, toks := tk2 } _ _ (F2.2.imp fun _ x => x.1) r (fun it h3 srcs Pv St X => ?_)) he) hs
  have hE : ∀ c e s', P (.exc c) → InFl w sc C s s' e c → notedBy (model pr w) C.A (C.env sc) (fun e s' => cameBackBy (model pr w) C.A (C.env sc) E e s') e s' := fun c e s' p x => infl_again x fun s'' y => he c e s'' p y
  have hnone : h2.get? it = none := by 
    cases q : h2.get? it with
    | none => rfl
    | some o => have := Heap.lt_size q; rw [X.new] at this; exact absurd this (Nat.lt_irrefl _)
  have hiL : it ≠ C.L := by
    obtain ⟨m, F3, _⟩ := F2.2
    intro q; have := F3.ns.lt; rw [← q, X.new] at this; exact Nat.lt_irrefl _ this
  have hih : it ∉ C.hid := fun q => by obtain ⟨o, e, _⟩ := G.hi.lt _ F2.1 _ q; rw [hnone] at e; cases e
  have hig : C.g.get? it = none := by
    obtain ⟨m, F3, _⟩ := F2.2
    cases q : C.g.get? it with
    | none => rfl
    | some o => rw [F3.keep _ _ q] at hnone; cases hnone
  have step : ∀ {h h' : Heap} {ρ' : List (Str × D)}, C.I h → (∃ m, Fr C.g C.L h m ∧ ∀ x d, lk ρ' x = some d → ∃ v, C.val m x = some v ∧ d.rel ((C.more it ⟨.none, none, .seq #[] 0, #[]⟩).z h) v) → (∀ b x, b ∉ [it] → h.get? b = some x → h'.get? b = some x) → (∃ o, h.get? it = some o ∧ ¬ Codey o) →
      C.I h' ∧ ∃ m, Fr C.g C.L h' m ∧ ∀ x d, lk ρ' x = some d → ∃ v, C.val m x = some v ∧ d.rel ((C.more it ⟨.none, none, .seq #[] 0, #[]⟩).z h') v := by
    intro h h' ρ' hI ⟨m, F3, R⟩ k ⟨oi, eo, hno⟩
    refine ⟨G.hi.mono _ _ hI fun b x hb e => k b x (fun q => hb.elim (fun hb => hih (List.mem_singleton.mp q ▸ hb)) fun hc => by rw [List.mem_singleton.mp q, eo] at e; cases e; exact hno hc) e, m, ⟨F3.ns.at' fun o e => k _ _ (fun q => hiL (List.mem_singleton.mp q).symm) e, fun b x e => k b x (fun q => by rw [List.mem_singleton.mp q, hig] at e; cases e) (F3.keep b x e), F3.above⟩, fun x d e => ?_⟩
    obtain ⟨v, e1, r⟩ := R x d e
    refine ⟨v, e1, d.mono _ _ _ (fun b x e => ?_) r⟩
    have hbn : b ∉ (C.more it ⟨.none, none, .seq #[] 0, #[]⟩).L :: (frs C.outer ++ (it :: C.hid)) := fun m => by have := hideAll_none (h := h) _ m; unfold Cx.z at e; rw [this] at e; cases e
    exact hideAll_get _ (k b x (fun q => hbn (List.mem_singleton.mp q ▸ List.mem_cons_of_mem _ (List.mem_append_right _ List.mem_cons_self))) (of_hideAll _ e)) hbn
  refine codeAny_forLoop_any (R := fun r s' => match r with | .ok f => Q f s' | .error e => cameBackBy (model pr w) C.A (C.env sc) E e s')
    (fun k s' => ∃ i ρ' h' tk', s' = { s with heap := h', toks := tk' } ∧ k = n - i ∧ i ≤ n ∧ J i ρ' ∧ (C.I h' ∧ ∃ m, Fr C.g C.L h' m ∧ ∀ x d, lk ρ' x = some d → ∃ v, C.val m x = some v ∧ d.rel ((C.more it ⟨.none, none, .seq #[] 0, #[]⟩).z h') v) ∧ St i h' ∧ KI C it h2 h') ?_ n
    ⟨0, ρ, h3, tk2, rfl, rfl, Nat.zero_le _, h0, ⟨G.hi.mono _ _ F2.1 fun b o _ e => X.keep b o e, ?_⟩, X.st, fun b x _ _ e => X.keep b x e⟩
  · rintro k s' ⟨i, ρ', h', tk', rfl, rfl, hi, hJ, Fx, st, kI⟩
    rcases Nat.lt_or_ge i n with hlt | hge
    · refine X.W.item i _ _ _ hlt st fun v h4 tk4 hP st4 k4 => X.go _ v _ _ _ st4 ?_
      obtain ⟨o, ho, hno⟩ := X.obj _ _ st4
      have G' : Good w sc dl ul (C.more it o) := good_more G hno hiL hig
      obtain ⟨i4, m4, F4, R4⟩ := step Fx.1 Fx.2 k4 (X.obj _ _ st)
      have k24 : KI C it h2 h4 := fun b x hb hi e => k4 b x (fun q => hi (List.mem_singleton.mp q)) (kI b x hb hi e)
      refine hasg i it o hlt G' ρ' { s with heap := h4, toks := tk4 } _ _ v ⟨⟨i4, ho⟩, m4, F4, R4⟩ ((dn i).mono _ _ _ (z_into hnone k24) (X.val i v hlt hP)) fun h5 tk5 F5 k5 => ?_
      have out : ∀ {h6 : Heap}, KS (C.more it o) h5 h6 → KI C it h2 h6 := fun k6 b x hb hi e => k6 rfl b x (fun q => (List.mem_cons.mp q).elim (fun q => hb (q ▸ List.mem_cons_self)) fun q => (List.mem_cons.mp q).elim hi fun q => hb (List.mem_cons_of_mem _ q))
        (k5 b x (fun q => (List.mem_cons.mp q).elim (fun q => hb (q ▸ List.mem_cons_self)) fun q => (List.mem_cons.mp q).elim hi fun q => hb (List.mem_cons_of_mem _ q)) (k24 b x hb hi e))
      have kk : ∀ {h6 : Heap}, KI C it h2 h6 → KS C s.heap h6 := fun k6 _ b x hb e => have e2 := k2 b x hb e; k6 b x hb (fun q => by rw [q, hnone] at e2; cases e2) e2
      refine (hb i ρ' it o hlt hJ hih G').go { s with heap := h5, toks := tk5 } _ _ F5 (fun ρ2 h6 tk6 p F6 k6 => ?_) (fun ρ2 h6 tk6 p F6 k6 => ?_) (fun d v h6 tk6 p F6 k6 r => ?_) hE
      · refine ⟨n - (i + 1), by omega, i + 1, ρ2, h6, tk6, rfl, rfl, hlt, p, ⟨F6.1.1, F6.2⟩, X.W.frame _ _ _ st4 fun b hb x e => ?_, out k6⟩
        rcases List.mem_cons.mp hb with rfl | hb
        · rw [ho] at e; cases e; exact F6.1.2
        · obtain ⟨hb1, x0, hx0⟩ := X.src b hb
          have hbi : b ≠ it := fun q => by rw [q, hnone] at hx0; cases hx0
          have e4 := k24 b x0 hb1 hbi hx0
          rw [e4] at e; cases e
          exact out k6 b _ hb1 hbi hx0
      · refine hn ρ2 h6 tk6 p ⟨F6.1.1, ?_⟩ (kk (out k6))
        obtain ⟨m6, F6', R6⟩ := F6.2
        exact ⟨m6, F6', fun x d e => let ⟨v, e1, r⟩ := R6 x d e; ⟨v, e1, d.mono _ _ _ (z_more h6) r⟩⟩
      · exact hr d v h6 tk6 p ⟨F6.1.1, F6.2.imp fun m x => ⟨x.1, fun _ _ e => nomatch e⟩⟩ (kk (out k6)) (d.mono _ _ _ (z_more h6) r)
    · obtain rfl : i = n := Nat.le_antisymm hi hge
      refine X.W.done _ _ _ st fun h4 tk4 k4 => wpAny_execs_nil ?_
      obtain ⟨i4, m4, F4, R4⟩ := step Fx.1 Fx.2 k4 (X.obj _ _ st)
      exact hn ρ' h4 tk4 (hd ρ' hJ) ⟨i4, m4, F4, fun x d e => let ⟨v, e1, r⟩ := R4 x d e; ⟨v, e1, d.mono _ _ _ (z_more h4) r⟩⟩
        fun _ b x hb e => have e2 := k2 b x hb e; have hbi : b ≠ it := fun q => by rw [q, hnone] at e2; cases e2
          k4 b x (fun q => hbi (List.mem_singleton.mp q)) (kI b x hb hbi e2)
  · obtain ⟨m, F3, R⟩ := F2.2
    exact ⟨m, fr_keep F3 X.keep, fun x d e => let ⟨v, e1, r⟩ := R x d e; ⟨v, e1, d.mono _ _ _ (z_into hnone fun b x _ _ e => X.keep b x e) r⟩⟩
end

theorem rows_W8 : True := by
  w_top off
  k_with_none
  k_with "mine enter" => (refine wpAny_call ?_; k_dflt (refine' enterP [] ?kX ?kT ?kr ?ko ?kc ?kb ?kl ?_ ?c2 ?c3 ?c4 ?c5; (case kX => k_asm); (case kT => k_asm); (case kr => exact Nat.le_of_ble_eq_true rfl); (case ko => k_is); (case kc => k_is); (case kb => exact BindsTo.of_eq rfl); (case kl => exact locs rfl); (case c2 => exact rfl); (case c3 => exact rfl); (case c4 => exact rfl); (case c5 => decide); k_whole; intro L' h' tk' F' K' l1; (dsimp only [List.map, List.zip, List.zipWith, List.reverse, List.reverseAux] at F'); (have N' := news_enter (hide := []) (news := []) K' l1 (fun _ h => nomatch h)); (dsimp only [hideAll] at F' N'); (try dsimp only); (try k_fold)))
  k_with "exec Raise some none" => (refine raise_ex (w := w) rfl ?_)
  k_with "call ref" => ((with_reducible show wpAny _ _ (call (Value.ref 44) [Value.str _ _]) _ _ _); (with_reducible rename Fr _ _ _ _ => FF); refine mk_exc w (exc44 w) (X.keeps FF.keep) (T.keeps FF.keep) (by rw [depth_under_make]; exact Nat.le_of_ble_eq_true rfl) (fun e h2 tk2 hx => ?_))
  k_with "call ref" => ((with_reducible show wpAny _ _ (call (Value.ref 56) [Value.str _ _]) _ _ _); (with_reducible rename Fr _ _ _ _ => FF); refine mk_exc w (exc56 w) (X.keeps FF.keep) (T.keeps FF.keep) (by rw [depth_under_make]; exact Nat.le_of_ble_eq_true rfl) (fun e h2 tk2 hx => ?_))
  k_with "mine ret" => ((try dsimp only); (with_reducible rename Fr _ _ _ _ => FF); refine hret _ _ _ FF.keep ?_)
  k_with "Raised" => ((with_reducible rename Fr _ _ _ _ => FF); refine Raised.of (by first | exact exc44 w | exact exc56 w) (X.keeps FF.keep) hx ?_; (try dsimp only); (try k_unfold); refine leave_first B FF hx (fun h3 hfly => hexc _ _ _ _ ?_ hfly))
  k_with "subscriptTail" => ((with_reducible show wpAny _ _ (subscriptTail _ (Expr.Slice _ _ none _) (Value.bytes _ _) (Value.ref _)) _ _ _); (with_reducible rename Fr _ _ _ _ => FF); (with_reducible rename News _ _ _ _ => NN); (refine KBc.slice_K (s := ⟨_, _, _, _, _⟩) FF NN rfl (by constructor) (by constructor) ?hz ?_); (case hz => (rw [KBw.ints_length]; l_fact)); intro h2 t2' k2 F2 N2 _; (try simp only [hpick]))
  trivial

section
variable {w : World} {sc : Scope} {dl ul : Nat} {C : Cx} {ρ : List (Str × D)}
theorem asg_name (G : Good w sc dl ul C) {x : Str} {px : Pos} {d : D} (hx : sc.names.lookup x = some .local) : Asg w sc C (.Name x px) d ((x, d) :: ·) :=
  fun ρ s Q E v F r h => assign_Name (frd_set (h := s.heap) G F r hx fun h' F' k => h h' _ F' k)
theorem it_bytes (G : Good w sc dl ul C) {b : Array UInt8} {x : Str} {px : Pos} : Itr w C (dY b) b.size (fun i => dI (bat b i : Nat)) (.Name x px) := by
  rintro v s Q E F ⟨_, t, rfl⟩ h
  refine KBw.pyIter_bytes (h s.heap.objs.size _ [] _ _ ⟨fun b o e => Heap.get?_push_of_some _ e, rfl, KBw.walks G.hh _ b t, fun _ m => (nomatch m), ⟨_, Heap.get?_push_size _ rfl, rfl, rfl⟩, fun i h st => let ⟨o, e, _, d⟩ := st; ⟨o, e, fun ⟨vs, q, t, d2, e2⟩ => by rw [d] at d2; cases d2; cases e2⟩, fun i v hi p => ?_, fun _ _ _ _ _ _ q => wpAny_of_eq (a := ()) rfl q⟩)
  obtain ⟨c, u, e, rfl⟩ := p
  refine ⟨u, congrArg (Value.int · u) ?_⟩
  simp [bat, Array.getD, hi] at e ⊢
  rw [← e]
theorem it_list (G : Good w sc dl ul C) {ds : List D} {target : Expr} (hgo : ∀ I ax i v (s : Shared) (Q : Unit → Shared → Prop) (E : Value → Shared → Prop), s.heap.IsListIter I ax i → Q () s → wpAny (model pr w) C.A (letOwnedTupleGo target (.ref I) v) Q E s) : Itr w C (dL ds) ds.length (fun i => ds.getD i (dI 0)) target := by
  rintro v s Q E F ⟨ax, vs, rfl, hl, r⟩ h
  have hp := hl
  replace hl := hl.isList
  have hl' := isList_keep (z_sub C _) hl
  have hb : ax ∉ C.L :: C.hid := fun m => by
    obtain ⟨o, e, _⟩ := hl
    have := hideAll_none (h := s.heap) (C.L :: (frs C.outer ++ C.hid)) (b := ax) ((List.mem_cons.mp m).elim (fun q => q ▸ List.mem_cons_self) fun q => List.mem_cons_of_mem _ (List.mem_append_right _ q))
    unfold Cx.z at e; rw [this] at e; cases e
  have hlt : ax < s.heap.objs.size := let ⟨o, e, _⟩ := hl'; Heap.lt_size e
  have hz : vs.toArray.size = ds.length := by rw [List.size_toArray, r.length]
  refine wpAny_pyIter_list hl' (h s.heap.objs.size _ [ax] _ _ ⟨fun b o e => Heap.get?_push_of_some _ e, rfl, hz ▸ Walks.list G.hh _ ax (Nat.ne_of_lt hlt) vs.toArray, fun b m => List.mem_singleton.mp m ▸ ⟨hb, let ⟨o, e, _⟩ := hl'; ⟨o, e⟩⟩, ⟨⟨_, Heap.get?_push_size _ rfl, rfl, rfl⟩, hl'.push _⟩, fun i h st => let ⟨o, e, _, d⟩ := st.1; ⟨o, e, fun ⟨vs, q, t, d2, e2⟩ => by rw [d] at d2; cases d2; cases e2⟩, fun i v hi p => ?_, fun i v s Q E st q => hgo _ ax _ _ _ _ _ st.1 q⟩)
  obtain ⟨v', e, rr⟩ := r.get (i := i) (d := ds.getD i (dI 0)) (by simp [hi])
  rw [List.getElem?_toArray] at p
  rw [e] at p; cases p; exact rr
theorem k99e (w : World) : (hd.heap_39 w.params).lookup 99 = some { cls := .type "dict", data := .dict #[⟨PyData.keyHash w.params (Str.ofString "port text"), .str (Str.ofString "port text") 315, .int 4 316⟩, ⟨PyData.keyHash w.params (Str.ofString "name"), .str (Str.ofString "name") 317, .int 5 318⟩, ⟨PyData.keyHash w.params (Str.ofString "system text"), .str (Str.ofString "system text") 319, .int 6 320⟩] 3 } := by kernel_rfl
abbrev ttW : List (Str × Int) := [(Str.ofString "port text", 4), (Str.ofString "name", 5), (Str.ofString "system text", 6)]
theorem ks (w : World) {x : Str} {t : Tok} {v : Value} : ∃ k, (strKind pr w).is k (DictEntry.mk (PyData.keyHash w.params x) (.str x t) v).key = true ∧ (DictEntry.mk (PyData.keyHash w.params x) (.str x t) v).hash = (strKind pr w).hash k :=
  ⟨x, beq_self_eq_true x, rfl⟩
abbrev kv99 : List (Str × Value) := [(Str.ofString "port text", .int 4 316), (Str.ofString "name", .int 5 318), (Str.ofString "system text", .int 6 320)]
theorem d99 {w : World} {h : Heap} (x : (hd.heap_39 w.params).In h) : h.DictAt (strKind pr w) 99 kv99 3 := by
  refine ⟨_, _, x _ _ (k99e w), ⟨rfl, rfl, rfl⟩, rfl, fun e he => ?_, .cons (beq_self_eq_true _) rfl (.cons (beq_self_eq_true _) rfl (.cons (beq_self_eq_true _) rfl .nil)), by decide +kernel⟩
  simp only [List.mem_toArray, List.mem_cons, List.not_mem_nil, or_false] at he
  rcases he with rfl | rfl | rfl <;> exact ks w
theorem it_tt (G : Good w sc dl ul C) {x : Str} {px : Pos} : Itr w C (dV (.ref 99)) 3 (fun i => dS (ttW.getD i (Str.ofString "", 0)).1) (.Name x px) := by
  rintro v s Q E ⟨m, F⟩ rfl h
  have hd := d99 (G.X.keeps F.keep)
  have hb : (99 : Addr) ∉ C.L :: C.hid := fun q => by
    have e : C.g.get? 99 = some _ := G.X _ _ (k99e w)
    rcases List.mem_cons.mp q with q | q
    · rw [q, kts_self F] at e; cases e
    · rw [G.hidn _ q] at e; cases e
  refine wpAny_pyIter_dict (by decide) hd (h s.heap.objs.size _ [99] _ _ ⟨fun b o e => Heap.get?_push_of_some _ e, rfl, Walks.dictKeys (knd := strKind pr w) G.hh s.heap.objs.size 99 (Nat.ne_of_lt hd.lt_size) kv99 3, fun b m => List.mem_singleton.mp m ▸ ⟨hb, let ⟨o, _, e, _⟩ := hd; ⟨o, e⟩⟩, ⟨⟨_, Heap.get?_push_size _ rfl, rfl, rfl⟩, hd.push _⟩, fun i h st => let ⟨o, e, _, d⟩ := st.1; ⟨o, e, fun ⟨vs, q, t, d2, e2⟩ => by rw [d] at d2; cases d2; cases e2⟩, fun i v hi p => ?_, fun i v s Q E st q => letGo_keyiter st.1 q⟩)
  obtain ⟨k, y, e, hk⟩ := p
  obtain ⟨t, rfl⟩ := Value.isStrOf_shape hk
  have : i = 0 ∨ i = 1 ∨ i = 2 := by omega
  rcases this with rfl | rfl | rfl <;> (cases e; exact ⟨t, rfl⟩)
end

theorem rows_W9 : True := by
  w_top off
  k_with_none
  k_with "mine enter" => (refine wpAny_call ?_; k_dflt (refine' enterP [] ?kX ?kT ?kr ?ko ?kc ?kb ?kl ?_ ?c2 ?c3 ?c4 ?c5; (case kX => k_asm); (case kT => k_asm); (case kr => exact Nat.le_of_ble_eq_true rfl); (case ko => k_is); (case kc => k_is); (case kb => exact BindsTo.of_eq rfl); (case kl => exact locs rfl); (case c2 => exact rfl); (case c3 => exact rfl); (case c4 => exact rfl); (case c5 => decide); k_whole; intro L' h' tk' F' K' l1; (dsimp only [List.map, List.zip, List.zipWith, List.reverse, List.reverseAux] at F'); (have N' := news_enter (hide := []) (news := []) K' l1 (fun _ h => nomatch h)); (dsimp only [hideAll] at F' N'); (try dsimp only); (try k_fold)))
  k_with "exec Raise some none" => (refine raise_ex (w := w) rfl ?_)
  k_with "call ref" => ((with_reducible show wpAny _ _ (call (Value.ref 44) [Value.str _ _]) _ _ _); (with_reducible rename Fr _ _ _ _ => FF); refine mk_exc w (exc44 w) (X.keeps FF.keep) (T.keeps FF.keep) (by rw [depth_under_make]; exact Nat.le_of_ble_eq_true rfl) (fun e h2 tk2 hx => ?_))
  k_with "call ref" => ((with_reducible show wpAny _ _ (call (Value.ref 56) [Value.str _ _]) _ _ _); (with_reducible rename Fr _ _ _ _ => FF); refine mk_exc w (exc56 w) (X.keeps FF.keep) (T.keeps FF.keep) (by rw [depth_under_make]; exact Nat.le_of_ble_eq_true rfl) (fun e h2 tk2 hx => ?_))
  k_with "mine ret" => ((try dsimp only); (with_reducible rename Fr _ _ _ _ => FF); refine hret _ _ _ FF.keep ?_)
  k_with "Raised" => ((with_reducible rename Fr _ _ _ _ => FF); refine Raised.of (by first | exact exc44 w | exact exc56 w) (X.keeps FF.keep) hx ?_; (try dsimp only); (try k_unfold); refine leave_first B FF hx (fun h3 hfly => hexc _ _ _ _ ?_ hfly))
  k_with "subscriptTail" => ((with_reducible show wpAny _ _ (subscriptTail _ (Expr.Slice _ _ none _) (Value.bytes _ _) (Value.ref _)) _ _ _); (with_reducible rename Fr _ _ _ _ => FF); (with_reducible rename News _ _ _ _ => NN); (refine KBc.slice_K (s := ⟨_, _, _, _, _⟩) FF NN rfl (by constructor) (by constructor) ?hz ?_); (case hz => (rw [KBw.ints_length]; l_fact)); intro h2 t2' k2 F2 N2 _; (try simp only [hpick]))
  trivial

set_option linter.unusedVariables false
section
variable {M : Model} {A : Around} {E : Value → Shared → Prop} {s : Shared}
theorem leave_any {base : Heap} {env : Env} {outer : List Env} {L e : Addr} {cls a0 fl : Value} {Q : Unit → Shared → Prop} (hfr : A.frames = some (env :: outer)) (hf : env.frame = some L)
    (k : base.StaysIn s.heap) (hn : base.get? e = none) (hl : s.heap.FunFrames base (env :: outer)) (ht : s.heap.TracedAtW base e cls a0 fl) (hQ : ∀ h', Heap.FlyingW base outer e cls a0 h' → s.heap.UpToSlots h' → Q () { s with heap := h' }) : wpAny M A (leaving env (.ref e)) Q E s := by
  by_cases q : fl = rawInt L
  · subst q
    unfold leaving
    refine wpAny_bind (wpAny_noteFrame_againW hf ht ?_)
    refine wpAny_landsW ⟨k, hn, hl, ht⟩ fun h' hfl up => ?_
    obtain ⟨k1, k2, ⟨_, _, k3⟩, k4⟩ := hfl
    exact hQ h' ⟨k1, k2, k3, k4⟩ up
  obtain ⟨oe, vs, T, oT, ts, he, ⟨hcls, h0⟩, hd, h1, hnT, hTe, hT, hdT, h3⟩ := ht
  subst hcls
  unfold leaving noteFrame
  simp only [hf]
  refine wpAny_bind (wpAny_bind (wpAny_field he hd h1 ?_))
  rw [if_pos (show (Value.ref T != Value.none) = true from rfl)]
  refine wpAny_bind (wpAny_field hT hdT h3 ?_)
  rw [if_neg (fun z => q (beq_iff_eq.mp z))]
  refine wpAny_bind (wpAny_setField hT hdT (Array.getElem?_eq_some_iff.mp h3).1 ?_)
  have other : ∀ b o, b ≠ T → s.heap.get? b = some o → (s.heap.update T (Obj.mapFields (·.setIfInBounds 3 Value.none))).get? b = some o := fun b o hb x => (Heap.get?_update_other _ _ (Ne.symm hb)).trans x
  refine wpAny_newEntryW hfr (hl.of_keeps fun b o hb hnf => ⟨o, other b o (fun z => ?_) hb, rfl⟩) hf (other e oe (Ne.symm hTe) he) (fun b o hb => other b o (fun z => ?_) (k b o hb)) hn hd (Array.getElem?_eq_some_iff.mp h1).1 h0 fun h' hL => ?_
  · rw [z, hT] at hb; cases hb; exact hnf ts hdT
  · rw [z, hnT] at hb; cases hb
  · obtain ⟨k1, ⟨_, _, k2⟩, k3, k4⟩ := hL
    exact hQ h' ⟨k1, hn, k2, k3⟩ fun b o x nf => k4 b o (other b o (fun z => by rw [z, hT] at x; cases x; exact nf ts hdT) x) nf
end
section
variable {w : World} {sc : Scope} {dl ul : Nat} {C : Cx} {ρ : List (Str × D)}
theorem funFrames_but {h h' base : Heap} {Cd : Addr} (k : ∀ b o, b ≠ Cd → h.get? b = some o → (∀ vs, o.data ≠ .fields vs) → ∃ o', h'.get? b = some o' ∧ o'.data = o.data) (l : List Env) (x : h.FunFrames base l) (hc : Cd ∉ frs l) : h'.FunFrames base l := by
  induction l with
  | nil => exact trivial
  | cons env l ih =>
    obtain ⟨a, ⟨L, o, hf, b, c, d⟩, r⟩ := x
    obtain ⟨o', e, q⟩ := k L o (fun z => hc (z ▸ mem_frs List.mem_cons_self hf)) c d
    exact ⟨a, ⟨L, o', hf, b, e, fun vs => q ▸ d vs⟩, ih r fun z => hc (by unfold frs; rw [List.filterMap_cons, hf]; exact List.mem_cons_of_mem _ z)⟩
theorem L_frs {C : Cx} {sc : Scope} {b : Addr} : b ∈ frs (C.env sc :: C.outer) ↔ b = C.L ∨ b ∈ frs C.outer := List.mem_cons
/-- an exception that was in flight above, at this frame again -/
theorem infl_at (G : Good w sc dl ul C) {s s' : Shared} {h h' : Heap} {tk : Nat} {m : Str → Option Value} {a c : Addr} {a0 fl : Value} (F : Fr C.g C.L h m) (k : (hideAll C.gx (frs C.outer)).StaysIn h') (hl : h'.FunFrames (hideAll C.gx (frs C.outer)) (C.env sc :: C.outer)) (hn : (hideAll C.gx (frs C.outer)).get? a = none) (ht : h'.TracedAtW (hideAll C.gx (frs C.outer)) a (.ref c) a0 fl)
    (hfk : FrsKept C.gx C.outer h') (hs : s' = { s with heap := h', toks := tk }) : InFl w sc C s s' (.ref a) c := by
  subst hs
  exact leave_any (base := hideAll C.gx (frs C.outer)) (s := { s with heap := h', toks := tk }) G.hA rfl k hn hl ht fun h3 x up => ⟨a, h3, tk, rfl, rfl, ⟨a0, x⟩, fun b hb o e nf => let ⟨sl, e2⟩ := hfk b hb o e nf; up b { o with slots := sl } e2 nf⟩
/-- what holds within a comprehension -/
structure InC (C : Cx) (x : Str) (h0 : Heap) (Cd : Addr) (d : D) (h : Heap) : Prop where
  fr : ∃ m, Fr C.g C.L h m
  i : C.I h
  keep : Keep h0 h
  var : ∃ m v, h.Ns Cd m ∧ m x = some v ∧ d.rel (C.z h0) v
  cd : (C.g.get? Cd = none ∧ C.gx.get? Cd = none) ∧ Cd ∉ C.L :: (frs C.outer ++ C.hid)
theorem InC.to {C : Cx} {x : Str} {h0 h h' : Heap} {Cd : Addr} {d : D} (G : Good w sc dl ul C) (X : InC C x h0 Cd d h) (k : Keep h h') : InC C x h0 Cd d h' :=
  ⟨X.fr.imp fun m F => fr_keep F k, G.hi.mono _ _ X.i fun b o _ e => k b o e, X.keep.trans k, let ⟨m, v, a, b⟩ := X.var; ⟨m, v, a.keeps k, b⟩, X.cd⟩
def outs (n : Nat) (pf : Nat → Bool) (en : Nat → D) : List D := ((List.range n).filter pf).map en
theorem outs_succ (n : Nat) (pf : Nat → Bool) (en : Nat → D) : outs (n + 1) pf en = outs n pf en ++ if pf n then [en n] else [] := by
  unfold outs; rw [List.range_succ, List.filter_append, List.map_append]; cases h : pf n <;> simp [h]
def compTest (ifs : List Expr) (env : Env) : Sem Bool := forIn ifs true fun c r => if r = true then do let ok ← PySem.isTrue c env (eval c env); pure (ForInStep.yield ok) else pure (ForInStep.yield r)
/-- the exceptions of a comprehension's element -/
def XC (C : Cx) (sc : Scope) (P : Out D → Prop) (s₃ : Shared) (e : Value) (s' : Shared) : Prop := ∃ c a h4 tk4, e = .ref a ∧ P (.exc c) ∧ s' = { s₃ with heap := h4, toks := tk4 } ∧ Fly s₃.heap (C.env sc :: C.outer) a (.ref c) h4
theorem comp_exc (G : Good w sc dl ul C) {P : Out D → Prop} {x : Str} {scope : Scope} {cl : List (Str × Addr)} {h0 : Heap} {Cd : Addr} {d : D} {s s₃ s' : Shared} {tk₃ : Nat} {E : Value → Shared → Prop} {Q : Value → Shared → Prop} {acc e : Value} (X : InC C x h0 Cd d s₃.heap) (h3 : s₃ = { s with heap := s₃.heap, toks := tk₃ })
    (y : XC C sc P s₃ e s') (he : ∀ c e s', P (.exc c) → InFl w sc C s s' e c → E e s') : notedBy (model pr w) C.A (compEnvC scope cl Cd (C.env sc)) (fun e s' => compPost (model pr w) C.A E none Q acc Cd (.error e) s') e s' := by
  obtain ⟨c, a, h4, tk4, rfl, hp, rfl, ⟨a0, fl⟩, fk⟩ := y
  obtain ⟨m, F⟩ := X.fr
  show wpAny (model pr w) C.A (noteFrame (.ref a) (C.env sc)) _ _ _
  refine wpAny_looks_onW G.hA rfl fl fun h5 H5 U5 => ?_
  obtain ⟨mC, v, hC, _⟩ := X.var
  have hCd : Cd ∉ frs (C.env sc :: C.outer) ∧ Cd ∉ C.hid := ⟨fun z => X.cd.2 ((L_frs.mp z).elim (fun q => q ▸ List.mem_cons_self) fun q => List.mem_cons_of_mem _ (List.mem_append_left _ q)), fun z => X.cd.2 (List.mem_cons_of_mem _ (List.mem_append_right _ z))⟩
  have hC5 : h5.Ns Cd mC := hC.at' fun o q => H5.1 _ _ (hideAll_get _ q hCd.1)
  refine ⟨mC, hC5, fun h6 h56 cenv _ => ?_⟩
  have Fx := G.kx _ _ F X.i
  have kb : (hideAll C.gx (frs C.outer)).StaysIn (hideAll s₃.heap (frs (C.env sc :: C.outer))) := hideAll_stays Fx.keep fun b z => (L_frs.mp z).elim (fun q => .inr (q ▸ kts_self Fx)) .inl
  obtain ⟨f1, f2, f3, f4⟩ := heldW_base kb H5
  obtain ⟨oe, vs, T, oT, ts, b1, b2, b3, b4, b5, b6, b7, b8, b9⟩ := f4
  have ne : ∀ {b o vs}, h5.get? b = some o → o.data = .fields vs → b ≠ Cd := fun q1 q2 z => by
    obtain ⟨o', es, ep, q, qd, _⟩ := hC5; rw [z, q] at q1; cases q1; rw [qd] at q2; cases q2
  have cg : (hideAll C.gx (frs C.outer)).get? Cd = none := by
    cases q : (hideAll C.gx (frs C.outer)).get? Cd with
    | none => rfl
    | some o => have := of_hideAll _ q; rw [X.cd.1.2] at this; cases this
  have g1 := h56.extBut _ _ (ne b1 b3) b1
  have g7 := h56.extBut _ _ (ne b7 b8) b7
  unfold PySem.passOn
  refine wpAny_bind (wpAny_field g1 b3 b4 ?_)
  rw [if_neg (by simp)]
  unfold setFlight
  refine wpAny_bind (wpAny_bind (wpAny_field g1 b3 b4 ?_))
  rw [if_pos (by simp)]
  have hsz := (Array.getElem?_eq_some_iff.mp b9).1
  refine wpAny_setField g7 b8 hsz (wpAny_throw (he c _ _ hp ?_))
  have other : ∀ b o, b ≠ T → h6.get? b = some o → (h6.update T (Obj.mapFields (·.setIfInBounds 3 (cenv.frame.elim Value.none fun f => rawInt f)))).get? b = some o := fun b o hb x => (Heap.get?_update_other _ _ (Ne.symm hb)).trans x
  refine infl_at (tk := tk4) (a0 := a0) (fl := cenv.frame.elim Value.none fun f => rawInt f) G F (fun b o q => other b o (fun z => ?_) (h56.extBut b o (fun z => ?_) (f1 b o q))) (funFrames_but (fun b o hb q hnf => ⟨o, other b o (fun z => ?_) (h56.extBut b o hb q), rfl⟩) _ f3 hCd.1) f2 ⟨oe, vs, T, _, _, other _ _ (Ne.symm b6) g1, b2, b3, b4, b5, b6, Heap.get?_update_self _ g7 (Obj.isFreed_of_fields (Obj.data_mapFields b8 _)), Obj.data_mapFields b8 _, by simp [hsz]⟩ (fun b hb o e nf => ?_) (by rw [h3])
  · rw [z, b5] at q; cases q
  · rw [z, cg] at q; cases q
  · rw [z, b7] at q; cases q; exact hnf ts b8
  · obtain ⟨sl, e4⟩ := fk b (L_frs.mpr (.inr hb)) o (Fx.keep _ _ e) nf
    obtain ⟨sl5, e5⟩ := U5 b { o with slots := sl } e4 nf
    exact ⟨sl5, other b _ (fun z => by rw [z, b7] at e5; cases e5; exact nf ts b8) (h56.extBut b _ (fun z => hCd.1 (L_frs.mpr (.inr (z ▸ hb)))) e5)⟩
end

section
variable {w : World} {sc : Scope} {dl ul : Nat} {C : Cx} {ρ : List (Str × D)}
inductive CInv (C : Cx) (s : Shared) (n : Nat) (pf : Nat → Bool) (en : Nat → D) (h0 : Heap) (Dl Cd : Addr) (St : Nat → Heap → Prop) : Nat → Shared → Prop
  | mk (i : Nat) (ys : Array Value) (h : Heap) (tk : Nat) (m : Str → Option Value) : i ≤ n → St i h → h.PlainList Dl ys → h.Ns Cd m → Rels (C.z h0) (outs i pf en) ys.toList → Keep h0 h → CInv C s n pf en h0 Dl Cd St (n - i) { s with heap := h, toks := tk }
theorem rels_snoc {h : Heap} {l : List D} {vs : List Value} {d : D} {v : Value} (r : Rels h l vs) (x : d.rel h v) : Rels h (l ++ [d]) (vs ++ [v]) := Rels.app (l2 := [d]) (v2 := [v]) ⟨v, [], rfl, x, rfl⟩ _ r
theorem ev_comp (G : Good w sc dl ul C) {elt iter : Expr} {x : Str} {px pos : Pos} {ifs : List Expr} {scope : Scope} {cl : List (Str × Addr)} {P : Out D → Prop} (n : Nat) (dn en : Nat → D) (pf : Nat → Bool) (hclos : closureFor scope (C.env sc) = pure cl)
    (hcell : ∀ y ∈ scope.names, y.2 ≠ .cell) (hkind : scope.kind = .function) (hnames : ∀ y ∈ scope.names, y.2 = .local → scope.names.lookup y.1 = some .local) (hx : scope.names.lookup x = some .local) (hs : ∀ x, foldedSetIterable iter (C.env sc) x = pure x) (hn : n ≤ 1048576)
    (hit : Ev w sc C ρ iter fun o => match o with | .val d => Itr w C d n dn (.Name x px) | .exc c => P (.exc c))
    (htest : ∀ i h0 Cd (s₃ : Shared) E, i < n → InC C x h0 Cd (dn i) s₃.heap → wpAny (model pr w) C.A (compTest ifs (compEnvC scope cl Cd (C.env sc))) (fun b s₄ => b = pf i ∧ Keeps s₃ s₄) E s₃)
    (helt : ∀ i h0 Cd (s₃ : Shared), i < n → pf i = true → InC C x h0 Cd (dn i) s₃.heap → wpAny (model pr w) C.A (eval elt (compEnvC scope cl Cd (C.env sc))) (fun y s₄ => (en i).rel (C.z h0) y ∧ Keeps s₃ s₄) (XC C sc P s₃) s₃)
    (hp : P (.val (dL (outs n pf en)))) : Ev w sc C ρ (.ListComp elt [⟨.Name x px, iter, ifs, 0⟩] scope pos) P := by
  refine .mk fun s Q E F z hq he => ?_
  show wpAny _ _ (eval (.ListComp elt [⟨.Name x px, iter, ifs, 0⟩] scope pos) (C.env sc)) _ _ _
  rw [eval_ListComp]
  refine wpAny_comprehension_free (use := none) rfl hs hclos hkind hnames (hit.go s _ E F trivial (fun d v h2 tk2 p F2 k2 r => p v { s with heap := h2, toks := tk2 } _ _ (F2.2.imp fun _ x => x.1) r (fun it h3 srcs Pv St X => ?_)) he)
  have a0 : h2.objs.size < h3.objs.size := let ⟨o, e, _⟩ := X.obj _ _ X.st; X.new ▸ Heap.lt_size e
  refine wpAny_newObj_type (wpAny_newFunctionEnv hcell (by intro y hy; cases hy) (fun h4 hns4 hsb4 => ?_) hkind)
  dsimp only at hns4 hsb4 ⊢
  generalize hH : h3.push { cls := .type "list", dict := none, data := .seq ([] : List Value).toArray } = H at hns4 hsb4 ⊢
  have hC : H.objs.size = h3.objs.size + 1 := by rw [← hH, Heap.size_push]
  have hDC : h3.objs.size ≠ H.objs.size := by rw [hC]; exact Nat.ne_of_lt (Nat.lt_succ_self _)
  have below : ∀ b, b < h3.objs.size → b ≠ H.objs.size ∧ b ≠ h3.objs.size := fun b hb => ⟨by rw [hC]; exact Nat.ne_of_lt (Nat.lt_succ_of_lt hb), Nat.ne_of_lt hb⟩
  have old : Keep h3 h4 := fun b o e => hsb4.extBut b o (below b (Heap.lt_size e)).1 (Heap.get?_push_of_some _ (hH ▸ Heap.get?_push_of_some _ e))
  have hacc : h4.PlainList h3.objs.size #[] := ⟨_, hsb4.extBut _ _ hDC (Heap.get?_push_of_some _ (hH ▸ Heap.get?_push_size _ rfl))⟩
  obtain ⟨m2, F2', R2⟩ := F2.2
  have up : ∀ b, b ∈ C.L :: (frs C.outer ++ C.hid) → b < h2.objs.size := fun b m => by
    rcases List.mem_cons.mp m with q | q
    · exact q ▸ F2'.ns.lt
    · rcases List.mem_append.mp q with q | q
      · obtain ⟨_, o, e, _⟩ := Heap.FunFrames.mem G.B.frames q
        exact Heap.lt_size (F2'.keep _ _ e)
      · obtain ⟨o, e, _⟩ := G.hi.lt _ F2.1 _ q
        exact Heap.lt_size e
  have big : h2.objs.size < H.objs.size := by rw [hC]; exact Nat.lt_succ_of_lt a0
  have cdg : (C.g.get? H.objs.size = none ∧ C.gx.get? H.objs.size = none) ∧ H.objs.size ∉ C.L :: (frs C.outer ++ C.hid) := ⟨⟨by
    cases q : C.g.get? H.objs.size with
    | none => rfl
    | some o => exact absurd (Nat.lt_trans (Heap.lt_size (F2'.keep _ _ q)) big) (Nat.lt_irrefl _), by
    cases q : C.gx.get? H.objs.size with
    | none => rfl
    | some o => exact absurd (Nat.lt_trans (Heap.lt_size ((G.kx _ _ F2' F2.1).keep _ _ q)) big) (Nat.lt_irrefl _)⟩, fun m => Nat.lt_irrefl _ (Nat.lt_trans (up _ m) big)⟩
  have inC : ∀ {i : Nat} {v : Value} {h : Heap} {m : Str → Option Value}, Keep h2 h → (dn i).rel (C.z h2) v → h.Ns H.objs.size m → m x = some v → InC C x h2 H.objs.size (dn i) h := fun k r hm e => ⟨⟨m2, fr_keep F2' k⟩, G.hi.mono _ _ F2.1 fun b o _ e => k b o e, k, ⟨_, _, hm, e, r⟩, cdg⟩
  have hst : St 0 h4 := X.W.frame _ _ _ X.st fun b _ o e => old b o e
  have loop : ∀ s₃ : Shared, s₃ = { s with heap := h4, toks := tk2 + ([] : List (Str × Value)).length } → codeAny (model pr w) C.A (.compLoop (.ListComp elt [⟨.Name x px, iter, ifs, 0⟩] scope pos) 0 (.ref it) (.ref h3.objs.size) (compEnvC scope cl H.objs.size (C.env sc))) (compPost (model pr w) C.A E none Q (.ref h3.objs.size) H.objs.size) s₃ := by
    rintro s₃ rfl
    refine codeAny_compLoop_tests (CInv C s n pf en h2 h3.objs.size H.objs.size St) (fun k s' I => ?_) (n - 0) (.mk 0 #[] h4 _ _ (Nat.zero_le _) hst hacc hns4 rfl (X.keep.trans old)) fun v => rfl
    have nit : ∀ {b}, b < h2.objs.size → b ∉ [it] := fun hb m => by rw [List.mem_singleton.mp m, X.new] at hb; exact Nat.lt_irrefl _ hb
    have hI3 : it < h3.objs.size := X.new ▸ a0
    have hCi : H.objs.size ∉ [it] := fun m => (below _ hI3).1 (List.mem_singleton.mp m).symm
    have hDi : h3.objs.size ∉ [it] := fun m => (below _ hI3).2 (List.mem_singleton.mp m).symm
    have exc : ∀ {i : Nat} {s₃ : Shared} {tk₃ : Nat} {e : Value} {s' : Shared}, InC C x h2 H.objs.size (dn i) s₃.heap → s₃ = { s with heap := s₃.heap, toks := tk₃ } → XC C sc P s₃ e s' → notedBy (model pr w) C.A (compEnvC scope cl H.objs.size (C.env sc)) (fun e s' => compPost (model pr w) C.A E none Q (.ref h3.objs.size) H.objs.size (.error e) s') e s' := fun a b y => comp_exc G a b y he
    have fin : ∀ {ys : Array Value} {h : Heap} {tk : Nat} {m : Str → Option Value}, h.PlainList h3.objs.size ys → h.Ns H.objs.size m → Rels (C.z h2) (outs n pf en) ys.toList → Keep h2 h → compPost (model pr w) C.A E none Q (.ref h3.objs.size) H.objs.size (.ok .next) { s with heap := h, toks := tk } := by
      intro ys h tk m hl hm r k
      refine ⟨m, hm, fun h' hs' => ?_⟩
      have k' : Keep h2 h' := fun b o e => hs'.extBut b o (below b (Nat.lt_trans (Heap.lt_size e) a0)).1 (k b o e)
      refine hq (dL (outs n pf en)) _ h' tk hp (F2.keep G k') (k2.trans k'.kk) ⟨_, ys.toList, rfl, ?_, r.keep k'.kk.z⟩
      obtain ⟨nn, e⟩ := hl.at fun o e => hs'.extBut _ o hDC e
      exact ⟨nn, hideAll_get _ e fun m => Nat.lt_irrefl _ (Nat.lt_trans (up _ m) a0)⟩
    revert exc fin
    generalize compPost (model pr w) C.A E none Q (.ref h3.objs.size) H.objs.size = R
    intro exc fin
    cases I with
    | mk i ys h tk m hi st hpl hm r k =>
    rcases Nat.lt_or_ge i n with hlt | hge
    · refine X.W.item i _ _ _ hlt st fun v h5 tk5 hP st5 k5 => ?_
      refine wpAny_assign_Name (wpAny_storeName_local (lookup_relabel_local hx) (hm.at' fun o e => k5 _ o hCi e) (fun h6 hn6 hs6 => ?_) (by simp [compEnvC, relabel, hkind]))
      have fpl : ∀ b ∈ it :: srcs, b < h3.objs.size := fun b m => (List.mem_cons.mp m).elim (fun q => q ▸ hI3) fun q => let ⟨_, o, e⟩ := X.src b q; Nat.lt_trans (Heap.lt_size e) a0
      have st6 : St (i + 1) h6 := X.W.frame _ _ _ st5 fun b m o e => hs6.extBut b o (below b (fpl b m)).1 e
      have k6 : Keep h2 h6 := fun b o e => hs6.extBut b o (below b (Nat.lt_trans (Heap.lt_size e) a0)).1 (k5 b o (nit (Heap.lt_size e)) (k b o e))
      have hpl6 : h6.PlainList h3.objs.size ys := hpl.at fun o e => hs6.extBut _ o hDC (k5 _ o hDi e)
      have IC := inC k6 (X.val i v hlt hP) hn6 (if_pos rfl)
      have dec : n - (i + 1) < n - i := Nat.sub_lt_sub_left hlt (Nat.lt_succ_self i)
      refine wpAny_mono (htest i h2 H.objs.size { s with heap := h6, toks := tk5 + 1 } _ hlt IC) (fun b s₄ q => ?_) fun _ _ e => e
      obtain ⟨rfl, h7, tk7, rfl, k7⟩ := q
      have IC7 : InC C x h2 H.objs.size (dn i) h7 := IC.to G k7
      have st7 : St (i + 1) h7 := X.W.frame _ _ _ st6 fun b _ o e => k7 b o e
      cases hpf : pf i with
      | false => exact ⟨_, dec, .mk (i + 1) ys h7 tk7 _ hlt st7 (hpl6.at fun o e => k7 _ o e) (hn6.keeps k7) (by rw [outs_succ, hpf]; exact (List.append_nil (outs i pf en)).symm ▸ r) (k6.trans k7)⟩
      | true =>
        refine wpAny_mono (helt i h2 H.objs.size { s with heap := h7, toks := tk7 } hlt hpf IC7) (fun y s₅ q => ?_) fun e s' y => exc (s₃ := { s with heap := h7, toks := tk7 }) IC7 rfl y
        obtain ⟨ry, h8, tk8, rfl, k8⟩ := q
        refine wpAny_list_append_plain (hpl6.at fun o e => k8 _ o (k7 _ o e)) (fun h9 hl9 hs9 => ⟨_, dec, .mk (i + 1) (ys.push y) h9 tk8 _ hlt (X.W.frame _ _ _ st7 fun b m o e => hs9.extBut b o (below b (fpl b m)).2 (k8 b o e)) hl9 ((hn6.keeps k7 |>.keeps k8).sameBut hs9 (Ne.symm hDC)) ?_ fun b o e => hs9.extBut b o (below b (Nat.lt_trans (Heap.lt_size e) a0)).2 (k8 b o (k7 b o (k6 b o e)))⟩) ?_
        · rw [outs_succ, hpf, Array.toList_push]; exact rels_snoc r ry
        · have e1 := r.length
          have e2 : (outs i pf en).length ≤ i := by unfold outs; rw [List.length_map]; exact Nat.le_trans (List.length_filter_le _ _) (by rw [List.length_range]; exact Nat.le_refl _)
          rw [Array.length_toList] at e1
          exact Nat.le_trans (Nat.le_trans (e1 ▸ e2) (Nat.le_trans hi hn)) (by decide)
    · obtain rfl : i = n := Nat.le_antisymm hi hge
      exact X.W.done _ _ _ st fun h5 tk5 k5 => fin (hpl.at fun o e => k5 _ o hDi e) (hm.at' fun o e => k5 _ o hCi e) r fun b o e => k5 b o (nit (Heap.lt_size e)) (k b o e)
  exact codeAny_compStart_list (loop _ rfl) (X.W.self 0 _ _ _ hst (loop _ rfl))
end

theorem rows_W11 : True := by
  w_top off
  k_with_none
  k_with "mine enter" => (refine wpAny_call ?_; k_dflt (refine' enterP [] ?kX ?kT ?kr ?ko ?kc ?kb ?kl ?_ ?c2 ?c3 ?c4 ?c5; (case kX => k_asm); (case kT => k_asm); (case kr => exact Nat.le_of_ble_eq_true rfl); (case ko => k_is); (case kc => k_is); (case kb => exact BindsTo.of_eq rfl); (case kl => exact locs rfl); (case c2 => exact rfl); (case c3 => exact rfl); (case c4 => exact rfl); (case c5 => decide); k_whole; intro L' h' tk' F' K' l1; (dsimp only [List.map, List.zip, List.zipWith, List.reverse, List.reverseAux] at F'); (have N' := news_enter (hide := []) (news := []) K' l1 (fun _ h => nomatch h)); (dsimp only [hideAll] at F' N'); (try dsimp only); (try k_fold)))
  k_with "exec Raise some none" => (refine raise_ex (w := w) rfl ?_)
  k_with "call ref" => ((with_reducible show wpAny _ _ (call (Value.ref 44) [Value.str _ _]) _ _ _); (with_reducible rename Fr _ _ _ _ => FF); refine mk_exc w (exc44 w) (X.keeps FF.keep) (T.keeps FF.keep) (by rw [depth_under_make]; exact Nat.le_of_ble_eq_true rfl) (fun e h2 tk2 hx => ?_))
  k_with "call ref" => ((with_reducible show wpAny _ _ (call (Value.ref 56) [Value.str _ _]) _ _ _); (with_reducible rename Fr _ _ _ _ => FF); refine mk_exc w (exc56 w) (X.keeps FF.keep) (T.keeps FF.keep) (by rw [depth_under_make]; exact Nat.le_of_ble_eq_true rfl) (fun e h2 tk2 hx => ?_))
  k_with "mine ret" => ((try dsimp only); (with_reducible rename Fr _ _ _ _ => FF); refine hret _ _ _ FF.keep ?_)
  k_with "Raised" => ((with_reducible rename Fr _ _ _ _ => FF); refine Raised.of (by first | exact exc44 w | exact exc56 w) (X.keeps FF.keep) hx ?_; (try dsimp only); (try k_unfold); refine leave_first B FF hx (fun h3 hfly => hexc _ _ _ _ ?_ hfly))
  k_with "subscriptTail" => ((with_reducible show wpAny _ _ (subscriptTail _ (Expr.Slice _ _ none _) (Value.bytes _ _) (Value.ref _)) _ _ _); (with_reducible rename Fr _ _ _ _ => FF); (with_reducible rename News _ _ _ _ => NN); (refine KBc.slice_K (s := ⟨_, _, _, _, _⟩) FF NN rfl (by constructor) (by constructor) ?hz ?_); (case hz => (rw [KBw.ints_length]; l_fact)); intro h2 t2' k2 F2 N2 _; (try simp only [hpick]))
  trivial

section
variable {w : World} {sc : Scope} {dl ul : Nat} {C : Cx} {ρ : List (Str × D)}
/-- an expression that gives d -/
abbrev EvV (w : World) (sc : Scope) (C : Cx) (ρ : List (Str × D)) (e : Expr) (d : D) : Prop := Ev w sc C ρ e (· = .val d)
abbrev LV (w : World) (sc : Scope) (C : Cx) (ρ : List (Str × D)) (pos : Pos) (es : List Expr) (ds : List D) : Prop := EvL w sc C ρ (spliced (backTo pos (starEach es (C.env sc)))) (· = .val ds)
/-- a test that says whether c -/
abbrev TP (w : World) (sc : Scope) (C : Cx) (ρ : List (Str × D)) (e : Expr) (c : Prop) : Prop := Tst w sc C ρ e fun o => ∃ b, o = .val b ∧ (b = true ↔ c)
abbrev PV (w : World) (sc : Scope) (C : Cx) (ρ : List (Str × D)) (o : Option Expr) (i : Option Int) : Prop := EvP o (· = .val i) w sc C ρ
theorem eg_mono {α β : Type} {R : Heap → β → α → Prop} {H : Heap → Prop} {t : Sem α} {P P' : Out β → Prop} (h : EvG w sc C ρ R H t P) (k : ∀ o, P o → P' o) : EvG w sc C ρ R H t P' :=
  .mk fun s Q E F z hq he => h.go s Q E F z (fun d v h' tk' p => hq d v h' tk' (k _ p)) fun c e s' p => he c e s' (k _ p)
theorem ev_of {e : Expr} {d : D} {P : Out D → Prop} (h : EvV w sc C ρ e d) (hp : P (.val d)) : Ev w sc C ρ e P := eg_mono h fun _ q => q ▸ hp
theorem el_of {pos : Pos} {es : List Expr} {ds : List D} {P : Out (List D) → Prop} (h : LV w sc C ρ pos es ds) (hp : P (.val ds)) : EvL w sc C ρ (spliced (backTo pos (starEach es (C.env sc)))) P := eg_mono h fun _ q => q ▸ hp
theorem ep_of {o : Option Expr} {i : Option Int} {P : Out (Option Int) → Prop} (h : PV w sc C ρ o i) (hp : P (.val i)) : EvP o P w sc C ρ := eg_mono h fun _ q => q ▸ hp
theorem v_name (G : Good w sc dl ul C) {x : Str} {pos : Pos} {d : D} (hl : lk ρ x = some d) (hk : sc.names.lookup x = some .local) (hd : (x == Str.ofString "__debug__") = false) : EvV w sc C ρ (.Name x pos) d := ev_name G hl hk hd rfl
theorem v_globI (G : Good w sc dl ul C) {x : Str} {pos : Pos} {i : Int} {t : Tok} (hn : nsIn (hd.heap_39 w.params) mainGlobals x = some (some (.int i t))) (hk : sc.names.lookup x = some .globalImplicit) (hdb : (x == Str.ofString "__debug__") = false) : EvV w sc C ρ (.Name x pos) (dI i) := ev_globI G hn hk hdb rfl
theorem v_globV (G : Good w sc dl ul C) {x : Str} {pos : Pos} {a : Addr} (hn : nsIn (hd.heap_39 w.params) mainGlobals x = some (some (.ref a))) (hk : sc.names.lookup x = some .globalImplicit) (hdb : (x == Str.ofString "__debug__") = false) : EvV w sc C ρ (.Name x pos) (dV (.ref a)) := ev_globV G hn hk hdb rfl
theorem v_int {i : Int} {k : Nat} {pos : Pos} : EvV w sc C ρ (.Constant (.int i) k pos) (dI i) := ev_int rfl
theorem v_str {x : Str} {k : Nat} {pos : Pos} : EvV w sc C ρ (.Constant (.str x) k pos) (dS x) := ev_str rfl
theorem v_bytes {x : List UInt8} {k : Nat} {pos : Pos} (hz : x.length ≤ 1048576) : EvV w sc C ρ (.Constant (.bytes x) k pos) (dY x.toArray) := ev_bytes hz rfl
theorem v_bin {l r : Expr} {op : Operator} {pos : Pos} {d1 d2 d : D} (h1 : EvV w sc C ρ l d1) (h2 : EvV w sc C ρ r d2) (h : Op2 w sc C ρ (binaryOp op) d1 d2 (· = .val d)) : EvV w sc C ρ (.BinOp l op r pos) d := ev_binop (ev_of h1 (ev_of h2 h))
theorem o_addI {a b : Int} : Op2 w sc C ρ (binaryOp .Add) (dI a) (dI b) (· = .val (dI (a + b))) := op_add_int rfl
theorem o_subI {a b : Int} : Op2 w sc C ρ (binaryOp .Sub) (dI a) (dI b) (· = .val (dI (a - b))) := op_sub_int rfl
theorem o_mulI {a b : Int} (c : (-2147483648 ≤ a ∧ a ≤ 2147483648) ∧ -2147483648 ≤ b ∧ b ≤ 2147483648) : Op2 w sc C ρ (binaryOp .Mult) (dI a) (dI b) (· = .val (dI (a * b))) := op_mul_int c.1.1 c.1.2 c.2.1 c.2.2 rfl
theorem o_modI {a b : Int} (hb : b ≠ 0) : Op2 w sc C ρ (binaryOp .Mod) (dI a) (dI b) (· = .val (dI (a.fmod b))) := op_mod_int hb rfl
theorem o_divI {a b : Int} (hb : b ≠ 0) (hg : Builtin.divisionGoesByPylong a b = false) : Op2 w sc C ρ (binaryOp .FloorDiv) (dI a) (dI b) (· = .val (dI (a.fdiv b))) := op_div_int hb hg rfl
theorem o_addY {a b : Array UInt8} (hb : a.size + b.size ≤ 1048576) : Op2 w sc C ρ (binaryOp .Add) (dY a) (dY b) (· = .val (dY (a ++ b))) := op_add_bytes hb rfl
theorem v_sub {l r : Expr} {pos : Pos} {d1 d2 d : D} (h1 : EvV w sc C ρ l d1) (h2 : EvV w sc C ρ r d2) (h : Op2 w sc C ρ (subscriptTail l r) d1 d2 (· = .val d)) : EvV w sc C ρ (.Subscript l r pos) d := ev_sub (ev_of h1 (ev_of h2 h))
theorem o_itemY {l r : Expr} {b : Array UInt8} {i : Int} (hs : ∀ t u, subscripted r false (Value.bytes b t) (Value.int i u) = operate [Value.bytes b t, Value.int i u] (getItem (Value.bytes b t) (Value.int i u)))
    (ht : ∀ t z, letTemporaryGo l (Value.bytes b t) z = pure ()) (h : 0 ≤ i ∧ i < b.size) : Op2 w sc C ρ (subscriptTail l r) (dY b) (dI i) (· = .val (dI (bat b i.toNat : Nat))) := op_item_bytes h.1 h.2 hs ht rfl
theorem o_itemT {l r : Expr} {ds : List D} {i : Int} {d : D} (hs : ∀ a u, subscripted r false (Value.ref a) (Value.int i u) = operate [Value.ref a, Value.int i u] (getItem (Value.ref a) (Value.int i u)))
    (hi : 0 ≤ i ∧ i < 1024) (hd : ds[i.toNat]? = some d) : Op2 w sc C ρ (subscriptTail l r) (dT ds) (dI i) (· = .val d) := op_item_tup hi.1 hi.2 hd hs rfl
theorem o_itemTT (G : Good w sc dl ul C) {l r : Expr} {x : Str} {i : Int} (hs : ∀ a t, subscripted r false (Value.ref a) (Value.str x t) = operate [Value.ref a, Value.str x t] (getItem (Value.ref a) (Value.str x t)))
    (ht : ∀ a z, letTemporaryGo l (Value.ref a) z = pure ()) (hx : (x, i) ∈ [(Str.ofString "port text", 4), (Str.ofString "name", 5), (Str.ofString "system text", (6 : Int))]) : Op2 w sc C ρ (subscriptTail l r) (dV (.ref 99)) (dS x) (· = .val (dI i)) := op_item_tt G hx hs ht rfl
theorem p_none : PV w sc C ρ none none := evp_none rfl
theorem p_some {e : Expr} {i : Int} (h : EvV w sc C ρ e (dI i)) : PV w sc C ρ (some e) (some i) := evp_some (ev_of h ⟨i, rfl, rfl⟩)
theorem v_slice (G : Good w sc dl ul C) {value : Expr} {lo hi : Option Expr} {pos p2 : Pos} {b : Array UInt8} {l u : Option Int} (h1 : EvV w sc C ρ value (dY b)) (h2 : PV w sc C ρ lo l) (h3 : PV w sc C ρ hi u)
    (hs : ∀ a r, subscripted (.Slice lo hi none p2) false a (Value.ref r) = operate [Value.ref r, a] (getItem a (Value.ref r))) (ht : ∀ b t r, letTemporaryGo value (Value.bytes b t) r = pure ()) : EvV w sc C ρ (.Subscript value (.Slice lo hi none p2) pos) (dY (KBy.picked b l u)) :=
  ev_slice_bytes G (ev_of h1 (ep_of h2 (ep_of h3 ⟨b, rfl, rfl⟩))) hs ht
theorem vl_nil {pos : Pos} : LV w sc C ρ pos [] [] := evl_nil rfl
theorem vl_cons {e : Expr} {es : List Expr} {pos : Pos} {d : D} {ds : List D} (hs : starEach (e :: es) (C.env sc) = (false, eval e (C.env sc)) :: starEach es (C.env sc)) (h : EvV w sc C ρ e d) (hl : LV w sc C ρ pos es ds) : LV w sc C ρ pos (e :: es) (d :: ds) := evl_cons hs (ev_of h (el_of hl rfl))
theorem v_tuple (G : Good w sc dl ul C) {elts : List Expr} {k : Nat} {pos : Pos} {ds : List D} (h : LV w sc C ρ pos elts ds) (hz : ds.length ≤ 1048576) : EvV w sc C ρ (.Tuple elts k pos) (dT ds) := ev_tuple (el_of h (op_tuple G hz rfl))
theorem v_list (G : Good w sc dl ul C) {elts : List Expr} {pos : Pos} {ds : List D} (h : LV w sc C ρ pos elts ds) (hz : ds.length ≤ 1048576) : EvV w sc C ρ (.List elts pos) (dL ds) := ev_list (el_of h (op_list G hz rfl))
/-- a call of a def with arguments that raise nothing -/
theorem e_call (G : Good w sc dl ul C) {f : Str} {a : Addr} {e : Expr} {es : List Expr} {p1 p2 : Pos} {ds : List D} {P : Out D → Prop} (hn : nsIn (hd.heap_39 w.params) mainGlobals f = some (some (.ref a))) (hk : sc.names.lookup f = some .globalImplicit) (hdb : (f == Str.ofString "__debug__") = false) (hki : keepIn (hd.heap_39 w.params) (.ref a) = true)
    (hc : eval (Expr.Call (.Name f p1) (e :: es) [] p2) (C.env sc) = do
          let x ← eval (.Name f p1) (C.env sc)
          callWith p2 x [] (backTo p2 (starEach (e :: es) (C.env sc))) (backToKw p2 (keywordEach [] (C.env sc))))
    (hs : starEach (e :: es) (C.env sc) = (false, eval e (C.env sc)) :: starEach es (C.env sc)) (hx : ((backTo p2 (starEach es (C.env sc))).any fun x => x.fst) = false)
    (h : LV w sc C ρ p2 (e :: es) ds) (o : OpL w sc C ρ (callF (.ref a)) ds P) : Ev w sc C ρ (.Call (.Name f p1) (e :: es) [] p2) P := ev_call G hn hk hdb hki hc hs hx (el_of h o)
theorem v_bcall (G : Good w sc dl ul C) {f : Str} {id : String} {e : Expr} {es : List Expr} {p1 p2 : Pos} {ds : List D} {d : D} (hn : nsIn (hd.heap_39 w.params) mainGlobals f = some none) (hb : bootBuiltins f = some (.builtin id)) (hx' : f ≠ Str.ofString "__name__") (hk : sc.names.lookup f = some .globalImplicit) (hdb : (f == Str.ofString "__debug__") = false)
    (hc : eval (Expr.Call (.Name f p1) (e :: es) [] p2) (C.env sc) = do
          let x ← eval (.Name f p1) (C.env sc)
          callWith p2 x [] (backTo p2 (starEach (e :: es) (C.env sc))) (backToKw p2 (keywordEach [] (C.env sc))))
    (hs : starEach (e :: es) (C.env sc) = (false, eval e (C.env sc)) :: starEach es (C.env sc)) (hx : ((backTo p2 (starEach es (C.env sc))).any fun x => x.fst) = false)
    (h : LV w sc C ρ p2 (e :: es) ds) (o : OpL w sc C ρ (callF (.builtin id)) ds (· = .val d)) : EvV w sc C ρ (.Call (.Name f p1) (e :: es) [] p2) d := ev_bcall G hn hb hx' hk hdb hc hs hx (el_of h o)
theorem v_tcall (G : Good w sc dl ul C) {f : Str} {id : String} {e : Expr} {es : List Expr} {p1 p2 : Pos} {ds : List D} {d : D} (hn : nsIn (hd.heap_39 w.params) mainGlobals f = some none) (hb : bootBuiltins f = some (.type id)) (hx' : f ≠ Str.ofString "__name__") (hk : sc.names.lookup f = some .globalImplicit) (hdb : (f == Str.ofString "__debug__") = false)
    (hc : eval (Expr.Call (.Name f p1) (e :: es) [] p2) (C.env sc) = do
          let x ← eval (.Name f p1) (C.env sc)
          callWith p2 x [] (backTo p2 (starEach (e :: es) (C.env sc))) (backToKw p2 (keywordEach [] (C.env sc))))
    (hs : starEach (e :: es) (C.env sc) = (false, eval e (C.env sc)) :: starEach es (C.env sc)) (hx : ((backTo p2 (starEach es (C.env sc))).any fun x => x.fst) = false)
    (h : LV w sc C ρ p2 (e :: es) ds) (o : OpL w sc C ρ (callF (.type id)) ds (· = .val d)) : EvV w sc C ρ (.Call (.Name f p1) (e :: es) [] p2) d := ev_tcall G hn hb hx' hk hdb hc hs hx (el_of h o)
theorem o_len {b : Array UInt8} : OpL w sc C ρ (callF (.builtin "len")) [dY b] (· = .val (dI b.size)) := op_len_bytes rfl
theorem o_bytes1 (G : Good w sc dl ul C) {a : Int} (h : 0 ≤ a ∧ a < 256) : OpL w sc C ρ (callF (.type "bytes")) [dL [dI a]] (· = .val (dY (byteArr [a]))) := op_bytes_ints (ns := [a]) G rfl (fun n hn => by cases hn with | head => exact h | tail _ q => cases q) (Nat.le_of_ble_eq_true rfl) rfl
theorem o_bytes2 (G : Good w sc dl ul C) {a b : Int} (h : (0 ≤ a ∧ a < 256) ∧ 0 ≤ b ∧ b < 256) : OpL w sc C ρ (callF (.type "bytes")) [dL [dI a, dI b]] (· = .val (dY (byteArr [a, b]))) := op_bytes_ints (ns := [a, b]) G rfl (fun n hn => by
  rcases List.mem_cons.mp hn with q | q
  · exact q ▸ h.1
  · exact List.mem_singleton.mp q ▸ h.2) (Nat.le_of_ble_eq_true rfl) rfl
theorem o_bytesN {n : Int} (h : 0 ≤ n ∧ n ≤ 1048576) : OpL w sc C ρ (callF (.type "bytes")) [dI n] (· = .val (dY (Array.replicate n.toNat 0))) := op_bytes_n h.1 h.2 rfl
theorem o_call (G : Good w sc dl ul C) {D' U' : Nat} {f a : Addr} {ds : List D} {c1 : Prop} {X : D} (c : ∀ I, HI C.hid I → CT w C.hid I D' U' f ds (VE c1 X False a)) (h1 : dl ≤ D') (h2 : ul ≤ U') : OpL w sc C ρ (callF (.ref f)) ds (· = .val X) := op_VE G c h1 h2 (fun _ => rfl) fun h => h.elim
theorem tp_cmp {l r : Expr} {op : CmpOp} {pos : Pos} {d1 d2 : D} {c : Prop} (h1 : EvV w sc C ρ l d1) (h2 : EvV w sc C ρ r d2) (hb : behindInMarks op r = false) (h : Cm2 w sc C ρ op d1 d2 fun o => ∃ b, o = .val b ∧ (b = true ↔ c)) : TP w sc C ρ (.Compare l [op] [r] pos) c := tst_cmp hb (ev_of h1 (ev_of h2 h))
theorem cp_lt {a b : Int} : Cm2 w sc C ρ .Lt (dI a) (dI b) fun o => ∃ v, o = .val v ∧ (v = true ↔ a < b) := cm_lt ⟨_, rfl, decide_eq_true_iff⟩
theorem cp_le {a b : Int} : Cm2 w sc C ρ .LtE (dI a) (dI b) fun o => ∃ v, o = .val v ∧ (v = true ↔ a ≤ b) := cm_le ⟨_, rfl, decide_eq_true_iff⟩
theorem cp_gt {a b : Int} : Cm2 w sc C ρ .Gt (dI a) (dI b) fun o => ∃ v, o = .val v ∧ (v = true ↔ b < a) := cm_gt ⟨_, rfl, decide_eq_true_iff⟩
theorem cp_eq {a b : Int} : Cm2 w sc C ρ .Eq (dI a) (dI b) fun o => ∃ v, o = .val v ∧ (v = true ↔ a = b) := cm_eq ⟨_, rfl, decide_eq_true_iff⟩
theorem cp_ne {a b : Int} : Cm2 w sc C ρ .NotEq (dI a) (dI b) fun o => ∃ v, o = .val v ∧ (v = true ↔ ¬ a = b) := cm_ne ⟨_, rfl, decide_eq_true_iff⟩
theorem cp_eqs {a b : Str} : Cm2 w sc C ρ .Eq (dS a) (dS b) fun o => ∃ v, o = .val v ∧ (v = true ↔ (a == b) = true) := cm_eqs ⟨_, rfl, Iff.rfl⟩
theorem cp_in3 {x a b c : Int} : Cm2 w sc C ρ .In (dI x) (dT [dI a, dI b, dI c]) fun o => ∃ v, o = .val v ∧ (v = true ↔ a = x ∨ b = x ∨ c = x) := cm_in_ints (ns := [a, b, c]) rfl ⟨_, rfl, by simp [or_assoc]⟩
theorem cp_first (G : Good w sc dl ul C) {x : Str} : Cm2 w sc C ρ .In (dS x) (dV (.ref 100)) fun o => ∃ v, o = .val v ∧ (v = true ↔ ([Str.ofString "chassis", Str.ofString "port", Str.ofString "time"].any fun y => y == x) = true) := cm_in_first G ⟨_, rfl, Iff.rfl⟩
theorem cp_tt (G : Good w sc dl ul C) {x : Str} : Cm2 w sc C ρ .In (dS x) (dV (.ref 99)) fun o => ∃ v, o = .val v ∧ (v = true ↔ KTD.inKeys x ttD = true) := cm_in_tt G ⟨_, rfl, Iff.rfl⟩
theorem tp_chain {l r r2 : Expr} {op op2 : CmpOp} {pos : Pos} {d1 d2 d3 : D} {c1 c2 : Prop} (h1 : EvV w sc C ρ l d1) (h2 : EvV w sc C ρ r d2) (h3 : EvV w sc C ρ r2 d3) (hb : lastMarks [op, op2] [r, r2] = false) (a : Cm2 w sc C ρ op d1 d2 fun o => ∃ b, o = .val b ∧ (b = true ↔ c1)) (b : Cm2 w sc C ρ op2 d2 d3 fun o => ∃ b, o = .val b ∧ (b = true ↔ c2)) :
    TP w sc C ρ (.Compare l [op, op2] [r, r2] pos) (c1 ∧ c2) := tst_chain hb (ev_of h1 (ev_of h2 fun v1 v2 => eg_mono (a v1 v2) fun o q => by
  obtain ⟨x, rfl, i⟩ := q
  cases x
  · exact ⟨false, rfl, Iff.intro (fun z => nomatch z) fun z => i.mpr z.1⟩
  · exact ev_of h3 fun v3 v4 => eg_mono (b v3 v4) fun o q => by
      obtain ⟨y, rfl, j⟩ := q
      exact ⟨y, rfl, ⟨fun z => ⟨i.mp rfl, j.mp z⟩, fun z => j.mpr z.2⟩⟩))
theorem tp_not {e : Expr} {pos : Pos} {c : Prop} (h : TP w sc C ρ e c) : TP w sc C ρ (.UnaryOp .Not e pos) (¬ c) := tst_not (eg_mono h fun o q => by
  obtain ⟨x, rfl, i⟩ := q
  exact ⟨!x, rfl, by cases x <;> simp_all⟩)
theorem tp_or {e e2 : Expr} {pos : Pos} {c1 c2 : Prop} (h : TP w sc C ρ e c1) (h2 : TP w sc C ρ e2 c2) : TP w sc C ρ (.BoolOp .Or [e, e2] pos) (c1 ∨ c2) := tst_or (eg_mono h fun o q => by
  obtain ⟨x, rfl, i⟩ := q
  cases x
  · refine eg_mono (P' := fun o => ∃ b, o = .val b ∧ (b = true ↔ c1 ∨ c2)) h2 fun o q => ?_
    obtain ⟨y, rfl, j⟩ := q
    exact ⟨y, rfl, Iff.intro (fun z => .inr (j.mp z)) fun z => z.elim (fun z => absurd (i.mpr z) (by decide)) j.mpr⟩
  · exact ⟨true, rfl, Iff.intro (fun _ => .inl (i.mp rfl)) fun _ => rfl⟩)
theorem xi {t : Expr} {b o : List Stmt} {pos : Pos} {P : SOut → Prop} {c : Prop} (h : TP w sc C ρ t c) (h1 : c → Ex w sc C ρ b P) (h2 : ¬ c → Ex w sc C ρ o P) : Ex1 w sc C ρ (.If t b o pos) P := ex_if (eg_mono h fun o q => by
  obtain ⟨x, rfl, i⟩ := q
  cases x
  · exact h2 fun z => absurd (i.mpr z) (by decide)
  · exact h1 (i.mp rfl))
theorem v_if1 {t b o : Expr} {pos : Pos} {d : D} {c : Prop} (h : TP w sc C ρ t c) (hc : c) (h1 : EvV w sc C ρ b d) : EvV w sc C ρ (.IfExp t b o pos) d := ev_ifexp (eg_mono h fun o q => by
  obtain ⟨x, rfl, i⟩ := q
  rw [i.mpr hc]; exact h1)
theorem v_if2 {t b o : Expr} {pos : Pos} {d : D} {c : Prop} (h : TP w sc C ρ t c) (hc : ¬ c) (h1 : EvV w sc C ρ o d) : EvV w sc C ρ (.IfExp t b o pos) d := ev_ifexp (eg_mono h fun o q => by
  obtain ⟨x, rfl, i⟩ := q
  cases x
  · exact h1
  · exact absurd (i.mp rfl) hc)
theorem xr {e : Expr} {pos : Pos} {P : SOut → Prop} {d : D} (h : EvV w sc C ρ e d) (hp : P (.ret d)) : Ex1 w sc C ρ (.Return (some e) pos) P := ex_ret (ev_of h hp)
theorem xa (G : Good w sc dl ul C) {x : Str} {p1 pos : Pos} {e : Expr} {P : SOut → Prop} {d : D} (h : EvV w sc C ρ e d) (hx : sc.names.lookup x = some .local) (hs : swapsWith e (some (Expr.Name x p1)) pos.line (C.env sc) = pure false) (hp : P (.next ((x, d) :: ρ))) : Ex1 w sc C ρ (.Assign [.Name x p1] e pos) P := ex_assign G hx hs (ev_of h hp)
end

theorem rows_W12 : True := by
  w_top off
  k_with_none
  k_with "mine enter" => (refine wpAny_call ?_; k_dflt (refine' enterP [] ?kX ?kT ?kr ?ko ?kc ?kb ?kl ?_ ?c2 ?c3 ?c4 ?c5; (case kX => k_asm); (case kT => k_asm); (case kr => exact Nat.le_of_ble_eq_true rfl); (case ko => k_is); (case kc => k_is); (case kb => exact BindsTo.of_eq rfl); (case kl => exact locs rfl); (case c2 => exact rfl); (case c3 => exact rfl); (case c4 => exact rfl); (case c5 => decide); k_whole; intro L' h' tk' F' K' l1; (dsimp only [List.map, List.zip, List.zipWith, List.reverse, List.reverseAux] at F'); (have N' := news_enter (hide := []) (news := []) K' l1 (fun _ h => nomatch h)); (dsimp only [hideAll] at F' N'); (try dsimp only); (try k_fold)))
  k_with "exec Raise some none" => (refine raise_ex (w := w) rfl ?_)
  k_with "call ref" => ((with_reducible show wpAny _ _ (call (Value.ref 44) [Value.str _ _]) _ _ _); (with_reducible rename Fr _ _ _ _ => FF); refine mk_exc w (exc44 w) (X.keeps FF.keep) (T.keeps FF.keep) (by rw [depth_under_make]; exact Nat.le_of_ble_eq_true rfl) (fun e h2 tk2 hx => ?_))
  k_with "call ref" => ((with_reducible show wpAny _ _ (call (Value.ref 56) [Value.str _ _]) _ _ _); (with_reducible rename Fr _ _ _ _ => FF); refine mk_exc w (exc56 w) (X.keeps FF.keep) (T.keeps FF.keep) (by rw [depth_under_make]; exact Nat.le_of_ble_eq_true rfl) (fun e h2 tk2 hx => ?_))
  k_with "mine ret" => ((try dsimp only); (with_reducible rename Fr _ _ _ _ => FF); refine hret _ _ _ FF.keep ?_)
  k_with "Raised" => ((with_reducible rename Fr _ _ _ _ => FF); refine Raised.of (by first | exact exc44 w | exact exc56 w) (X.keeps FF.keep) hx ?_; (try dsimp only); (try k_unfold); refine leave_first B FF hx (fun h3 hfly => hexc _ _ _ _ ?_ hfly))
  k_with "subscriptTail" => ((with_reducible show wpAny _ _ (subscriptTail _ (Expr.Slice _ _ none _) (Value.bytes _ _) (Value.ref _)) _ _ _); (with_reducible rename Fr _ _ _ _ => FF); (with_reducible rename News _ _ _ _ => NN); (refine KBc.slice_K (s := ⟨_, _, _, _, _⟩) FF NN rfl (by constructor) (by constructor) ?hz ?_); (case hz => (rw [KBw.ints_length]; l_fact)); intro h2 t2' k2 F2 N2 _; (try simp only [hpick]))
  trivial

theorem pick_upto (vs : List Value) {y : Int} (h : 0 ≤ y) : (slicePick vs.toArray none (some y) none).toList = vs.take y.toNat := by
  have e : sliceBounds none (some y) none vs.toArray.size = (((0 : Nat) : Int), ((min y.toNat vs.toArray.size : Nat) : Int), 1) := by
    simp only [sliceBounds, Option.getD_none, show (1 : Int) > 0 by decide, if_true, if_neg (show ¬ (y < 0) by omega)]
    congr 1
    congr 1
    omega
  rw [kmk_pick_nat _ e]
  show (vs.drop 0).take (min y.toNat vs.toArray.size - 0) = _
  rw [List.drop_zero, Nat.sub_zero, List.size_toArray, kmk_take_min]
theorem pick_from (vs : List Value) {x : Int} (h : 0 ≤ x) : (slicePick vs.toArray (some x) none none).toList = vs.drop x.toNat := by
  have e : sliceBounds (some x) none none vs.toArray.size = (((min x.toNat vs.toArray.size : Nat) : Int), ((vs.toArray.size : Nat) : Int), 1) := by
    simp only [sliceBounds, Option.getD_none, show (1 : Int) > 0 by decide, if_true, if_neg (show ¬ (x < 0) by omega)]
    congr 1
    omega
  rw [kmk_pick_nat _ e]
  show (vs.drop (min x.toNat vs.toArray.size)).take (vs.toArray.size - min x.toNat vs.toArray.size) = _
  rw [List.size_toArray, kmk_drop_min, List.take_of_length_le (by rw [List.length_drop]; omega)]
theorem rels_take {h : Heap} (l : List D) : ∀ (n : Nat) {vs : List Value}, Rels h l vs → Rels h (l.take n) (vs.take n) := by
  induction l with
  | nil => intro n vs r; cases r; cases n <;> rfl
  | cons d l ih =>
    intro n vs r
    obtain ⟨v, q, rfl, x, y⟩ := r
    cases n with
    | zero => rfl
    | succ n => exact ⟨v, q.take n, rfl, x, ih n y⟩
theorem rels_drop {h : Heap} (l : List D) : ∀ (n : Nat) {vs : List Value}, Rels h l vs → Rels h (l.drop n) (vs.drop n) := by
  induction l with
  | nil => intro n vs r; cases r; cases n <;> rfl
  | cons d l ih =>
    intro n vs r
    cases n with
    | zero => exact r
    | succ n =>
      obtain ⟨v, q, rfl, x, y⟩ := r
      exact ih n y
section
variable {w : World} {sc : Scope} {dl ul : Nat} {C : Cx} {ρ : List (Str × D)}
/-- a new list, told by the ledger -/
theorem newL (G : Good w sc dl ul C) {h h' : Heap} {ds : List D} {vs : List Value} {a : Addr} {more : List (Addr × Obj)} (F : FrD C ρ h) (k : FrD C ρ h' ∧ KK C h h') (N' : News C.g C.L h' ((a, listOf vs.toArray 0) :: more)) (ha : h.objs.size ≤ a) (r : Rels (C.z h) ds vs) : (dL ds).rel (C.z h') (.ref a) :=
  ⟨a, vs, rfl, ⟨0, hideAll_get _ (N' _ List.mem_cons_self).1 fun q => by
    have lt : a < h.objs.size := by
      rcases List.mem_cons.mp q with q | q
      · obtain ⟨_, m, F1, _⟩ := F; exact q ▸ F1.ns.lt
      · rcases List.mem_append.mp q with q | q
        · obtain ⟨_, m, F1, _⟩ := F
          obtain ⟨_, o, e, _⟩ := Heap.FunFrames.mem G.B.frames q
          exact Heap.lt_size (F1.keep _ _ e)
        · obtain ⟨o, e, _⟩ := G.hi.lt _ F.1 _ q; exact Heap.lt_size e
    exact absurd lt (Nat.not_lt.mpr ha)⟩, r.keep k.2.z⟩
theorem o_addL (G : Good w sc dl ul C) {a b : List D} (hz : a.length + b.length ≤ 1048576) : Op2 w sc C ρ (binaryOp .Add) (dL a) (dL b) (· = .val (dL (a ++ b))) := by
  intro v1 v2; refine .mk ?_; rintro s Q E F ⟨⟨x, vs, rfl, hx, rx⟩, ⟨y, us, rfl, hy, ry⟩⟩ hq he
  obtain ⟨m, F1, N1, hout⟩ := F.out G
  refine add_lists F1 N1 (isList_keep (z_sub C _) hx.isList) (isList_keep (z_sub C _) hy.isList) (fun h' F' N' => ?_) (by rw [rx.length, ry.length]; exact Nat.le_trans hz (by decide))
  have k := hout h' F' (news_tail N')
  exact hq _ _ h' s.toks rfl k.1 k.2 (newL G F k N' (Nat.le_refl _) (Rels.app ry _ rx))
theorem v_sliceL (G : Good w sc dl ul C) {value : Expr} {lo hi : Option Expr} {pos p2 : Pos} {ds ds' : List D} {l u : Option Int} (h1 : EvV w sc C ρ value (dL ds)) (h2 : PV w sc C ρ lo l) (h3 : PV w sc C ρ hi u)
    (hs : ∀ a r, subscripted (.Slice lo hi none p2) false a (Value.ref r) = operate [Value.ref r, a] (getItem a (Value.ref r))) (ht : ∀ a r, letTemporaryGo value a r = pure ()) (hz : ds.length ≤ 1048576)
    (hp : ∀ h vs, Rels h ds vs → Rels h ds' (slicePick vs.toArray l u none).toList) : EvV w sc C ρ (.Subscript value (.Slice lo hi none p2) pos) (dL ds') := by
  refine .mk fun s Q E F z hq he => ?_
  have nx : ∀ {α : Type} {d : α} {s : Shared} (c : Addr) (e : Value) (s' : Shared), (fun x => x = Out.val d) (Out.exc c) → InFl w sc C s s' e c → E e s' := fun _ _ _ p => nomatch (show Out.exc _ = Out.val _ from p)
  refine Subscript_ (h1.go s _ E F z (fun _ v1 g2 tk2 p1 F2 k2 r2 => ?_) nx)
  refine wpAny_Slice (h2.go { s with heap := g2, toks := tk2 } _ E F2 trivial (fun lq vl g3 tk3 p3 F3 k3 r3 => ?_) nx)
  refine h3.go { s with heap := g3, toks := tk3 } _ E F3 trivial (fun uq vu g4 tk4 p4 F4 k4 r4 => wpAny_evalPart_none ?_) nx
  cases p1; cases p3; cases p4
  obtain ⟨a, vs, rfl, hx, rx⟩ := r2
  have kz := (k3.trans k4).z
  obtain ⟨m, F5, N5, hout⟩ := F4.out G
  refine slice_list (s := { s with heap := g4, toks := tk4 }) F5 N5 (isList_keep (z_sub C g4) (hx.at fun o e => kz _ o e).isList) r3 r4 (fun g' F' N' => ?_) (hs _ _) (ht _) (by rw [List.size_toArray, rx.length]; exact Nat.le_trans hz (by decide))
  have k := hout g' F' (news_tail N')
  exact hq _ _ g' _ rfl k.1 (k2.trans (k3.trans (k4.trans k.2))) (newL (vs := (slicePick vs.toArray l u none).toList) G F4 k (by rw [Array.toArray_toList]; exact N') (Nat.le_succ _) (hp _ _ (rx.keep kz)))
theorem hp_upto {ds : List D} {y : Int} (h : 0 ≤ y) : ∀ g vs, Rels g ds vs → Rels g (ds.take y.toNat) (slicePick vs.toArray none (some y) none).toList := fun g vs r => by rw [pick_upto vs h]; exact rels_take _ _ r
theorem hp_from {ds : List D} {x : Int} (h : 0 ≤ x) : ∀ g vs, Rels g ds vs → Rels g (ds.drop x.toNat) (slicePick vs.toArray (some x) none none).toList := fun g vs r => by rw [pick_from vs h]; exact rels_drop _ _ r
theorem o_tupleL (G : Good w sc dl ul C) {ds : List D} (hz : ds.length ≤ 1048576) : OpL w sc C ρ (callF (.type "tuple")) [dL ds] (· = .val (dT ds)) := by
  intro vs; refine .mk ?_; rintro s Q E F ⟨v, _, rfl, ⟨a, us, rfl, hx, r⟩, rfl⟩ hq he
  refine call_tuple_list (isList_keep (z_sub C _) hx.isList) (fun h' k => ?_) (by rw [List.size_toArray, r.length]; exact Nat.le_trans hz (by decide))
  have kp : Keep s.heap (h'.push { cls := .type "tuple", data := .seq us.toArray }) := fun b o e => Heap.get?_push_of_some _ (k b o e)
  have F' := F.keep G kp
  refine hq _ _ _ s.toks rfl F' kp.kk ⟨_, us, rfl, ⟨_, hideAll_get _ (Heap.get?_push_size _ rfl) (fun q => not_hid G (F.keep G k) q), rfl, _, rfl⟩, r.keep (Keep.kk kp).z⟩
end

theorem rows_W13 : True := by
  w_top off
  k_with_none
  k_with "mine enter" => (refine wpAny_call ?_; k_dflt (refine' enterP [] ?kX ?kT ?kr ?ko ?kc ?kb ?kl ?_ ?c2 ?c3 ?c4 ?c5; (case kX => k_asm); (case kT => k_asm); (case kr => exact Nat.le_of_ble_eq_true rfl); (case ko => k_is); (case kc => k_is); (case kb => exact BindsTo.of_eq rfl); (case kl => exact locs rfl); (case c2 => exact rfl); (case c3 => exact rfl); (case c4 => exact rfl); (case c5 => decide); k_whole; intro L' h' tk' F' K' l1; (dsimp only [List.map, List.zip, List.zipWith, List.reverse, List.reverseAux] at F'); (have N' := news_enter (hide := []) (news := []) K' l1 (fun _ h => nomatch h)); (dsimp only [hideAll] at F' N'); (try dsimp only); (try k_fold)))
  k_with "exec Raise some none" => (refine raise_ex (w := w) rfl ?_)
  k_with "call ref" => ((with_reducible show wpAny _ _ (call (Value.ref 44) [Value.str _ _]) _ _ _); (with_reducible rename Fr _ _ _ _ => FF); refine mk_exc w (exc44 w) (X.keeps FF.keep) (T.keeps FF.keep) (by rw [depth_under_make]; exact Nat.le_of_ble_eq_true rfl) (fun e h2 tk2 hx => ?_))
  k_with "call ref" => ((with_reducible show wpAny _ _ (call (Value.ref 56) [Value.str _ _]) _ _ _); (with_reducible rename Fr _ _ _ _ => FF); refine mk_exc w (exc56 w) (X.keeps FF.keep) (T.keeps FF.keep) (by rw [depth_under_make]; exact Nat.le_of_ble_eq_true rfl) (fun e h2 tk2 hx => ?_))
  k_with "mine ret" => ((try dsimp only); (with_reducible rename Fr _ _ _ _ => FF); refine hret _ _ _ FF.keep ?_)
  k_with "Raised" => ((with_reducible rename Fr _ _ _ _ => FF); refine Raised.of (by first | exact exc44 w | exact exc56 w) (X.keeps FF.keep) hx ?_; (try dsimp only); (try k_unfold); refine leave_first B FF hx (fun h3 hfly => hexc _ _ _ _ ?_ hfly))
  k_with "subscriptTail" => ((with_reducible show wpAny _ _ (subscriptTail _ (Expr.Slice _ _ none _) (Value.bytes _ _) (Value.ref _)) _ _ _); (with_reducible rename Fr _ _ _ _ => FF); (with_reducible rename News _ _ _ _ => NN); (refine KBc.slice_K (s := ⟨_, _, _, _, _⟩) FF NN rfl (by constructor) (by constructor) ?hz ?_); (case hz => (rw [KBw.ints_length]; l_fact)); intro h2 t2' k2 F2 N2 _; (try simp only [hpick]))
  trivial

/-- a list that the frame made itself -/
def dO (g : Heap) (l : List D) : D := ⟨fun h v => ∃ a vs, v = .ref a ∧ g.get? a = none ∧ h.PlainList a vs.toArray ∧ Rels h l vs, by
  intro h h' v k r
  obtain ⟨a, vs, e, n, t, q⟩ := r
  exact ⟨a, vs, e, n, t.at fun o e => k _ o e, q.keep k⟩⟩
/-- the same, at its place -/
def dA (g : Heap) (a : Addr) (l : List D) : D := ⟨fun h v => v = .ref a ∧ g.get? a = none ∧ ∃ vs : List Value, h.PlainList a vs.toArray ∧ Rels h l vs, by
  intro h h' v k r
  obtain ⟨e, n, vs, t, q⟩ := r
  exact ⟨e, n, vs, t.at fun o e => k _ o e, q.keep k⟩⟩
theorem lk_cons {x y : Str} {d d' : D} {ρ : List (Str × D)} (e : lk ((x, d) :: ρ) y = some d') : (y = x ∧ d = d') ∨ ((y == x) = false ∧ lk ρ y = some d') := by
  unfold lk at e
  rw [List.lookup_cons] at e
  by_cases hy : (y == x) = true
  · rw [hy] at e; exact .inl ⟨eq_of_beq hy, Option.some.inj e⟩
  · rw [Bool.not_eq_true] at hy; rw [hy] at e; exact .inr ⟨hy, e⟩
theorem lk_ne {x y : Str} {d : D} {ρ : List (Str × D)} (h : (y == x) = false) : lk ((x, d) :: ρ) y = lk ρ y := by
  unfold lk; rw [List.lookup_cons, h]
/-- what hangs on tuples alone -/
def Tupy (d : D) : Prop := ∀ h h' v, (∀ b o, h.get? b = some o → o.cls = .type "tuple" → h'.get? b = some o) → d.rel h v → d.rel h' v
theorem tupy_I {i : Int} : Tupy (dI i) := fun _ _ _ _ r => r
theorem tupy_S {x : Str} : Tupy (dS x) := fun _ _ _ _ r => r
theorem tupy_Y {b : Array UInt8} : Tupy (dY b) := fun _ _ _ _ r => r
theorem tupy_all {h h' : Heap} (k : ∀ b o, h.get? b = some o → o.cls = .type "tuple" → h'.get? b = some o) (l : List D) : ∀ {vs : List Value}, (∀ d ∈ l, Tupy d) → Rels h l vs → Rels h' l vs := by
  induction l with
  | nil => intro vs _ r; exact r
  | cons d l ih =>
    intro vs hl r
    obtain ⟨v, q, rfl, x, y⟩ := r
    exact ⟨v, q, rfl, hl d List.mem_cons_self h h' v k x, ih (fun d m => hl d (List.mem_cons_of_mem _ m)) y⟩
theorem tupy_T {l : List D} (hl : ∀ d ∈ l, Tupy d) : Tupy (dT l) := fun h h' v k r => by
  obtain ⟨a, vs, e, ⟨o, g, c, n⟩, q⟩ := r
  exact ⟨a, vs, e, ⟨o, k a o g c, c, n⟩, tupy_all k l hl q⟩
section
variable {w : World} {sc : Scope} {dl ul : Nat} {C : Cx} {ρ : List (Str × D)}
theorem v_list0 (G : Good w sc dl ul C) {pos : Pos} : EvV w sc C ρ (.List [] pos) (dO C.g []) := ev_list (el_of vl_nil fun vs => .mk fun s Q E F r hq he => by
  cases r
  obtain ⟨m, F1, N1, hout⟩ := F.out G
  refine newList_N F1 N1 (fun h' F' N' => ?_) (by decide)
  have hk := hout h' F' (news_tail N')
  exact hq _ _ h' s.toks rfl hk.1 hk.2 ⟨_, [], rfl, (N' _ List.mem_cons_self).2.2, ⟨_, hideAll_get _ (N' _ List.mem_cons_self).1 (not_hid G F)⟩, rfl⟩)
theorem v_own {e : Expr} {g : Heap} {ds : List D} (h : EvV w sc C ρ e (dO g ds)) : EvV w sc C ρ e (dL ds) :=
  .mk fun s Q E F z hq he => h.go s Q E F z (fun d v h' tk' p F' k r => by
    cases p
    obtain ⟨a, vs, q, _, t, x⟩ := r
    exact hq _ v h' tk' rfl F' k ⟨a, vs, q, t, x⟩) fun c e s' p => nomatch (show Out.exc _ = Out.val _ from p)
theorem ex_append (G : Good w sc dl ul C) (hst : C.strict = false) {x : Str} {px apos cpos pos : Pos} {arg : Expr} {ds : List D} {ρ' : List (Str × D)} {P : SOut → Prop}
    (hbase : attributeBase (.Name x px) "append" (C.env sc) (eval (.Name x px) (C.env sc)) = eval (.Name x px) (C.env sc))
    (hfew : ((backTo cpos (starEach [arg] (C.env sc))).all (fun x => !x.1) && (backToKw cpos (keywordEach [] (C.env sc))).all (fun x => x.1.isSome)
      && decide (([arg] : List Expr).length + ([] : List Keyword).length + (if ([] : List Keyword).isEmpty then 0 else 1) < 30)) = true)
    (hline : (apos.endLine == cpos.line) = true) (htrees : backTo cpos (starEach [arg] (C.env sc)) = [(false, eval arg (C.env sc))]) (hi : interactive (C.env sc) = false)
    (hs : swapsWith (.Call (.Attribute (.Name x px) "append" apos) [arg] [] cpos) none pos.line (C.env sc) = pure false)
    (hl : lk ρ x = some (dO C.g ds)) (hk : sc.names.lookup x = some .local) (hd : (x == Str.ofString "__debug__") = false) (hds : ∀ d ∈ ds, Tupy d) (hρ : ∀ y d, lk ρ' y = some d → lk ρ y = some d ∧ Tupy d) (hz : ds.length ≤ 1048576)
    (h : ∀ a, Ev w sc C ((x, dA C.g a ds) :: ρ) arg fun o => match o with | .val d => Tupy d ∧ P (.next ((x, dO C.g (ds ++ [d])) :: ρ')) | .exc c => P (.exc c)) : Ex1 w sc C ρ (.Expr (.Call (.Attribute (.Name x px) "append" apos) [arg] [] cpos) pos) P := by
  refine .mk fun s Q E F hn hb hr he => ?_
  obtain ⟨hI, m, F1, R⟩ := id F
  obtain ⟨v, e1, a, vs, rfl, hg, hpl, rr⟩ := R x _ hl
  have hnh : a ∉ C.L :: (frs C.outer ++ C.hid) := fun q => by obtain ⟨n, e⟩ := hpl; have := hideAll_none (h := s.heap) _ q; unfold Cx.z at e; rw [this] at e; cases e
  have hLH : a ∉ C.L :: C.hid := fun q => hnh ((List.mem_cons.mp q).elim (fun q => q ▸ List.mem_cons_self) fun q => List.mem_cons_of_mem _ (List.mem_append_right _ q))
  show wpAny _ _ (exec (.Expr _ pos) (C.env sc)) _ _ _
  rw [exec_Expr (hi := hi) (hs := hs)]
  refine wpAny_bind (wpAny_standAt (wpAny_bind (wpAny_Call_append hbase hfew hline htrees (nameX_L F1 ((G.val hk m).symm.trans e1) ⟨a, vs.toArray, rfl, ?_, ?_⟩ G.hk hk hd))))
  · obtain ⟨n, e⟩ := hpl
    exact ⟨_, n, of_hideAll _ e, rfl, rfl, rfl⟩
  have Fx : FrD C ((x, dA C.g a ds) :: ρ) s.heap := ⟨hI, m, F1, fun z d' e => by
    rcases lk_cons e with ⟨rfl, rfl⟩ | ⟨hz, e⟩
    · exact ⟨_, e1, rfl, hg, vs, hpl, rr⟩
    · exact R z d' e⟩
  refine (h a).go s _ E Fx trivial (fun d y h2 tk2 p F2 k2 ry => ?_) he
  obtain ⟨hI2, m2, F2', R2⟩ := F2
  obtain ⟨v, ev, rfl, _, us, hplz, rr2⟩ := R2 x _ (by unfold lk; rw [List.lookup_cons, beq_self_eq_true])
  have hpl2 : h2.PlainList a us.toArray := hplz.at fun o e => of_hideAll _ e
  refine wpAny_list_append_plain hpl2 (fun h3 hl3 hs3 => ?_) (by rw [List.size_toArray, rr2.length]; exact Nat.le_trans hz (by decide))
  rw [dropValue_plain (v := Value.none) (fun a x => by cases x)]
  have tup : ∀ b o, (C.z h2).get? b = some o → o.cls = .type "tuple" → (C.z h3).get? b = some o := fun b o e c => by
    refine hideAll_get _ (hs3.extBut b o (fun q => ?_) (of_hideAll _ e)) fun q => by have := hideAll_none (h := h2) _ q; unfold Cx.z at e; rw [this] at e; cases e
    obtain ⟨n, e2⟩ := hpl2
    rw [q] at e; rw [of_hideAll _ e] at e2; cases e2; simp at c
  refine wpAny_pure (hn _ h3 tk2 p.2 ⟨G.hi.mono _ _ hI2 fun b o hb e => hs3.extBut b o (fun q => hb.elim (fun hb => hLH (List.mem_cons_of_mem _ (q ▸ hb))) fun ⟨_, _, _, hd, _⟩ => by obtain ⟨n, e2⟩ := hpl2; rw [q, e2] at e; cases e; cases hd) e, m2, ⟨F2'.ns.at' fun o e => hs3.extBut _ o (fun q => hLH (q ▸ List.mem_cons_self)) e, fun b o e => hs3.extBut b o (fun q => by rw [q, hg] at e; cases e) (F2'.keep b o e), F2'.above⟩, fun z d' e => ?_⟩ fun q => by rw [hst] at q; cases q)
  rcases lk_cons e with ⟨rfl, rfl⟩ | ⟨hz, e⟩
  · obtain ⟨n, e3⟩ := hl3
    exact ⟨_, ev, a, us ++ [y], rfl, hg, ⟨n, hideAll_get _ (by rw [e3]; congr 2; simp) hnh⟩, rels_snoc (tupy_all tup ds hds rr2) (p.1 _ _ _ tup ry)⟩
  · obtain ⟨e2, t⟩ := hρ z d' e
    obtain ⟨v, e3, r⟩ := R2 z d' ((lk_ne hz).trans e2)
    exact ⟨v, e3, t _ _ _ tup r⟩
end

theorem rows_W14 : True := by
  w_top off
  k_with_none
  k_with "mine enter" => (refine wpAny_call ?_; k_dflt (refine' enterP [] ?kX ?kT ?kr ?ko ?kc ?kb ?kl ?_ ?c2 ?c3 ?c4 ?c5; (case kX => k_asm); (case kT => k_asm); (case kr => exact Nat.le_of_ble_eq_true rfl); (case ko => k_is); (case kc => k_is); (case kb => exact BindsTo.of_eq rfl); (case kl => exact locs rfl); (case c2 => exact rfl); (case c3 => exact rfl); (case c4 => exact rfl); (case c5 => decide); k_whole; intro L' h' tk' F' K' l1; (dsimp only [List.map, List.zip, List.zipWith, List.reverse, List.reverseAux] at F'); (have N' := news_enter (hide := []) (news := []) K' l1 (fun _ h => nomatch h)); (dsimp only [hideAll] at F' N'); (try dsimp only); (try k_fold)))
  k_with "exec Raise some none" => (refine raise_ex (w := w) rfl ?_)
  k_with "call ref" => ((with_reducible show wpAny _ _ (call (Value.ref 44) [Value.str _ _]) _ _ _); (with_reducible rename Fr _ _ _ _ => FF); refine mk_exc w (exc44 w) (X.keeps FF.keep) (T.keeps FF.keep) (by rw [depth_under_make]; exact Nat.le_of_ble_eq_true rfl) (fun e h2 tk2 hx => ?_))
  k_with "call ref" => ((with_reducible show wpAny _ _ (call (Value.ref 56) [Value.str _ _]) _ _ _); (with_reducible rename Fr _ _ _ _ => FF); refine mk_exc w (exc56 w) (X.keeps FF.keep) (T.keeps FF.keep) (by rw [depth_under_make]; exact Nat.le_of_ble_eq_true rfl) (fun e h2 tk2 hx => ?_))
  k_with "mine ret" => ((try dsimp only); (with_reducible rename Fr _ _ _ _ => FF); refine hret _ _ _ FF.keep ?_)
  k_with "Raised" => ((with_reducible rename Fr _ _ _ _ => FF); refine Raised.of (by first | exact exc44 w | exact exc56 w) (X.keeps FF.keep) hx ?_; (try dsimp only); (try k_unfold); refine leave_first B FF hx (fun h3 hfly => hexc _ _ _ _ ?_ hfly))
  k_with "subscriptTail" => ((with_reducible show wpAny _ _ (subscriptTail _ (Expr.Slice _ _ none _) (Value.bytes _ _) (Value.ref _)) _ _ _); (with_reducible rename Fr _ _ _ _ => FF); (with_reducible rename News _ _ _ _ => NN); (refine KBc.slice_K (s := ⟨_, _, _, _, _⟩) FF NN rfl (by constructor) (by constructor) ?hz ?_); (case hz => (rw [KBw.ints_length]; l_fact)); intro h2 t2' k2 F2 N2 _; (try simp only [hpick]))
  trivial

section
variable {w : World} {sc scope : Scope} {dl ul : Nat} {C : Cx} {ρ : List (Str × D)} {cl : List (Str × Addr)}
abbrev rowS : Str := Str.ofString "row"
/-- the running name of a comprehension -/
theorem c_name {x : Str} {h0 : Heap} {Cd : Addr} {d : D} {s₃ : Shared} {p : Pos} {Q E : Value → Shared → Prop} (X : InC C x h0 Cd d s₃.heap) (hk : (compEnvC scope cl Cd (C.env sc)).scope.kind = .function) (hx : (compEnvC scope cl Cd (C.env sc)).kindOf x = some .local) (hd : (x == Str.ofString "__debug__") = false)
    (h : ∀ v, d.rel (C.z h0) v → Q v s₃) : wpAny (model pr w) C.A (eval (.Name x p) (compEnvC scope cl Cd (C.env sc))) Q E s₃ := by
  obtain ⟨m, v, hn, e, r⟩ := X.var
  exact wpAny_Name (wpAny_loadName_local hk hx hn e (h v r)) hd
theorem c_row0 {h0 : Heap} {Cd : Addr} {d0 : D} {rest : List D} {s₃ : Shared} {p1 p2 p3 : Pos} {k : Nat} {Q E : Value → Shared → Prop} (X : InC C rowS h0 Cd (dT (d0 :: rest)) s₃.heap) (hk : (compEnvC scope cl Cd (C.env sc)).scope.kind = .function) (hx : (compEnvC scope cl Cd (C.env sc)).kindOf rowS = some .local)
    (h : ∀ y, d0.rel (C.z h0) y → Q y { s₃ with toks := s₃.toks + 1 }) : wpAny (model pr w) C.A (eval (.Subscript (.Name rowS p1) (.Constant (.int 0) k p2) p3) (compEnvC scope cl Cd (C.env sc))) Q E s₃ := by
  refine Subscript_ (c_name X hk hx (by decide) fun v r => wpAny_Constant_int ?_)
  obtain ⟨a, vs, rfl, ht, v0, q, rfl, r0, _⟩ := r
  have ht' := isTup_keep ((z_sub C h0).trans X.keep) ht
  exact item_tupleT ht' (by decide) (by decide) (j := 0) (by unfold seqIndex?; simp) rfl (h v0 r0) (by first | rfl | (intros; rfl))
theorem c_glob (G : Good w sc dl ul C) {x y : Str} {h0 : Heap} {Cd : Addr} {d : D} {v : Value} {s₃ : Shared} {p : Pos} {Q E : Value → Shared → Prop} (X : InC C y h0 Cd d s₃.heap) (hn : nsIn (hd.heap_39 w.params) mainGlobals x = some (some v)) (h : Q v s₃)
    (hk : (compEnvC scope cl Cd (C.env sc)).scope.kind = .function) (hx : (compEnvC scope cl Cd (C.env sc)).kindOf x = some .globalImplicit) (hd : (x == Str.ofString "__debug__") = false) : wpAny (model pr w) C.A (eval (.Name x p) (compEnvC scope cl Cd (C.env sc))) Q E s₃ := by
  obtain ⟨m, F⟩ := X.fr
  obtain ⟨mean, mg, mb, T⟩ := G.T
  exact Name_function_global hk hx (loadGlobal_global (env := compEnvC scope cl Cd (C.env sc)) ((topRead_of T).g.keeps F.keep) (mg_of G.X (topRead_of T).g hn) h) hd
theorem c_first (G : Good w sc dl ul C) {h0 : Heap} {Cd : Addr} {x : Str} {rest : List D} {s₃ : Shared} {p1 p2 p3 p4 p5 : Pos} {k : Nat} {E : Value → Shared → Prop} (X : InC C rowS h0 Cd (dT (dS x :: rest)) s₃.heap) (hk : (compEnvC scope cl Cd (C.env sc)).scope.kind = .function) (hx : (compEnvC scope cl Cd (C.env sc)).kindOf rowS = some .local)
    (hg : (compEnvC scope cl Cd (C.env sc)).kindOf (Str.ofString "FIRST_WORDS") = some .globalImplicit) (hn : nsIn (hd.heap_39 w.params) mainGlobals (Str.ofString "FIRST_WORDS") = some (some (.ref 100))) (hb : behindInMarks .In (.Name (Str.ofString "FIRST_WORDS") p4) = false) :
    wpAny (model pr w) C.A (compTest [.Compare (.Subscript (.Name rowS p1) (.Constant (.int 0) k p2) p3) [.In] [.Name (Str.ofString "FIRST_WORDS") p4] p5] (compEnvC scope cl Cd (C.env sc))) (fun b s₄ => b = [Str.ofString "chassis", Str.ofString "port", Str.ofString "time"].any (fun y => y == x) ∧ Keeps s₃ s₄) E s₃ := by
  unfold compTest
  refine wpAny_tests_one (wpAny_isTrue_Compare1 (c_row0 X hk hx fun y ry => c_glob (s₃ := { s₃ with toks := s₃.toks + 1 }) G X hn ?_ hk hg (by decide)) hb)
  obtain ⟨t, rfl⟩ := ry
  obtain ⟨m, F⟩ := X.fr
  exact in_tuple_strs ⟨_, F.keep _ _ (G.X _ _ (k100 w)), rfl, _, rfl⟩ (.cons _ _ (.cons _ _ (.cons _ _ .nil))) (wpAny_truthy_bool ⟨rfl, _, _, rfl, fun _ _ e => e⟩)
/-- a def called with the running name -/
theorem c_call (G : Good w sc dl ul C) {f : Str} {fa : Addr} {h0 : Heap} {Cd : Addr} {d de : D} {s₃ : Shared} {p1 p2 p3 : Pos} {D' U' : Nat} {P P' : Out D → Prop} (X : InC C rowS h0 Cd d s₃.heap) (c : ∀ I, HI C.hid I → CT w C.hid I D' U' fa [d] P') (h1 : dl ≤ D') (h2 : ul ≤ U')
    (pv : ∀ d', P' (.val d') → ∀ h h' v, d'.rel h v → de.rel h' v) (pe : ∀ c, P' (.exc c) → P (.exc c)) (hk : (compEnvC scope cl Cd (C.env sc)).scope.kind = .function) (hx : (compEnvC scope cl Cd (C.env sc)).kindOf rowS = some .local)
    (hg : (compEnvC scope cl Cd (C.env sc)).kindOf f = some .globalImplicit) (hdb : (f == Str.ofString "__debug__") = false) (hn : nsIn (hd.heap_39 w.params) mainGlobals f = some (some (.ref fa))) (hki : keepIn (hd.heap_39 w.params) (.ref fa) = true)
    (hc : eval (Expr.Call (.Name f p1) [.Name rowS p2] [] p3) (compEnvC scope cl Cd (C.env sc)) = do
          let x ← eval (.Name f p1) (compEnvC scope cl Cd (C.env sc))
          callWith p3 x [] (backTo p3 (starEach [.Name rowS p2] (compEnvC scope cl Cd (C.env sc)))) (backToKw p3 (keywordEach [] (compEnvC scope cl Cd (C.env sc))))) :
    wpAny (model pr w) C.A (eval (.Call (.Name f p1) [.Name rowS p2] [] p3) (compEnvC scope cl Cd (C.env sc))) (fun y s₄ => de.rel (C.z h0) y ∧ Keeps s₃ s₄) (XC C sc P s₃) s₃ := by
  refine Call_ (c_glob G X hn (callWith_K G.X hki (args_cons (c_name X hk hx (by decide) fun v r => args_nil ⟨?_, ?_⟩))) hk hg hdb) hc
  · obtain ⟨m, F⟩ := X.fr
    exact G.X.keeps F.keep
  · have F0 : FrD C [] s₃.heap := ⟨X.i, X.fr.imp fun m F => ⟨F, fun _ _ e => nomatch e⟩⟩
    refine op_callK G c h1 h2 [v] s₃ _ _ F0 ⟨v, [], rfl, d.mono _ _ _ (Keep.kk X.keep).z r, rfl⟩ (fun d' y h' tk' p k r => ⟨pv d' p _ _ _ r, h', tk', rfl, k⟩) fun cc e h' tk' p fl => ⟨cc, e, h', tk', rfl, pe cc p, rfl, fl⟩
end

theorem rows_W15 : True := by
  w_top off
  k_with_none
  k_with "mine enter" => (refine wpAny_call ?_; k_dflt (refine' enterP [] ?kX ?kT ?kr ?ko ?kc ?kb ?kl ?_ ?c2 ?c3 ?c4 ?c5; (case kX => k_asm); (case kT => k_asm); (case kr => exact Nat.le_of_ble_eq_true rfl); (case ko => k_is); (case kc => k_is); (case kb => exact BindsTo.of_eq rfl); (case kl => exact locs rfl); (case c2 => exact rfl); (case c3 => exact rfl); (case c4 => exact rfl); (case c5 => decide); k_whole; intro L' h' tk' F' K' l1; (dsimp only [List.map, List.zip, List.zipWith, List.reverse, List.reverseAux] at F'); (have N' := news_enter (hide := []) (news := []) K' l1 (fun _ h => nomatch h)); (dsimp only [hideAll] at F' N'); (try dsimp only); (try k_fold)))
  k_with "exec Raise some none" => (refine raise_ex (w := w) rfl ?_)
  k_with "call ref" => ((with_reducible show wpAny _ _ (call (Value.ref 44) [Value.str _ _]) _ _ _); (with_reducible rename Fr _ _ _ _ => FF); refine mk_exc w (exc44 w) (X.keeps FF.keep) (T.keeps FF.keep) (by rw [depth_under_make]; exact Nat.le_of_ble_eq_true rfl) (fun e h2 tk2 hx => ?_))
  k_with "call ref" => ((with_reducible show wpAny _ _ (call (Value.ref 56) [Value.str _ _]) _ _ _); (with_reducible rename Fr _ _ _ _ => FF); refine mk_exc w (exc56 w) (X.keeps FF.keep) (T.keeps FF.keep) (by rw [depth_under_make]; exact Nat.le_of_ble_eq_true rfl) (fun e h2 tk2 hx => ?_))
  k_with "mine ret" => ((try dsimp only); (with_reducible rename Fr _ _ _ _ => FF); refine hret _ _ _ FF.keep ?_)
  k_with "Raised" => ((with_reducible rename Fr _ _ _ _ => FF); refine Raised.of (by first | exact exc44 w | exact exc56 w) (X.keeps FF.keep) hx ?_; (try dsimp only); (try k_unfold); refine leave_first B FF hx (fun h3 hfly => hexc _ _ _ _ ?_ hfly))
  k_with "subscriptTail" => ((with_reducible show wpAny _ _ (subscriptTail _ (Expr.Slice _ _ none _) (Value.bytes _ _) (Value.ref _)) _ _ _); (with_reducible rename Fr _ _ _ _ => FF); (with_reducible rename News _ _ _ _ => NN); (refine KBc.slice_K (s := ⟨_, _, _, _, _⟩) FF NN rfl (by constructor) (by constructor) ?hz ?_); (case hz => (rw [KBw.ints_length]; l_fact)); intro h2 t2' k2 F2 N2 _; (try simp only [hpick]))
  trivial

def FW : List Str := [Str.ofString "chassis", Str.ofString "port", Str.ofString "time"]
def neFW (xs : List Str) : Bool := !((List.range (min xs.length 3)).all (fun j => xs.getD j (Str.ofString "") == FW.getD j (Str.ofString "")) && xs.length == 3)
section
open SeqAt
variable {w : World} {sc : Scope} {dl ul : Nat} {C : Cx} {ρ : List (Str × D)}
theorem cp_ne100 (G : Good w sc dl ul C) (hu : ul ≤ 9000) {xs : List Str} : Cm2 w sc C ρ .NotEq (dT (xs.map dS)) (dV (.ref 100)) fun o => ∃ v, o = .val v ∧ (v = true ↔ neFW xs = true) := by
  intro v1 v2; refine .mk ?_; rintro s Q E F ⟨⟨a, vs, rfl, ht, r⟩, rfl⟩ hq he
  obtain ⟨hI, m, F1, R⟩ := id F
  have hl : vs.length = xs.length := by rw [r.length, List.length_map]
  have h2 : s.heap.IsTuple 100 #[.str (Str.ofString "chassis") 325, .str (Str.ofString "port") 326, .str (Str.ofString "time") 327] := ⟨_, F1.keep _ _ (G.X _ _ (k100 w)), rfl, _, rfl⟩
  have hs : (!((List.range (min vs.toArray.size 3)).all (fun j => xs.getD j (Str.ofString "") == FW.getD j (Str.ofString "")) && vs.toArray.size == 3)) = neFW xs := by rw [List.size_toArray, hl]; rfl
  refine RcNeAt.tuples (e := fun j => xs.getD j (Str.ofString "") == FW.getD j (Str.ofString "")) (isTup_keep (z_sub C _) ht) h2 (Nat.lt_of_le_of_lt (Nat.le_trans G.uni hu) (by decide)) (fun j h1 h3 => ?_) pr w E Q (hq _ _ s.heap s.toks ⟨_, rfl, Iff.rfl⟩ F (KK.refl _) (congrArg Value.bool hs))
  have h1' : j < xs.length := by rw [List.size_toArray, hl] at h1; exact h1
  obtain ⟨v, e, t, rfl⟩ := r.get (i := j) (d := dS (xs.getD j (Str.ofString ""))) (by simp [h1'])
  have e' : vs.toArray[j] = .str (xs.getD j (Str.ofString "")) t := by
    have := List.getElem?_eq_some_iff.mp e
    obtain ⟨_, q⟩ := this
    simpa using q
  rw [e']
  have : j = 0 ∨ j = 1 ∨ j = 2 := by simp at h3; omega
  rcases this with rfl | rfl | rfl <;> exact EqAt.str_str _ _ _ _
theorem cp_neL0 (G : Good w sc dl ul C) (hu : ul ≤ 9000) {ds : List D} : Cm2 w sc C ρ .NotEq (dL ds) (dL []) fun o => ∃ v, o = .val v ∧ (v = true ↔ ds ≠ []) := by
  intro v1 v2; refine .mk ?_; rintro s Q E F ⟨⟨a, vs, rfl, ha, r⟩, ⟨b, us, rfl, hb, ru⟩⟩ hq he
  cases ru
  have hA : C.A.units < cLine := Nat.lt_of_le_of_lt (Nat.le_trans G.uni hu) (by decide)
  have la := isList_keep (z_sub C _) ha.isList
  have lb := isList_keep (z_sub C _) hb.isList
  cases ds with
  | nil =>
    cases r
    exact RcNeAt.lists (e := fun _ => true) la lb rfl hA (fun j h1 _ => absurd h1 (Nat.not_lt_zero _)) pr w E Q (hq _ _ s.heap s.toks ⟨false, rfl, by simp⟩ F (KK.refl _) rfl)
  | cons d ds =>
    obtain ⟨v, q, rfl, _, _⟩ := r
    exact RcNeAt.lists_lengths la lb (by simp) hA pr w E Q (hq _ _ s.heap s.toks ⟨true, rfl, by simp⟩ F (KK.refl _) rfl)
end

theorem rows_W16 : True := by
  w_top off
  k_with_none
  k_with "mine enter" => (refine wpAny_call ?_; k_dflt (refine' enterP [] ?kX ?kT ?kr ?ko ?kc ?kb ?kl ?_ ?c2 ?c3 ?c4 ?c5; (case kX => k_asm); (case kT => k_asm); (case kr => exact Nat.le_of_ble_eq_true rfl); (case ko => k_is); (case kc => k_is); (case kb => exact BindsTo.of_eq rfl); (case kl => exact locs rfl); (case c2 => exact rfl); (case c3 => exact rfl); (case c4 => exact rfl); (case c5 => decide); k_whole; intro L' h' tk' F' K' l1; (dsimp only [List.map, List.zip, List.zipWith, List.reverse, List.reverseAux] at F'); (have N' := news_enter (hide := []) (news := []) K' l1 (fun _ h => nomatch h)); (dsimp only [hideAll] at F' N'); (try dsimp only); (try k_fold)))
  k_with "exec Raise some none" => (refine raise_ex (w := w) rfl ?_)
  k_with "call ref" => ((with_reducible show wpAny _ _ (call (Value.ref 44) [Value.str _ _]) _ _ _); (with_reducible rename Fr _ _ _ _ => FF); refine mk_exc w (exc44 w) (X.keeps FF.keep) (T.keeps FF.keep) (by rw [depth_under_make]; exact Nat.le_of_ble_eq_true rfl) (fun e h2 tk2 hx => ?_))
  k_with "call ref" => ((with_reducible show wpAny _ _ (call (Value.ref 56) [Value.str _ _]) _ _ _); (with_reducible rename Fr _ _ _ _ => FF); refine mk_exc w (exc56 w) (X.keeps FF.keep) (T.keeps FF.keep) (by rw [depth_under_make]; exact Nat.le_of_ble_eq_true rfl) (fun e h2 tk2 hx => ?_))
  k_with "mine ret" => ((try dsimp only); (with_reducible rename Fr _ _ _ _ => FF); refine hret _ _ _ FF.keep ?_)
  k_with "Raised" => ((with_reducible rename Fr _ _ _ _ => FF); refine Raised.of (by first | exact exc44 w | exact exc56 w) (X.keeps FF.keep) hx ?_; (try dsimp only); (try k_unfold); refine leave_first B FF hx (fun h3 hfly => hexc _ _ _ _ ?_ hfly))
  k_with "subscriptTail" => ((with_reducible show wpAny _ _ (subscriptTail _ (Expr.Slice _ _ none _) (Value.bytes _ _) (Value.ref _)) _ _ _); (with_reducible rename Fr _ _ _ _ => FF); (with_reducible rename News _ _ _ _ => NN); (refine KBc.slice_K (s := ⟨_, _, _, _, _⟩) FF NN rfl (by constructor) (by constructor) ?hz ?_); (case hz => (rw [KBw.ints_length]; l_fact)); intro h2 t2' k2 F2 N2 _; (try simp only [hpick]))
  trivial

theorem outs_list {α : Type} (q : α → Bool) (g : α → D) (x : α) (l : List α) : ∀ (pf : Nat → Bool) (f : Nat → D), (∀ i, i < l.length → pf i = q (l.getD i x)) → (∀ i, i < l.length → f i = g (l.getD i x)) → outs l.length pf f = (l.filter q).map g := by
  induction l with
  | nil => intro pf f _ _; rfl
  | cons a l ih =>
    intro pf f h1 h2
    have e : outs (l.length + 1) pf f = (if pf 0 then [f 0] else []) ++ outs l.length (fun i => pf (i + 1)) (fun i => f (i + 1)) := by
      unfold outs
      rw [List.range_succ_eq_map, List.filter_cons, List.filter_map]
      cases h : pf 0 <;> simp [Function.comp_def]
    rw [List.length_cons, e, ih _ _ (fun i h => h1 (i + 1) (Nat.succ_lt_succ h)) (fun i h => h2 (i + 1) (Nat.succ_lt_succ h)), h1 0 (Nat.succ_pos _), h2 0 (Nat.succ_pos _), List.filter_cons]
    cases h : q a <;> simp [h]
abbrev Row : Type := Str × List D
def rowD (p : Row) : D := dT (dS p.1 :: p.2)
abbrev row0 : Row := (Str.ofString "", [])
theorem rowD_at (rs : List Row) {i : Nat} (h : i < rs.length) : (rs.map rowD).getD i (dI 0) = rowD (rs.getD i row0) := by simp [h]
section
variable {w : World} {sc scope : Scope} {dl ul : Nat} {C : Cx} {ρ : List (Str × D)} {cl : List (Str × Addr)}
theorem v_heads (G : Good w sc dl ul C) {iter : Expr} {p1 p2 p3 px pos : Pos} {k : Nat} {rs : List Row} (hit : EvV w sc C ρ iter (dL (rs.map rowD))) (hz : rs.length ≤ 1048576) (hclos : closureFor scope (C.env sc) = pure cl)
    (hcell : ∀ y ∈ scope.names, y.2 ≠ .cell) (hkind : scope.kind = .function) (hnames : ∀ y ∈ scope.names, y.2 = .local → scope.names.lookup y.1 = some .local) (hx : scope.names.lookup rowS = some .local) (hs : ∀ x, foldedSetIterable iter (C.env sc) x = pure x)
    (hk : ∀ Cd, (compEnvC scope cl Cd (C.env sc)).scope.kind = .function) (hr : ∀ Cd, (compEnvC scope cl Cd (C.env sc)).kindOf rowS = some .local) :
    EvV w sc C ρ (.ListComp (.Subscript (.Name rowS p1) (.Constant (.int 0) k p2) p3) [⟨.Name rowS px, iter, [], 0⟩] scope pos) (dL ((rs.map (·.1)).map dS)) := by
  refine ev_comp G rs.length (fun i => (rs.map rowD).getD i (dI 0)) (fun i => dS (rs.getD i row0).1) (fun _ => true) hclos hcell hkind hnames hx hs hz (ev_of hit (by have := it_list (w := w) G (ds := rs.map rowD) (target := .Name rowS px) (fun _ _ _ _ _ _ _ _ q => wpAny_of_eq (a := ()) rfl q); rw [List.length_map] at this; exact this)) (fun i h0 Cd s₃ E _ X => wpAny_tests_nil ⟨rfl, _, _, rfl, fun _ _ e => e⟩) (fun i h0 Cd s₃ hi _ X => ?_) ?_
  · have X' : InC C rowS h0 Cd (dT (dS (rs.getD i row0).1 :: (rs.getD i row0).2)) s₃.heap := by have := X; rw [rowD_at rs hi] at this; exact this
    exact c_row0 X' (hk Cd) (hr Cd) fun y r => ⟨r, _, _, rfl, fun _ _ e => e⟩
  · rw [outs_list (fun _ => true) (fun p : Row => dS p.1) row0 rs _ _ (fun _ _ => rfl) (fun _ _ => rfl), List.filter_eq_self.mpr (fun _ _ => rfl), List.map_map]
    rfl
theorem v_dups (G : Good w sc dl ul C) {iter : Expr} {p0 p1 p2 p3 p4 p5 px pos : Pos} {k : Nat} {rs : List Row} (hit : EvV w sc C ρ iter (dL (rs.map rowD))) (hz : rs.length ≤ 1048576) (hclos : closureFor scope (C.env sc) = pure cl)
    (hcell : ∀ y ∈ scope.names, y.2 ≠ .cell) (hkind : scope.kind = .function) (hnames : ∀ y ∈ scope.names, y.2 = .local → scope.names.lookup y.1 = some .local) (hx : scope.names.lookup rowS = some .local) (hs : ∀ x, foldedSetIterable iter (C.env sc) x = pure x)
    (hk : ∀ Cd, (compEnvC scope cl Cd (C.env sc)).scope.kind = .function) (hr : ∀ Cd, (compEnvC scope cl Cd (C.env sc)).kindOf rowS = some .local) (hg : ∀ Cd, (compEnvC scope cl Cd (C.env sc)).kindOf (Str.ofString "FIRST_WORDS") = some .globalImplicit)
    (hn : nsIn (hd.heap_39 w.params) mainGlobals (Str.ofString "FIRST_WORDS") = some (some (.ref 100))) (hb : behindInMarks .In (.Name (Str.ofString "FIRST_WORDS") p4) = false) :
    EvV w sc C ρ (.ListComp (.Name rowS p0) [⟨.Name rowS px, iter, [.Compare (.Subscript (.Name rowS p1) (.Constant (.int 0) k p2) p3) [.In] [.Name (Str.ofString "FIRST_WORDS") p4] p5], 0⟩] scope pos) (dL ((rs.filter fun p => FW.any (fun y => y == p.1)).map rowD)) := by
  refine ev_comp G rs.length (fun i => (rs.map rowD).getD i (dI 0)) (fun i => (rs.map rowD).getD i (dI 0)) (fun i => FW.any (fun y => y == (rs.getD i row0).1)) hclos hcell hkind hnames hx hs hz (ev_of hit (by have := it_list (w := w) G (ds := rs.map rowD) (target := .Name rowS px) (fun _ _ _ _ _ _ _ _ q => wpAny_of_eq (a := ()) rfl q); rw [List.length_map] at this; exact this)) (fun i h0 Cd s₃ E hi X => ?_) (fun i h0 Cd s₃ hi _ X => ?_) ?_
  · have X' : InC C rowS h0 Cd (dT (dS (rs.getD i row0).1 :: (rs.getD i row0).2)) s₃.heap := by have := X; rw [rowD_at rs hi] at this; exact this
    exact c_first G X' (hk Cd) (hr Cd) (hg Cd) hn hb
  · exact c_name X (hk Cd) (hr Cd) (by decide) fun v r => ⟨r, _, _, rfl, fun _ _ e => e⟩
  · rw [outs_list (fun p : Row => FW.any (fun y => y == p.1)) rowD row0 rs _ _ (fun _ _ => rfl) (fun i h => rowD_at rs h)]
end

theorem rows_B2 : True := by
  w_top off
  k_with_none
  k_with "mine enter" => (refine wpAny_call ?_; k_dflt (refine' enterP [] ?kX ?kT ?kr ?ko ?kc ?kb ?kl ?_ ?c2 ?c3 ?c4 ?c5; (case kX => k_asm); (case kT => k_asm); (case kr => exact Nat.le_of_ble_eq_true rfl); (case ko => k_is); (case kc => k_is); (case kb => exact BindsTo.of_eq rfl); (case kl => exact locs rfl); (case c2 => exact rfl); (case c3 => exact rfl); (case c4 => exact rfl); (case c5 => decide); k_whole; intro L' h' tk' F' K' l1; (dsimp only [List.map, List.zip, List.zipWith, List.reverse, List.reverseAux] at F'); (have N' := news_enter (hide := []) (news := []) K' l1 (fun _ h => nomatch h)); (dsimp only [hideAll] at F' N'); (try dsimp only); (try k_fold)))
  k_with "exec Raise some none" => (refine raise_ex (w := w) rfl ?_)
  k_with "call ref" => ((with_reducible show wpAny _ _ (call (Value.ref 44) [Value.str _ _]) _ _ _); (with_reducible rename Fr _ _ _ _ => FF); refine mk_exc w (exc44 w) (X.keeps FF.keep) (T.keeps FF.keep) (by rw [depth_under_make]; exact Nat.le_of_ble_eq_true rfl) (fun e h2 tk2 hx => ?_))
  k_with "call ref" => ((with_reducible show wpAny _ _ (call (Value.ref 56) [Value.str _ _]) _ _ _); (with_reducible rename Fr _ _ _ _ => FF); refine mk_exc w (exc56 w) (X.keeps FF.keep) (T.keeps FF.keep) (by rw [depth_under_make]; exact Nat.le_of_ble_eq_true rfl) (fun e h2 tk2 hx => ?_))
  k_with "mine ret" => ((try dsimp only); (with_reducible rename Fr _ _ _ _ => FF); refine hret _ _ _ FF.keep ?_)
  k_with "Raised" => ((with_reducible rename Fr _ _ _ _ => FF); refine Raised.of (by first | exact exc44 w | exact exc56 w) (X.keeps FF.keep) hx ?_; (try dsimp only); (try k_unfold); refine leave_first B FF hx (fun h3 hfly => hexc _ _ _ _ ?_ hfly))
  k_with "subscriptTail" => ((with_reducible show wpAny _ _ (subscriptTail _ (Expr.Slice _ _ none _) (Value.bytes _ _) (Value.ref _)) _ _ _); (with_reducible rename Fr _ _ _ _ => FF); (with_reducible rename News _ _ _ _ => NN); (refine KBc.slice_K (s := ⟨_, _, _, _, _⟩) FF NN rfl (by constructor) (by constructor) ?hz ?_); (case hz => (rw [KBw.ints_length]; l_fact)); intro h2 t2' k2 F2 N2 _; (try simp only [hpick]))
  trivial

theorem jn_slot : Slot "bytes" "join" "bytes.join" :=
  .of (owner := "bytes") (n := "join") (by rw [typeLookup_type, builtinLookup_eq_fast]; kernel_rfl) (by decide +kernel) (by decide +kernel) (by decide +kernel)
    (by first | exact .inl (by decide +kernel) | exact .inr (by decide +kernel)) (by rw [isSubtype_type]; kernel_rfl)
theorem jn_entry : entryFor table "bytes.join" = some Builtin.«bytes.join» := entryFor_of_tree (by kernel_rfl)
theorem jn_type : typeOf (.builtin "bytes.join") = pure (.type "method_descriptor") := by show builtinType _ = _; rw [builtinType_eq_fast]; kernel_rfl
section
open PySem.Builtin PySem.Builtin.Bytes
theorem jn_take {id : String} {b : Array UInt8} {t : Tok} : takeBufferQuiet? id (.bytes b t) 0 = pure (some (b, none)) := by
  unfold takeBufferQuiet? takeBuffer?
  rw [KBy.special_eq KBy.look_buffer, KBy.own_buffer]
  simp only [pure_bind, show (0 == fullReadOnly) = false from rfl, KBy.buffer_eq]
  rfl
theorem jn_fold (l : List (Array UInt8)) : ∀ (k : Nat) (z : Array UInt8), (l.zipIdx k).foldl (fun out (p, i) => (if i > 0 then out ++ #[] else out) ++ p) z = l.foldl (· ++ ·) z := by
  induction l with
  | nil => intro k z; rfl
  | cons a l ih =>
    intro k z
    have e : (if k > 0 then z ++ #[] else z) ++ a = z ++ a := by split <;> simp
    rw [List.zipIdx_cons, List.foldl_cons, List.foldl_cons, ih]
    exact congrArg (fun x => l.foldl (· ++ ·) x) e
theorem jn_go {M : Model} {A : Around} {s : Shared} {Q : Unit → Shared → Prop} {E : Value → Shared → Prop} (keep : List Value) (l : List Value) (h : Q () s) : wpAny M A (joinLetGo (l.map fun v => (v, none)) keep) Q E s := by
  induction l with
  | nil => exact wpAny_pure h
  | cons a l ih =>
    rw [List.map_cons]
    unfold joinLetGo
    exact wpAny_bind (wpAny_letGo ih)
theorem bytes_join {prog : Program} {w : World} {A : Around} {s : Shared} {Q E : Value → Shared → Prop} {l : Addr} {v1 v2 : Value} {vs : List Value} {bs : List (Array UInt8)} {t : Tok} (hl : s.heap.IsList l (v1 :: v2 :: vs).toArray)
  (hlen : (v1 :: v2 :: vs).length = bs.length) (hv : ∀ (i : Nat) (b : Array UInt8), bs[i]? = some b → ∃ t, (v1 :: v2 :: vs)[i]? = some (Value.bytes b t)) (hz : (bs.foldl (· ++ ·) #[]).size ≤ 1048576) (hz2 : bs.foldl (fun n b => n + b.size) 0 ≤ 1048576)
  (hQ : ∀ t' k, Q (.bytes (bs.foldl (· ++ ·) #[]) t') { s with toks := k }) :
  wpAny (model prog w) A (call (.builtin "bytes.join") [.bytes #[] t, .ref l]) Q E s := by
  refine wpAny_call_entry jn_slot (typeIs_bytes s #[] t) jn_entry ?_ (by unfold argsOk; kernel_rfl)
  have hT := hl.typeIs
  obtain ⟨o, ho, hc, n, hd⟩ := hl
  unfold «bytes.join» joinM
  refine wpAny_bind (wpAny_of_eq (a := (.bytes #[] t, .ref l)) rfl ?_)
  dsimp only
  refine bm_if_true rfl ?_
  unfold joinItems
  refine wpAny_bind (wpAny_bind (wpAny_typeOf hT ?_))
  refine bm_if_true rfl ?_
  refine wpAny_pure ?_
  refine wpAny_bind (wpAny_seqItems ho hd ?_)
  dsimp only
  refine bm_if_true rfl ?_
  show wpAny _ _ (forIn _ _ _ >>= _) _ _ _
  generalize hall : v1 :: v2 :: vs = all at *
  rw [Std.Legacy.Range.forIn_eq_forIn_range']
  refine wpAny_bind (wpAny_forIn_list _ (fun rest st s' => s' = s ∧ ∃ i, i ≤ all.length ∧ rest = List.range' i (all.length - i) ∧ st = ((bs.take i).toArray, (all.take i).map fun v => (v, none))) _ ?_ ?_ _ _ ⟨rfl, 0, Nat.zero_le _, by simp [Std.Legacy.Range.size], by simp⟩)
  · rintro x rest st s' ⟨rfl, i, hi, hr, rfl⟩
    have hlt : i < all.length := by
      rcases Nat.lt_or_ge i all.length with h | h
      · exact h
      · rw [Nat.sub_eq_zero_of_le h] at hr; cases hr
    rw [show all.length - i = (all.length - (i + 1)) + 1 by omega, List.range'_succ] at hr
    obtain ⟨e1, e2⟩ := List.cons.inj hr
    subst e1
    have hb : bs[x]? = some (bs[x]'(hlen ▸ hlt)) := by simp
    obtain ⟨t', ht'⟩ := hv x _ hb
    have hx : all.toArray.getD x Value.none = .bytes (bs[x]'(hlen ▸ hlt)) t' := by
      have := List.getElem?_eq_some_iff.mp ht'
      simp [Array.getD, hlt, this.2]
    refine wpAny_bind (wpAny_seqItems ho hd ?_)
    dsimp only
    rw [hx]
    refine bm_if_false ?_ ?_
    · have : ∀ v ∈ all.take x, Value.onHeap v = false := fun v m => by
        obtain ⟨j, hj, rfl⟩ := List.getElem_of_mem (List.mem_of_mem_take m)
        obtain ⟨t2, h2⟩ := hv j (bs[j]'(hlen ▸ hj)) (by simp)
        have := List.getElem?_eq_some_iff.mp h2
        rw [this.2]; rfl
      simp only [Bool.or_eq_false_iff]
      refine ⟨rfl, ?_⟩
      rw [List.any_map, List.any_eq_false]
      exact fun v m => by show ¬ Value.onHeap v = true; rw [this v m]; exact Bool.false_ne_true
    refine wpAny_bind (wpAny_holding (wpAny_of_eq jn_take ?_))
    dsimp only
    refine wpAny_bind (wpAny_seqItems ho hd ?_)
    dsimp only
    refine bm_if_false (by simp) ?_
    refine wpAny_pure ⟨rfl, x + 1, hlt, e2, ?_⟩
    rw [List.take_add_one, List.take_add_one, hb, ht']
    simp [hx]
  · rintro st s' ⟨rfl, i, hi, hr, rfl⟩
    have : i = all.length := by
      have := congrArg List.length hr
      simp at this; omega
    subst this
    refine wpAny_bind (wpAny_of_eq (a := #[]) rfl ?_)
    dsimp only
    have eb : bs.take all.length = bs := by rw [hlen, List.take_length]
    rw [eb]
    refine bm_if_false (KBy.tooLong_not ?_) ?_
    · simp only [List.foldl_toArray', Array.size_empty, Nat.zero_mul]
      exact Nat.le_trans hz2 (by decide)
    · have hj : joined #[] bs.toArray.toList = bs.foldl (· ++ ·) #[] := jn_fold bs 0 #[]
      refine wpAny_bind (wpAny_mkBytes ?_ ?_)
      · refine wpAny_bind (wpAny_holding (wpAny_point ?_))
        refine wpAny_bind (jn_go _ _ ?_)
        exact wpAny_pure ⟨_, rfl, hj ▸ hQ _ _⟩
      · rw [hj]; exact Nat.le_trans hz (by decide)
end

theorem rows_W17 : True := by
  w_top off
  k_with_none
  k_with "mine enter" => (refine wpAny_call ?_; k_dflt (refine' enterP [] ?kX ?kT ?kr ?ko ?kc ?kb ?kl ?_ ?c2 ?c3 ?c4 ?c5; (case kX => k_asm); (case kT => k_asm); (case kr => exact Nat.le_of_ble_eq_true rfl); (case ko => k_is); (case kc => k_is); (case kb => exact BindsTo.of_eq rfl); (case kl => exact locs rfl); (case c2 => exact rfl); (case c3 => exact rfl); (case c4 => exact rfl); (case c5 => decide); k_whole; intro L' h' tk' F' K' l1; (dsimp only [List.map, List.zip, List.zipWith, List.reverse, List.reverseAux] at F'); (have N' := news_enter (hide := []) (news := []) K' l1 (fun _ h => nomatch h)); (dsimp only [hideAll] at F' N'); (try dsimp only); (try k_fold)))
  k_with "exec Raise some none" => (refine raise_ex (w := w) rfl ?_)
  k_with "call ref" => ((with_reducible show wpAny _ _ (call (Value.ref 44) [Value.str _ _]) _ _ _); (with_reducible rename Fr _ _ _ _ => FF); refine mk_exc w (exc44 w) (X.keeps FF.keep) (T.keeps FF.keep) (by rw [depth_under_make]; exact Nat.le_of_ble_eq_true rfl) (fun e h2 tk2 hx => ?_))
  k_with "call ref" => ((with_reducible show wpAny _ _ (call (Value.ref 56) [Value.str _ _]) _ _ _); (with_reducible rename Fr _ _ _ _ => FF); refine mk_exc w (exc56 w) (X.keeps FF.keep) (T.keeps FF.keep) (by rw [depth_under_make]; exact Nat.le_of_ble_eq_true rfl) (fun e h2 tk2 hx => ?_))
  k_with "mine ret" => ((try dsimp only); (with_reducible rename Fr _ _ _ _ => FF); refine hret _ _ _ FF.keep ?_)
  k_with "Raised" => ((with_reducible rename Fr _ _ _ _ => FF); refine Raised.of (by first | exact exc44 w | exact exc56 w) (X.keeps FF.keep) hx ?_; (try dsimp only); (try k_unfold); refine leave_first B FF hx (fun h3 hfly => hexc _ _ _ _ ?_ hfly))
  k_with "subscriptTail" => ((with_reducible show wpAny _ _ (subscriptTail _ (Expr.Slice _ _ none _) (Value.bytes _ _) (Value.ref _)) _ _ _); (with_reducible rename Fr _ _ _ _ => FF); (with_reducible rename News _ _ _ _ => NN); (refine KBc.slice_K (s := ⟨_, _, _, _, _⟩) FF NN rfl (by constructor) (by constructor) ?hz ?_); (case hz => (rw [KBw.ints_length]; l_fact)); intro h2 t2' k2 F2 N2 _; (try simp only [hpick]))
  trivial

/-- what no value is -/
def dF : D := ⟨fun _ _ => False, fun _ _ _ _ r => r⟩
theorem rels_F (l : List D) (hm : dF ∈ l) {h : Heap} : ∀ {vs : List Value}, ¬ Rels h l vs := by
  induction l with
  | nil => cases hm
  | cons d l ih =>
    rintro vs ⟨v, q, rfl, x, y⟩
    rcases List.mem_cons.mp hm with rfl | m
    · exact x
    · exact ih m y
def pkD : Option (Array UInt8) → D
  | some b => dY b
  | none => dF
def pkO : Option (Array UInt8) → Out D
  | some b => .val (dY b)
  | none => .exc 56
section
variable {w : World} {sc scope : Scope} {dl ul : Nat} {C : Cx} {ρ : List (Str × D)} {cl : List (Str × Addr)}
theorem ev_sat {e : Expr} {P : Out D → Prop} (h : Ev w sc C ρ e fun o => match o with | .val d => (∀ h v, ¬ d.rel h v) ∨ P (.val d) | .exc c => P (.exc c)) : Ev w sc C ρ e P :=
  .mk fun s Q E F z hq he => h.go s Q E F z (fun d v h' tk' p F' k r => p.elim (fun n => absurd r (n _ _)) fun p => hq d v h' tk' p F' k r) fun c e s' p => he c e s' p
/-- the rows packed, one by one -/
theorem e_packs (G : Good w sc dl ul C) {iter : Expr} {p1 p2 p3 px pos : Pos} {rs : List Row} {pk : Row → Option (Array UInt8)} {P : Out D → Prop} (hit : EvV w sc C ρ iter (dL (rs.map rowD))) (hz : rs.length ≤ 1048576) (hclos : closureFor scope (C.env sc) = pure cl)
    (hpk : ∀ r ∈ rs, ∀ I, HI C.hid I → CT w C.hid I 552 400 128 [rowD r] (· = pkO (pk r))) (h1 : dl ≤ 552) (h2 : ul ≤ 400)
    (hcell : ∀ y ∈ scope.names, y.2 ≠ .cell) (hkind : scope.kind = .function) (hnames : ∀ y ∈ scope.names, y.2 = .local → scope.names.lookup y.1 = some .local) (hx : scope.names.lookup rowS = some .local) (hs : ∀ x, foldedSetIterable iter (C.env sc) x = pure x)
    (hk : ∀ Cd, (compEnvC scope cl Cd (C.env sc)).scope.kind = .function) (hr : ∀ Cd, (compEnvC scope cl Cd (C.env sc)).kindOf rowS = some .local) (hg : ∀ Cd, (compEnvC scope cl Cd (C.env sc)).kindOf (Str.ofString "packed_row") = some .globalImplicit)
    (hn : nsIn (hd.heap_39 w.params) mainGlobals (Str.ofString "packed_row") = some (some (.ref 128))) (hki : keepIn (hd.heap_39 w.params) (.ref 128) = true)
    (hc : ∀ Cd, eval (Expr.Call (.Name (Str.ofString "packed_row") p1) [.Name rowS p2] [] p3) (compEnvC scope cl Cd (C.env sc)) = do
          let x ← eval (.Name (Str.ofString "packed_row") p1) (compEnvC scope cl Cd (C.env sc))
          callWith p3 x [] (backTo p3 (starEach [.Name rowS p2] (compEnvC scope cl Cd (C.env sc)))) (backToKw p3 (keywordEach [] (compEnvC scope cl Cd (C.env sc)))))
    (hv : ∀ bs : List (Array UInt8), rs.map pk = bs.map some → P (.val (dL (bs.map dY)))) (he : (∃ r ∈ rs, pk r = none) → P (.exc 56)) :
    Ev w sc C ρ (.ListComp (.Call (.Name (Str.ofString "packed_row") p1) [.Name rowS p2] [] p3) [⟨.Name rowS px, iter, [], 0⟩] scope pos) P := by
  refine ev_sat (ev_comp G rs.length (fun i => (rs.map rowD).getD i (dI 0)) (fun i => pkD (pk (rs.getD i row0))) (fun _ => true) hclos hcell hkind hnames hx hs hz (ev_of hit (by have := it_list (w := w) G (ds := rs.map rowD) (target := .Name rowS px) (fun _ _ _ _ _ _ _ _ q => wpAny_of_eq (a := ()) rfl q); rw [List.length_map] at this; exact this)) (fun i h0 Cd s₃ E _ X => wpAny_tests_nil ⟨rfl, _, _, rfl, fun _ _ e => e⟩) (fun i h0 Cd s₃ hi _ X => ?_) ?_)
  · have X' : InC C rowS h0 Cd (rowD (rs.getD i row0)) s₃.heap := by have := X; rw [rowD_at rs hi] at this; exact this
    have hm : rs.getD i row0 ∈ rs := by
      have : rs.getD i row0 = rs[i] := by simp [hi]
      rw [this]; exact List.getElem_mem hi
    refine c_call (de := pkD (pk (rs.getD i row0))) G X' (hpk _ hm) h1 h2 (fun d' p h h' v r => ?_) (fun c p => ?_) (hk Cd) (hr Cd) (hg Cd) (by decide) hn hki (hc Cd)
    · cases q : pk (rs.getD i row0) with
      | none => rw [q] at p; cases p
      | some b => rw [q] at p; cases p; exact r
    · cases q : pk (rs.getD i row0) with
      | none => rw [q] at p; cases p; exact he ⟨_, hm, q⟩
      | some b => rw [q] at p; cases p
  · show _ ∨ _
    rw [outs_list (fun _ => true) (fun r : Row => pkD (pk r)) row0 rs _ _ (fun _ _ => rfl) (fun _ _ => rfl), List.filter_eq_self.mpr (fun _ _ => rfl)]
    by_cases q : ∃ r ∈ rs, pk r = none
    · obtain ⟨r, m, e⟩ := q
      exact .inl fun h v ⟨a, vs, _, _, x⟩ => rels_F _ (List.mem_map.mpr ⟨r, m, by rw [e]; rfl⟩) x
    · refine .inr ?_
      have : ∃ bs : List (Array UInt8), rs.map pk = bs.map some := by
        clear hit hz hpk hv he
        induction rs with
        | nil => exact ⟨[], rfl⟩
        | cons r rs ih =>
          obtain ⟨bs, e⟩ := ih fun ⟨r', m, x⟩ => q ⟨r', List.mem_cons_of_mem _ m, x⟩
          cases x : pk r with
          | none => exact absurd ⟨r, List.mem_cons_self, x⟩ q
          | some b => exact ⟨b :: bs, by rw [List.map_cons, List.map_cons, e, x]⟩
      obtain ⟨bs, e⟩ := this
      have := hv bs e
      have e2 : rs.map (fun r => pkD (pk r)) = bs.map dY := by
        rw [show (fun r => pkD (pk r)) = pkD ∘ pk from rfl, ← List.map_map, e, List.map_map]; rfl
      rw [e2]; exact this
end
section
variable {w : World} {sc : Scope} {dl ul : Nat} {C : Cx} {ρ : List (Str × D)}
def catB (bs : List (Array UInt8)) : Array UInt8 := bs.foldl (· ++ ·) #[]
theorem e_join (G : Good w sc dl ul C) {arg : Expr} {k : Nat} {p ap pos : Pos} {P : Out D → Prop} (hbase : attributeBase (.Constant (.bytes []) k p) "join" (C.env sc) (eval (.Constant (.bytes []) k p) (C.env sc)) = eval (.Constant (.bytes []) k p) (C.env sc))
    (hfew : ((backTo pos (starEach [arg] (C.env sc))).all (fun x => !x.1) && (backToKw pos (keywordEach [] (C.env sc))).all (fun x => x.1.isSome)
      && decide (([arg] : List Expr).length + ([] : List Keyword).length + (if ([] : List Keyword).isEmpty then 0 else 1) < 30)) = true)
    (hline : (ap.endLine == pos.line) = true) (htrees : backTo pos (starEach [arg] (C.env sc)) = [(false, eval arg (C.env sc))])
    (h : Ev w sc C ρ arg fun o => match o with | .val d => ∃ bs : List (Array UInt8), d = dL (bs.map dY) ∧ 2 ≤ bs.length ∧ bs.foldl (fun n b => n + b.size) 0 ≤ 1048576 ∧ (catB bs).size ≤ 1048576 ∧ P (.val (dY (catB bs))) | .exc c => P (.exc c)) :
    Ev w sc C ρ (.Call (.Attribute (.Constant (.bytes []) k p) "join" ap) [arg] [] pos) P := by
  refine .mk fun s Q E F z hq he => ?_
  refine wpAny_Call_method hbase hfew hline FB.plainAttrs_bytes jn_slot jn_type (Constant_bytes ⟨typeIs_bytes _ _ _, (fun _ e => nomatch e), ?_⟩)
  rw [htrees]
  refine Calls.callWith_builtin rfl (Calls.evalArgs_plain (Calls.spliced_cons (h.go { s with toks := s.toks + 1 } _ E F trivial (fun d v h2 tk2 p F2 k2 r => Calls.spliced_nil ?_) he)))
  obtain ⟨bs, rfl, h2', hs1, hs2, p⟩ := p
  obtain ⟨a, vs, rfl, hpl, rr⟩ := r
  have hlen := rr.length
  rw [List.length_map] at hlen
  match vs, hlen, hpl, rr with
  | [], hl, _, _ => simp at hl; omega
  | [_], hl, _, _ => simp at hl; omega
  | v1 :: v2 :: vs, hl, hpl, rr =>
    refine bytes_join (bs := bs) (isList_keep (z_sub C _) hpl.isList) hl (fun i b e => ?_) hs2 hs1 fun t' k => hq _ _ _ k p F2 k2 ⟨hs2, _, rfl⟩
    obtain ⟨v, e1, _, t, rfl⟩ := rr.get (i := i) (d := dY b) (by rw [List.getElem?_map, e]; rfl)
    exact ⟨t, e1⟩
end

theorem rows_W18 : True := by
  w_top off
  k_with_none
  k_with "mine enter" => (refine wpAny_call ?_; k_dflt (refine' enterP [] ?kX ?kT ?kr ?ko ?kc ?kb ?kl ?_ ?c2 ?c3 ?c4 ?c5; (case kX => k_asm); (case kT => k_asm); (case kr => exact Nat.le_of_ble_eq_true rfl); (case ko => k_is); (case kc => k_is); (case kb => exact BindsTo.of_eq rfl); (case kl => exact locs rfl); (case c2 => exact rfl); (case c3 => exact rfl); (case c4 => exact rfl); (case c5 => decide); k_whole; intro L' h' tk' F' K' l1; (dsimp only [List.map, List.zip, List.zipWith, List.reverse, List.reverseAux] at F'); (have N' := news_enter (hide := []) (news := []) K' l1 (fun _ h => nomatch h)); (dsimp only [hideAll] at F' N'); (try dsimp only); (try k_fold)))
  k_with "exec Raise some none" => (refine raise_ex (w := w) rfl ?_)
  k_with "call ref" => ((with_reducible show wpAny _ _ (call (Value.ref 44) [Value.str _ _]) _ _ _); (with_reducible rename Fr _ _ _ _ => FF); refine mk_exc w (exc44 w) (X.keeps FF.keep) (T.keeps FF.keep) (by rw [depth_under_make]; exact Nat.le_of_ble_eq_true rfl) (fun e h2 tk2 hx => ?_))
  k_with "call ref" => ((with_reducible show wpAny _ _ (call (Value.ref 56) [Value.str _ _]) _ _ _); (with_reducible rename Fr _ _ _ _ => FF); refine mk_exc w (exc56 w) (X.keeps FF.keep) (T.keeps FF.keep) (by rw [depth_under_make]; exact Nat.le_of_ble_eq_true rfl) (fun e h2 tk2 hx => ?_))
  k_with "mine ret" => ((try dsimp only); (with_reducible rename Fr _ _ _ _ => FF); refine hret _ _ _ FF.keep ?_)
  k_with "Raised" => ((with_reducible rename Fr _ _ _ _ => FF); refine Raised.of (by first | exact exc44 w | exact exc56 w) (X.keeps FF.keep) hx ?_; (try dsimp only); (try k_unfold); refine leave_first B FF hx (fun h3 hfly => hexc _ _ _ _ ?_ hfly))
  k_with "subscriptTail" => ((with_reducible show wpAny _ _ (subscriptTail _ (Expr.Slice _ _ none _) (Value.bytes _ _) (Value.ref _)) _ _ _); (with_reducible rename Fr _ _ _ _ => FF); (with_reducible rename News _ _ _ _ => NN); (refine KBc.slice_K (s := ⟨_, _, _, _, _⟩) FF NN rfl (by constructor) (by constructor) ?hz ?_); (case hz => (rw [KBw.ints_length]; l_fact)); intro h2 t2' k2 F2 N2 _; (try simp only [hpick]))
  trivial

section
variable {w : World} {sc : Scope} {dl ul : Nat} {C : Cx} {ρ : List (Str × D)}
theorem v_neg {e : Expr} {pos : Pos} {i : Int} (h : EvV w sc C ρ e (dI i)) : EvV w sc C ρ (.UnaryOp .USub e pos) (dI (-i)) :=
  .mk fun s Q E F z hq he => wpAny_UnaryOp (h.go s _ E F z (fun d v h2 tk2 p F2 k2 r => by
    cases p
    obtain ⟨t, rfl⟩ := r
    exact neg_int (hq _ _ h2 (tk2 + 1) rfl F2 k2 ⟨_, rfl⟩)) fun c e s' p => nomatch (show Out.exc _ = Out.val _ from p))
theorem o_addO (G : Good w sc dl ul C) {a b : List D} (hz : a.length + b.length ≤ 1048576) : Op2 w sc C ρ (binaryOp .Add) (dL a) (dL b) (· = .val (dO C.g (a ++ b))) := by
  intro v1 v2; refine .mk ?_; rintro s Q E F ⟨⟨x, vs, rfl, hx, rx⟩, ⟨y, us, rfl, hy, ry⟩⟩ hq he
  obtain ⟨m, F1, N1, hout⟩ := F.out G
  refine add_lists F1 N1 (isList_keep (z_sub C _) hx.isList) (isList_keep (z_sub C _) hy.isList) (fun h' F' N' => ?_) (by rw [rx.length, ry.length]; exact Nat.le_trans hz (by decide))
  have k := hout h' F' (news_tail N')
  obtain ⟨a', vs', e, hp, r⟩ := newL G F k N' (Nat.le_refl _) (Rels.app ry _ rx)
  cases e
  exact hq _ _ h' s.toks rfl k.1 k.2 ⟨_, vs', rfl, (N' _ List.mem_cons_self).2.2, hp, r⟩
end

theorem rows_W19 : True := by
  w_top off
  k_with_none
  k_with "mine enter" => (refine wpAny_call ?_; k_dflt (refine' enterP [] ?kX ?kT ?kr ?ko ?kc ?kb ?kl ?_ ?c2 ?c3 ?c4 ?c5; (case kX => k_asm); (case kT => k_asm); (case kr => exact Nat.le_of_ble_eq_true rfl); (case ko => k_is); (case kc => k_is); (case kb => exact BindsTo.of_eq rfl); (case kl => exact locs rfl); (case c2 => exact rfl); (case c3 => exact rfl); (case c4 => exact rfl); (case c5 => decide); k_whole; intro L' h' tk' F' K' l1; (dsimp only [List.map, List.zip, List.zipWith, List.reverse, List.reverseAux] at F'); (have N' := news_enter (hide := []) (news := []) K' l1 (fun _ h => nomatch h)); (dsimp only [hideAll] at F' N'); (try dsimp only); (try k_fold)))
  k_with "exec Raise some none" => (refine raise_ex (w := w) rfl ?_)
  k_with "call ref" => ((with_reducible show wpAny _ _ (call (Value.ref 44) [Value.str _ _]) _ _ _); (with_reducible rename Fr _ _ _ _ => FF); refine mk_exc w (exc44 w) (X.keeps FF.keep) (T.keeps FF.keep) (by rw [depth_under_make]; exact Nat.le_of_ble_eq_true rfl) (fun e h2 tk2 hx => ?_))
  k_with "call ref" => ((with_reducible show wpAny _ _ (call (Value.ref 56) [Value.str _ _]) _ _ _); (with_reducible rename Fr _ _ _ _ => FF); refine mk_exc w (exc56 w) (X.keeps FF.keep) (T.keeps FF.keep) (by rw [depth_under_make]; exact Nat.le_of_ble_eq_true rfl) (fun e h2 tk2 hx => ?_))
  k_with "mine ret" => ((try dsimp only); (with_reducible rename Fr _ _ _ _ => FF); refine hret _ _ _ FF.keep ?_)
  k_with "Raised" => ((with_reducible rename Fr _ _ _ _ => FF); refine Raised.of (by first | exact exc44 w | exact exc56 w) (X.keeps FF.keep) hx ?_; (try dsimp only); (try k_unfold); refine leave_first B FF hx (fun h3 hfly => hexc _ _ _ _ ?_ hfly))
  k_with "subscriptTail" => ((with_reducible show wpAny _ _ (subscriptTail _ (Expr.Slice _ _ none _) (Value.bytes _ _) (Value.ref _)) _ _ _); (with_reducible rename Fr _ _ _ _ => FF); (with_reducible rename News _ _ _ _ => NN); (refine KBc.slice_K (s := ⟨_, _, _, _, _⟩) FF NN rfl (by constructor) (by constructor) ?hz ?_); (case hz => (rw [KBw.ints_length]; l_fact)); intro h2 t2' k2 F2 N2 _; (try simp only [hpick]))
  trivial

/-- the source list: two numbers, the second below 2147483647 -/
def SrcAt (a : Addr) (h : Heap) : Prop := ∃ x t y u, h.IsList a #[.int x t, .int y u] ∧ 0 ≤ x ∧ 0 ≤ y ∧ y < 2147483647
structure Src (hs : List Addr) (I : Heap → Prop) (a : Addr) : Prop where
  mem : a ∈ hs
  here : ∀ h, I h → SrcAt a h
  upd : ∀ h h', I h → SrcAt a h' → (∀ b o, b ≠ a → h.get? b = some o → h'.get? b = some o) → I h'
section
variable {w : World} {sc : Scope} {dl ul : Nat} {C : Cx} {ρ : List (Str × D)}
theorem op_src0 {a : Addr} (S : Src C.hid C.I a) {l r : Expr} {P : Out D → Prop} (hs : ∀ a u, subscripted r false (Value.ref a) (Value.int 0 u) = operate [Value.ref a, Value.int 0 u] (getItem (Value.ref a) (Value.int 0 u))) (ht : ∀ a z, letTemporaryGo l (Value.ref a) z = pure ()) (hp : ∀ x, 0 ≤ x → P (.val (dI x))) : Op2 w sc C ρ (subscriptTail l r) (dV (.ref a)) (dI 0) P := by
  intro v1 v2; refine .mk ?_; rintro s Q E F ⟨rfl, ⟨t, rfl⟩⟩ hq he
  obtain ⟨x, tx, y, ty, hl, h1, h2, h3⟩ := S.here _ F.1
  exact item_listL (l := [.int x tx, .int y ty]) hl (by decide) (by decide) rfl (hq _ _ s.heap s.toks (hp x h1) F (KK.refl _) ⟨_, rfl⟩) (hs _ _) (ht _)
theorem op_src1 {a : Addr} (S : Src C.hid C.I a) {l r : Expr} {P : Out D → Prop} (hs : ∀ a u, subscripted r false (Value.ref a) (Value.int 1 u) = operate [Value.ref a, Value.int 1 u] (getItem (Value.ref a) (Value.int 1 u))) (ht : ∀ a z, letTemporaryGo l (Value.ref a) z = pure ()) (hp : ∀ x, 0 ≤ x → x < 2147483647 → P (.val (dI x))) : Op2 w sc C ρ (subscriptTail l r) (dV (.ref a)) (dI 1) P := by
  intro v1 v2; refine .mk ?_; rintro s Q E F ⟨rfl, ⟨t, rfl⟩⟩ hq he
  obtain ⟨x, tx, y, ty, hl, h1, h2, h3⟩ := S.here _ F.1
  exact item_listL (l := [.int x tx, .int y ty]) hl (by decide) (by decide) rfl (hq _ _ s.heap s.toks (hp y h2 h3) F (KK.refl _) ⟨_, rfl⟩) (hs _ _) (ht _)
theorem ex_src (G : Good w sc dl ul C) {a : Addr} (S : Src C.hid C.I a) {x : Str} {p1 p2 p3 pos : Pos} {k : Nat} {i : Int} {e : Expr} {P : SOut → Prop} (hi : i = 0 ∨ i = 1) (hl : lk ρ x = some (dV (.ref a))) (hk : sc.names.lookup x = some .local) (hd : (x == Str.ofString "__debug__") = false)
    (hs : swapsWith e (some (.Subscript (.Name x p1) (.Constant (.int i) k p2) p3)) pos.line (C.env sc) = pure false)
    (h : Ev w sc C ρ e fun o => match o with | .val d => ∃ z, d = dI z ∧ (0 ≤ z ∧ (i = 1 → z < 2147483647)) ∧ P (.next ρ) | .exc c => P (.exc c)) : Ex1 w sc C ρ (.Assign [.Subscript (.Name x p1) (.Constant (.int i) k p2) p3] e pos) P := by
  refine .mk fun s Q E F hn hb hr he => ?_
  refine wpAny_Assign_Subscript (h.go s _ E F trivial (fun d v h2 tk2 p F2 k2 r => ?_) he) hs
  obtain ⟨z, rfl, hz, p⟩ := p
  obtain ⟨tz, rfl⟩ := r
  refine (ev_name G hl hk hd (P := (· = .val (dV (.ref a)))) rfl).go { s with heap := h2, toks := tk2 } _ E F2 trivial (fun d v h3 tk3 p3 F3 k3 r3 => ?_) (fun _ _ _ q => nomatch (show Out.exc _ = Out.val _ from q))
  cases p3
  obtain rfl : v = .ref a := r3
  refine wpAny_Constant_int ?_
  obtain ⟨x0, t0, y0, u0, hl0, b1, b2, b3⟩ := S.here _ F3.1
  have ha : a ∈ C.hid := S.mem
  refine wpAny_setItem_list (s := { s with heap := h3, toks := tk3 + 1 }) hl0 (by omega) (by omega) (by show i < 2; omega) fun h' hl' hsb => ?_
  have I' : C.I h' := S.upd _ _ F3.1 (by
    rcases hi with rfl | rfl
    · exact ⟨z, tz, y0, u0, hl', hz.1, b2, b3⟩
    · exact ⟨x0, t0, z, tz, hl', b1, hz.1, hz.2 rfl⟩) fun b o n e => hsb.extBut b o n e
  have kk : KK C h3 h' := fun b o n e => hsb.extBut b o (fun q => n (q ▸ List.mem_cons_of_mem _ ha)) e
  obtain ⟨m, F4, R⟩ := F3.2
  exact hn ρ h' _ p ⟨I', m, ⟨F4.ns.at' fun o e => hsb.extBut _ o (fun q => G.hidL (q ▸ ha)) e, fun b o e => hsb.extBut b o (fun q => by rw [q, G.hidn a ha] at e; cases e) (F4.keep b o e), F4.above⟩, fun y d e => let ⟨v, e1, r⟩ := R y d e; ⟨v, e1, d.mono _ _ _ kk.z r⟩⟩ (k2.trans (k3.trans kk)).s
theorem o_int {n : Int} : OpL w sc C ρ (callF (.type "int")) [dI n] (· = .val (dI n)) := by
  intro vs; refine .mk ?_; rintro s Q E F ⟨v, _, rfl, ⟨t, rfl⟩, rfl⟩ hq he
  exact call_int_int (hq _ _ s.heap s.toks rfl F (KK.refl _) ⟨_, rfl⟩)
theorem o_intB {b : Bool} : OpL w sc C ρ (callF (.type "int")) [dB b] (· = .val (dI (if b then 1 else 0))) := by
  intro vs; refine .mk ?_; rintro s Q E F ⟨v, _, rfl, rfl, rfl⟩ hq he
  exact call_int_bool (hq _ _ s.heap (s.toks + 1) rfl F (KK.refl _) ⟨_, rfl⟩)
theorem o_max (G : Good w sc dl ul C) {a b : Int} : OpL w sc C ρ (callF (.builtin "max")) [dI a, dI b] (· = .val (dI (if b > a then b else a))) := by
  intro vs; refine .mk ?_; rintro s Q E F ⟨v, _, rfl, ⟨t, rfl⟩, v2, _, rfl, ⟨u, rfl⟩, rfl⟩ hq he
  refine max_two_ints G.hh fun h' tk k => ?_
  have k' : Keep s.heap h' := fun b o e => k b o e
  exact hq _ _ h' tk rfl (F.keep G k') k'.kk (by
    split
    · exact ⟨_, rfl⟩
    · exact ⟨_, rfl⟩)
theorem o_pow {a n : Int} (h : (0 ≤ n ∧ n ≤ 1000000) ∧ a.natAbs < 2 ^ 64) : Op2 w sc C ρ (binaryOp .Pow) (dI a) (dI n) (· = .val (dI (a ^ n.toNat))) := by
  intro v1 v2; refine .mk ?_; rintro s Q E F ⟨⟨t, rfl⟩, ⟨u, rfl⟩⟩ hq he
  exact pow_int_small h.1.1 h.1.2 h.2 (hq _ _ s.heap (s.toks + 1) rfl F (KK.refl _) ⟨_, rfl⟩)
theorem o_mulB {a : Int} {b : Bool} : Op2 w sc C ρ (binaryOp .Mult) (dI a) (dI (if b then 1 else 0)) (· = .val (dI (a * if b then 1 else 0))) := by
  intro v1 v2; refine .mk ?_; rintro s Q E F ⟨⟨t, rfl⟩, ⟨u, rfl⟩⟩ hq he
  exact mul_int (hq _ _ s.heap (s.toks + 1) rfl F (KK.refl _) ⟨_, rfl⟩) (.of_right (intBits_le_64 (by cases b <;> decide) (by cases b <;> decide)))
theorem o_divS {a b : Int} (h : b ≠ 0 ∧ b.natAbs < 1073741824) : Op2 w sc C ρ (binaryOp .FloorDiv) (dI a) (dI b) (· = .val (dI (a.fdiv b))) := o_divI h.1 (PyProof.noPylong_small h.2)
theorem v_cmp {l r : Expr} {op : CmpOp} {pos : Pos} {d1 d2 : D} {b : Bool} (h1 : EvV w sc C ρ l d1) (h2 : EvV w sc C ρ r d2) (hb : behindInMarks op r = false) (h : Cm2 w sc C ρ op d1 d2 (· = .val b)) : EvV w sc C ρ (.Compare l [op] [r] pos) (dB b) :=
  .mk fun s Q E F z hq he => wpAny_Compare1 (h1.go s _ E F z (fun _ v1 g2 tk2 p1 F2 k2 r2 => h2.go { s with heap := g2, toks := tk2 } _ E F2 trivial
    (fun _ v2 g3 tk3 p2 F3 k3 r3 => (h v1 v2).go { s with heap := g3, toks := tk3 } _ E F3 (by cases p1; cases p2; exact ⟨D.mono _ _ _ _ k3.z r2, r3⟩) (fun d v g4 tk4 p F4 k4 r => by
      cases p; cases r; exact hq _ _ g4 tk4 rfl F4 (k2.trans (k3.trans k4)) rfl) fun _ _ _ q => nomatch (show Out.exc _ = Out.val _ from q)) fun _ _ _ q => nomatch (show Out.exc _ = Out.val _ from q)) fun _ _ _ q => nomatch (show Out.exc _ = Out.val _ from q)) hb
theorem cv_ge {a b : Int} : Cm2 w sc C ρ .GtE (dI a) (dI b) (· = .val (decide (a ≥ b))) := by
  intro v1 v2; refine .mk ?_; rintro s Q E F ⟨⟨t, rfl⟩, ⟨u, rfl⟩⟩ hq he
  exact ge_int (hq _ _ s.heap s.toks rfl F (KK.refl _) rfl)
theorem cv_lt {a b : Int} : Cm2 w sc C ρ .Lt (dI a) (dI b) (· = .val (decide (a < b))) := cm_lt rfl
theorem cv_eqs {a b : Str} : Cm2 w sc C ρ .Eq (dS a) (dS b) (· = .val (a == b)) := cm_eqs rfl
theorem o_lenL {ds : List D} (hz : ds.length ≤ 1048576) : OpL w sc C ρ (callF (.builtin "len")) [dL ds] (· = .val (dI ds.length)) := by
  intro vs; refine .mk ?_; rintro s Q E F ⟨v, _, rfl, ⟨a, us, rfl, hx, r⟩, rfl⟩ hq he
  have := r.length
  refine Calls.call_len_list (isList_keep (z_sub C _) hx.isList) (by rw [List.size_toArray]; omega) (hq _ _ s.heap _ rfl F (KK.refl _) ⟨s.toks + 1, ?_⟩)
  rw [List.size_toArray, this]
theorem o_itemL {l r : Expr} {ds : List D} {i : Int} {d : D} (hs : ∀ a u, subscripted r false (Value.ref a) (Value.int i u) = operate [Value.ref a, Value.int i u] (getItem (Value.ref a) (Value.int i u))) (ht : ∀ a z, letTemporaryGo l (Value.ref a) z = pure ())
    (hi : 0 ≤ i ∧ i < 1048576) (hd : ds[i.toNat]? = some d) : Op2 w sc C ρ (subscriptTail l r) (dL ds) (dI i) (· = .val d) := by
  intro v1 v2; refine .mk ?_; rintro s Q E F ⟨⟨a, vs, rfl, hx, r⟩, ⟨u, rfl⟩⟩ hq he
  obtain ⟨v, hv, rr⟩ := r.get hd
  exact item_listL (isList_keep (z_sub C _) hx.isList) hi.1 (by omega) hv (hq _ _ s.heap s.toks rfl F (KK.refl _) rr) (hs _ _) (ht _)
/-- one octet, many times -/
theorem o_mulY {x n : Int} (h : (0 ≤ x ∧ x < 256) ∧ 0 ≤ n ∧ n ≤ 1000000) : Op2 w sc C ρ (binaryOp .Mult) (dY (byteArr [x])) (dI n) (· = .val (dY (Array.replicate n.toNat ((byteArr [x]).getD 0 0)))) := by
  intro v1 v2; refine .mk ?_; rintro s Q E F ⟨⟨_, t, rfl⟩, ⟨u, rfl⟩⟩ hq he
  have e : (List.replicate n.toNat (byteArr [x]).toList).flatten.toArray = Array.replicate n.toNat ((byteArr [x]).getD 0 0) := by
    have : (byteArr [x]).toList = [(byteArr [x]).getD 0 0] := rfl
    rw [this, List.flatten_replicate_singleton, List.toArray_replicate]
  refine bytes_mul_any (b := (byteArr [x]).toList) (by simp [byteArr]) (by omega) (by omega) (by simp [byteArr]) fun t' k => ?_
  rw [e]
  exact hq _ _ s.heap k rfl F (KK.refl _) ⟨by rw [Array.size_replicate]; omega, _, rfl⟩
end

theorem rows_W20 : True := by
  w_top off
  k_with_none
  k_with "mine enter" => (refine wpAny_call ?_; k_dflt (refine' enterP [] ?kX ?kT ?kr ?ko ?kc ?kb ?kl ?_ ?c2 ?c3 ?c4 ?c5; (case kX => k_asm); (case kT => k_asm); (case kr => exact Nat.le_of_ble_eq_true rfl); (case ko => k_is); (case kc => k_is); (case kb => exact BindsTo.of_eq rfl); (case kl => exact locs rfl); (case c2 => exact rfl); (case c3 => exact rfl); (case c4 => exact rfl); (case c5 => decide); k_whole; intro L' h' tk' F' K' l1; (dsimp only [List.map, List.zip, List.zipWith, List.reverse, List.reverseAux] at F'); (have N' := news_enter (hide := []) (news := []) K' l1 (fun _ h => nomatch h)); (dsimp only [hideAll] at F' N'); (try dsimp only); (try k_fold)))
  k_with "exec Raise some none" => (refine raise_ex (w := w) rfl ?_)
  k_with "call ref" => ((with_reducible show wpAny _ _ (call (Value.ref 44) [Value.str _ _]) _ _ _); (with_reducible rename Fr _ _ _ _ => FF); refine mk_exc w (exc44 w) (X.keeps FF.keep) (T.keeps FF.keep) (by rw [depth_under_make]; exact Nat.le_of_ble_eq_true rfl) (fun e h2 tk2 hx => ?_))
  k_with "call ref" => ((with_reducible show wpAny _ _ (call (Value.ref 56) [Value.str _ _]) _ _ _); (with_reducible rename Fr _ _ _ _ => FF); refine mk_exc w (exc56 w) (X.keeps FF.keep) (T.keeps FF.keep) (by rw [depth_under_make]; exact Nat.le_of_ble_eq_true rfl) (fun e h2 tk2 hx => ?_))
  k_with "mine ret" => ((try dsimp only); (with_reducible rename Fr _ _ _ _ => FF); refine hret _ _ _ FF.keep ?_)
  k_with "Raised" => ((with_reducible rename Fr _ _ _ _ => FF); refine Raised.of (by first | exact exc44 w | exact exc56 w) (X.keeps FF.keep) hx ?_; (try dsimp only); (try k_unfold); refine leave_first B FF hx (fun h3 hfly => hexc _ _ _ _ ?_ hfly))
  k_with "subscriptTail" => ((with_reducible show wpAny _ _ (subscriptTail _ (Expr.Slice _ _ none _) (Value.bytes _ _) (Value.ref _)) _ _ _); (with_reducible rename Fr _ _ _ _ => FF); (with_reducible rename News _ _ _ _ => NN); (refine KBc.slice_K (s := ⟨_, _, _, _, _⟩) FF NN rfl (by constructor) (by constructor) ?hz ?_); (case hz => (rw [KBw.ints_length]; l_fact)); intro h2 t2' k2 F2 N2 _; (try simp only [hpick]))
  trivial

set_option linter.unusedVariables false
/-- a hidden thing at b, of which I says K and no more -/
structure Own (hs : List Addr) (I : Heap → Prop) (b : Addr) (K : Heap → Prop) : Prop where
  mem : b ∈ hs
  here : ∀ h, I h → K h
  upd : ∀ h h', I h → K h' → (∀ x o, x ≠ b → h.get? x = some o → h'.get? x = some o) → I h'
theorem Own.and {hs hs' : List Addr} {I : Heap → Prop} {b : Addr} {K : Heap → Prop} (O : Own hs I b K) (J : Heap → Prop) (hm : b ∈ hs') (hJ : ∀ h h', J h → (∀ x o, x ≠ b → h.get? x = some o → h'.get? x = some o) → J h') : Own hs' (fun h => I h ∧ J h) b K :=
  ⟨hm, fun h i => O.here h i.1, fun h h' i k e => ⟨O.upd h h' i.1 k e, hJ h h' i.2 e⟩⟩
theorem Src.of {hs : List Addr} {I : Heap → Prop} {a : Addr} (O : Own hs I a (SrcAt a)) : Src hs I a := ⟨O.mem, O.here, O.upd⟩
def CellIs (c : Addr) (h : Heap) : Prop := ∃ v, h.IsCell c v
theorem isCell_keep {h h' : Heap} {c b : Addr} {v : Option Value} (n : c ≠ b) (i : h.IsCell c v) (k : ∀ x o, x ≠ b → h.get? x = some o → h'.get? x = some o) : h'.IsCell c v := let ⟨o, e, d⟩ := i; ⟨o, k c o n e, d⟩
theorem Own.more {hs : List Addr} {I : Heap → Prop} {b it : Addr} {o : Obj} {K : Heap → Prop} (O : Own hs I b K) (n : it ≠ b) : Own (it :: hs) (fun h => I h ∧ h.get? it = some o) b K :=
  O.and _ (List.mem_cons_of_mem _ O.mem) fun _ _ e k => k it o n e
theorem Own.cell {hs : List Addr} {I : Heap → Prop} {b c : Addr} {v : Option Value} {K : Heap → Prop} (O : Own hs I b K) (n : c ≠ b) : Own hs (fun h => I h ∧ h.IsCell c v) b K :=
  O.and _ O.mem fun _ _ e k => isCell_keep n e k
/-- the frame with a cell's value known -/
abbrev Cx.setc (C : Cx) (x : Str) (c : Addr) (v : Value) : Cx := { C with I := fun h => C.I h ∧ h.IsCell c (some v), gh := (x, v) :: C.gh }
section
variable {w : World} {sc : Scope} {dl ul : Nat} {C : Cx} {ρ : List (Str × D)}
theorem hi_cell {hs : List Addr} {I : Heap → Prop} {c : Addr} {v : Option Value} (hi : HI hs I) (hm : c ∈ hs) : HI hs (fun h => I h ∧ h.IsCell c v) :=
  ⟨fun h h' i k => ⟨hi.mono _ _ i.1 k, let ⟨o, e, d⟩ := i.2; ⟨o, k c o (.inl hm) e, d⟩⟩, fun h i => hi.lt h i.1⟩
theorem good_setc (G : Good w sc dl ul C) {x : Str} {c : Addr} {v : Value} (hc : C.cl.lookup x = some c) (hm : c ∈ C.hid) (hk : sc.names.lookup x ≠ some .local) : Good w sc dl ul (C.setc x c v) :=
  ⟨G.hh, G.hA, G.hAd, G.dep, G.uni, G.B, G.X, G.T, G.hk, hi_cell G.hi hm, G.hidL, G.hidn, G.Bx, fun h m F i => G.kx h m F i.1, fun y u e => by
    rw [List.lookup_cons] at e
    by_cases q : (y == x) = true
    · rw [eq_of_beq q]; exact hk
    · rw [Bool.not_eq_true] at q; rw [q] at e; exact G.ghl y u e, fun y u e => by
    rw [List.lookup_cons] at e
    by_cases q : (y == x) = true
    · rw [q] at e; cases e; rw [eq_of_beq q]; exact ⟨c, hc, fun h i => i.2⟩
    · rw [Bool.not_eq_true] at q; rw [q] at e
      obtain ⟨c', e1, k⟩ := G.ghc y u e
      exact ⟨c', e1, fun h i => k h i.1⟩⟩
theorem v_cell (G : Good w sc dl ul C) {x : Str} {pos : Pos} {d : D} {v : Value} (hl : lk ρ x = some d) (hg : C.gh.lookup x = some v) (hk : sc.names.lookup x = some .cell) (hd : (x == Str.ofString "__debug__") = false) : EvV w sc C ρ (.Name x pos) d :=
  .mk fun s Q E F _ hq _ => by
    obtain ⟨hI, m, F1, R⟩ := id F
    obtain ⟨v', e1, r⟩ := R x d hl
    obtain ⟨c, hc, k⟩ := G.ghc x v hg
    have e2 : some v = some v' := by unfold Cx.val at e1; rw [hg] at e1; exact e1
    cases e2
    exact wpAny_Name (wpAny_loadName_cell (env := C.env sc) G.hk hk hc (k _ hI) (hq d v s.heap s.toks rfl F (KK.refl _) r)) hd
theorem v_free (G : Good w sc dl ul C) {x : Str} {pos : Pos} {d : D} {v : Value} (hl : lk ρ x = some d) (hg : C.gh.lookup x = some v) (hk : sc.names.lookup x = some .free) (hd : (x == Str.ofString "__debug__") = false) (hn : (x == ("__classdict__" : Str)) = false) : EvV w sc C ρ (.Name x pos) d :=
  .mk fun s Q E F _ hq _ => by
    obtain ⟨hI, m, F1, R⟩ := id F
    obtain ⟨v', e1, r⟩ := R x d hl
    obtain ⟨c, hc, k⟩ := G.ghc x v hg
    have e2 : some v = some v' := by unfold Cx.val at e1; rw [hg] at e1; exact e1
    cases e2
    exact wpAny_Name (wpAny_loadName_free (env := C.env sc) G.hk hk hc (k _ hI) (hq d v s.heap s.toks rfl F (KK.refl _) r) hn) hd
theorem frd_setc (G : Good w sc dl ul C) {x : Str} {c : Addr} {d : D} {v : Value} {Q : Unit → Shared → Prop} {E : Value → Shared → Prop} {s : Shared} (F : FrD C ρ s.heap) (r : d.rel (C.z s.heap) v) (hc : C.cl.lookup x = some c) (O : Own C.hid C.I c (CellIs c)) (hx : sc.names.lookup x = some .cell)
    (h : ∀ h', FrD (C.setc x c v) ((x, d) :: ρ) h' → KK C s.heap h' → Q () { s with heap := h' }) : wpAny (model pr w) C.A (storeName (C.env sc) x v) Q E s := by
  obtain ⟨hI, m, F1, R⟩ := F
  obtain ⟨v0, hv0⟩ := O.here _ hI
  refine wpAny_storeName_cell (env := C.env sc) G.hk hx hc hv0 fun h' hv hs => ?_
  have hm := O.mem
  have kk : KK C s.heap h' := fun b o n e => hs.extBut b o (fun q => n (q ▸ List.mem_cons_of_mem _ hm)) e
  refine h h' ⟨⟨O.upd _ _ hI ⟨_, hv⟩ fun b o n e => hs.extBut b o n e, hv⟩, m, ⟨F1.ns.at' fun o e => hs.extBut _ o (fun q => G.hidL (q ▸ hm)) e, fun b o e => hs.extBut b o (fun q => by rw [q, G.hidn c hm] at e; cases e) (F1.keep b o e), F1.above⟩, fun y d' e => ?_⟩ kk
  rcases lk_cons e with ⟨rfl, rfl⟩ | ⟨hy, e⟩
  · exact ⟨v, by unfold Cx.val; rw [List.lookup_cons, beq_self_eq_true], d.mono _ _ _ kk.z r⟩
  · obtain ⟨v', e1, r'⟩ := R y d' e
    refine ⟨v', ?_, d'.mono _ _ _ kk.z r'⟩
    unfold Cx.val at e1 ⊢
    rw [List.lookup_cons, hy]; exact e1
theorem frd_unset {x : Str} {c : Addr} {v : Value} {ρ' ρ'' : List (Str × D)} {h : Heap} (F : FrD (C.setc x c v) ρ' h) (hρ : ∀ y d, lk ρ'' y = some d → (y == x) = false ∧ lk ρ' y = some d) : FrD C ρ'' h := by
  obtain ⟨hI, m, F1, R⟩ := F
  refine ⟨hI.1, m, F1, fun y d e => ?_⟩
  obtain ⟨hy, e⟩ := hρ y d e
  obtain ⟨v', e1, r⟩ := R y d e
  refine ⟨v', ?_, r⟩
  unfold Cx.val at e1 ⊢
  rw [List.lookup_cons, hy] at e1; exact e1
/-- what holds behind a frame whose cell x is known, seen without it -/
def outC (x : Str) (P : SOut → Prop) : SOut → Prop
  | .next ρ' => ∃ ρ'', (∀ y d, lk ρ'' y = some d → (y == x) = false ∧ lk ρ' y = some d) ∧ P (.next ρ'')
  | .brk _ => False
  | .ret d => P (.ret d)
  | .exc c => P (.exc c)
theorem ex_unset {x : Str} {c : Addr} {v : Value} {ρ' : List (Str × D)} {l : List Stmt} {P : SOut → Prop} (h : Ex w sc (C.setc x c v) ρ' l (outC x P)) {s : Shared} {Q : Flow → Shared → Prop} {E : Value → Shared → Prop} (F : FrD (C.setc x c v) ρ' s.heap)
    (hn : ∀ ρ' h' tk', P (.next ρ') → FrD C ρ' h' → KS C s.heap h' → Q .next { s with heap := h', toks := tk' })
    (hr : ∀ d v h' tk', P (.ret d) → FrD C [] h' → KS C s.heap h' → d.rel (C.z h') v → Q (.ret v) { s with heap := h', toks := tk' })
    (he : ∀ c e s', P (.exc c) → InFl w sc C s s' e c → E e s') : wpAny (model pr w) C.A (execs l (C.env sc)) Q E s :=
  h.go s Q E F (fun ρ1 h' tk' ⟨ρ2, hρ, p⟩ F k => hn ρ2 h' tk' p (frd_unset F hρ) k) (fun _ _ _ p => p.elim) (fun d v h' tk' p F k r => hr d v h' tk' p (frd_unset F fun _ _ e => nomatch e) k r) fun c e s' p x => he c e s' p x
/-- a cell of the frame stored -/
theorem ex_assignC (G : Good w sc dl ul C) {x : Str} {c : Addr} {p1 pos : Pos} {e : Expr} {l : List Stmt} {P : SOut → Prop} (hc : C.cl.lookup x = some c) (O : Own C.hid C.I c (CellIs c)) (hx : sc.names.lookup x = some .cell) (hs : swapsWith e (some (Expr.Name x p1)) pos.line (C.env sc) = pure false)
    (h : Ev w sc C ρ e fun o => match o with | .val d => ∀ v, Good w sc dl ul (C.setc x c v) → Ex w sc (C.setc x c v) ((x, d) :: ρ) l (outC x P) | .exc c => P (.exc c)) : Ex w sc C ρ (.Assign [.Name x p1] e pos :: l) P :=
  .mk fun s Q E F hn hb hr he => wpAny_execs_cons (wpAny_Assign_Name (h.go s _ E F trivial (fun d v h2 tk2 p F2 k2 r => frd_setc (s := { s with heap := h2, toks := tk2 }) G F2 r hc O hx fun h3 F3 k3 =>
    ex_unset (p v (good_setc G hc O.mem (by rw [hx]; exact fun q => nomatch q))) (s := { s with heap := h3, toks := tk2 }) F3 (fun ρ' h4 tk4 p F4 k4 => hn ρ' h4 tk4 p F4 ((k2.trans k3).s.trans k4)) (fun d v h4 tk4 p F4 k4 r => hr d v h4 tk4 p F4 ((k2.trans k3).s.trans k4) r) he) he) hs)
end
section
variable {w : World} {sc : Scope} {dl ul : Nat} {C : Cx} {ρ : List (Str × D)}
/-- a tuple or a list taken apart -/
theorem unp_any (G : Good w sc dl ul C) {ds : List D} {d : D} {v : Value} {s : Shared} (hd : d = dT ds ∨ d = dL ds) (r : d.rel (C.z s.heap) v) : ∃ vs, Rels (C.z s.heap) ds vs ∧
    ∀ (Q : List Value → Shared → Prop) (E : Value → Shared → Prop), (∀ h', Heap.ExtBut s.heap.objs.size s.heap h' → Q vs { s with heap := h' }) → wpAny (model pr w) C.A (unpackItems v ds.length none) Q E s := by
  rcases hd with rfl | rfl
  · obtain ⟨a, vs, rfl, ht, r⟩ := r
    refine ⟨vs, r, fun Q E h => ?_⟩
    have := unpackItems_tuple (prog := pr) (w := w) (E := E) (Q := Q) G.hh (isTup_keep (z_sub C _) ht) h
    rw [List.size_toArray, r.length] at this; exact this
  · obtain ⟨a, vs, rfl, ht, r⟩ := r
    refine ⟨vs, r, fun Q E h => ?_⟩
    have := kun_itemsOf (prog := pr) (w := w) (E := E) (Q := Q) G.hh (isList_keep (z_sub C _) ht.isList) h
    rw [List.size_toArray, r.length] at this; exact this
theorem assign_any (G : Good w sc dl ul C) {ds : List D} {d : D} {v : Value} {s : Shared} {es : List Expr} {k : Nat} {tpos : Pos} {env : Env} {Q : Unit → Shared → Prop} {E : Value → Shared → Prop} (hd : d = dT ds ∨ d = dL ds) (r : d.rel (C.z s.heap) v) (F : FrD C ρ s.heap) (hn : (assignEach es env).length = ds.length) (h2 : (assignEach es env).findIdx? (·.1) = none)
    (h : ∀ vs h', FrD C ρ h' → KK C s.heap h' → Rels (C.z h') ds vs → wpAny (model pr w) C.A (assignInOrder ((assignEach es env).map (·.2)) vs) Q E { s with heap := h' }) : wpAny (model pr w) C.A (assign (.Tuple es k tpos) env v) Q E s := by
  obtain ⟨vs, rr, hu⟩ := unp_any (w := w) G hd r
  rw [assign_Tuple]
  refine wpAny_bind (wpAny_standAt ?_)
  unfold unpack
  rw [hn, h2]
  refine wpAny_bind (wpAny_holding (hu _ _ fun h' e => ?_))
  have k := ext_keep e
  exact h vs h' (F.keep G k) k.kk (rr.keep (Keep.kk k).z)
theorem ex_assignL (G : Good w sc dl ul C) {k : Nat} {tpos pos : Pos} {e : Expr} {es : List Expr} {P : SOut → Prop} (hq : es = (namesOf es).map fun q => Expr.Name q.1 q.2) (hx : ∀ q ∈ (namesOf es), sc.names.lookup q.1 = some .local) (hn1 : (assignEach es (C.env sc)).length = (namesOf es).length)
    (h1 : (assignEach es (C.env sc)).map (·.2) = (namesOf es).map fun q => assign (.Name q.1 q.2) (C.env sc)) (h2 : (assignEach es (C.env sc)).findIdx? (·.1) = none)
    (hs : swapsWithSole [.Tuple es k tpos] e pos.line (C.env sc) = pure false) (hw : swappedStores [.Tuple es k tpos] e (C.env sc) = pure none)
    (h : Ev w sc C ρ e fun o => match o with | .val d => ∃ ds, d = dL ds ∧ (namesOf es).length = ds.length ∧ P (.next (insD (((namesOf es).map (·.1)).zip ds) ρ)) | .exc c => P (.exc c)) : Ex1 w sc C ρ (.Assign [.Tuple es k tpos] e pos) P := by
  generalize namesOf es = qs at *
  subst hq
  exact .mk fun s Q E F hn hb hr he => Assign_Tuple (h.go s _ E F trivial (fun d v h3 tk3 p F3 k3 r3 => by
    obtain ⟨ds, rfl, hl, p⟩ := p
    refine assign_any (s := { s with heap := h3, toks := tk3 }) G (.inr rfl) r3 F3 (hn1.trans hl) h2 fun vs h4 F4 k4 r4 => ?_
    rw [h1]
    exact stores (κ := Str × Pos) (Q := fun _ => Q .next) (E := E) G (g := (·.1)) (f := fun q => assign (.Name q.1 q.2) (C.env sc)) (fun x v Q E s z => assign_Name z) qs ds vs ρ { s with heap := h4, toks := tk3 } F4 r4 hx hl fun h5 tk5 F5 k5 => hn _ h5 tk5 p F5 (k3.trans (k4.trans k5)).s) he) hs hw
end

theorem rows_W21 : True := by
  w_top off
  k_with_none
  k_with "mine enter" => (refine wpAny_call ?_; k_dflt (refine' enterP [] ?kX ?kT ?kr ?ko ?kc ?kb ?kl ?_ ?c2 ?c3 ?c4 ?c5; (case kX => k_asm); (case kT => k_asm); (case kr => exact Nat.le_of_ble_eq_true rfl); (case ko => k_is); (case kc => k_is); (case kb => exact BindsTo.of_eq rfl); (case kl => exact locs rfl); (case c2 => exact rfl); (case c3 => exact rfl); (case c4 => exact rfl); (case c5 => decide); k_whole; intro L' h' tk' F' K' l1; (dsimp only [List.map, List.zip, List.zipWith, List.reverse, List.reverseAux] at F'); (have N' := news_enter (hide := []) (news := []) K' l1 (fun _ h => nomatch h)); (dsimp only [hideAll] at F' N'); (try dsimp only); (try k_fold)))
  k_with "exec Raise some none" => (refine raise_ex (w := w) rfl ?_)
  k_with "call ref" => ((with_reducible show wpAny _ _ (call (Value.ref 44) [Value.str _ _]) _ _ _); (with_reducible rename Fr _ _ _ _ => FF); refine mk_exc w (exc44 w) (X.keeps FF.keep) (T.keeps FF.keep) (by rw [depth_under_make]; exact Nat.le_of_ble_eq_true rfl) (fun e h2 tk2 hx => ?_))
  k_with "call ref" => ((with_reducible show wpAny _ _ (call (Value.ref 56) [Value.str _ _]) _ _ _); (with_reducible rename Fr _ _ _ _ => FF); refine mk_exc w (exc56 w) (X.keeps FF.keep) (T.keeps FF.keep) (by rw [depth_under_make]; exact Nat.le_of_ble_eq_true rfl) (fun e h2 tk2 hx => ?_))
  k_with "mine ret" => ((try dsimp only); (with_reducible rename Fr _ _ _ _ => FF); refine hret _ _ _ FF.keep ?_)
  k_with "Raised" => ((with_reducible rename Fr _ _ _ _ => FF); refine Raised.of (by first | exact exc44 w | exact exc56 w) (X.keeps FF.keep) hx ?_; (try dsimp only); (try k_unfold); refine leave_first B FF hx (fun h3 hfly => hexc _ _ _ _ ?_ hfly))
  k_with "subscriptTail" => ((with_reducible show wpAny _ _ (subscriptTail _ (Expr.Slice _ _ none _) (Value.bytes _ _) (Value.ref _)) _ _ _); (with_reducible rename Fr _ _ _ _ => FF); (with_reducible rename News _ _ _ _ => NN); (refine KBc.slice_K (s := ⟨_, _, _, _, _⟩) FF NN rfl (by constructor) (by constructor) ?hz ?_); (case hz => (rw [KBw.ints_length]; l_fact)); intro h2 t2' k2 F2 N2 _; (try simp only [hpick]))
  trivial

set_option linter.unusedVariables false
/-- the table of a code object: what it tells of are records of code named q -/
def TabIs (P : Addr) (q : Str) (h : Heap) : Prop := ∃ ps, h.get? P = some (tabObj ps) ∧ TriplesOk ps.toList ∧ ∀ pos cv, codeAmong pos ps.toList = some cv → h.CodeRec cv q
theorem among_snoc {pos : Pos} {a b : Int} {c cv : Value} (l : List Value) (h : TriplesOk l) : codeAmong pos (l ++ [rawInt a, rawInt b, c]) = some cv → codeAmong pos l = some cv ∨ cv = c := by
  fun_induction TriplesOk l with
  | case1 =>
    intro e
    simp only [List.nil_append, codeAmong, rawInt] at e
    split at e
    · cases e; exact .inr rfl
    · cases e
  | case2 a' t b' u x rest ih =>
    intro e
    simp only [List.cons_append, codeAmong] at e ⊢
    split at e
    · rename_i hc; rw [if_pos hc]; exact .inl e
    · rename_i hc; rw [if_neg hc]; exact ih h e
  | case3 l h1 h2 => exact h.elim
theorem tab_not {ps : Array Value} (h : TriplesOk ps.toList) : ¬ Codey (tabObj ps) := fun ⟨vs, q, t, e, hv⟩ => by
  cases e
  exact triples_no_str h q t (by simpa using hv)
theorem codeRec_but {h h' : Heap} {P : Addr} {q : Str} {cv : Value} {oP : Obj} (r : h.CodeRec cv q) (hP : h.get? P = some oP) (hn : ¬ Codey oP) (k : ∀ b o, b ≠ P → h.get? b = some o → h'.get? b = some o) : h'.CodeRec cv q := by
  obtain ⟨c, oc, vs, t, e, g, d, hv⟩ := r
  exact ⟨c, oc, vs, t, e, k c oc (fun z => by rw [z, hP] at g; cases g; exact hn ⟨vs, q, t, d, hv⟩) g, d, hv⟩
/-- f called with nothing, at a heap beyond h0 -/
def CTF (w : World) (hs : List Addr) (I : Heap → Prop) (D U : Nat) (f : Addr) (P : Out Mine.D → Prop) (h0 : Heap) : Prop :=
  ∀ (outer : List Env) (base gx : Heap) (s : Shared) (mean : ExcName → Option Value) (mg mb : Str → Option Value) (Q E : Value → Shared → Prop), Keep h0 (hideAll s.heap (frs outer ++ hs)) →
    Below (AR D U outer) base outer (hideAll s.heap hs) → Below (AR D U outer) base outer gx → (∀ h, I h → (∀ b o, b ∉ hs → s.heap.get? b = some o → h.get? b = some o) → Keep gx h) → gx.objs.size ≤ s.heap.objs.size → Frag.In (hd.heap_39 w.params) (hideAll s.heap hs) → Top topProg LW mean mg mb (hideAll s.heap hs) → I s.heap →
    (∀ d v h' tk', P (.val d) → I h' → (∀ b o, b ∉ hs → s.heap.get? b = some o → h'.get? b = some o) → d.rel (hideAll h' (frs outer ++ hs)) v → Q v { s with heap := h', toks := tk' }) →
    (∀ c e h' tk', P (.exc c) → Fly gx outer e (.ref c) h' → E (.ref e) { s with heap := h', toks := tk' }) →
    wpAny (model pr w) (AR D U outer) (call (.ref f) []) Q E s
/-- a function of no argument that gives P, where I holds of the hidden things -/
def dFn (w : World) (hs : List Addr) (I : Heap → Prop) (D U : Nat) (P : Out Mine.D → Prop) : Mine.D := ⟨fun h v => ∃ f, v = .ref f ∧ FnAt f h ∧ ∀ I', HI hs I' → (∀ h, I' h → I h) → CTF w hs I' D U f P h,
  fun h h' v k ⟨f, e, ⟨oc, od, fd, sl, g⟩, c⟩ => ⟨f, e, ⟨oc, od, fd, sl, k _ _ g⟩, fun I' hi i outer base gx s mean mg mb Q E kk => c I' hi i outer base gx s mean mg mb Q E (k.trans kk)⟩⟩
section
variable {w : World} {sc : Scope} {dl ul : Nat} {C : Cx} {ρ : List (Str × D)}
theorem hid_lt (G : Good w sc dl ul C) {h : Heap} (F : FrD C ρ h) : ∀ b ∈ C.L :: (frs C.outer ++ C.hid), b < h.objs.size := fun b m => by
  obtain ⟨hI, mm, F1, _⟩ := F
  rcases List.mem_cons.mp m with q | q
  · exact q ▸ F1.ns.lt
  · rcases List.mem_append.mp q with q | q
    · obtain ⟨_, o, e, _⟩ := Heap.FunFrames.mem G.B.frames q
      exact Heap.lt_size (F1.keep _ _ e)
    · obtain ⟨o, e, _⟩ := G.hi.lt _ hI _ q; exact Heap.lt_size e
/-- a record of code is not hidden -/
theorem code_seen (G : Good w sc dl ul C) {h : Heap} (F : FrD C ρ h) {b : Addr} {o : Obj} (e : h.get? b = some o) (hc : Codey o) : b ∉ C.L :: (frs C.outer ++ C.hid) := fun m => by
  obtain ⟨hI, mm, F1, _⟩ := F
  obtain ⟨vs, q0, t, d, _⟩ := id hc
  rcases List.mem_cons.mp m with q | q
  · obtain ⟨oL, es, ep, e1, e2, _⟩ := F1.ns
    rw [q, e1] at e; cases e; rw [e2] at d; cases d
  · rcases List.mem_append.mp q with q | q
    · obtain ⟨_, o', e1, e2⟩ := Heap.FunFrames.mem G.B.frames q
      rw [F1.keep _ _ e1] at e; cases e; exact e2 _ d
    · obtain ⟨o', e1, n⟩ := G.hi.lt _ hI _ q
      rw [e1] at e; cases e; exact n hc
theorem lookup_keep {p : Str → Bool} {l : List (Str × Value)} {x : Str} (h : p x = true) : (l.filter fun q => p q.1).lookup x = l.lookup x := by
  induction l with
  | nil => rfl
  | cons a l ih =>
    rw [List.filter_cons]
    by_cases e : (x == a.1) = true
    · rw [if_pos (by rw [← eq_of_beq e]; exact h), List.lookup_cons, List.lookup_cons, e]
    · rw [Bool.not_eq_true] at e
      rw [List.lookup_cons (as := l), e]
      split
      · rw [List.lookup_cons, e]; exact ih
      · exact ih
theorem lookup_kept {p : Str → Bool} {l : List (Str × Value)} {x : Str} {v : Value} (h : (l.filter fun q => p q.1).lookup x = some v) : p x = true ∧ l.lookup x = some v := by
  have hp : p x = true := by
    cases q : p x with
    | true => rfl
    | false =>
      exfalso
      have : ∀ l : List (Str × Value), (l.filter fun q => p q.1).lookup x = none := fun l => by
        induction l with
        | nil => rfl
        | cons a l ih =>
          rw [List.filter_cons]
          split
          · rename_i ha
            rw [List.lookup_cons]
            have : (x == a.1) = false := by
              cases e : x == a.1 with
              | false => rfl
              | true => rw [← eq_of_beq e, q] at ha; cases ha
            rw [this]; exact ih
          · exact ih
      rw [this] at h; cases h
  exact ⟨hp, by rw [lookup_keep hp] at h; exact h⟩
end
/-- a lambda called -/
theorem lam_ctf {w : World} {hs : List Addr} {I : Heap → Prop} {D' U' : Nat} {P : Out D → Prop} {f : Addr} {cv ctv pm : Value} {clos : List (Str × Addr)} {body : Expr} {scope : Scope} {qual : Str} {params : Arguments} {h0 : Heap} {ob : Obj}
    (hfo : h0.get? f = some ob) (hob : ob.data = .func (kla_fn "<lambda>" qual params body scope clos pm cv ctv)) (hcr : h0.CodeRec cv qual) (hroom : D' ≤ 900)
    (hbind : bindArgs (kla_fn "<lambda>" qual params body scope clos pm cv ctv) ⟨[], []⟩ = pure []) (hco : scope.isCoroutine = false) (hgen : scope.isGenerator = false) (hk : scope.kind = .function) (hcell : ∀ x ∈ scope.names, x.2 ≠ .cell)
    (gh : List (Str × Value)) (ρ' : List (Str × D)) (hghl : ∀ x v, gh.lookup x = some v → scope.names.lookup x ≠ some .local) (hghc : ∀ x v, gh.lookup x = some v → ∃ c, clos.lookup x = some c ∧ ∀ h, I h → h.IsCell c (some v))
    (hρ : ∀ x d, lk ρ' x = some d → ∃ v, gh.lookup x = some v ∧ d.rel h0 v) (h : ∀ C' : Cx, Good w scope (D' + 1) (U' + 3) C' → C'.hid = hs → C'.gh = gh → Ev w scope C' ρ' body P) (I' : Heap → Prop) (hI' : HI hs I') (hii : ∀ h, I' h → I h) : CTF w hs I' D' U' f P h0 := by
  intro outer base gx s mean mg mb Q E k0 B Bx kgx hgx X T hi hq he
  have hfo' : s.heap.get? f = some ob := of_hideAll _ (k0 _ _ hfo)
  have hcr' : s.heap.CodeRec cv qual := hcr.keeps fun b o e => of_hideAll _ (k0 b o e)
  refine wpAny_call ?_
  refine kla_callFunE (by show D' < 1000; omega) hfo' hob hco hgen rfl hcr' ?_
  rw [hbind]
  refine wpAny_pure (wpAny_newFunctionEnv hcell (by intro y hy; cases hy) (fun h₁ hns hsb => ⟨(T.nolimit.keeps fun b o e => of_hideAll _ e).fresh _ hsb, ?_⟩) hk)
  show codeAny _ _ (.expr body (envX qual scope s.heap.objs.size f cv clos)) _ _
  have K' : Keep s.heap h₁ := fun b o e => hsb.extBut b o (Nat.ne_of_lt (Heap.lt_size e)) (Heap.get?_push_of_some _ e)
  have F : Fr (hideAll s.heap hs) s.heap.objs.size h₁ (fun y => ([] : List (Str × Value)).reverse.lookup y) := ⟨hns, fun b o e => K' b o (of_hideAll _ e), Nat.le_of_eq (hideAll_size _ _)⟩
  refine kla_codeExpr ?_
  have hLn : s.heap.objs.size ∉ hs := fun z => by obtain ⟨o, e, _⟩ := hI'.lt _ hi _ z; exact Nat.lt_irrefl _ (Heap.lt_size e)
  let C : Cx := ⟨(AR D' U' outer).deeper (envX qual scope s.heap.objs.size f cv clos), AR D' U' outer, base, hideAll s.heap hs, outer, s.heap.objs.size, f, qual, cv, clos, hs, I', false, gx, gh⟩
  have G : Good w scope (D' + 1) (U' + 3) C := ⟨rfl, rfl, rfl, Nat.le_refl _, Nat.le_refl _, B, X, ⟨mean, mg, mb, T⟩, hk, hI', hLn, fun b z => hideAll_none _ z, Bx, fun h m F i => ⟨F.ns, kgx h i fun b o n e => F.keep b o (hideAll_get _ e n), hgx⟩, hghl, fun x v e => let ⟨c, e1, k⟩ := hghc x v e; ⟨c, e1, fun h i => k h (hii h i)⟩⟩
  have kz : Keep (hideAll s.heap (frs outer ++ hs)) (C.z h₁) := fun b o e => by
    refine hideAll_get _ (K' b o (of_hideAll _ e)) fun z => ?_
    rcases List.mem_cons.mp z with q | q
    · have := Heap.lt_size (of_hideAll _ e); rw [q] at this; exact Nat.lt_irrefl _ this
    · have := hideAll_none (h := s.heap) _ q; rw [this] at e; cases e
  refine (h C G rfl rfl).go { s with heap := h₁, toks := _ } _ _ ⟨hI'.mono _ _ hi (fun b o _ e => K' b o e), _, F, fun x d e => ?_⟩ trivial (fun d v h' tk' p F' k r => ?_) (fun c e s' p fl => wpAny_mono fl (fun _ s3 ⟨a, h3, tk3, e1, e3, hf⟩ => by subst e1 e3; exact he c a h3 tk3 p hf) fun _ _ z => z.elim)
  · obtain ⟨v, e1, r⟩ := hρ x d e
    exact ⟨v, by unfold Cx.val; rw [e1], d.mono _ _ _ (k0.trans kz) r⟩
  · refine hq d v h' tk' p F'.1 (fun b o n e => F'.2.choose_spec.1.keep b o (hideAll_get _ e n)) (d.mono _ _ _ (fun b o e => ?_) r)
    have e1 : (hideAll (h'.hide s.heap.objs.size) (frs outer ++ hs)).get? b = some o := e
    refine hideAll_get _ (of_hideAll (s.heap.objs.size :: (frs outer ++ hs)) e) fun z => ?_
    have := hideAll_none (h := h'.hide s.heap.objs.size) _ z; rw [this] at e1; cases e1
section
variable {w : World} {sc : Scope} {dl ul : Nat} {C : Cx} {ρ : List (Str × D)}
theorem v_lambda (G : Good w sc dl ul C) {body : Expr} {scope : Scope} {pos : Pos} {cc Pt : Addr} {clos : List (Str × Addr)} {D' U' : Nat} {P : Out D → Prop} {params : Arguments} (ρ' : List (Str × D)) (hdef : defaultsOf params (C.env sc) = ([], []))
    (hbind : ∀ pm cv ctv, bindArgs (kla_fn "<lambda>" ((C.env sc).qual ++ "<lambda>") params body scope clos pm cv ctv) ⟨[], []⟩ = pure [])
    (hcd : C.ccd = .ref cc) (Tb : Own C.hid C.I Pt (TabIs Pt ((C.env sc).qual ++ "<lambda>"))) (hch : codeHdIn (hd.heap_39 w.params) cc Pt = true) (hclos : closureFor scope (C.env sc) = pure clos) (hcl2 : ∀ x c, clos.lookup x = some c → C.cl.lookup x = some c)
    (hnl : ∀ x, scope.names.lookup x ≠ some .local) (hk : scope.kind = .function) (hco : scope.isCoroutine = false) (hgen : scope.isGenerator = false) (hcell : ∀ x ∈ scope.names, x.2 ≠ .cell) (hroom : D' ≤ 900)
    (hρ : ∀ x d, lk ρ' x = some d → lk ρ x = some d ∧ (clos.lookup x).isSome = true ∧ ∃ v, C.gh.lookup x = some v)
    (h : ∀ C' : Cx, Good w scope (D' + 1) (U' + 3) C' → C'.hid = C.hid → (∀ x v, C.gh.lookup x = some v → (clos.lookup x).isSome = true → C'.gh.lookup x = some v) → Ev w scope C' ρ' body P) : EvV w sc C ρ (.Lambda params body scope pos) (dFn w C.hid C.I D' U' P) := by
  refine .mk fun s Q E F _ hq _ => ?_
  obtain ⟨hI, m, F1, R⟩ := id F
  obtain ⟨mean, mg, mb, T⟩ := G.T
  obtain ⟨ps, hP, ht, hc⟩ := Tb.here _ hI
  have hPn : C.g.get? Pt = none := G.hidn _ Tb.mem
  have hgs := T.g.keeps F1.keep
  obtain ⟨bm, ob, b1, b2, b3, b4, b5, b6⟩ := T.bmain
  have hgP : mainGlobals ≠ Pt := fun q => by
    obtain ⟨o, es, ep, e, _⟩ := T.g
    rw [q, hPn] at e; cases e
  have hbP : bm ≠ Pt := fun q => by rw [q, hPn] at b3; cases b3
  have hbG : bm ≠ mainGlobals := fun q => by
    obtain ⟨o, es, ep, e, hd, _⟩ := T.g
    rw [q, e] at b3; cases b3; rw [hd] at b6; cases b6
  have CH : CodeHd s.heap cc Pt := codeHd_of_K (G.X.keeps F1.keep) hch
  have hPh : Pt ∉ [] := fun q => nomatch q
  have fin : ∀ (h1 : Heap) (tk : Tok) (pm cv ctv : Value), (∀ b o, b ≠ Pt → s.heap.get? b = some o → h1.get? b = some o) → TabIs Pt ((C.env sc).qual ++ "<lambda>") h1 → h1.CodeRec cv ((C.env sc).qual ++ "<lambda>") → s.heap.objs.size ≤ h1.objs.size →
      (∀ b o, cv = .ref b → h1.get? b = some o → Codey o → s.heap.get? b = some o ∨ s.heap.objs.size ≤ b) → Q (.ref h1.objs.size) { s with heap := h1.push { cls := .type "function", data := .func (kla_fn "<lambda>" ((C.env sc).qual ++ "<lambda>") params body scope clos pm cv ctv) }, toks := tk } := by
    intro h1 tk pm cv ctv k1 tb cr hsz hcv
    have kp : Keep h1 (h1.push { cls := .type "function", data := .func (kla_fn "<lambda>" ((C.env sc).qual ++ "<lambda>") params body scope clos pm cv ctv) }) := fun b o e => Heap.get?_push_of_some _ e
    have hn := Heap.get?_push_size h1 (o := { cls := .type "function", data := .func (kla_fn "<lambda>" ((C.env sc).qual ++ "<lambda>") params body scope clos pm cv ctv) }) rfl
    generalize h1.push { cls := .type "function", data := .func (kla_fn "<lambda>" ((C.env sc).qual ++ "<lambda>") params body scope clos pm cv ctv) } = h2 at kp hn ⊢
    have k2 : ∀ b o, b ≠ Pt → s.heap.get? b = some o → h2.get? b = some o := fun b o n e => kp _ _ (k1 b o n e)
    have kk : KK C s.heap h2 := fun b o n e => k2 b o (fun q => n (q ▸ List.mem_cons_of_mem _ Tb.mem)) e
    have F2 : FrD C ρ h2 := ⟨Tb.upd _ _ hI (let ⟨ps, e1, e2, e3⟩ := tb; ⟨ps, kp _ _ e1, e2, fun pos cv e => (e3 pos cv e).keeps kp⟩) k2, m, ⟨F1.ns.at' fun o e => k2 _ o (fun q => G.hidL (q ▸ Tb.mem)) e, fun b o e => k2 b o (fun q => by rw [q, hPn] at e; cases e) (F1.keep b o e), F1.above⟩, fun x d e => let ⟨v, e1, r⟩ := R x d e; ⟨v, e1, d.mono _ _ _ kk.z r⟩⟩
    have up : h1.objs.size ∉ C.L :: (frs C.outer ++ C.hid) := fun q => Nat.lt_irrefl _ (Nat.lt_of_lt_of_le (hid_lt G F _ q) hsz)
    have fz : (C.z h2).get? h1.objs.size = some _ := hideAll_get _ hn up
    have crz : (C.z h2).CodeRec cv ((C.env sc).qual ++ "<lambda>") := by
      obtain ⟨c', oc, vs, t, e, g, d, hv⟩ := cr
      refine ⟨c', oc, vs, t, e, hideAll_get _ (kp _ _ g) ?_, d, hv⟩
      rcases hcv c' oc e g ⟨vs, _, t, d, hv⟩ with q | q
      · exact code_seen G F q ⟨vs, _, t, d, hv⟩
      · exact fun z => Nat.lt_irrefl _ (Nat.lt_of_lt_of_le (hid_lt G F _ z) q)
    refine hq _ _ h2 tk rfl F2 kk ⟨h1.objs.size, rfl, ⟨_, _, _, _, fz⟩, fun I' hI' hii => ?_⟩
    refine lam_ctf (I := C.I) fz rfl crz hroom (hbind pm cv ctv) hco hgen hk hcell (C.gh.filter fun q => (clos.lookup q.1).isSome) ρ' (fun x v e => hnl x) (fun x v e => ?_) (fun x d e => ?_) (fun C' G' e1 e2 => h C' G' e1 fun x v e3 e4 => ?_) I' hI' hii
    · obtain ⟨p1, p2⟩ := lookup_kept (p := fun x => (clos.lookup x).isSome) e
      obtain ⟨c, e1, k⟩ := G.ghc x v p2
      obtain ⟨c2, e2⟩ := Option.isSome_iff_exists.mp p1
      have := hcl2 x c2 e2
      rw [e1] at this; cases this
      exact ⟨c, e2, k⟩
    · obtain ⟨q1, q2, v, q3⟩ := hρ x d e
      obtain ⟨v', e1, r⟩ := F2.2.choose_spec.2 x d q1
      refine ⟨v', ?_, r⟩
      rw [lookup_keep (p := fun x => (clos.lookup x).isSome) q2]
      unfold Cx.val at e1; rw [q3] at e1; rw [q3]; exact e1
    · rw [e2, lookup_keep (p := fun x => (clos.lookup x).isSome) e4]; exact e3
  refine kla_eval hdef ?_
  cases hf : codeAmong pos ps.toList with
  | none =>
    refine kla_makeFunction (mg := mg) hclos rfl hgs hcd CH hP ht hf hgP ⟨bm, ob, b1, b2, hbG, hbP, F1.keep _ _ b3, b4, b5, b6⟩ fun c' ctv h' tk hx hge hlt hrec htb => ?_
    refine fin h' tk _ _ ctv hx ⟨_, htb, ?_, fun pos' cv e => ?_⟩ hrec (Nat.le_of_lt (Nat.lt_of_le_of_lt hge hlt)) fun b o e _ _ => by cases e; exact .inr hge
    · rw [Array.toList_append]; exact TriplesOk_snoc _ _ _ _ ht
    · rw [Array.toList_append] at e
      rcases among_snoc _ ht e with q | rfl
      · exact codeRec_but (hc _ _ q) hP (tab_not ht) hx
      · exact hrec
  | some cv =>
    refine kla_makeFunctionHit (mg := mg) hclos rfl hgs hcd CH hP ht hf ⟨bm, ob, b1, b2, hbG, hbP, F1.keep _ _ b3, b4, b5, b6⟩ fun ctv h' tk hx hsz => ?_
    refine fin h' tk _ cv ctv (fun b o _ e => hx b o e) ⟨ps, hx _ _ hP, ht, fun pos' cv e => (hc pos' cv e).keeps hx⟩ ((hc _ _ hf).keeps hx) hsz fun b o e g hcy => ?_
    obtain ⟨c', oc, vs, t, e2, g2, d, hv⟩ := hc _ _ hf
    rw [e2] at e; cases e
    have := hx _ _ g2
    rw [g] at this; cases this
    exact .inl g2
end

theorem rows_W22 : True := by
  w_top off
  k_with_none
  k_with "mine enter" => (refine wpAny_call ?_; k_dflt (refine' enterP [] ?kX ?kT ?kr ?ko ?kc ?kb ?kl ?_ ?c2 ?c3 ?c4 ?c5; (case kX => k_asm); (case kT => k_asm); (case kr => exact Nat.le_of_ble_eq_true rfl); (case ko => k_is); (case kc => k_is); (case kb => exact BindsTo.of_eq rfl); (case kl => exact locs rfl); (case c2 => exact rfl); (case c3 => exact rfl); (case c4 => exact rfl); (case c5 => decide); k_whole; intro L' h' tk' F' K' l1; (dsimp only [List.map, List.zip, List.zipWith, List.reverse, List.reverseAux] at F'); (have N' := news_enter (hide := []) (news := []) K' l1 (fun _ h => nomatch h)); (dsimp only [hideAll] at F' N'); (try dsimp only); (try k_fold)))
  k_with "exec Raise some none" => (refine raise_ex (w := w) rfl ?_)
  k_with "call ref" => ((with_reducible show wpAny _ _ (call (Value.ref 44) [Value.str _ _]) _ _ _); (with_reducible rename Fr _ _ _ _ => FF); refine mk_exc w (exc44 w) (X.keeps FF.keep) (T.keeps FF.keep) (by rw [depth_under_make]; exact Nat.le_of_ble_eq_true rfl) (fun e h2 tk2 hx => ?_))
  k_with "call ref" => ((with_reducible show wpAny _ _ (call (Value.ref 56) [Value.str _ _]) _ _ _); (with_reducible rename Fr _ _ _ _ => FF); refine mk_exc w (exc56 w) (X.keeps FF.keep) (T.keeps FF.keep) (by rw [depth_under_make]; exact Nat.le_of_ble_eq_true rfl) (fun e h2 tk2 hx => ?_))
  k_with "mine ret" => ((try dsimp only); (with_reducible rename Fr _ _ _ _ => FF); refine hret _ _ _ FF.keep ?_)
  k_with "Raised" => ((with_reducible rename Fr _ _ _ _ => FF); refine Raised.of (by first | exact exc44 w | exact exc56 w) (X.keeps FF.keep) hx ?_; (try dsimp only); (try k_unfold); refine leave_first B FF hx (fun h3 hfly => hexc _ _ _ _ ?_ hfly))
  k_with "subscriptTail" => ((with_reducible show wpAny _ _ (subscriptTail _ (Expr.Slice _ _ none _) (Value.bytes _ _) (Value.ref _)) _ _ _); (with_reducible rename Fr _ _ _ _ => FF); (with_reducible rename News _ _ _ _ => NN); (refine KBc.slice_K (s := ⟨_, _, _, _, _⟩) FF NN rfl (by constructor) (by constructor) ?hz ?_); (case hz => (rw [KBw.ints_length]; l_fact)); intro h2 t2' k2 F2 N2 _; (try simp only [hpick]))
  trivial

set_option linter.unusedVariables false
/-- a call that raises nothing, though exceptions may have come and gone: the frames above stand up to slots -/
def CTWo (O : List Env → Prop) (w : World) (hs : List Addr) (I : Heap → Prop) (D U : Nat) (f : Addr) (ds : List Mine.D) (P : Mine.D → Prop) : Prop :=
  ∀ (vs : List Value) (outer : List Env) (base : Heap) (s : Shared) (mean : ExcName → Option Value) (mg mb : Str → Option Value) (R : Result → Shared → Prop), O outer →
    Below (AR D U outer) base outer (hideAll s.heap hs) → Frag.In (hd.heap_39 w.params) base → Top topProg LW mean mg mb base → I s.heap → Rels (hideAll s.heap (frs outer ++ hs)) ds vs →
    (∀ d v h' tk', P d → I h' → (∀ b o, b ∉ frs outer → b ∉ hs → s.heap.get? b = some o → h'.get? b = some o) → FrsKept s.heap outer h' → d.rel (hideAll h' (frs outer ++ hs)) v → R (.ok (.ret v)) { s with heap := h', toks := tk' }) →
    codeAny (model pr w) (AR D U outer) (.call (.ref f) ⟨vs, []⟩) R s
def CTW (w : World) (hs : List Addr) (I : Heap → Prop) (D U : Nat) (f : Addr) (ds : List Mine.D) (P : Mine.D → Prop) : Prop :=
  ∀ (vs : List Value) (outer : List Env) (base : Heap) (s : Shared) (mean : ExcName → Option Value) (mg mb : Str → Option Value) (Q E : Value → Shared → Prop),
    Below (AR D U outer) base outer (hideAll s.heap hs) → Frag.In (hd.heap_39 w.params) base → Top topProg LW mean mg mb base → I s.heap → Rels (hideAll s.heap (frs outer ++ hs)) ds vs →
    (∀ d v h' tk', P d → I h' → (∀ b o, b ∉ frs outer → b ∉ hs → s.heap.get? b = some o → h'.get? b = some o) → FrsKept s.heap outer h' → d.rel (hideAll h' (frs outer ++ hs)) v → Q v { s with heap := h', toks := tk' }) →
    wpAny (model pr w) (AR D U outer) (call (.ref f) vs) Q E s
/-- what stands of the frozen heap where exceptions came and went -/
def KW (C : Cx) (h' : Heap) : Prop := (∀ b o, b ∉ frs C.outer → C.g.get? b = some o → h'.get? b = some o) ∧ FrsKept C.g C.outer h'
structure ExR (w : World) (sc : Scope) (C : Cx) (ρ : List (Str × D)) (t : Sem Flow) (P : D → Prop) : Prop where
  mk ::
  go : ∀ (s : Shared) (Q : Flow → Shared → Prop) (E : Value → Shared → Prop), FrD C ρ s.heap → (∀ d v h' tk', P d → C.I h' → KW C h' → d.rel (C.z h') v → Q (.ret v) { s with heap := h', toks := tk' }) → wpAny (model pr w) C.A t Q E s
theorem cells_mem {cm : Str → Option Value} {cs : List (Str × Addr)} {cells : List (Addr × Obj)} (x : CellsAre cm cs cells) : ∀ n c, (n, c) ∈ cs → ∃ o, (c, o) ∈ cells ∧ o.data = .cell (cm n) := by
  induction x with
  | nil => intro n c m; cases m
  | cons hd _ ih =>
    intro n c m
    rcases List.mem_cons.mp m with q | q
    · cases q; exact ⟨_, List.mem_cons_self, hd⟩
    · obtain ⟨o, a, b⟩ := ih n c q; exact ⟨o, List.mem_cons_of_mem _ a, b⟩
theorem lookup_in {l : List (Str × Addr)} {x : Str} {c : Addr} (h : l.lookup x = some c) : (x, c) ∈ l := by
  induction l with
  | nil => cases h
  | cons a l ih =>
    rw [List.lookup_cons] at h
    by_cases e : (x == a.1) = true
    · rw [e] at h; cases h; rw [eq_of_beq e]; exact List.mem_cons_self
    · rw [Bool.not_eq_true] at e; rw [e] at h; exact List.mem_cons_of_mem _ (ih h)
/-- the hidden things of a frame with cells -/
structure Cells (hs : List Addr) (I : Heap → Prop) (C : Cx) : Prop where
  own : ∀ b K, Own hs I b K → Own C.hid C.I b K
  cell : ∀ y c, C.cl.lookup y = some c → Own C.hid C.I c (CellIs c)
  hid : C.hid = C.cl.map (·.2) ++ hs
  inv : ∀ h, C.I h → I h
  apart : ∀ y c, C.cl.lookup y = some c → c ∉ hs
theorem cellIs_not {h : Heap} {c : Addr} (x : CellIs c h) : ∃ o, h.get? c = some o ∧ ¬ Codey o := let ⟨v, o, e, d⟩ := x; ⟨o, e, fun ⟨vs, q, t, d2, _⟩ => by rw [d] at d2; cases d2⟩
theorem ct_enterWo {O : List Env → Prop} {w : World} {hs : List Addr} {I : Heap → Prop} {D' U' : Nat} {f : Addr} {d0 : D} {P : D → Prop} {x : Str} {qual name : Str} {params : Arguments} {body : List Stmt} {scope : Scope} {dV kV doc pm cdv ct oc : Value} {an od : Option Addr} {osl : Array (Option Value)}
    (hI : HI hs I) (hroom : D' ≤ 900) (ho : (hd.heap_39 w.params).lookup f = some ⟨oc, od, .func (fnOf name qual params body scope dV kV doc pm an cdv ct), osl⟩) (hcd : codeIn (hd.heap_39 w.params) cdv qual = true)
    (hbind : ∀ s v, BindsTo s (fnOf name qual params body scope dV kV doc pm an cdv ct) ⟨[v], []⟩ [(x, v)]) (hx : scope.names.lookup x = some .local) (hnd : ((cellsFrom 0 scope.names []).map (·.1)).Nodup)
    (hco : scope.isCoroutine = false) (hgen : scope.isGenerator = false) (hk : scope.kind = .function)
    (h : ∀ C : Cx, Good w scope (D' + 1) (U' + 3) C → Cells hs I C → C.cl = cellsFrom (C.L + 1) scope.names [] → C.gh = [] → C.strict = false → C.ccd = cdv → C.cn = qual → Frag.In (hd.heap_39 w.params) C.base → (∃ mean mg mb, Top topProg LW mean mg mb C.base) → O C.outer →
      ExR w scope C [(x, d0)] (execs body (C.env scope)) P) : CTWo O w hs I D' U' f [d0] P := by
  intro vs outer base s mean mg mb R hO B XB TB hi hr hq
  obtain ⟨v, vs, rfl, r0, hr⟩ := hr
  cases hr
  have X : Frag.In (hd.heap_39 w.params) (hideAll s.heap hs) := XB.keeps B.stays
  have T : Top topProg LW mean mg mb (hideAll s.heap hs) := TB.keeps B.stays
  have kh : Keep (hideAll s.heap hs) s.heap := fun b o e => of_hideAll _ e
  refine enterC (binds := [(x, v)]) (X.keeps kh) (T.keeps kh) (by show D' < 1000; omega) ho hcd (hbind s v) (fun n y hy => by rw [List.mem_singleton.mp hy]; exact .inl hx) hnd (fun L h₁ tk cells F0 N Y => ?_) hco hgen hk
  have F : Fr (hideAll s.heap hs) L h₁ _ := ⟨F0.ns, fun b o e => F0.keep b o (kh b o e), Nat.le_trans (Nat.le_of_eq (hideAll_size _ _)) F0.above⟩
  have gL := kts_self F0
  have hLn : L ∉ hs := fun z => by obtain ⟨o, e, _⟩ := hI.lt _ hi _ z; rw [gL] at e; cases e
  have cmem := cells_mem Y
  have cnew : ∀ n c, (n, c) ∈ cellsFrom (L + 1) scope.names [] → CellIs c h₁ ∧ c ≠ L ∧ s.heap.get? c = none := fun n c m => by
    obtain ⟨o, a, b⟩ := cmem n c m
    exact ⟨⟨_, o, (N _ a).1, b⟩, (N _ a).2.1, (N _ a).2.2⟩
  let cs : List Addr := (cellsFrom (L + 1) scope.names []).map (·.2)
  have cs_new : ∀ c ∈ cs, CellIs c h₁ ∧ c ≠ L ∧ s.heap.get? c = none := fun c m => by
    obtain ⟨⟨n, c'⟩, a, rfl⟩ := List.mem_map.mp m
    exact cnew n c' a
  have csn : ∀ c ∈ cs, c ∉ hs := fun c m z => by
    obtain ⟨o, e, _⟩ := hI.lt _ hi _ z
    rw [(cs_new c m).2.2] at e; cases e
  let I' : Heap → Prop := fun h => I h ∧ ∀ c ∈ cs, CellIs c h
  have hI' : HI (cs ++ hs) I' := ⟨fun h h' i k => ⟨hI.mono _ _ i.1 fun b o m => k b o (m.imp (List.mem_append_right _) id), fun c m => let ⟨v, o, e, d⟩ := i.2 c m; ⟨v, o, k c o (.inl (List.mem_append_left _ m)) e, d⟩⟩, fun h i b m => by
    rcases List.mem_append.mp m with m | m
    · exact cellIs_not (i.2 b m)
    · exact hI.lt _ i.1 b m⟩
  have B' : Below (AR D' U' outer) base outer (hideAll s.heap (cs ++ hs)) := by
    have kk : Keep (hideAll s.heap hs) (hideAll s.heap (cs ++ hs)) := fun b o e => hideAll_get _ (of_hideAll _ e) fun m => by
      rcases List.mem_append.mp m with m | m
      · have := of_hideAll _ e; rw [(cs_new b m).2.2] at this; cases this
      · rw [hideAll_none _ m] at e; cases e
    exact ⟨B.stack, fun b o e => kk b o (B.stays b o e), B.frames.of_keeps fun b o e _ => ⟨o, kk b o e, rfl⟩⟩
  have kg : Keep (hideAll s.heap (cs ++ hs)) (hideAll s.heap hs) := fun b o e => hideAll_get _ (of_hideAll _ e) fun m => by rw [hideAll_none _ (List.mem_append_right _ m)] at e; cases e
  have F' : Fr (hideAll s.heap (cs ++ hs)) L h₁ _ := ⟨F0.ns, fun b o e => F0.keep b o (of_hideAll _ e), Nat.le_trans (Nat.le_of_eq (hideAll_size _ _)) F0.above⟩
  let C : Cx := ⟨(AR D' U' outer).deeper (envOfC qual scope L f cdv), AR D' U' outer, base, hideAll s.heap (cs ++ hs), outer, L, f, qual, cdv, cellsFrom (L + 1) scope.names [], cs ++ hs, I', false, hideAll s.heap (cs ++ hs), []⟩
  have G : Good w scope (D' + 1) (U' + 3) C := ⟨rfl, rfl, rfl, Nat.le_refl _, Nat.le_refl _, B', XB.keeps B'.stays, ⟨mean, mg, mb, TB.keeps B'.stays⟩, hk, hI', fun m => (List.mem_append.mp m).elim (fun m => (cs_new L m).2.1 rfl) hLn, fun b z => hideAll_none _ z, B', fun h m F i => F, fun x v e => (by have e' : (none : Option Value) = some v := e; cases e'), fun x v e => (by have e' : (none : Option Value) = some v := e; cases e')⟩
  have hcells : Cells hs I C := by
    refine ⟨fun b K O => ⟨List.mem_append_right _ O.mem, fun h i => O.here h i.1, fun h h' i k e => ⟨O.upd h h' i.1 k e, fun c m => let ⟨v, o, e1, d⟩ := i.2 c m; ⟨v, o, e c o (fun q => csn c m (q ▸ O.mem)) e1, d⟩⟩⟩, fun y c e => ?_, rfl, fun h i => i.1, fun y c e => csn c (List.mem_map.mpr ⟨(y, c), lookup_in e, rfl⟩)⟩
    have m : c ∈ cs := List.mem_map.mpr ⟨(y, c), lookup_in e, rfl⟩
    refine ⟨List.mem_append_left _ m, fun h i => i.2 c m, fun h h' i k e => ⟨hI.mono _ _ i.1 fun b o hb e1 => e b o (fun q => ?_) e1, fun c' m' => ?_⟩⟩
    · subst q
      rcases hb with hb | hb
      · exact csn b m hb
      · obtain ⟨o', e2, n⟩ := cellIs_not (i.2 b m)
        rw [e1] at e2; cases e2; exact n hb
    · by_cases q : c' = c
      · exact q ▸ k
      · obtain ⟨v, o, e1, d⟩ := i.2 c' m'
        exact ⟨v, o, e c' o q e1, d⟩
  have kz : Keep (hideAll s.heap (frs outer ++ hs)) (C.z h₁) := fun b o e => by
    have e1 := of_hideAll _ e
    refine hideAll_get _ (F0.keep b o e1) fun z => ?_
    rcases List.mem_cons.mp z with q | q
    · rw [q, gL] at e1; cases e1
    · rcases List.mem_append.mp q with q | q
      · have := hideAll_none (h := s.heap) (frs outer ++ hs) (List.mem_append_left _ q); rw [this] at e; cases e
      · rcases List.mem_append.mp q with q | q
        · rw [(cs_new b q).2.2] at e1; cases e1
        · have := hideAll_none (h := s.heap) (frs outer ++ hs) (List.mem_append_right _ q); rw [this] at e; cases e
  refine (h C G hcells rfl rfl rfl rfl rfl XB ⟨mean, mg, mb, TB⟩ hO).go { s with heap := h₁, toks := tk } _ _ ⟨⟨hI.mono _ _ hi fun b o _ e => F0.keep b o e, fun c m => (cs_new c m).1⟩, _, F', fun y d e => ?_⟩ (fun d v h' tk' p i kw r => ?_)
  · rcases lk_cons e with ⟨rfl, rfl⟩ | ⟨_, e⟩
    · refine ⟨v, ?_, d0.mono _ _ _ kz r0⟩
      show bindL _ [(y, v)] _ y = some v
      have hkk : (envOfC qual scope L f cdv).kindOf y = some .local := hx
      simp only [bindL, hkk, if_true]
    · cases e
  · refine hq d v h' tk' p i.1 (fun b o n1 n2 e => kw.1 b o n1 (hideAll_get _ e fun m => ?_)) (fun b m o e nf => ?_) (d.mono _ _ _ (fun b o e => ?_) r)
    · rcases List.mem_append.mp m with m | m
      · rw [(cs_new b m).2.2] at e; cases e
      · exact n2 m
    · refine kw.2 b m o (hideAll_get _ e fun z => ?_) nf
      obtain ⟨_, o', e1, _⟩ := Heap.FunFrames.mem B'.frames m
      rw [hideAll_none _ z] at e1; cases e1
    · refine hideAll_get _ (of_hideAll _ e) fun z => ?_
      have : b ∈ C.L :: (frs C.outer ++ C.hid) := List.mem_cons_of_mem _ ((List.mem_append.mp z).elim (List.mem_append_left _) fun z => List.mem_append_right _ (List.mem_append_right _ z))
      have e2 := hideAll_none (h := h') _ this
      have e3 : (hideAll h' (C.L :: (frs C.outer ++ C.hid))).get? b = some o := e
      rw [e2] at e3; cases e3
theorem ct_enterW {w : World} {hs : List Addr} {I : Heap → Prop} {D' U' : Nat} {f : Addr} {d0 : D} {P : D → Prop} {x : Str} {qual name : Str} {params : Arguments} {body : List Stmt} {scope : Scope} {dV kV doc pm cdv ct oc : Value} {an od : Option Addr} {osl : Array (Option Value)}
    (hI : HI hs I) (hroom : D' ≤ 900) (ho : (hd.heap_39 w.params).lookup f = some ⟨oc, od, .func (fnOf name qual params body scope dV kV doc pm an cdv ct), osl⟩) (hcd : codeIn (hd.heap_39 w.params) cdv qual = true)
    (hbind : ∀ s v, BindsTo s (fnOf name qual params body scope dV kV doc pm an cdv ct) ⟨[v], []⟩ [(x, v)]) (hx : scope.names.lookup x = some .local) (hnd : ((cellsFrom 0 scope.names []).map (·.1)).Nodup)
    (hco : scope.isCoroutine = false) (hgen : scope.isGenerator = false) (hk : scope.kind = .function)
    (h : ∀ C : Cx, Good w scope (D' + 1) (U' + 3) C → Cells hs I C → C.cl = cellsFrom (C.L + 1) scope.names [] → C.gh = [] → C.strict = false → C.ccd = cdv → C.cn = qual → Frag.In (hd.heap_39 w.params) C.base → (∃ mean mg mb, Top topProg LW mean mg mb C.base) →
      ExR w scope C [(x, d0)] (execs body (C.env scope)) P) : CTW w hs I D' U' f [d0] P :=
  fun vs outer base s mean mg mb Q E B XB TB hi hr hq => wpAny_call (ct_enterWo (O := fun _ => True) hI hroom ho hcd hbind hx hnd hco hgen hk (fun C a1 a2 a3 a4 a5 a6 a7 a8 a9 _ => h C a1 a2 a3 a4 a5 a6 a7 a8 a9) vs outer base s mean mg mb _ trivial B XB TB hi hr hq)

theorem rows_W23 : True := by
  w_top off
  k_with_none
  k_with "mine enter" => (refine wpAny_call ?_; k_dflt (refine' enterP [] ?kX ?kT ?kr ?ko ?kc ?kb ?kl ?_ ?c2 ?c3 ?c4 ?c5; (case kX => k_asm); (case kT => k_asm); (case kr => exact Nat.le_of_ble_eq_true rfl); (case ko => k_is); (case kc => k_is); (case kb => exact BindsTo.of_eq rfl); (case kl => exact locs rfl); (case c2 => exact rfl); (case c3 => exact rfl); (case c4 => exact rfl); (case c5 => decide); k_whole; intro L' h' tk' F' K' l1; (dsimp only [List.map, List.zip, List.zipWith, List.reverse, List.reverseAux] at F'); (have N' := news_enter (hide := []) (news := []) K' l1 (fun _ h => nomatch h)); (dsimp only [hideAll] at F' N'); (try dsimp only); (try k_fold)))
  k_with "exec Raise some none" => (refine raise_ex (w := w) rfl ?_)
  k_with "call ref" => ((with_reducible show wpAny _ _ (call (Value.ref 44) [Value.str _ _]) _ _ _); (with_reducible rename Fr _ _ _ _ => FF); refine mk_exc w (exc44 w) (X.keeps FF.keep) (T.keeps FF.keep) (by rw [depth_under_make]; exact Nat.le_of_ble_eq_true rfl) (fun e h2 tk2 hx => ?_))
  k_with "call ref" => ((with_reducible show wpAny _ _ (call (Value.ref 56) [Value.str _ _]) _ _ _); (with_reducible rename Fr _ _ _ _ => FF); refine mk_exc w (exc56 w) (X.keeps FF.keep) (T.keeps FF.keep) (by rw [depth_under_make]; exact Nat.le_of_ble_eq_true rfl) (fun e h2 tk2 hx => ?_))
  k_with "mine ret" => ((try dsimp only); (with_reducible rename Fr _ _ _ _ => FF); refine hret _ _ _ FF.keep ?_)
  k_with "Raised" => ((with_reducible rename Fr _ _ _ _ => FF); refine Raised.of (by first | exact exc44 w | exact exc56 w) (X.keeps FF.keep) hx ?_; (try dsimp only); (try k_unfold); refine leave_first B FF hx (fun h3 hfly => hexc _ _ _ _ ?_ hfly))
  k_with "subscriptTail" => ((with_reducible show wpAny _ _ (subscriptTail _ (Expr.Slice _ _ none _) (Value.bytes _ _) (Value.ref _)) _ _ _); (with_reducible rename Fr _ _ _ _ => FF); (with_reducible rename News _ _ _ _ => NN); (refine KBc.slice_K (s := ⟨_, _, _, _, _⟩) FF NN rfl (by constructor) (by constructor) ?hz ?_); (case hz => (rw [KBw.ints_length]; l_fact)); intro h2 t2' k2 F2 N2 _; (try simp only [hpick]))
  trivial

set_option linter.unusedVariables false
section
variable {M : Model} {A : Around} {E : Value → Shared → Prop}
variable {nm q : Str} {C N : Addr} {bs bm : List Value} {hdct : Bool} {sn : List Str} {sub : List Value} {ab : Bool} {col : Option Bool} {dd : Option Addr} {k0 k1 k2 k3 k5 : Option Value} {newId : String}
variable {nm' q' : Str} {C' N' : Addr} {bs' bm' : List Value} {hdct' : Bool} {sn' : List Str} {sub' : List Value} {ab' : Bool} {col' : Option Bool} {dd' : Option Addr} {k0' k1' k2' k3' k5' : Option Value} {newId' : String}
theorem exc_other {h : Heap} {g : Array GenState} {d : Drawn} {t : Nat} {os : OsState} {e : Addr} {oe : Obj} {Q : Bool → Shared → Prop}
    (hC : h.get? C = some (excClassObj nm q C N bs bm hdct sn sub ab col dd k0 k1 k2 k3 k5 newId)) (hC' : h.get? C' = some (excClassObj nm' q' C' N' bs' bm' hdct' sn' sub' ab' col' dd' k0' k1' k2' k3' k5' newId')) (he : h.get? e = some oe) (hcls : oe.cls = .ref C)
    (hbase : (Value.ref C' :: bm').contains (.type "BaseException") = true) (hno : (Value.ref C :: bm).contains (.ref C') = false)
    (hq : Q false ⟨h, g, d, t, os⟩) : wpAny M A (excMatches (.ref e) (.ref C')) Q E ⟨h, g, d, t, os⟩ := by
  have f := tc_notTuple
  unfold excMatches
  repeat (first | (with_reducible refine wpAny_loadPart_at he ?_; rw [hcls]) | with_reducible refine wpAny_loadPart_at hC' ?_ | (with_reducible refine wpAny_isSubtype_exc hC' ?_; rw [hbase]) | (with_reducible refine wpAny_isSubtype_exc hC ?_; rw [hno]) | wp_step)
  exact hq
end
section
variable {w : World} {sc : Scope} {dl ul : Nat} {C : Cx} {ρ : List (Str × D)}
theorem kw_of (G : Good w sc dl ul C) {ρ : List (Str × D)} {h : Heap} (F : FrD C ρ h) : KW C h := let ⟨_, m, F1, _⟩ := F; ⟨fun b o _ e => F1.keep b o e, fun b _ o e _ => ⟨o.slots, F1.keep b o e⟩⟩
theorem base_not (G : Good w sc dl ul C) {h : Heap} {m : Str → Option Value} (F : Fr C.g C.L h m) {b : Addr} {o : Obj} (e : C.base.get? b = some o) : b ∉ frs (C.env sc :: C.outer) := fun z => by
  rcases L_frs.mp z with q | q
  · have := G.B.stays b o e; rw [q, kts_self F] at this; cases this
  · obtain ⟨hn, _⟩ := Heap.FunFrames.mem G.B.frames q; rw [hn] at e; cases e
/-- a name of the globals read where nothing but the base is known -/
theorem name_base {A : Around} {s : Shared} {Q E : Value → Shared → Prop} {x : Str} {p : Pos} {v : Value} {mean : ExcName → Option Value} {mg mb : Str → Option Value} (hk0 : sc.kind = .function) (XB : Frag.In (hd.heap_39 w.params) C.base) (TB : Top topProg LW mean mg mb C.base) (kb : Keep C.base s.heap) (hn : nsIn (hd.heap_39 w.params) mainGlobals x = some (some v))
    (hk : sc.names.lookup x = some .globalImplicit) (hd : (x == Str.ofString "__debug__") = false) (h : Q v s) : wpAny (model pr w) A (eval (.Name x p) (C.env sc)) Q E s :=
  Name_function_global (env := C.env sc) hk0 hk (loadGlobal_global (env := C.env sc) (TB.g.keeps kb) (mg_of XB TB.g hn) h) hd
theorem depth_mark (A : Around) (v : Option Value) : (A.mark v).depth = A.depth := rfl
/-- a word said of an own exception caught -/
theorem caught_word (G : Good w sc dl ul C) {s : Shared} {h' : Heap} {tk : Tok} {m : Str → Option Value} {a cc : Addr} {Q : Flow → Shared → Prop} {E : Value → Shared → Prop} {n1 n2 pp1 pp2 q1 q2 r1 r2 : Pos} {k1 k2 : Nat} {x1 x2 : Str}
    (XB : Frag.In (hd.heap_39 w.params) C.base) (TB : ∃ mean mg mb, Top topProg LW mean mg mb C.base) (F : Fr C.g C.L s.heap m) (hI : C.I s.heap) (fl : Fly s.heap (C.env sc :: C.outer) a (.ref cc) h') (hcc : cc = 44 ∨ cc = 56)
    (hk1 : sc.names.lookup (Str.ofString "FormError") = some .globalImplicit) (hk2 : sc.names.lookup (Str.ofString "SizeError") = some .globalImplicit)
    (hq : ∀ h2 tk2 t2, C.I h2 → KW C h2 → Q (.ret (.str (if cc = 44 then x1 else x2) t2)) { s with heap := h2, toks := tk2 }) :
    wpAny (model pr w) C.A (noteFrame (.ref a) (C.env sc)) (fun _ s₂ => wpAny (model pr w) C.A (setFlight (.ref a) none) (fun _ s₃ => wpAny (model pr w) C.A (handleBy (.ref a) (C.env sc)
      [.ExceptHandler (some (.Name (Str.ofString "FormError") n1)) none [.Return (some (.Constant (.str x1) k1 q1)) r1] pp1, .ExceptHandler (some (.Name (Str.ofString "SizeError") n2)) none [.Return (some (.Constant (.str x2) k2 q2)) r2] pp2]) Q E s₃) E s₂) E { s with heap := h', toks := tk } := by
  obtain ⟨mean, mg, mb, TB⟩ := TB
  obtain ⟨⟨a0, hfl⟩, hkp⟩ := fl
  refine wpAny_looks_onW G.hA rfl hfl fun h4 H4 U4 => ?_
  refine wpAny_landsW H4 fun h5 H5 U5 => ?_
  have U15 : h'.UpToSlots h5 := U4.trans U5
  have kb : Keep C.base h5 := fun b o e => H5.1 b o (hideAll_get _ (F.keep _ _ (G.B.stays b o e)) (base_not G F e))
  obtain ⟨ob, hob, hobc⟩ := H5.there
  have X5 := XB.keeps kb
  -- what stands at the end
  have fin : ∀ h6 tk2 t2, (hideAll s.heap (frs (C.env sc :: C.outer))).StaysIn h6 → h5.UpToSlots h6 → Q (.ret (.str (if cc = 44 then x1 else x2) t2)) { s with heap := h6, toks := tk2 } := fun h6 tk2 t2 st up => by
    have stays : ∀ b o, b ∉ frs (C.env sc :: C.outer) → s.heap.get? b = some o → h6.get? b = some o := fun b o n e => st b o (hideAll_get _ e n)
    refine hq h6 tk2 t2 (G.hi.mono _ _ hI fun b o hb e => stays b o (fun z => ?_) e) ⟨fun b o n e => stays b o (fun z => (L_frs.mp z).elim (fun q => by rw [q, kts_self F] at e; cases e) n) (F.keep b o e), fun b m o e nf => ?_⟩
    · rcases L_frs.mp z with q | q
      · rcases hb with hb | ⟨vs, q0, t, d, _⟩
        · exact G.hidL (q ▸ hb)
        · obtain ⟨oL, es, ep, e1, e2, _⟩ := F.ns
          rw [q, e1] at e; cases e; rw [e2] at d; cases d
      · obtain ⟨_, o', e1, nf⟩ := Heap.FunFrames.mem G.B.frames q
        rcases hb with hb | ⟨vs, q0, t, d, _⟩
        · rw [G.hidn _ hb] at e1; cases e1
        · rw [F.keep _ _ e1] at e; cases e; exact nf _ d
    · obtain ⟨sl, e2⟩ := hkp b (L_frs.mpr (.inr m)) o (F.keep b o e) nf
      obtain ⟨sl3, e3⟩ := (U15.trans up) b { o with slots := sl } e2 nf
      exact ⟨sl3, e3⟩
  obtain ⟨_, _, _, _, _, _, _, _, _, _, _, _, _, _, c44⟩ := (exc44 w).cls
  obtain ⟨_, _, _, _, _, _, _, _, _, _, _, _, _, _, c56⟩ := (exc56 w).cls
  have g44 := X5 _ _ c44
  have g56 := X5 _ _ c56
  refine wpAny_handleBy_cons (codeAny_handlers_test (name_base G.hk XB TB kb (v := .ref 44) (by kernel_rfl) hk1 (by decide) ?_)) (by intro q; cases q)
  rcases hcc with rfl | rfl
  · refine wpAny_excMatches_sub_self (g := s.gens) (d := s.drawn) (t := tk) (os := s.os) g44 hob hobc (by decide) (codeAny_handlers_suite ?_)
    refine lands_againW H5 fun h6 H6 U6 => ?_
    exact wpAny_execs_cons (wpAny_Return_some (wpAny_Constant_str (fin h6 _ _ H6.1 U6)))
  · refine exc_other (g := s.gens) (d := s.drawn) (t := tk) (os := s.os) g56 g44 hob hobc (by decide) (by decide) ?_
    refine wpAny_handleBy_cons (codeAny_handlers_test (name_base G.hk XB TB kb (v := .ref 56) (by kernel_rfl) hk2 (by decide) ?_)) (by intro q; cases q)
    refine wpAny_excMatches_sub_self (g := s.gens) (d := s.drawn) (t := tk) (os := s.os) g56 hob hobc (by decide) (codeAny_handlers_suite ?_)
    refine lands_againW H5 fun h6 H6 U6 => ?_
    exact wpAny_execs_cons (wpAny_Return_some (wpAny_Constant_str (fin h6 _ _ H6.1 U6)))
end

theorem rows_M2a : True := by
  w_top off
  k_with_none
  k_with "mine enter" => (refine wpAny_call ?_; k_dflt (refine' enterP [] ?kX ?kT ?kr ?ko ?kc ?kb ?kl ?_ ?c2 ?c3 ?c4 ?c5; (case kX => k_asm); (case kT => k_asm); (case kr => exact Nat.le_of_ble_eq_true rfl); (case ko => k_is); (case kc => k_is); (case kb => exact BindsTo.of_eq rfl); (case kl => exact locs rfl); (case c2 => exact rfl); (case c3 => exact rfl); (case c4 => exact rfl); (case c5 => decide); k_whole; intro L' h' tk' F' K' l1; (dsimp only [List.map, List.zip, List.zipWith, List.reverse, List.reverseAux] at F'); (have N' := news_enter (hide := []) (news := []) K' l1 (fun _ h => nomatch h)); (dsimp only [hideAll] at F' N'); (try dsimp only); (try k_fold)))
  k_with "exec Raise some none" => (refine raise_ex (w := w) rfl ?_)
  k_with "call ref" => ((with_reducible show wpAny _ _ (call (Value.ref 44) [Value.str _ _]) _ _ _); (with_reducible rename Fr _ _ _ _ => FF); refine mk_exc w (exc44 w) (X.keeps FF.keep) (T.keeps FF.keep) (by rw [depth_under_make]; exact Nat.le_of_ble_eq_true rfl) (fun e h2 tk2 hx => ?_))
  k_with "call ref" => ((with_reducible show wpAny _ _ (call (Value.ref 56) [Value.str _ _]) _ _ _); (with_reducible rename Fr _ _ _ _ => FF); refine mk_exc w (exc56 w) (X.keeps FF.keep) (T.keeps FF.keep) (by rw [depth_under_make]; exact Nat.le_of_ble_eq_true rfl) (fun e h2 tk2 hx => ?_))
  k_with "mine ret" => ((try dsimp only); (with_reducible rename Fr _ _ _ _ => FF); refine hret _ _ _ FF.keep ?_)
  k_with "Raised" => ((with_reducible rename Fr _ _ _ _ => FF); refine Raised.of (by first | exact exc44 w | exact exc56 w) (X.keeps FF.keep) hx ?_; (try dsimp only); (try k_unfold); refine leave_first B FF hx (fun h3 hfly => hexc _ _ _ _ ?_ hfly))
  k_with "subscriptTail" => ((with_reducible show wpAny _ _ (subscriptTail _ (Expr.Slice _ _ none _) (Value.bytes _ _) (Value.ref _)) _ _ _); (with_reducible rename Fr _ _ _ _ => FF); (with_reducible rename News _ _ _ _ => NN); (refine KBc.slice_K (s := ⟨_, _, _, _, _⟩) FF NN rfl (by constructor) (by constructor) ?hz ?_); (case hz => (rw [KBw.ints_length]; l_fact)); intro h2 t2' k2 F2 N2 _; (try simp only [hpick]))
  trivial

set_option linter.unusedSimpArgs false
theorem len0 {α : Type} {l : List α} (h : l.length = 0) : l = [] := List.eq_nil_of_length_eq_zero h
theorem len1 {α : Type} {l : List α} (h : l.length = 1) : ∃ a, l = [a] := by
  match l, h with | [a], _ => exact ⟨a, rfl⟩
theorem len2 {α : Type} {l : List α} (h : l.length = 2) : ∃ a b, l = [a, b] := by
  match l, h with | [a, b], _ => exact ⟨a, b, rfl⟩
theorem len3 {α : Type} {l : List α} (h : l.length = 3) : ∃ a b c, l = [a, b, c] := by
  match l, h with | [a, b, c], _ => exact ⟨a, b, c, rfl⟩
theorem len4 {α : Type} {l : List α} (h : l.length = 4) : ∃ a b c d, l = [a, b, c, d] := by
  match l, h with | [a, b, c, d], _ => exact ⟨a, b, c, d, rfl⟩

set_option linter.unusedVariables false
section
variable {w : World} {sc : Scope} {dl ul : Nat} {C : Cx} {ρ : List (Str × D)}
/-- a function value called from a frame that keeps all -/
theorem call_fn (G : Good w sc dl ul C) {I : Heap → Prop} {D' U' : Nat} {P : Out D → Prop} {f : Addr} {s : Shared} {m : Str → Option Value} {Q E : Value → Shared → Prop} (hinv : ∀ h, C.I h → I h) (F1 : Fr C.g C.L s.heap m) (hI0 : C.I s.heap)
    (cf : ∀ I', HI C.hid I' → (∀ h, I' h → I h) → CTF w C.hid I' D' U' f P (C.z s.heap)) (h1 : dl ≤ D') (h2 : ul ≤ U')
    (hq : ∀ d v h' tk', P (.val d) → Keep s.heap h' → d.rel (C.z h') v → Q v { s with heap := h', toks := tk' }) (he : ∀ c e h' tk', P (.exc c) → Fly s.heap (C.env sc :: C.outer) e (.ref c) h' → E (.ref e) { s with heap := h', toks := tk' }) :
    wpAny (model pr w) C.A (call (.ref f) []) Q E s := by
  obtain ⟨mean, mg, mb, T⟩ := G.T
  let I' : Heap → Prop := fun h => ∀ b o, (b ∈ C.hid ∨ Codey o) → s.heap.get? b = some o → h.get? b = some o
  have hI' : HI C.hid I' := ⟨fun h h' i k b o m e => k b o m (i b o m e), fun h i b m => let ⟨o, e, n⟩ := G.hi.lt _ hI0 b m; ⟨o, i b o (.inl m) e, n⟩⟩
  have kp : ∀ h, I' h → (∀ b o, b ∉ C.hid → s.heap.get? b = some o → h.get? b = some o) → Keep s.heap h := fun h i k b o e => by
    by_cases m : b ∈ C.hid
    · exact i b o (.inl m) e
    · exact k b o m e
  exact wpAny_weaken (cf I' hI' (fun h i => hinv h (G.hi.mono _ _ hI0 i)) (C.env sc :: C.outer) C.base s.heap s mean mg mb Q E (Keep.refl _) (below_hid G F1) (below_all G F1) kp (Nat.le_refl _) (G.X.keeps (stays_hid G F1)) (T.keeps (stays_hid G F1)) (fun _ _ _ e => e)
    (fun d v h' tk' p i k r => hq d v h' tk' p (kp h' i k) r) he) G.hh G.hA (Nat.le_trans G.dep h1) (Nat.le_trans G.uni h2)
end
section
variable (w : World) {hs : List Addr} {I : Heap → Prop} (hI : HI hs I)
include hI
theorem t_word {P : Out D → Prop} {R : D → Prop} (hv : ∀ d, P (.val d) → R d) (hx : ∀ c, P (.exc c) → (c = 44 ∧ R (dS (Str.ofString "form"))) ∨ (c = 56 ∧ R (dS (Str.ofString "size")))) : CTW w hs I 404 70 194 [dFn w hs I 406 80 P] R := by
  refine' ct_enterW (x := Str.ofString "deed") hI ?cr ?co ?cc ?cb ?cx ?cn ?c1 ?c2 ?c3 ?_
  (case cr => decide)
  (case co => k_is)
  (case cc => k_is)
  (case cb => (intro s v; exact BindsTo.of_eq rfl))
  (case cx => rfl)
  (case cn => decide)
  (case c1 => rfl)
  (case c2 => rfl)
  (case c3 => rfl)
  intro C G K hcl _ _ _ _ XB TB
  have eh : C.hid = hs := by rw [K.hid, hcl]; rfl
  subst eh
  refine .mk fun s Q E F hr => ?_
  obtain ⟨hI0, m, F1, Rl⟩ := id F
  obtain ⟨v, e1, f, rfl, fn, cf⟩ := Rl (Str.ofString "deed") _ rfl
  have e2 : m (Str.ofString "deed") = some (.ref f) := (G.val rfl m).symm.trans e1
  have fn' : FnAt f s.heap := let ⟨oc, od, fd, sl, g⟩ := fn; ⟨oc, od, fd, sl, z_sub C _ _ _ g⟩
  refine wpAny_execs_cons (wpAny_Try_except ?_)
  refine wpAny_execs_cons (wpAny_Return_some (Call_ (nameX_L F1 e2 (callWith_F0 fn' ?_) rfl rfl (by decide)) rfl))
  refine call_fn G K.inv F1 hI0 cf (by decide) (by decide) (fun d v h' tk' p k r => ?_) (fun c e h' tk' p fl => ?_)
  · exact hr d v h' tk' (hv d p) (G.hi.mono _ _ hI0 fun b o _ e => k b o e) (kw_of G (F.keep G k)) r
  · rcases hx c p with ⟨rfl, q⟩ | ⟨rfl, q⟩
    · exact caught_word G XB TB F1 hI0 fl (.inl rfl) rfl rfl fun h2 tk2 t2 i kw => hr _ _ h2 tk2 q i kw ⟨t2, rfl⟩
    · exact caught_word G XB TB F1 hI0 fl (.inr rfl) rfl rfl fun h2 tk2 t2 i kw => hr _ _ h2 tk2 q i kw ⟨t2, rfl⟩
theorem t_wordV {P : Out D → Prop} (hx : ∀ c, ¬ P (.exc c)) : CT w hs I 404 70 194 [dFn w hs I 406 80 P] P := by
  refine' ct_enter hI ?cr ?co ?cc ?cb ?cl ?cn ?c1 ?c2 ?c3 ?c4 ?_
  (case cr => decide)
  (case co => k_is)
  (case cc => k_is)
  (case cb => (intro s vs hv; obtain ⟨a, rfl⟩ := len1 hv; exact BindsTo.of_eq rfl))
  (case cl => (simp only [List.map, List.mem_cons, List.not_mem_nil, or_false, forall_eq_or_imp, forall_eq]; decide))
  (case cn => rfl)
  (case c1 => rfl)
  (case c2 => rfl)
  (case c3 => rfl)
  (case c4 => decide)
  intro C G eh eI e3
  subst eh eI
  refine .mk fun s Q E F _ _ hr he => ?_
  obtain ⟨hI0, m, F1, Rl⟩ := id F
  obtain ⟨v, e1, f, rfl, fn, cf⟩ := Rl (Str.ofString "deed") _ rfl
  have e2 : m (Str.ofString "deed") = some (.ref f) := (G.val rfl m).symm.trans e1
  have fn' : FnAt f s.heap := let ⟨oc, od, fd, sl, g⟩ := fn; ⟨oc, od, fd, sl, z_sub C _ _ _ g⟩
  refine wpAny_execs_cons (wpAny_Try_except ?_)
  refine wpAny_execs_cons (wpAny_Return_some (Call_ (nameX_L F1 e2 (callWith_F0 fn' ?_) rfl rfl (by decide)) rfl))
  refine call_fn G (fun _ i => i) F1 hI0 cf (by decide) (by decide) (fun d v h' tk' p k r => ?_) (fun c e h' tk' p fl => (hx c p).elim)
  have F' := F.keep G k
  exact hr d v h' tk' p ⟨F'.1, F'.2.choose, F'.2.choose_spec.1, fun _ _ e => nomatch e⟩ k.kk.s r
end

theorem rows_W25 : True := by
  w_top off
  k_with_none
  k_with "mine enter" => (refine wpAny_call ?_; k_dflt (refine' enterP [] ?kX ?kT ?kr ?ko ?kc ?kb ?kl ?_ ?c2 ?c3 ?c4 ?c5; (case kX => k_asm); (case kT => k_asm); (case kr => exact Nat.le_of_ble_eq_true rfl); (case ko => k_is); (case kc => k_is); (case kb => exact BindsTo.of_eq rfl); (case kl => exact locs rfl); (case c2 => exact rfl); (case c3 => exact rfl); (case c4 => exact rfl); (case c5 => decide); k_whole; intro L' h' tk' F' K' l1; (dsimp only [List.map, List.zip, List.zipWith, List.reverse, List.reverseAux] at F'); (have N' := news_enter (hide := []) (news := []) K' l1 (fun _ h => nomatch h)); (dsimp only [hideAll] at F' N'); (try dsimp only); (try k_fold)))
  k_with "exec Raise some none" => (refine raise_ex (w := w) rfl ?_)
  k_with "call ref" => ((with_reducible show wpAny _ _ (call (Value.ref 44) [Value.str _ _]) _ _ _); (with_reducible rename Fr _ _ _ _ => FF); refine mk_exc w (exc44 w) (X.keeps FF.keep) (T.keeps FF.keep) (by rw [depth_under_make]; exact Nat.le_of_ble_eq_true rfl) (fun e h2 tk2 hx => ?_))
  k_with "call ref" => ((with_reducible show wpAny _ _ (call (Value.ref 56) [Value.str _ _]) _ _ _); (with_reducible rename Fr _ _ _ _ => FF); refine mk_exc w (exc56 w) (X.keeps FF.keep) (T.keeps FF.keep) (by rw [depth_under_make]; exact Nat.le_of_ble_eq_true rfl) (fun e h2 tk2 hx => ?_))
  k_with "mine ret" => ((try dsimp only); (with_reducible rename Fr _ _ _ _ => FF); refine hret _ _ _ FF.keep ?_)
  k_with "Raised" => ((with_reducible rename Fr _ _ _ _ => FF); refine Raised.of (by first | exact exc44 w | exact exc56 w) (X.keeps FF.keep) hx ?_; (try dsimp only); (try k_unfold); refine leave_first B FF hx (fun h3 hfly => hexc _ _ _ _ ?_ hfly))
  k_with "subscriptTail" => ((with_reducible show wpAny _ _ (subscriptTail _ (Expr.Slice _ _ none _) (Value.bytes _ _) (Value.ref _)) _ _ _); (with_reducible rename Fr _ _ _ _ => FF); (with_reducible rename News _ _ _ _ => NN); (refine KBc.slice_K (s := ⟨_, _, _, _, _⟩) FF NN rfl (by constructor) (by constructor) ?hz ?_); (case hz => (rw [KBw.ints_length]; l_fact)); intro h2 t2' k2 F2 N2 _; (try simp only [hpick]))
  trivial

set_option linter.unusedVariables false
section
variable {w : World} {sc : Scope} {dl ul : Nat} {C : Cx} {ρ : List (Str × D)}
theorem exr_cons (G : Good w sc dl ul C) {st : Stmt} {l : List Stmt} {P : D → Prop} (h : Ex1 w sc C ρ st fun o => match o with | .next ρ' => ExR w sc C ρ' (execs l (C.env sc)) P | .ret d => P d | _ => False) : ExR w sc C ρ (execs (st :: l) (C.env sc)) P :=
  .mk fun s Q E F hr => wpAny_execs_cons (h.go s _ E F (fun ρ' h2 tk2 p F2 k2 => p.go { s with heap := h2, toks := tk2 } Q E F2 hr) (fun _ _ _ p => p.elim) (fun d v h2 tk2 p F2 k2 r => hr d v h2 tk2 p F2.1 (kw_of G F2) r) fun _ _ _ p => p.elim)
theorem exr_if (G : Good w sc dl ul C) {t : Expr} {b l : List Stmt} {pos : Pos} {P : D → Prop} {c : Prop} (h : TP w sc C ρ t c) (h1 : c → ExR w sc C ρ (execs b (C.env sc)) P) (h2 : ¬ c → ExR w sc C ρ (execs l (C.env sc)) P) : ExR w sc C ρ (execs (.If t b [] pos :: l) (C.env sc)) P :=
  .mk fun s Q E F hr => wpAny_execs_cons (wpAny_If (h.go s _ E F trivial (fun d v h3 tk3 p F3 k3 r => by
    obtain ⟨x, e, i⟩ := p
    cases e
    cases r
    cases d
    · exact wpAny_execs_nil ((h2 fun z => absurd (i.mpr z) (by decide)).go { s with heap := h3, toks := tk3 } Q E F3 hr)
    · exact (h1 (i.mp rfl)).go { s with heap := h3, toks := tk3 } _ E F3 hr) fun c e s' p => by obtain ⟨x, e, _⟩ := p; cases e))
theorem exr_unset {x : Str} {c : Addr} {v : Value} {ρ' : List (Str × D)} {t : Sem Flow} {P : D → Prop} (h : ExR w sc (C.setc x c v) ρ' t P) {s : Shared} {Q : Flow → Shared → Prop} {E : Value → Shared → Prop} (F : FrD (C.setc x c v) ρ' s.heap)
    (hr : ∀ d v h' tk', P d → C.I h' → KW C h' → d.rel (C.z h') v → Q (.ret v) { s with heap := h', toks := tk' }) : wpAny (model pr w) C.A t Q E s :=
  h.go s Q E F fun d v h' tk' p i k r => hr d v h' tk' p i.1 k r
theorem exr_assignC (G : Good w sc dl ul C) {x : Str} {c : Addr} {p1 pos : Pos} {e : Expr} {l : List Stmt} {P : D → Prop} {d : D} (hc : C.cl.lookup x = some c) (O : Own C.hid C.I c (CellIs c)) (hx : sc.names.lookup x = some .cell) (hs : swapsWith e (some (Expr.Name x p1)) pos.line (C.env sc) = pure false)
    (h : EvV w sc C ρ e d) (hl : ∀ v, Good w sc dl ul (C.setc x c v) → ExR w sc (C.setc x c v) ((x, d) :: ρ) (execs l (C.env sc)) P) : ExR w sc C ρ (execs (.Assign [.Name x p1] e pos :: l) (C.env sc)) P :=
  .mk fun s Q E F hr => wpAny_execs_cons (wpAny_Assign_Name (h.go s _ E F trivial (fun d' v h2 tk2 p F2 k2 r => by
    cases p
    exact frd_setc (s := { s with heap := h2, toks := tk2 }) G F2 r hc O hx fun h3 F3 k3 => exr_unset (hl v (good_setc G hc O.mem (by rw [hx]; exact fun q => nomatch q))) (s := { s with heap := h3, toks := tk2 }) F3 hr) fun _ _ _ p => nomatch (show Out.exc _ = Out.val _ from p)) hs)
theorem exr_assignTC (G : Good w sc dl ul C) {k : Nat} {tpos pos px : Pos} {e : Expr} {qs : List (Str × Pos)} {l : List Stmt} {P : D → Prop} {x : Str} {c : Addr} (hc : C.cl.lookup x = some c) (O : Own C.hid C.I c (CellIs c)) (hx : sc.names.lookup x = some .cell) (hxs : ∀ q ∈ qs, sc.names.lookup q.1 = some .local)
    (hn1 : (assignEach (.Name x px :: qs.map fun q => Expr.Name q.1 q.2) (C.env sc)).length = qs.length + 1)
    (h1 : (assignEach (.Name x px :: qs.map fun q => Expr.Name q.1 q.2) (C.env sc)).map (·.2) = assign (.Name x px) (C.env sc) :: qs.map fun q => assign (.Name q.1 q.2) (C.env sc)) (h2 : (assignEach (.Name x px :: qs.map fun q => Expr.Name q.1 q.2) (C.env sc)).findIdx? (·.1) = none)
    (hs : swapsWithSole [.Tuple (.Name x px :: qs.map fun q => Expr.Name q.1 q.2) k tpos] e pos.line (C.env sc) = pure false) (hw : swappedStores [.Tuple (.Name x px :: qs.map fun q => Expr.Name q.1 q.2) k tpos] e (C.env sc) = pure none)
    (h : Ev w sc C ρ e fun o => match o with | .val d => ∃ d1 ds, (d = dT (d1 :: ds) ∨ d = dL (d1 :: ds)) ∧ qs.length = ds.length ∧ ∀ v, Good w sc dl ul (C.setc x c v) → ExR w sc (C.setc x c v) (insD ((qs.map (·.1)).zip ds) ((x, d1) :: ρ)) (execs l (C.env sc)) P | .exc c => False) :
    ExR w sc C ρ (execs (.Assign [.Tuple (.Name x px :: qs.map fun q => Expr.Name q.1 q.2) k tpos] e pos :: l) (C.env sc)) P :=
  .mk fun s Q E F hr => wpAny_execs_cons (Assign_Tuple (h.go s _ E F trivial (fun d v h3 tk3 p F3 k3 r3 => by
    obtain ⟨d1, ds, hd, hl, p⟩ := p
    refine assign_any (s := { s with heap := h3, toks := tk3 }) G hd r3 F3 (hn1.trans (by rw [hl]; rfl)) h2 fun vs h4 F4 k4 r4 => ?_
    rw [h1]
    obtain ⟨u, us, rfl, r0, r4⟩ := r4
    refine assignInOrder_cons (assign_Name (frd_setc (s := { s with heap := h4, toks := tk3 }) G F4 r0 hc O hx fun h5 F5 k5 => ?_))
    have G' := good_setc (v := u) G hc O.mem (by rw [hx]; exact fun q => nomatch q)
    exact stores (κ := Str × Pos) (f := fun q => assign (.Name q.1 q.2) (C.env sc)) (Q := fun _ s' => wpAny (model pr w) C.A (execs l (C.env sc)) Q E s') (E := E) (g := (·.1)) G' (fun x v Q E s z => assign_Name z) qs ds us _ { s with heap := h5, toks := tk3 } F5 (r4.keep k5.z) hxs hl fun h6 tk6 F6 k6 =>
      exr_unset (p u G') (s := { s with heap := h6, toks := tk6 }) F6 hr) fun _ _ _ p => p.elim) hs hw)
/-- return f(x) == 'text', where f may have caught exceptions -/
theorem exr_wordEq (G : Good w sc dl ul C) {f y : Str} {a : Addr} {e : Expr} {p1 p2 p3 p4 p5 : Pos} {k : Nat} {d0 : D} {b : Bool} {D' U' : Nat} {P' : D → Prop} (XB : Frag.In (hd.heap_39 w.params) C.base) (TB : ∃ mean mg mb, Top topProg LW mean mg mb C.base)
    (hn : nsIn (hd.heap_39 w.params) mainGlobals f = some (some (.ref a))) (hk : sc.names.lookup f = some .globalImplicit) (hdb : (f == Str.ofString "__debug__") = false) (hki : keepIn (hd.heap_39 w.params) (.ref a) = true)
    (hc : eval (Expr.Call (.Name f p1) [e] [] p2) (C.env sc) = do
          let x ← eval (.Name f p1) (C.env sc)
          callWith p2 x [] (backTo p2 (starEach [e] (C.env sc))) (backToKw p2 (keywordEach [] (C.env sc))))
    (hs : starEach [e] (C.env sc) = (false, eval e (C.env sc)) :: starEach [] (C.env sc)) (hx : ((backTo p2 (starEach [] (C.env sc))).any fun x => x.fst) = false) (hb : behindInMarks .Eq (.Constant (.str y) k p3) = false)
    (h : EvV w sc C ρ e d0) (c : CTW w C.hid C.I D' U' a [d0] P') (h1 : dl ≤ D') (h2 : ul ≤ U') (hp : ∀ d, P' d → ∃ x, d = dS x ∧ (x == y) = b) : ExR w sc C ρ (execs [.Return (some (.Compare (.Call (.Name f p1) [e] [] p2) [.Eq] [.Constant (.str y) k p3] p4)) p5] (C.env sc)) (· = dB b) := by
  refine .mk fun s Q E F hr => ?_
  obtain ⟨hI, m, F1, R⟩ := id F
  obtain ⟨mean, mg, mb, T⟩ := G.T
  obtain ⟨mean', mg', mb', TB⟩ := TB
  refine wpAny_execs_cons (wpAny_Return_some (wpAny_Compare1 (Call_ (nameX_K F1 G.X (topRead_of T) hn (callWith_K G.X hki (args_cons (h.go s _ E F trivial (fun d v h3 tk3 p F3 k3 r => args_nil ?_) (fun _ _ _ p => nomatch (show Out.exc _ = Out.val _ from p))) hs) hs hx) G.hk hk hdb) hc) hb))
  cases p
  obtain ⟨hI3, m3, F4, _⟩ := id F3
  refine ⟨G.X.keeps F4.keep, ?_⟩
  refine wpAny_weaken (c [v] (C.env sc :: C.outer) C.base { s with heap := h3, toks := tk3 } mean' mg' mb' _ E (below_hid G F4) XB TB hI3 ⟨v, [], rfl, r, rfl⟩ (fun d v h' tk' p i k fk r' => ?_)) G.hh G.hA (Nat.le_trans G.dep h1) (Nat.le_trans G.uni h2)
  obtain ⟨x, rfl, hxy⟩ := hp d p
  obtain ⟨t, rfl⟩ := r'
  refine wpAny_Constant_str (eq_str ?_)
  refine hr _ _ h' _ rfl i ⟨fun b o n e => ?_, fun b m o e nf => fk b (L_frs.mpr (.inr m)) o (F4.keep b o e) nf⟩ (congrArg Value.bool hxy)
  exact k b o (fun z => (L_frs.mp z).elim (fun q => by rw [q, kts_self F4] at e; cases e) n) (fun z => by rw [G.hidn b z] at e; cases e) (F4.keep b o e)
/-- a call of a function that may have caught exceptions, from the lowest frame -/
theorem op_callW (G : Good w sc dl ul C) {a : Addr} {ds : List D} {D' U' : Nat} {P' : D → Prop} {P : Out D → Prop} (ho : C.outer = []) (XB : Frag.In (hd.heap_39 w.params) C.base) (TB : ∃ mean mg mb, Top topProg LW mean mg mb C.base) (c : CTW w C.hid C.I D' U' a ds P') (h1 : dl ≤ D') (h2 : ul ≤ U') (hp : ∀ d, P' d → P (.val d)) : OpL w sc C ρ (callF (.ref a)) ds P := by
  intro vs; refine .mk fun s Q E F r hq he => ?_
  obtain ⟨hI0, m, F1, R⟩ := id F
  obtain ⟨mean, mg, mb, TB⟩ := TB
  refine wpAny_weaken (c vs (C.env sc :: C.outer) C.base s mean mg mb Q E (below_hid G F1) XB TB hI0 r (fun d v h' tk' p i k fk r' => ?_)) G.hh G.hA (Nat.le_trans G.dep h1) (Nat.le_trans G.uni h2)
  have hf : ∀ b, b ∈ frs (C.env sc :: C.outer) → b = C.L := fun b z => (L_frs.mp z).elim id fun q => by rw [ho] at q; cases q
  have kk : KK C s.heap h' := fun b o n e => k b o (fun z => n (hf b z ▸ List.mem_cons_self)) (fun z => n (List.mem_cons_of_mem _ z)) e
  obtain ⟨oL, es, ep, e1, e2, e3⟩ := F1.ns
  obtain ⟨sl, e4⟩ := fk C.L (L_frs.mpr (.inl rfl)) oL e1 fun vs q => by rw [e2] at q; cases q
  exact hq d v h' tk' (hp d p) ⟨i, m, ⟨⟨{ oL with slots := sl }, es, ep, e4, e2, e3⟩, fun b o e => k b o (fun z => by rw [hf b z, kts_self F1] at e; cases e) (fun z => by rw [G.hidn b z] at e; cases e) (F1.keep b o e), F1.above⟩, fun x d e => let ⟨v, e1, r⟩ := R x d e; ⟨v, e1, d.mono _ _ _ kk.z r⟩⟩ kk r'
end

theorem rows_W26 : True := by
  w_top off
  k_with_none
  k_with "mine enter" => (refine wpAny_call ?_; k_dflt (refine' enterP [] ?kX ?kT ?kr ?ko ?kc ?kb ?kl ?_ ?c2 ?c3 ?c4 ?c5; (case kX => k_asm); (case kT => k_asm); (case kr => exact Nat.le_of_ble_eq_true rfl); (case ko => k_is); (case kc => k_is); (case kb => exact BindsTo.of_eq rfl); (case kl => exact locs rfl); (case c2 => exact rfl); (case c3 => exact rfl); (case c4 => exact rfl); (case c5 => decide); k_whole; intro L' h' tk' F' K' l1; (dsimp only [List.map, List.zip, List.zipWith, List.reverse, List.reverseAux] at F'); (have N' := news_enter (hide := []) (news := []) K' l1 (fun _ h => nomatch h)); (dsimp only [hideAll] at F' N'); (try dsimp only); (try k_fold)))
  k_with "exec Raise some none" => (refine raise_ex (w := w) rfl ?_)
  k_with "call ref" => ((with_reducible show wpAny _ _ (call (Value.ref 44) [Value.str _ _]) _ _ _); (with_reducible rename Fr _ _ _ _ => FF); refine mk_exc w (exc44 w) (X.keeps FF.keep) (T.keeps FF.keep) (by rw [depth_under_make]; exact Nat.le_of_ble_eq_true rfl) (fun e h2 tk2 hx => ?_))
  k_with "call ref" => ((with_reducible show wpAny _ _ (call (Value.ref 56) [Value.str _ _]) _ _ _); (with_reducible rename Fr _ _ _ _ => FF); refine mk_exc w (exc56 w) (X.keeps FF.keep) (T.keeps FF.keep) (by rw [depth_under_make]; exact Nat.le_of_ble_eq_true rfl) (fun e h2 tk2 hx => ?_))
  k_with "mine ret" => ((try dsimp only); (with_reducible rename Fr _ _ _ _ => FF); refine hret _ _ _ FF.keep ?_)
  k_with "Raised" => ((with_reducible rename Fr _ _ _ _ => FF); refine Raised.of (by first | exact exc44 w | exact exc56 w) (X.keeps FF.keep) hx ?_; (try dsimp only); (try k_unfold); refine leave_first B FF hx (fun h3 hfly => hexc _ _ _ _ ?_ hfly))
  k_with "subscriptTail" => ((with_reducible show wpAny _ _ (subscriptTail _ (Expr.Slice _ _ none _) (Value.bytes _ _) (Value.ref _)) _ _ _); (with_reducible rename Fr _ _ _ _ => FF); (with_reducible rename News _ _ _ _ => NN); (refine KBc.slice_K (s := ⟨_, _, _, _, _⟩) FF NN rfl (by constructor) (by constructor) ?hz ?_); (case hz => (rw [KBw.ints_length]; l_fact)); intro h2 t2' k2 F2 N2 _; (try simp only [hpick]))
  trivial

set_option linter.unusedVariables false
section
open SeqAt
/-- values told alike are equal -/
def Same (k : Nat) (d : D) : Prop := ∀ (h : Heap) (A : Around) (s : Shared) (v1 v2 : Value), A.units + k < cLine → Keep h s.heap → d.rel h v1 → d.rel h v2 → EqAt A s v1 v2 true
theorem same_I {k : Nat} {i : Int} : Same k (dI i) := fun h A s v1 v2 _ _ ⟨t, e1⟩ ⟨u, e2⟩ => by
  subst e1 e2
  have := EqAt.int_int (A := A) (s := s) i t i u
  rw [beq_self_eq_true] at this; exact this
theorem same_S {k : Nat} {x : Str} : Same k (dS x) := fun h A s v1 v2 _ _ ⟨t, e1⟩ ⟨u, e2⟩ => by
  subst e1 e2
  have := EqAt.str_str (A := A) (s := s) x t x u
  rw [beq_self_eq_true] at this; exact this
theorem same_Y {k : Nat} {b : Array UInt8} : Same k (dY b) := fun h A s v1 v2 _ _ ⟨_, t, e1⟩ ⟨_, u, e2⟩ prog w E Q hq => by
  subst e1 e2
  unfold eqBool
  refine wpAny_holding ?_
  refine wpAny_ite_split (fun _ => wpAny_bind (wpAny_rule (wpAny_pure hq))) (fun _ => ?_)
  exact wpAny_bind (eq_bytes (wpAny_truthy_bool (by rw [beq_self_eq_true]; exact hq)))
theorem rels_same {k : Nat} {h : Heap} (l : List D) : ∀ {vs us : List Value}, (∀ d ∈ l, Same k d) → Rels h l vs → Rels h l us → ∀ (j : Nat) (h1 : j < vs.length) (h2 : j < us.length), ∃ d, Same k d ∧ d.rel h vs[j] ∧ d.rel h us[j] := by
  induction l with
  | nil => intro vs us _ r _ j h1; cases r; exact absurd h1 (Nat.not_lt_zero _)
  | cons d l ih =>
    rintro vs us hl ⟨v, vs, rfl, r0, r⟩ ⟨u, us, rfl, q0, q⟩ j h1 h2
    cases j with
    | zero => exact ⟨d, hl d List.mem_cons_self, r0, q0⟩
    | succ j => exact ih (fun d m => hl d (List.mem_cons_of_mem _ m)) r q j (Nat.lt_of_succ_lt_succ h1) (Nat.lt_of_succ_lt_succ h2)
theorem same_T {k : Nat} {l : List D} (hl : ∀ d ∈ l, Same k d) : Same (k + 1) (dT l) := fun h A s v1 v2 hu kk ⟨a, vs, e1, t1, r1⟩ ⟨b, us, e2, t2, r2⟩ => by
  subst e1 e2
  by_cases hab : a = b
  · subst hab; exact EqAt.same _
  · have hlen : vs.length = us.length := by rw [r1.length, r2.length]
    have := RcAt.tuples (A := A) (s := s) (e := fun _ => true) (isTup_keep kk t1) (isTup_keep kk t2) (by omega) fun j h1 h2 => by
      obtain ⟨d, hd, q1, q2⟩ := rels_same l hl r1 r2 j (by simpa using h1) (by simpa using h2)
      exact hd h A.in1 s _ _ (by rw [units_in1]; omega) kk q1 q2
    have e : ((List.range (min vs.toArray.size us.toArray.size)).all (fun _ => true) && vs.toArray.size == us.toArray.size) = true := by simp [hlen]
    rw [e] at this
    exact EqAt.of_refs hab this
def Sm (l : List D) : Prop := ∀ d ∈ l, ∀ k, Same k d
theorem sm_nil : Sm [] := fun _ m => nomatch m
theorem sm_cons {d : D} {l : List D} (h : ∀ k, Same k d) (hl : Sm l) : Sm (d :: l) := fun e m => by
  rcases List.mem_cons.mp m with rfl | m
  · exact h
  · exact hl e m
theorem sm_T {l : List D} (h : Sm l) : ∀ k, Same (k + 1) (dT l) := fun k => same_T fun d m => h d m k
section
variable {w : World} {sc : Scope} {dl ul : Nat} {C : Cx} {ρ : List (Str × D)}
theorem cv_eqY {b : Array UInt8} : Cm2 w sc C ρ .Eq (dY b) (dY b) (· = .val true) := by
  intro v1 v2; refine .mk ?_; rintro s Q E F ⟨⟨_, t, rfl⟩, ⟨_, u, rfl⟩⟩ hq he
  exact eq_bytes (hq _ _ s.heap s.toks rfl F (KK.refl _) (congrArg Value.bool (beq_self_eq_true _)))
theorem cv_eqL (G : Good w sc dl ul C) (hu : ul ≤ 9000) {ds : List D} (hl : ∀ d ∈ ds, Same 100 d) : Cm2 w sc C ρ .Eq (dL ds) (dL ds) (· = .val true) := by
  intro v1 v2; refine .mk ?_; rintro s Q E F ⟨⟨a, vs, rfl, t1, r1⟩, ⟨b, us, rfl, t2, r2⟩⟩ hq he
  have hA := Nat.le_trans G.uni hu
  have hlen : vs.toArray.size = us.toArray.size := by rw [List.size_toArray, List.size_toArray, r1.length, r2.length]
  have := RcAt.lists (A := C.A) (s := s) (e := fun _ => true) (isList_keep (z_sub C _) t1.isList) (isList_keep (z_sub C _) t2.isList) hlen (by rw [cLine_is]; omega) fun j h1 h2 => by
    obtain ⟨d, hd, q1, q2⟩ := rels_same ds hl r1 r2 j (by simpa using h1) (by simpa using h2)
    exact hd _ C.A.in1 s _ _ (by rw [units_in1, cLine_is]; omega) (z_sub C _) q1 q2
  exact this pr w E Q (hq _ _ s.heap s.toks rfl F (KK.refl _) (congrArg Value.bool (by simp)))
theorem cp_neL (G : Good w sc dl ul C) (hu : ul ≤ 9000) {ds : List D} (hl : ∀ d ∈ ds, Same 100 d) : Cm2 w sc C ρ .NotEq (dL ds) (dL ds) fun o => ∃ v, o = .val v ∧ (v = true ↔ False) := by
  intro v1 v2; refine .mk ?_; rintro s Q E F ⟨⟨a, vs, rfl, t1, r1⟩, ⟨b, us, rfl, t2, r2⟩⟩ hq he
  have hA := Nat.le_trans G.uni hu
  have hlen : vs.toArray.size = us.toArray.size := by rw [List.size_toArray, List.size_toArray, r1.length, r2.length]
  have := RcNeAt.lists (A := C.A) (s := s) (e := fun _ => true) (isList_keep (z_sub C _) t1.isList) (isList_keep (z_sub C _) t2.isList) hlen (by rw [cLine_is]; omega) fun j h1 h2 => by
    obtain ⟨d, hd, q1, q2⟩ := rels_same ds hl r1 r2 j (by simpa using h1) (by simpa using h2)
    exact hd _ C.A.in1 s _ _ (by rw [units_in1, cLine_is]; omega) (z_sub C _) q1 q2
  exact this pr w E Q (hq false _ s.heap s.toks ⟨false, rfl, by simp⟩ F (KK.refl _) (congrArg Value.bool (by simp)))
theorem cp_nes {a b : Str} : Cm2 w sc C ρ .NotEq (dS a) (dS b) fun o => ∃ v, o = .val v ∧ (v = true ↔ (a == b) = false) := by
  intro v1 v2; refine .mk ?_; rintro s Q E F ⟨⟨t, rfl⟩, ⟨u, rfl⟩⟩ hq he
  exact ne_str (hq (!(a == b)) _ s.heap s.toks ⟨_, rfl, by cases a == b <;> simp⟩ F (KK.refl _) rfl)
theorem v_and {e1 e2 : Expr} {pos : Pos} {b : Bool} (h1 : EvV w sc C ρ e1 (dB true)) (h2 : EvV w sc C ρ e2 (dB b)) : EvV w sc C ρ (.BoolOp .And [e1, e2] pos) (dB b) :=
  .mk fun s Q E F z hq he => BoolOp_and (h1.go s _ E F z (fun d v h' tk' p F' k r => by
    cases p; cases r
    exact wpAny_truthy_bool (h2.go { s with heap := h', toks := tk' } Q E F' z (fun d v h3 tk3 p F3 k3 r => hq d v h3 tk3 p F3 (k.trans k3) r) fun _ _ _ p => nomatch (show Out.exc _ = Out.val _ from p))) fun _ _ _ p => nomatch (show Out.exc _ = Out.val _ from p))
end
end

theorem rows_W27 : True := by
  w_top off
  k_with_none
  k_with "mine enter" => (refine wpAny_call ?_; k_dflt (refine' enterP [] ?kX ?kT ?kr ?ko ?kc ?kb ?kl ?_ ?c2 ?c3 ?c4 ?c5; (case kX => k_asm); (case kT => k_asm); (case kr => exact Nat.le_of_ble_eq_true rfl); (case ko => k_is); (case kc => k_is); (case kb => exact BindsTo.of_eq rfl); (case kl => exact locs rfl); (case c2 => exact rfl); (case c3 => exact rfl); (case c4 => exact rfl); (case c5 => decide); k_whole; intro L' h' tk' F' K' l1; (dsimp only [List.map, List.zip, List.zipWith, List.reverse, List.reverseAux] at F'); (have N' := news_enter (hide := []) (news := []) K' l1 (fun _ h => nomatch h)); (dsimp only [hideAll] at F' N'); (try dsimp only); (try k_fold)))
  k_with "exec Raise some none" => (refine raise_ex (w := w) rfl ?_)
  k_with "call ref" => ((with_reducible show wpAny _ _ (call (Value.ref 44) [Value.str _ _]) _ _ _); (with_reducible rename Fr _ _ _ _ => FF); refine mk_exc w (exc44 w) (X.keeps FF.keep) (T.keeps FF.keep) (by rw [depth_under_make]; exact Nat.le_of_ble_eq_true rfl) (fun e h2 tk2 hx => ?_))
  k_with "call ref" => ((with_reducible show wpAny _ _ (call (Value.ref 56) [Value.str _ _]) _ _ _); (with_reducible rename Fr _ _ _ _ => FF); refine mk_exc w (exc56 w) (X.keeps FF.keep) (T.keeps FF.keep) (by rw [depth_under_make]; exact Nat.le_of_ble_eq_true rfl) (fun e h2 tk2 hx => ?_))
  k_with "mine ret" => ((try dsimp only); (with_reducible rename Fr _ _ _ _ => FF); refine hret _ _ _ FF.keep ?_)
  k_with "Raised" => ((with_reducible rename Fr _ _ _ _ => FF); refine Raised.of (by first | exact exc44 w | exact exc56 w) (X.keeps FF.keep) hx ?_; (try dsimp only); (try k_unfold); refine leave_first B FF hx (fun h3 hfly => hexc _ _ _ _ ?_ hfly))
  k_with "subscriptTail" => ((with_reducible show wpAny _ _ (subscriptTail _ (Expr.Slice _ _ none _) (Value.bytes _ _) (Value.ref _)) _ _ _); (with_reducible rename Fr _ _ _ _ => FF); (with_reducible rename News _ _ _ _ => NN); (refine KBc.slice_K (s := ⟨_, _, _, _, _⟩) FF NN rfl (by constructor) (by constructor) ?hz ?_); (case hz => (rw [KBw.ints_length]; l_fact)); intro h2 t2' k2 F2 N2 _; (try simp only [hpick]))
  trivial

set_option linter.unusedVariables false
section
variable {w : World} {sc : Scope} {dl ul : Nat} {C : Cx} {ρ : List (Str × D)}
theorem clos_sub {clos cl : List (Str × Addr)} (h : ∀ p ∈ clos, cl.lookup p.1 = some p.2) : ∀ x c, clos.lookup x = some c → cl.lookup x = some c := fun x c e => h (x, c) (lookup_in e)
theorem no_local {names : List (Str × NameKind)} (h : ∀ p ∈ names, p.2 ≠ .local) : ∀ x, names.lookup x ≠ some .local := fun x e => by
  induction names with
  | nil => cases e
  | cons a l ih =>
    rw [List.lookup_cons] at e
    by_cases q : (x == a.1) = true
    · rw [q] at e; exact h a List.mem_cons_self (Option.some.inj e)
    · rw [Bool.not_eq_true] at q; rw [q] at e; exact ih (fun p m => h p (List.mem_cons_of_mem _ m)) e
theorem tp_name {x : Str} {p : Pos} {b : Bool} (h : EvV w sc C ρ (.Name x p) (dB b)) : TP w sc C ρ (.Name x p) (b = true) :=
  .mk fun s Q E F z hq he => wpAny_isTrue_value (h.go s _ E F z (fun d v h' tk' p F' k r => by
    cases p; cases r
    exact wpAny_truthy_bool (hq b b h' tk' ⟨b, rfl, Iff.rfl⟩ F' k rfl)) fun _ _ _ p => nomatch (show Out.exc _ = Out.val _ from p))
/-- a call of a def with no arguments -/
theorem ev_call0 (G : Good w sc dl ul C) {f : Str} {a : Addr} {p1 p2 : Pos} {P : Out D → Prop} (hn : nsIn (hd.heap_39 w.params) mainGlobals f = some (some (.ref a))) (hk : sc.names.lookup f = some .globalImplicit) (hdb : (f == Str.ofString "__debug__") = false) (hki : keepIn (hd.heap_39 w.params) (.ref a) = true)
    (hc : eval (Expr.Call (.Name f p1) [] [] p2) (C.env sc) = do
          let x ← eval (.Name f p1) (C.env sc)
          callWith p2 x [] (backTo p2 (starEach [] (C.env sc))) (backToKw p2 (keywordEach [] (C.env sc))))
    (h : OpL w sc C ρ (callF (.ref a)) [] P) : Ev w sc C ρ (.Call (.Name f p1) [] [] p2) P := by
  refine .mk fun s Q E F z hq he => ?_
  obtain ⟨hI, m, F1, R⟩ := id F
  obtain ⟨mean, mg, mb, T⟩ := G.T
  exact Call_ (nameX_K F1 G.X (topRead_of T) hn (callWith_K0 (G.X.keeps F1.keep) hki ((h []).go s Q E F rfl hq he)) G.hk hk hdb) hc
/-- range(n) -/
def dR (n : Nat) : D := ⟨fun h v => ∃ r t u v', v = .ref r ∧ IsRange h r 0 n 1 t u v', fun h h' v k ⟨r, t, u, v', e, x⟩ => ⟨r, t, u, v', e, k _ _ x⟩⟩
theorem o_range (G : Good w sc dl ul C) {n : Nat} : OpL w sc C ρ (callF (.type "range")) [dI n] (· = .val (dR n)) := by
  intro vs; refine .mk ?_; rintro s Q E F ⟨v, _, rfl, ⟨t, rfl⟩, rfl⟩ hq he
  refine call_range_1 ?_
  have kp : Keep s.heap (s.heap.push { cls := .type "range", data := .fields #[.int 0 s.toks, .int n t, .int 1 (s.toks + 1)] }) := fun b o e => Heap.get?_push_of_some _ e
  exact hq _ _ _ _ rfl (F.keep G kp) kp.kk ⟨_, _, _, _, rfl, hideAll_get _ (IsRange.new ..) (not_hid G F)⟩
theorem it_range (G : Good w sc dl ul C) {n : Nat} (hn : n ≤ 1000) {x : Str} {px : Pos} : Itr w C (dR n) n (fun i => dI i) (.Name x px) := by
  rintro v s Q E F ⟨r, t, u, v', rfl, hr⟩ h
  have hr' : IsRange s.heap r 0 n 1 t u v' := z_sub C _ _ _ hr
  have hsz : Builtin.Range.rangeSize 0 (n : Int) 1 = (n : Int) := by rw [rangeSize_nat]; omega
  refine wpAny_pyIter_range hr' ?_ (h s.heap.objs.size _ [] _ _ ⟨fun b o e => Heap.get?_push_of_some _ e, rfl, Walks.range G.hh _ 0 1 n, fun _ m => (nomatch m), ?_, fun i h st => ⟨_, st, fun ⟨vs, q, t, d, e⟩ => ?_⟩, fun i v hi p => ?_, fun _ _ _ _ _ _ q => wpAny_of_eq (a := ()) rfl q⟩)
  · exact small_one (by decide) (by decide) (by omega) (by omega)
  · show IsRangeIter _ _ _ _ _
    rw [hsz, show (n : Int) - ((0 : Nat) : Int) = n from Int.sub_zero _]
    exact Heap.get?_push_size _ rfl
  · cases d; simp [rawInt] at e
  · obtain ⟨t, rfl⟩ := p
    exact ⟨t, by simp⟩
/-- a tuple of two names for each turn -/
theorem asg_two (G : Good w sc dl ul C) {x y : Str} {px py tpos : Pos} {k : Nat} {d1 d2 : D} (hx : sc.names.lookup x = some .local) (hy : sc.names.lookup y = some .local) (h1 : assignEach [.Name x px, .Name y py] (C.env sc) = [(false, assign (.Name x px) (C.env sc)), (false, assign (.Name y py) (C.env sc))]) :
    Asg w sc C (.Tuple [.Name x px, .Name y py] k tpos) (dT [d1, d2]) (fun ρ => (y, d2) :: (x, d1) :: ρ) := by
  intro ρ s Q E v F r h
  refine assign_any G (.inl rfl) r F (by rw [h1]; rfl) (by rw [h1]; rfl) fun vs h' F' k' r' => ?_
  rw [h1]
  exact stores (E := E) G (κ := Str × Pos) (g := (·.1)) (f := fun q => assign (.Name q.1 q.2) (C.env sc)) (fun x v Q E s z => assign_Name z) [(x, px), (y, py)] [d1, d2] vs ρ { s with heap := h' } F' r' (fun q m => by
    rcases List.mem_cons.mp m with rfl | m
    · exact hx
    · rw [List.mem_singleton.mp m]; exact hy) rfl fun h5 tk5 F5 k5 => h h5 tk5 F5 (k'.trans k5)
end

theorem rows_W28 : True := by
  w_top off
  k_with_none
  k_with "mine enter" => (refine wpAny_call ?_; k_dflt (refine' enterP [] ?kX ?kT ?kr ?ko ?kc ?kb ?kl ?_ ?c2 ?c3 ?c4 ?c5; (case kX => k_asm); (case kT => k_asm); (case kr => exact Nat.le_of_ble_eq_true rfl); (case ko => k_is); (case kc => k_is); (case kb => exact BindsTo.of_eq rfl); (case kl => exact locs rfl); (case c2 => exact rfl); (case c3 => exact rfl); (case c4 => exact rfl); (case c5 => decide); k_whole; intro L' h' tk' F' K' l1; (dsimp only [List.map, List.zip, List.zipWith, List.reverse, List.reverseAux] at F'); (have N' := news_enter (hide := []) (news := []) K' l1 (fun _ h => nomatch h)); (dsimp only [hideAll] at F' N'); (try dsimp only); (try k_fold)))
  k_with "exec Raise some none" => (refine raise_ex (w := w) rfl ?_)
  k_with "call ref" => ((with_reducible show wpAny _ _ (call (Value.ref 44) [Value.str _ _]) _ _ _); (with_reducible rename Fr _ _ _ _ => FF); refine mk_exc w (exc44 w) (X.keeps FF.keep) (T.keeps FF.keep) (by rw [depth_under_make]; exact Nat.le_of_ble_eq_true rfl) (fun e h2 tk2 hx => ?_))
  k_with "call ref" => ((with_reducible show wpAny _ _ (call (Value.ref 56) [Value.str _ _]) _ _ _); (with_reducible rename Fr _ _ _ _ => FF); refine mk_exc w (exc56 w) (X.keeps FF.keep) (T.keeps FF.keep) (by rw [depth_under_make]; exact Nat.le_of_ble_eq_true rfl) (fun e h2 tk2 hx => ?_))
  k_with "mine ret" => ((try dsimp only); (with_reducible rename Fr _ _ _ _ => FF); refine hret _ _ _ FF.keep ?_)
  k_with "Raised" => ((with_reducible rename Fr _ _ _ _ => FF); refine Raised.of (by first | exact exc44 w | exact exc56 w) (X.keeps FF.keep) hx ?_; (try dsimp only); (try k_unfold); refine leave_first B FF hx (fun h3 hfly => hexc _ _ _ _ ?_ hfly))
  k_with "subscriptTail" => ((with_reducible show wpAny _ _ (subscriptTail _ (Expr.Slice _ _ none _) (Value.bytes _ _) (Value.ref _)) _ _ _); (with_reducible rename Fr _ _ _ _ => FF); (with_reducible rename News _ _ _ _ => NN); (refine KBc.slice_K (s := ⟨_, _, _, _, _⟩) FF NN rfl (by constructor) (by constructor) ?hz ?_); (case hz => (rw [KBw.ints_length]; l_fact)); intro h2 t2' k2 F2 N2 _; (try simp only [hpick]))
  trivial

set_option linter.unusedVariables false
/-- the frame with the source list hidden -/
abbrev Cx.src (C : Cx) (a : Addr) : Cx := { C with hid := a :: C.hid, I := fun h => C.I h ∧ SrcAt a h }
def outR (P : SOut → Prop) : SOut → Prop
  | .ret d => P (.ret d)
  | .exc c => P (.exc c)
  | _ => False
theorem srcAt_keep {h h' : Heap} {a b : Addr} (n : a ≠ b) (x : SrcAt a h) (k : ∀ x o, x ≠ b → h.get? x = some o → h'.get? x = some o) : SrcAt a h' := by
  obtain ⟨x, t, y, u, ⟨o, e, r⟩, q⟩ := x
  exact ⟨x, t, y, u, ⟨o, k a o n e, r⟩, q⟩
theorem srcAt_not {h : Heap} {a : Addr} (x : SrcAt a h) : ∃ o, h.get? a = some o ∧ ¬ Codey o := by
  obtain ⟨x, t, y, u, ⟨o, e, _, n, d⟩, q⟩ := x
  exact ⟨o, e, fun ⟨vs, q, t, d2, _⟩ => by rw [d] at d2; cases d2⟩
section
variable {w : World} {sc : Scope} {dl ul : Nat} {C : Cx} {ρ : List (Str × D)}
theorem own_src {a : Addr} (hi : HI C.hid C.I) (ha : a ∉ C.hid) : Own (C.src a).hid (C.src a).I a (SrcAt a) :=
  ⟨List.mem_cons_self, fun h i => i.2, fun h h' i k e => ⟨hi.mono _ _ i.1 fun b o hb e1 => e b o (fun q => by
    subst q
    rcases hb with hb | hb
    · exact ha hb
    · obtain ⟨o', e2, n⟩ := srcAt_not i.2; rw [e1] at e2; cases e2; exact n hb) e1, k⟩⟩
theorem own_src' {a b : Addr} {K : Heap → Prop} (O : Own C.hid C.I b K) (n : a ≠ b) : Own (C.src a).hid (C.src a).I b K := O.and _ (List.mem_cons_of_mem _ O.mem) fun _ _ e k => srcAt_keep n e k
theorem good_src (G : Good w sc dl ul C) {a : Addr} (h1 : a ≠ C.L) (h2 : C.g.get? a = none) : Good w sc dl ul (C.src a) :=
  ⟨G.hh, G.hA, G.hAd, G.dep, G.uni, G.B, G.X, G.T, G.hk, ⟨fun h h' i k => ⟨G.hi.mono _ _ i.1 fun b o m => k b o (m.imp (List.mem_cons_of_mem _) id), let ⟨x, t, y, u, ⟨o, e, r⟩, q⟩ := i.2; ⟨x, t, y, u, ⟨o, k a o (.inl List.mem_cons_self) e, r⟩, q⟩⟩, fun h i b m => by
    rcases List.mem_cons.mp m with rfl | m
    · exact srcAt_not i.2
    · exact G.hi.lt _ i.1 b m⟩, fun m => (List.mem_cons.mp m).elim (fun e => h1 e.symm) G.hidL, fun b m => (List.mem_cons.mp m).elim (fun e => e ▸ h2) (G.hidn b), G.Bx, fun h m F i => G.kx h m F i.1, G.ghl, fun x v e => let ⟨c, e1, k⟩ := G.ghc x v e; ⟨c, e1, fun h i => k h i.1⟩⟩
theorem z_src {a : Addr} (h : Heap) : Keep ((C.src a).z h) (C.z h) := fun b x e => by
  refine hideAll_get _ (of_hideAll _ e) fun m => ?_
  have q : b ∈ (C.src a).L :: (frs (C.src a).outer ++ (C.src a).hid) := by
    rcases List.mem_cons.mp m with r | r
    · exact r ▸ List.mem_cons_self
    · rcases List.mem_append.mp r with r | r
      · exact List.mem_cons_of_mem _ (List.mem_append_left _ r)
      · exact List.mem_cons_of_mem _ (List.mem_append_right _ (List.mem_cons_of_mem _ r))
  have := hideAll_none (h := h) _ q
  unfold Cx.z at e; rw [this] at e; cases e
/-- the source list made by a call, hidden from here on -/
theorem ex_adopt (G : Good w sc dl ul C) (hst : C.strict = false) {x : Str} {p1 pos : Pos} {e : Expr} {l : List Stmt} {P : SOut → Prop} (hx : sc.names.lookup x = some .local) (hs : swapsWith e (some (Expr.Name x p1)) pos.line (C.env sc) = pure false)
    (h : Ev w sc C ρ e fun o => match o with | .val d => ∃ i j, d = dO C.g [dI i, dI j] ∧ (0 ≤ i ∧ 0 ≤ j ∧ j < 2147483647) ∧ ∀ a, a ∉ C.hid → Good w sc dl ul (C.src a) → Ex w sc (C.src a) [(x, dV (.ref a))] l (outR P) | .exc c => P (.exc c)) : Ex w sc C ρ (.Assign [.Name x p1] e pos :: l) P :=
  .mk fun s Q E F hn hb hr he => wpAny_execs_cons (wpAny_Assign_Name (h.go s _ E F trivial (fun d v h2 tk2 p F2 k2 r => by
    obtain ⟨i, j, rfl, hij, p⟩ := p
    obtain ⟨a, vs, rfl, ga, hpl, r1⟩ := r
    obtain ⟨v1, _, rfl, ⟨t1, rfl⟩, v2, _, rfl, ⟨t2, rfl⟩, rfl⟩ := r1
    have hnh : a ∉ C.L :: (frs C.outer ++ C.hid) := fun q => by obtain ⟨n, e⟩ := hpl; have := hideAll_none (h := h2) _ q; unfold Cx.z at e; rw [this] at e; cases e
    have haL : a ≠ C.L := fun q => hnh (q ▸ List.mem_cons_self)
    have hah : a ∉ C.hid := fun q => hnh (List.mem_cons_of_mem _ (List.mem_append_right _ q))
    refine frd_set (h := h2) (ρ := []) (d := dV (.ref a)) (s := { s with heap := h2, toks := tk2 }) G ⟨F2.1, F2.2.choose, F2.2.choose_spec.1, fun _ _ e => nomatch e⟩ rfl hx fun h3 F3 k3 => ?_
    have hl3 : h3.IsList a #[.int i t1, .int j t2] := by
      obtain ⟨n, e⟩ := hpl
      exact ⟨_, k3 a _ (fun q => (List.mem_cons.mp q).elim haL hah) (of_hideAll _ e), rfl, n, rfl⟩
    have G' := good_src G haL ga
    obtain ⟨i3, m3, F3', R3⟩ := F3
    have F4 : FrD (C.src a) [(x, dV (.ref a))] h3 := ⟨⟨i3, i, t1, j, t2, hl3, hij⟩, m3, F3', fun y d e => by
      rcases lk_cons e with ⟨rfl, rfl⟩ | ⟨_, e⟩
      · obtain ⟨v, e1, r⟩ := R3 y _ (by unfold lk; rw [List.lookup_cons, beq_self_eq_true]); exact ⟨v, e1, r⟩
      · cases e⟩
    have ks : ∀ {g : Heap}, KS C s.heap g := fun q => by rw [hst] at q; cases q
    exact (p a hah G').go { s with heap := h3, toks := tk2 + 1 } Q E F4 (fun _ _ _ p => p.elim) (fun _ _ _ p => p.elim) (fun d v h' tk' p F k r => hr d v h' tk' p ⟨F.1.1, F.2.choose, F.2.choose_spec.1, fun _ _ e => nomatch e⟩ ks (d.mono _ _ _ (z_src h') r)) fun c e s' p x => he c e s' p x) he) hs)
theorem exr_ex (G : Good w sc dl ul C) {l : List Stmt} {P : D → Prop} (h : Ex w sc C ρ l fun o => match o with | .ret d => P d | _ => False) : ExR w sc C ρ (execs l (C.env sc)) P :=
  .mk fun s Q E F hr => h.go s Q E F (fun _ _ _ p => p.elim) (fun _ _ _ p => p.elim) (fun d v h2 tk2 p F2 k2 r => hr d v h2 tk2 p F2.1 (kw_of G F2) r) fun _ _ _ p => p.elim
theorem tp_call {f : Expr} {as : List Expr} {p : Pos} {b : Bool} (h : EvV w sc C ρ (.Call f as [] p) (dB b)) : TP w sc C ρ (.Call f as [] p) (b = true) :=
  .mk fun s Q E F z hq he => wpAny_isTrue_value (h.go s _ E F z (fun d v h' tk' p F' k r => by
    cases p; cases r
    exact wpAny_truthy_bool (hq b b h' tk' ⟨b, rfl, Iff.rfl⟩ F' k rfl)) fun _ _ _ p => nomatch (show Out.exc _ = Out.val _ from p))
theorem o_itemLR {l r : Expr} {ds : List D} {i : Int} {d : D} (hs : ∀ a u, subscripted r false (Value.ref a) (Value.int i u) = operate [Value.ref a, Value.int i u] (getItem (Value.ref a) (Value.int i u)))
    (hi : 0 ≤ i ∧ i < 1048576) (hd : ds[i.toNat]? = some d) : Op2 w sc C ρ (subscriptTail l r) (dL ds) (dI i) (· = .val d) := by
  intro v1 v2; refine .mk ?_; rintro s Q E F ⟨⟨a, vs, rfl, hx, r⟩, ⟨u, rfl⟩⟩ hq he
  obtain ⟨v, hv, rr⟩ := r.get hd
  exact item_listR (isList_keep (z_sub C _) hx.isList) hi.1 (by omega) (by rw [List.getElem?_toArray]; exact hv) (hq _ _ s.heap s.toks rfl F (KK.refl _) rr) (hs _ _)
end

set_option linter.unusedSimpArgs false
set_option linter.unusedVariables false
theorem rows2_T1 : True := by
  k_with_none
  k_with "w enter" => (refine' ct_enter ?cI ?cr ?co ?cc ?cb ?cl ?cn ?c1 ?c2 ?c3 ?c4 ?_; (case cI => assumption); (case cr => decide); (case co => k_is); (case cc => k_is); (case cb => (intro s vs hv; first | (obtain rfl := len0 hv; exact BindsTo.of_eq rfl) | (obtain ⟨a, rfl⟩ := len1 hv; exact BindsTo.of_eq rfl) | (obtain ⟨a, b, rfl⟩ := len2 hv; exact BindsTo.of_eq rfl) | (obtain ⟨a, b, c, rfl⟩ := len3 hv; exact BindsTo.of_eq rfl) | (obtain ⟨a, b, c, d, rfl⟩ := len4 hv; exact BindsTo.of_eq rfl))); (case cl => first | exact (fun _ h => absurd h List.not_mem_nil) | (simp only [List.map, List.mem_cons, List.not_mem_nil, or_false, forall_eq_or_imp, forall_eq]; decide)); (case cn => rfl); (case c1 => rfl); (case c2 => rfl); (case c3 => rfl); (case c4 => decide); intro C G _ _ e3; (dsimp only [List.map, List.zip, List.zipWith, List.reverse, List.reverseAux]); (try k_fold))
  k_with "v1" => (first
    | ((with_reducible show Ev _ _ _ _ _ _); (first | k_extra "ve c" | k_extra "ve"))
    | ((with_reducible show Op2 _ _ _ _ _ _ _ _); k_extra "v2")
    | ((with_reducible show EvL _ _ _ _ _ _); k_extra "vl")
    | ((with_reducible show OpL _ _ _ _ _ _ _); (first | k_extra "vo c" | k_extra "vo"))
    | ((with_reducible show Tst _ _ _ _ _ _); k_extra "vt")
    | ((with_reducible show Cm2 _ _ _ _ _ _ _ _); k_extra "vm")
    | ((with_reducible show EvP _ _ _ _ _ _); k_extra "vp")
    | k_extra "vs")
  k_with "ve c" => fail
  k_with "vo c" => fail
  k_with "ve" => (first
    | ((with_reducible apply v_name G); rfl; rfl; rfl)
    | with_reducible exact v_int
    | with_reducible apply v_bin
    | with_reducible apply v_slice G
    | with_reducible apply v_sub
    | ((with_reducible apply v_globI G); k_is; rfl; rfl)
    | ((with_reducible apply e_call G); k_is; rfl; rfl; k_is; rfl; rfl; rfl)
    | ((with_reducible apply v_bcall (f := Str.ofString "len") (id := "len") G); k_is; boot_fast; decide; rfl; rfl; rfl; rfl; rfl)
    | ((with_reducible apply v_tcall (f := Str.ofString "bytes") (id := "bytes") G); k_is; boot_fast; decide; rfl; rfl; rfl; rfl; rfl)
    | ((with_reducible apply v_tcall (f := Str.ofString "tuple") (id := "tuple") G); k_is; boot_fast; decide; rfl; rfl; rfl; rfl; rfl)
    | ((with_reducible apply v_tcall (f := Str.ofString "int") (id := "int") G); k_is; boot_fast; decide; rfl; rfl; rfl; rfl; rfl)
    | with_reducible apply v_tuple G
    | with_reducible apply v_list G
    | with_reducible exact v_str
    | with_reducible apply v_bytes
    | ((with_reducible apply v_globV G); k_is; rfl; rfl)
    | ((with_reducible apply v_if1); (focus (k_extra "v go"; done)); (first | omega | decide))
    | ((with_reducible apply v_if2); (focus (k_extra "v go"; done)); (first | omega | decide)))
  k_with "v2" => (first
    | with_reducible exact o_addI
    | with_reducible apply o_addY
    | with_reducible exact o_subI
    | with_reducible apply o_mulI
    | with_reducible apply o_modI
    | with_reducible apply o_divI
    | with_reducible apply o_itemY
    | with_reducible apply o_itemT
    | ((with_reducible apply o_itemTT G); (intro _ _; rfl); (intro _ _; rfl); (repeat' first | exact List.mem_cons_self | refine List.mem_cons_of_mem _ ?_)))
  k_with "vl" => (first | with_reducible exact vl_nil | ((with_reducible apply vl_cons); rfl))
  k_with "vo" => (first
    | with_reducible exact o_len
    | with_reducible apply o_bytes1 G
    | with_reducible apply o_bytes2 G
    | with_reducible apply o_bytesN)
  k_with "vt" => (first
    | with_reducible apply tp_chain
    | with_reducible apply tp_cmp
    | with_reducible apply tp_not
    | with_reducible apply tp_or)
  k_with "vm" => (first
    | with_reducible exact cp_lt
    | with_reducible exact cp_le
    | with_reducible exact cp_gt
    | with_reducible exact cp_eq
    | with_reducible exact cp_ne
    | with_reducible exact cp_eqs
    | with_reducible exact cp_in3
    | with_reducible exact cp_first G
    | with_reducible exact cp_tt G)
  k_with "vp" => (first | with_reducible exact p_none | with_reducible apply p_some)
  k_with "vs" => (first
    | ((with_reducible intro _ _ _); rfl)
    | ((with_reducible intro _ _); rfl)
    | rfl
    | exact Nat.le_of_ble_eq_true rfl
    | omega
    | decide
    | (simp only [Array.size_append, be2_size, be4_size, byteArr_size, List.length_cons, List.length_nil]; omega))
  k_with "v go" => repeat' (k_extra "v1")
  k_with "x1" => (first
    | with_reducible apply ex_cons
    | with_reducible apply ex_nil
    | ((with_reducible apply xr); (focus (k_extra "v go"; done)))
    | ((with_reducible apply xa G); (focus (k_extra "v go"; done)); rfl; rfl)
    | ((with_reducible apply xi); (focus (k_extra "v go"; done)); (all_goals try (intro hc; try (exfalso; first | omega | exact absurd hc (by decide) | exact hc (by decide)))))
    | with_reducible apply ex_break
    | ((with_reducible apply ex_none (e := Expr.Call (Expr.Name _ _) _ _ _)); rfl; rfl)
    | ((with_reducible refine' ex_raise G ?zzW ?zzdl ?zzn ?zzk ?zzd ?zzi ?_); (case zzn => k_is); (case zzk => rfl); (case zzd => rfl); (case zzi => k_is); (case zzdl => decide); (case zzW => first | exact exc44 w | exact exc56 w))
    | ((with_reducible refine' ex_assignT G ?zzq ?zzx ?zzn ?zze ?zzf ?zzs ?zzw ?_); (case zzq => rfl); (case zzn => rfl); (case zze => rfl); (case zzf => rfl); (case zzs => rfl); (case zzw => rfl); (case zzx => decide))
    | ((with_reducible apply ex_assignS (names := [_, _]) G); (case hw => rfl); (case hs => rfl); (case hx => decide))
    | with_reducible refine ex_ret ?_
    | ((with_reducible refine' ex_assign G ?zza ?zzb ?_); (case zza => rfl); (case zzb => rfl))
    | ((with_reducible apply ev_of); (focus (k_extra "v go"; done)))
    | ((with_reducible apply e_call G); k_is; rfl; rfl; k_is; rfl; rfl; rfl; (focus (k_extra "v go"; done)))
    | ((with_reducible refine' ev_call G ?zzn ?zzk ?zzd ?zzi ?zzc ?zzs ?zzx ?_); (case zzn => k_is); (case zzk => rfl); (case zzd => rfl); (case zzi => k_is); (case zzc => rfl); (case zzs => rfl); (case zzx => rfl))
    | with_reducible refine ev_binop ?_
    | ((with_reducible refine' evl_cons ?zzs ?_); (case zzs => rfl))
    | with_reducible refine evl_nil ?_
    | ((with_reducible refine' op_add_bytes ?zza ?_); (case zza => first | omega | (simp only [Array.size_append, be2_size, be4_size, byteArr_size, List.length_cons, List.length_nil]; omega)))
    | ((with_reducible refine' ex_dT ?zza ?_); (case zza => rfl); (try dsimp only [insD, namesOf, nameOf, List.foldr, List.append, List.cons_append, List.nil_append, List.map, List.zip, List.zipWith, List.reverse, List.reverseAux]))
    | (refine ve_exc ?_; first | trivial | omega | (simp only [Array.size_append, byteArr_size, be2_size, be4_size, List.length_cons, List.length_nil] at h; omega))
    | (refine ve_val ?_ ?_; (first | trivial | omega | (simp only [Array.size_append, byteArr_size, be2_size, be4_size, List.length_cons, List.length_nil] at h; omega)); (first | rfl | skip))
    | (exfalso; simp only [Array.size_append, byteArr_size, be2_size, be4_size, List.length_cons, List.length_nil] at h; omega))
  k_with "x go" => repeat' (k_extra "x1")
  trivial

theorem byteArr_size (l : List Int) : (byteArr l).size = l.length := by simp [byteArr]
theorem be2_size (n : Int) : (be2 n).size = 2 := byteArr_size _
theorem be4_size (n : Int) : (be4 n).size = 4 := byteArr_size _
theorem PT.mono {w : World} {D U : Nat} {f : Addr} {vs : List Value} {pre : Heap → Prop} {post post' : Heap → Value → Prop} {xs xs' : Value → Prop} (C : PT w D U f vs pre post xs) (h1 : ∀ h v, post h v → post' h v) (h2 : ∀ c, xs c → xs' c) : PT w D U f vs pre post' xs' :=
  fun outer base s mean mg mb Q E B X T hp hr he => C outer base s mean mg mb Q E B X T hp (fun v h' tk' k p => hr v h' tk' k (h1 _ _ p)) (fun e cls h' tk' x fl => he e cls h' tk' (h2 _ x) fl)
section
variable {w : World} {sc : Scope} {dl ul : Nat} {C : Cx} {ρ : List (Str × D)}
theorem op_put2 (G : Good w sc dl ul C) {n : Int} (h1 : dl ≤ 565) (h2 : ul ≤ 425) (h0 : 0 ≤ n ∧ n < 65536) : OpL w sc C ρ (callF (.ref 63)) [dI n, dI 2] (· = .val (dY (be2 n))) :=
  op_pt G (fun vs h r => by
    obtain ⟨_, _, rfl, ⟨t, rfl⟩, _, _, rfl, ⟨t2, rfl⟩, rfl⟩ := r
    exact (c_put2 w h0.1 h0.2).mono (fun _ v ⟨t', e⟩ => ⟨_, rfl, fun _ => ⟨by rw [be2_size]; decide, t', e⟩⟩) (fun _ x => x.elim)) h1 h2
theorem op_put4 (G : Good w sc dl ul C) {n : Int} (h1 : dl ≤ 565) (h2 : ul ≤ 425) (h0 : 0 ≤ n ∧ n < 4294967296) : OpL w sc C ρ (callF (.ref 63)) [dI n, dI 4] (· = .val (dY (be4 n))) :=
  op_pt G (fun vs h r => by
    obtain ⟨_, _, rfl, ⟨t, rfl⟩, _, _, rfl, ⟨t2, rfl⟩, rfl⟩ := r
    exact (c_put4 w h0.1 h0.2).mono (fun _ v ⟨t', e⟩ => ⟨_, rfl, fun _ => ⟨by rw [be4_size]; decide, t', e⟩⟩) (fun _ x => x.elim)) h1 h2
theorem op_get2 (G : Good w sc dl ul C) {b : Array UInt8} {i : Int} (h1 : dl ≤ 560) (h2 : ul ≤ 400) (hi : 0 ≤ i ∧ i + 2 ≤ b.size) : OpL w sc C ρ (callF (.ref 70)) [dY b, dI i, dI 2] (· = .val (dI (by2 b i.toNat : Nat))) :=
  op_pt G (fun vs h r => by
    obtain ⟨_, _, rfl, ⟨hb, t, rfl⟩, _, _, rfl, ⟨t2, rfl⟩, _, _, rfl, ⟨t3, rfl⟩, rfl⟩ := r
    exact (c_getn2 w hb hi.1 hi.2).mono (fun _ v ⟨t', e⟩ => ⟨_, rfl, fun _ => ⟨t', e⟩⟩) (fun _ x => x.elim)) h1 h2
theorem op_get4 (G : Good w sc dl ul C) {b : Array UInt8} {i : Int} (h1 : dl ≤ 560) (h2 : ul ≤ 400) (hi : 0 ≤ i ∧ i + 4 ≤ b.size) : OpL w sc C ρ (callF (.ref 70)) [dY b, dI i, dI 4] (· = .val (dI (by4 b i.toNat : Nat))) :=
  op_pt G (fun vs h r => by
    obtain ⟨_, _, rfl, ⟨hb, t, rfl⟩, _, _, rfl, ⟨t2, rfl⟩, _, _, rfl, ⟨t3, rfl⟩, rfl⟩ := r
    exact (c_getn4 w hb hi.1 hi.2).mono (fun _ v ⟨t', e⟩ => ⟨_, rfl, fun _ => ⟨t', e⟩⟩) (fun _ x => x.elim)) h1 h2
end
section
variable (w : World) {hs : List Addr} {I : Heap → Prop} (hI : HI hs I)
include hI
theorem t_put16 {n : Int} (h : 0 ≤ n ∧ n < 65536) : CT w hs I 564 420 77 [dI n] (VE True (dY (be2 n)) False 56) := by
  k_with "vo c" => with_reducible apply op_put2 G
  k_extra "w enter"
  k_extra "x go"
theorem t_put32 {n : Int} (h : 0 ≤ n ∧ n < 4294967296) : CT w hs I 564 420 84 [dI n] (VE True (dY (be4 n)) False 56) := by
  k_with "vo c" => with_reducible apply op_put4 G
  k_extra "w enter"
  k_extra "x go"
theorem t_get16 {b : Array UInt8} {i : Int} (h : 0 ≤ i ∧ i + 2 ≤ b.size) : CT w hs I 559 390 91 [dY b, dI i] (VE True (dI (by2 b i.toNat : Nat)) False 44) := by
  k_with "vo c" => with_reducible apply op_get2 G
  k_extra "w enter"
  k_extra "x go"
theorem t_get32 {b : Array UInt8} {i : Int} (h : 0 ≤ i ∧ i + 4 ≤ b.size) : CT w hs I 559 390 98 [dY b, dI i] (VE True (dI (by4 b i.toNat : Nat)) False 44) := by
  k_with "vo c" => with_reducible apply op_get4 G
  k_extra "w enter"
  k_extra "x go"
theorem t_sized {b : Array UInt8} {l : Int} : CT w hs I 560 420 114 [dY b, dI l] (VE (l ≤ b.size ∧ (b.size : Int) ≤ 255) (dY b) (¬ (l ≤ b.size ∧ (b.size : Int) ≤ 255)) 56) := by
  k_extra "w enter"
  k_extra "x go"

theorem t_row {k : Int} {b : Array UInt8} (hk : 0 ≤ k ∧ k < 128) : CT w hs I 556 410 107 [dI k, dY b] (VE (b.size ≤ 511) (dY (be2 (k * 512 + b.size) ++ b)) (511 < b.size) 56) := by
  k_with "vo c" => with_reducible apply o_call G (fun _ q => t_put16 w q ?_)
  k_extra "w enter"
  k_extra "x go"

end

set_option linter.unusedSimpArgs false
set_option linter.unusedVariables false
theorem rows2_T2 : True := by
  k_with_none
  k_with "w enter" => (refine' ct_enter ?cI ?cr ?co ?cc ?cb ?cl ?cn ?c1 ?c2 ?c3 ?c4 ?_; (case cI => assumption); (case cr => decide); (case co => k_is); (case cc => k_is); (case cb => (intro s vs hv; first | (obtain rfl := len0 hv; exact BindsTo.of_eq rfl) | (obtain ⟨a, rfl⟩ := len1 hv; exact BindsTo.of_eq rfl) | (obtain ⟨a, b, rfl⟩ := len2 hv; exact BindsTo.of_eq rfl) | (obtain ⟨a, b, c, rfl⟩ := len3 hv; exact BindsTo.of_eq rfl) | (obtain ⟨a, b, c, d, rfl⟩ := len4 hv; exact BindsTo.of_eq rfl))); (case cl => first | exact (fun _ h => absurd h List.not_mem_nil) | (simp only [List.map, List.mem_cons, List.not_mem_nil, or_false, forall_eq_or_imp, forall_eq]; decide)); (case cn => rfl); (case c1 => rfl); (case c2 => rfl); (case c3 => rfl); (case c4 => decide); intro C G _ _ e3; (dsimp only [List.map, List.zip, List.zipWith, List.reverse, List.reverseAux]); (try k_fold))
  k_with "v1" => (first
    | ((with_reducible show Ev _ _ _ _ _ _); (first | k_extra "ve c" | k_extra "ve"))
    | ((with_reducible show Op2 _ _ _ _ _ _ _ _); k_extra "v2")
    | ((with_reducible show EvL _ _ _ _ _ _); k_extra "vl")
    | ((with_reducible show OpL _ _ _ _ _ _ _); (first | k_extra "vo c" | k_extra "vo"))
    | ((with_reducible show Tst _ _ _ _ _ _); k_extra "vt")
    | ((with_reducible show Cm2 _ _ _ _ _ _ _ _); k_extra "vm")
    | ((with_reducible show EvP _ _ _ _ _ _); k_extra "vp")
    | k_extra "vs")
  k_with "ve c" => fail
  k_with "vo c" => fail
  k_with "ve" => (first
    | ((with_reducible apply v_name G); rfl; rfl; rfl)
    | with_reducible exact v_int
    | with_reducible apply v_bin
    | with_reducible apply v_slice G
    | with_reducible apply v_sub
    | ((with_reducible apply v_globI G); k_is; rfl; rfl)
    | ((with_reducible apply e_call G); k_is; rfl; rfl; k_is; rfl; rfl; rfl)
    | ((with_reducible apply v_bcall (f := Str.ofString "len") (id := "len") G); k_is; boot_fast; decide; rfl; rfl; rfl; rfl; rfl)
    | ((with_reducible apply v_tcall (f := Str.ofString "bytes") (id := "bytes") G); k_is; boot_fast; decide; rfl; rfl; rfl; rfl; rfl)
    | ((with_reducible apply v_tcall (f := Str.ofString "tuple") (id := "tuple") G); k_is; boot_fast; decide; rfl; rfl; rfl; rfl; rfl)
    | ((with_reducible apply v_tcall (f := Str.ofString "int") (id := "int") G); k_is; boot_fast; decide; rfl; rfl; rfl; rfl; rfl)
    | with_reducible apply v_tuple G
    | with_reducible apply v_list G
    | with_reducible exact v_str
    | with_reducible apply v_bytes
    | ((with_reducible apply v_globV G); k_is; rfl; rfl)
    | ((with_reducible apply v_if1); (focus (k_extra "v go"; done)); (first | omega | decide))
    | ((with_reducible apply v_if2); (focus (k_extra "v go"; done)); (first | omega | decide)))
  k_with "v2" => (first
    | with_reducible exact o_addI
    | with_reducible apply o_addY
    | with_reducible exact o_subI
    | with_reducible apply o_mulI
    | with_reducible apply o_modI
    | with_reducible apply o_divI
    | with_reducible apply o_itemY
    | with_reducible apply o_itemT
    | ((with_reducible apply o_itemTT G); (intro _ _; rfl); (intro _ _; rfl); (repeat' first | exact List.mem_cons_self | refine List.mem_cons_of_mem _ ?_)))
  k_with "vl" => (first | with_reducible exact vl_nil | ((with_reducible apply vl_cons); rfl))
  k_with "vo" => (first
    | with_reducible exact o_len
    | with_reducible apply o_bytes1 G
    | with_reducible apply o_bytes2 G
    | with_reducible apply o_bytesN)
  k_with "vt" => (first
    | with_reducible apply tp_chain
    | with_reducible apply tp_cmp
    | with_reducible apply tp_not
    | with_reducible apply tp_or)
  k_with "vm" => (first
    | with_reducible exact cp_lt
    | with_reducible exact cp_le
    | with_reducible exact cp_gt
    | with_reducible exact cp_eq
    | with_reducible exact cp_ne
    | with_reducible exact cp_eqs
    | with_reducible exact cp_in3
    | with_reducible exact cp_first G
    | with_reducible exact cp_tt G)
  k_with "vp" => (first | with_reducible exact p_none | with_reducible apply p_some)
  k_with "vs" => (first
    | ((with_reducible intro _ _ _); rfl)
    | ((with_reducible intro _ _); rfl)
    | rfl
    | exact Nat.le_of_ble_eq_true rfl
    | omega
    | decide
    | (simp only [Array.size_append, be2_size, be4_size, byteArr_size, List.length_cons, List.length_nil]; omega))
  k_with "v go" => repeat' (k_extra "v1")
  k_with "x1" => (first
    | with_reducible apply ex_cons
    | with_reducible apply ex_nil
    | ((with_reducible apply xr); (focus (k_extra "v go"; done)))
    | ((with_reducible apply xa G); (focus (k_extra "v go"; done)); rfl; rfl)
    | ((with_reducible apply xi); (focus (k_extra "v go"; done)); (all_goals try (intro hc; try (exfalso; first | omega | exact absurd hc (by decide) | exact hc (by decide)))))
    | with_reducible apply ex_break
    | ((with_reducible apply ex_none (e := Expr.Call (Expr.Name _ _) _ _ _)); rfl; rfl)
    | ((with_reducible refine' ex_raise G ?zzW ?zzdl ?zzn ?zzk ?zzd ?zzi ?_); (case zzn => k_is); (case zzk => rfl); (case zzd => rfl); (case zzi => k_is); (case zzdl => decide); (case zzW => first | exact exc44 w | exact exc56 w))
    | ((with_reducible refine' ex_assignT G ?zzq ?zzx ?zzn ?zze ?zzf ?zzs ?zzw ?_); (case zzq => rfl); (case zzn => rfl); (case zze => rfl); (case zzf => rfl); (case zzs => rfl); (case zzw => rfl); (case zzx => decide))
    | ((with_reducible apply ex_assignS (names := [_, _]) G); (case hw => rfl); (case hs => rfl); (case hx => decide))
    | with_reducible refine ex_ret ?_
    | ((with_reducible refine' ex_assign G ?zza ?zzb ?_); (case zza => rfl); (case zzb => rfl))
    | ((with_reducible apply ev_of); (focus (k_extra "v go"; done)))
    | ((with_reducible apply e_call G); k_is; rfl; rfl; k_is; rfl; rfl; rfl; (focus (k_extra "v go"; done)))
    | ((with_reducible refine' ev_call G ?zzn ?zzk ?zzd ?zzi ?zzc ?zzs ?zzx ?_); (case zzn => k_is); (case zzk => rfl); (case zzd => rfl); (case zzi => k_is); (case zzc => rfl); (case zzs => rfl); (case zzx => rfl))
    | with_reducible refine ev_binop ?_
    | ((with_reducible refine' evl_cons ?zzs ?_); (case zzs => rfl))
    | with_reducible refine evl_nil ?_
    | ((with_reducible refine' op_add_bytes ?zza ?_); (case zza => first | omega | (simp only [Array.size_append, be2_size, be4_size, byteArr_size, List.length_cons, List.length_nil]; omega)))
    | ((with_reducible refine' ex_dT ?zza ?_); (case zza => rfl); (try dsimp only [insD, namesOf, nameOf, List.foldr, List.append, List.cons_append, List.nil_append, List.map, List.zip, List.zipWith, List.reverse, List.reverseAux]))
    | (refine ve_exc ?_; first | trivial | omega | (simp only [Array.size_append, byteArr_size, be2_size, be4_size, List.length_cons, List.length_nil] at h; omega))
    | (refine ve_val ?_ ?_; (first | trivial | omega | (simp only [Array.size_append, byteArr_size, be2_size, be4_size, List.length_cons, List.length_nil] at h; omega)); (first | rfl | skip))
    | (exfalso; simp only [Array.size_append, byteArr_size, be2_size, be4_size, List.length_cons, List.length_nil] at h; omega))
  k_with "x go" => repeat' (k_extra "x1")
  trivial

def addrB (kd nk n : Int) (o nm : Array UInt8) : Array UInt8 := byteArr [(o.size : Int) + 1, kd] ++ o ++ byteArr [nk] ++ be4 n ++ byteArr [(nm.size : Int)] ++ nm
theorem addrB_size (kd nk n : Int) (o nm : Array UInt8) : (addrB kd nk n o nm).size = o.size + nm.size + 8 := by
  simp only [addrB, Array.size_append, byteArr_size, be4_size, List.length_cons, List.length_nil]; omega
section
variable (w : World) {hs : List Addr} {I : Heap → Prop} (hI : HI hs I)
include hI
theorem t_addr {kd nk n : Int} {o nm : Array UInt8} (h1 : 0 ≤ kd ∧ kd < 256) (h2 : 0 ≤ nk ∧ nk < 256) (h3 : 0 ≤ n ∧ n < 4294967296) :
    CT w hs I 554 408 121 [dT [dS (Str.ofString "address"), dI kd, dY o, dI nk, dI n, dY nm]] (VE ((1 ≤ o.size ∧ o.size ≤ 31) ∧ nm.size ≤ 128) (dY (addrB kd nk n o nm)) (¬ ((1 ≤ o.size ∧ o.size ≤ 31) ∧ nm.size ≤ 128)) 56) := by
  k_with "vo c" => with_reducible apply o_call G (fun _ q => t_put32 w q ?_)
  k_extra "w enter"
  k_extra "x go"
end

set_option linter.unusedSimpArgs false
set_option linter.unusedVariables false
theorem rows2_T3 : True := by
  k_with_none
  k_with "w enter" => (refine' ct_enter ?cI ?cr ?co ?cc ?cb ?cl ?cn ?c1 ?c2 ?c3 ?c4 ?_; (case cI => assumption); (case cr => decide); (case co => k_is); (case cc => k_is); (case cb => (intro s vs hv; first | (obtain rfl := len0 hv; exact BindsTo.of_eq rfl) | (obtain ⟨a, rfl⟩ := len1 hv; exact BindsTo.of_eq rfl) | (obtain ⟨a, b, rfl⟩ := len2 hv; exact BindsTo.of_eq rfl) | (obtain ⟨a, b, c, rfl⟩ := len3 hv; exact BindsTo.of_eq rfl) | (obtain ⟨a, b, c, d, rfl⟩ := len4 hv; exact BindsTo.of_eq rfl))); (case cl => first | exact (fun _ h => absurd h List.not_mem_nil) | (simp only [List.map, List.mem_cons, List.not_mem_nil, or_false, forall_eq_or_imp, forall_eq]; decide)); (case cn => rfl); (case c1 => rfl); (case c2 => rfl); (case c3 => rfl); (case c4 => decide); intro C G _ _ e3; (dsimp only [List.map, List.zip, List.zipWith, List.reverse, List.reverseAux]); (try k_fold))
  k_with "v1" => (first
    | ((with_reducible show Ev _ _ _ _ _ _); (first | k_extra "ve c" | k_extra "ve"))
    | ((with_reducible show Op2 _ _ _ _ _ _ _ _); k_extra "v2")
    | ((with_reducible show EvL _ _ _ _ _ _); k_extra "vl")
    | ((with_reducible show OpL _ _ _ _ _ _ _); (first | k_extra "vo c" | k_extra "vo"))
    | ((with_reducible show Tst _ _ _ _ _ _); k_extra "vt")
    | ((with_reducible show Cm2 _ _ _ _ _ _ _ _); k_extra "vm")
    | ((with_reducible show EvP _ _ _ _ _ _); k_extra "vp")
    | k_extra "vs")
  k_with "ve c" => fail
  k_with "vo c" => fail
  k_with "ve" => (first
    | ((with_reducible apply v_name G); rfl; rfl; rfl)
    | with_reducible exact v_int
    | with_reducible apply v_bin
    | with_reducible apply v_slice G
    | with_reducible apply v_sub
    | ((with_reducible apply v_globI G); k_is; rfl; rfl)
    | ((with_reducible apply e_call G); k_is; rfl; rfl; k_is; rfl; rfl; rfl)
    | ((with_reducible apply v_bcall (f := Str.ofString "len") (id := "len") G); k_is; boot_fast; decide; rfl; rfl; rfl; rfl; rfl)
    | ((with_reducible apply v_tcall (f := Str.ofString "bytes") (id := "bytes") G); k_is; boot_fast; decide; rfl; rfl; rfl; rfl; rfl)
    | ((with_reducible apply v_tcall (f := Str.ofString "tuple") (id := "tuple") G); k_is; boot_fast; decide; rfl; rfl; rfl; rfl; rfl)
    | ((with_reducible apply v_tcall (f := Str.ofString "int") (id := "int") G); k_is; boot_fast; decide; rfl; rfl; rfl; rfl; rfl)
    | with_reducible apply v_tuple G
    | with_reducible apply v_list G
    | with_reducible exact v_str
    | with_reducible apply v_bytes
    | ((with_reducible apply v_globV G); k_is; rfl; rfl)
    | ((with_reducible apply v_if1); (focus (k_extra "v go"; done)); (first | omega | decide))
    | ((with_reducible apply v_if2); (focus (k_extra "v go"; done)); (first | omega | decide)))
  k_with "v2" => (first
    | with_reducible exact o_addI
    | with_reducible apply o_addY
    | with_reducible exact o_subI
    | with_reducible apply o_mulI
    | with_reducible apply o_modI
    | with_reducible apply o_divI
    | with_reducible apply o_itemY
    | with_reducible apply o_itemT
    | ((with_reducible apply o_itemTT G); (intro _ _; rfl); (intro _ _; rfl); (repeat' first | exact List.mem_cons_self | refine List.mem_cons_of_mem _ ?_)))
  k_with "vl" => (first | with_reducible exact vl_nil | ((with_reducible apply vl_cons); rfl))
  k_with "vo" => (first
    | with_reducible exact o_len
    | with_reducible apply o_bytes1 G
    | with_reducible apply o_bytes2 G
    | with_reducible apply o_bytesN)
  k_with "vt" => (first
    | with_reducible apply tp_chain
    | with_reducible apply tp_cmp
    | with_reducible apply tp_not
    | with_reducible apply tp_or)
  k_with "vm" => (first
    | with_reducible exact cp_lt
    | with_reducible exact cp_le
    | with_reducible exact cp_gt
    | with_reducible exact cp_eq
    | with_reducible exact cp_ne
    | with_reducible exact cp_eqs
    | with_reducible exact cp_in3
    | with_reducible exact cp_first G
    | with_reducible exact cp_tt G)
  k_with "vp" => (first | with_reducible exact p_none | with_reducible apply p_some)
  k_with "vs" => (first
    | ((with_reducible intro _ _ _); rfl)
    | ((with_reducible intro _ _); rfl)
    | rfl
    | exact Nat.le_of_ble_eq_true rfl
    | omega
    | decide
    | (simp only [Array.size_append, be2_size, be4_size, byteArr_size, List.length_cons, List.length_nil]; omega))
  k_with "v go" => repeat' (k_extra "v1")
  k_with "x1" => (first
    | with_reducible apply ex_cons
    | with_reducible apply ex_nil
    | ((with_reducible apply xr); (focus (k_extra "v go"; done)))
    | ((with_reducible apply xa G); (focus (k_extra "v go"; done)); rfl; rfl)
    | ((with_reducible apply xi); (focus (k_extra "v go"; done)); (all_goals try (intro hc; try (exfalso; first | omega | exact absurd hc (by decide) | exact hc (by decide)))))
    | with_reducible apply ex_break
    | ((with_reducible apply ex_none (e := Expr.Call (Expr.Name _ _) _ _ _)); rfl; rfl)
    | ((with_reducible refine' ex_raise G ?zzW ?zzdl ?zzn ?zzk ?zzd ?zzi ?_); (case zzn => k_is); (case zzk => rfl); (case zzd => rfl); (case zzi => k_is); (case zzdl => decide); (case zzW => first | exact exc44 w | exact exc56 w))
    | ((with_reducible refine' ex_assignT G ?zzq ?zzx ?zzn ?zze ?zzf ?zzs ?zzw ?_); (case zzq => rfl); (case zzn => rfl); (case zze => rfl); (case zzf => rfl); (case zzs => rfl); (case zzw => rfl); (case zzx => decide))
    | ((with_reducible apply ex_assignS (names := [_, _]) G); (case hw => rfl); (case hs => rfl); (case hx => decide))
    | with_reducible refine ex_ret ?_
    | ((with_reducible refine' ex_assign G ?zza ?zzb ?_); (case zza => rfl); (case zzb => rfl))
    | ((with_reducible apply ev_of); (focus (k_extra "v go"; done)))
    | ((with_reducible apply e_call G); k_is; rfl; rfl; k_is; rfl; rfl; rfl; (focus (k_extra "v go"; done)))
    | ((with_reducible refine' ev_call G ?zzn ?zzk ?zzd ?zzi ?zzc ?zzs ?zzx ?_); (case zzn => k_is); (case zzk => rfl); (case zzd => rfl); (case zzi => k_is); (case zzc => rfl); (case zzs => rfl); (case zzx => rfl))
    | with_reducible refine ev_binop ?_
    | ((with_reducible refine' evl_cons ?zzs ?_); (case zzs => rfl))
    | with_reducible refine evl_nil ?_
    | ((with_reducible refine' op_add_bytes ?zza ?_); (case zza => first | omega | (simp only [Array.size_append, be2_size, be4_size, byteArr_size, List.length_cons, List.length_nil]; omega)))
    | ((with_reducible refine' ex_dT ?zza ?_); (case zza => rfl); (try dsimp only [insD, namesOf, nameOf, List.foldr, List.append, List.cons_append, List.nil_append, List.map, List.zip, List.zipWith, List.reverse, List.reverseAux]))
    | (refine ve_exc ?_; first | trivial | omega | (simp only [Array.size_append, byteArr_size, be2_size, be4_size, List.length_cons, List.length_nil] at h; omega))
    | (refine ve_val ?_ ?_; (first | trivial | omega | (simp only [Array.size_append, byteArr_size, be2_size, be4_size, List.length_cons, List.length_nil] at h; omega)); (first | rfl | skip))
    | (exfalso; simp only [Array.size_append, byteArr_size, be2_size, be4_size, List.length_cons, List.length_nil] at h; omega))
  k_with "x go" => repeat' (k_extra "x1")
  trivial

set_option linter.unusedSectionVars false
def rowB (k : Int) (b : Array UInt8) : Array UInt8 := be2 (k * 512 + b.size) ++ b
theorem rows3 : True := by
  k_with "x1" => ((with_reducible refine op_VE G (fun _ q => t_row w q ?_) ?_ ?_ (fun h => ?_) (fun h => ?_)); omega; decide; decide)
  k_with "x1" => ((with_reducible refine op_VE G (fun _ q => t_sized w q) ?_ ?_ (fun h => ?_) (fun h => ?_)); decide; decide)
  k_with "x1" => ((with_reducible refine op_VE G (fun _ q => t_addr w q ?_ ?_ ?_) ?_ ?_ (fun h => ?_) (fun h => ?_)); omega; omega; omega; decide; decide)
  k_with "vo c" => with_reducible apply o_call G (fun _ q => t_put16 w q ?_)
  k_with "vo c" => with_reducible apply o_call G (fun _ q => t_put32 w q ?_)
  trivial
section
variable (w : World) {hs : List Addr} {I : Heap → Prop} (hI : HI hs I)
include hI
theorem t_pk1 {k : Int} {b : Array UInt8} (hk : 0 ≤ k ∧ k < 256) : CT w hs I 552 400 128 [dT [dS (Str.ofString "chassis"), dI k, dY b]] (VE (1 ≤ b.size ∧ b.size ≤ 255) (dY (rowB 1 (byteArr [k] ++ b))) (¬ (1 ≤ b.size ∧ b.size ≤ 255)) 56) := by
  k_extra "w enter"
  k_extra "x go"
theorem t_pk2 {k : Int} {b : Array UInt8} (hk : 0 ≤ k ∧ k < 256) : CT w hs I 552 400 128 [dT [dS (Str.ofString "port"), dI k, dY b]] (VE (1 ≤ b.size ∧ b.size ≤ 255) (dY (rowB 2 (byteArr [k] ++ b))) (¬ (1 ≤ b.size ∧ b.size ≤ 255)) 56) := by
  k_extra "w enter"
  k_extra "x go"
theorem t_pk3 {k : Int} (hk : 0 ≤ k ∧ k < 65536) : CT w hs I 552 400 128 [dT [dS (Str.ofString "time"), dI k]] (VE True (dY (rowB 3 (be2 k))) False 56) := by
  k_extra "w enter"
  k_extra "x go"
theorem t_pk6 {b : Array UInt8} : CT w hs I 552 400 128 [dT [dS (Str.ofString "system text"), dY b]] (VE (b.size ≤ 255) (dY (rowB 6 b)) (¬ b.size ≤ 255) 56) := by
  k_extra "w enter"
  k_extra "x go"
theorem t_pk8 {kd nk n : Int} {o nm : Array UInt8} (h1 : 0 ≤ kd ∧ kd < 256) (h2 : 0 ≤ nk ∧ nk < 256) (h3 : 0 ≤ n ∧ n < 4294967296) : CT w hs I 552 400 128 [dT [dS (Str.ofString "address"), dI kd, dY o, dI nk, dI n, dY nm]] (VE ((1 ≤ o.size ∧ o.size ≤ 31) ∧ nm.size ≤ 128) (dY (rowB 8 (addrB kd nk n o nm))) (¬ ((1 ≤ o.size ∧ o.size ≤ 31) ∧ nm.size ≤ 128)) 56) := by
  k_extra "w enter"
  k_extra "x go"
  exfalso; rw [addrB_size] at h; omega
theorem t_pk127 {a c : Int} {b : Array UInt8} (h1 : 0 ≤ a ∧ a < 16777216) (h2 : 0 ≤ c ∧ c < 256) (hb : b.size ≤ 100000) : CT w hs I 552 400 128 [dT [dS (Str.ofString "own"), dI a, dI c, dY b]] (VE (b.size ≤ 507) (dY (rowB 127 (be4 (a * 256 + c) ++ b))) (507 < b.size) 56) := by
  k_extra "w enter"
  k_extra "x go"
theorem t_pk0 {k : Int} {b : Array UInt8} (hk : 0 ≤ k ∧ k < 128) : CT w hs I 552 400 128 [dT [dS (Str.ofString "other"), dI k, dY b]] (VE (b.size ≤ 511) (dY (rowB k b)) (511 < b.size) 56) := by
  k_extra "w enter"
  k_extra "x go"
end

set_option linter.unusedSimpArgs false
set_option linter.unusedVariables false
theorem rows2_T4 : True := by
  k_with_none
  k_with "w enter" => (refine' ct_enter ?cI ?cr ?co ?cc ?cb ?cl ?cn ?c1 ?c2 ?c3 ?c4 ?_; (case cI => assumption); (case cr => decide); (case co => k_is); (case cc => k_is); (case cb => (intro s vs hv; first | (obtain rfl := len0 hv; exact BindsTo.of_eq rfl) | (obtain ⟨a, rfl⟩ := len1 hv; exact BindsTo.of_eq rfl) | (obtain ⟨a, b, rfl⟩ := len2 hv; exact BindsTo.of_eq rfl) | (obtain ⟨a, b, c, rfl⟩ := len3 hv; exact BindsTo.of_eq rfl) | (obtain ⟨a, b, c, d, rfl⟩ := len4 hv; exact BindsTo.of_eq rfl))); (case cl => first | exact (fun _ h => absurd h List.not_mem_nil) | (simp only [List.map, List.mem_cons, List.not_mem_nil, or_false, forall_eq_or_imp, forall_eq]; decide)); (case cn => rfl); (case c1 => rfl); (case c2 => rfl); (case c3 => rfl); (case c4 => decide); intro C G _ _ e3; (dsimp only [List.map, List.zip, List.zipWith, List.reverse, List.reverseAux]); (try k_fold))
  k_with "v1" => (first
    | ((with_reducible show Ev _ _ _ _ _ _); (first | k_extra "ve c" | k_extra "ve"))
    | ((with_reducible show Op2 _ _ _ _ _ _ _ _); k_extra "v2")
    | ((with_reducible show EvL _ _ _ _ _ _); k_extra "vl")
    | ((with_reducible show OpL _ _ _ _ _ _ _); (first | k_extra "vo c" | k_extra "vo"))
    | ((with_reducible show Tst _ _ _ _ _ _); k_extra "vt")
    | ((with_reducible show Cm2 _ _ _ _ _ _ _ _); k_extra "vm")
    | ((with_reducible show EvP _ _ _ _ _ _); k_extra "vp")
    | k_extra "vs")
  k_with "ve c" => fail
  k_with "vo c" => fail
  k_with "ve" => (first
    | ((with_reducible apply v_name G); rfl; rfl; rfl)
    | with_reducible exact v_int
    | with_reducible apply v_bin
    | with_reducible apply v_slice G
    | with_reducible apply v_sub
    | ((with_reducible apply v_globI G); k_is; rfl; rfl)
    | ((with_reducible apply e_call G); k_is; rfl; rfl; k_is; rfl; rfl; rfl)
    | ((with_reducible apply v_bcall (f := Str.ofString "len") (id := "len") G); k_is; boot_fast; decide; rfl; rfl; rfl; rfl; rfl)
    | ((with_reducible apply v_tcall (f := Str.ofString "bytes") (id := "bytes") G); k_is; boot_fast; decide; rfl; rfl; rfl; rfl; rfl)
    | ((with_reducible apply v_tcall (f := Str.ofString "tuple") (id := "tuple") G); k_is; boot_fast; decide; rfl; rfl; rfl; rfl; rfl)
    | ((with_reducible apply v_tcall (f := Str.ofString "int") (id := "int") G); k_is; boot_fast; decide; rfl; rfl; rfl; rfl; rfl)
    | with_reducible apply v_tuple G
    | with_reducible apply v_list G
    | with_reducible exact v_str
    | with_reducible apply v_bytes
    | ((with_reducible apply v_globV G); k_is; rfl; rfl)
    | ((with_reducible apply v_if1); (focus (k_extra "v go"; done)); (first | omega | decide))
    | ((with_reducible apply v_if2); (focus (k_extra "v go"; done)); (first | omega | decide)))
  k_with "v2" => (first
    | with_reducible exact o_addI
    | with_reducible apply o_addY
    | with_reducible exact o_subI
    | with_reducible apply o_mulI
    | with_reducible apply o_modI
    | with_reducible apply o_divI
    | with_reducible apply o_itemY
    | with_reducible apply o_itemT
    | ((with_reducible apply o_itemTT G); (intro _ _; rfl); (intro _ _; rfl); (repeat' first | exact List.mem_cons_self | refine List.mem_cons_of_mem _ ?_)))
  k_with "vl" => (first | with_reducible exact vl_nil | ((with_reducible apply vl_cons); rfl))
  k_with "vo" => (first
    | with_reducible exact o_len
    | with_reducible apply o_bytes1 G
    | with_reducible apply o_bytes2 G
    | with_reducible apply o_bytesN)
  k_with "vt" => (first
    | with_reducible apply tp_chain
    | with_reducible apply tp_cmp
    | with_reducible apply tp_not
    | with_reducible apply tp_or)
  k_with "vm" => (first
    | with_reducible exact cp_lt
    | with_reducible exact cp_le
    | with_reducible exact cp_gt
    | with_reducible exact cp_eq
    | with_reducible exact cp_ne
    | with_reducible exact cp_eqs
    | with_reducible exact cp_in3
    | with_reducible exact cp_first G
    | with_reducible exact cp_tt G)
  k_with "vp" => (first | with_reducible exact p_none | with_reducible apply p_some)
  k_with "vs" => (first
    | ((with_reducible intro _ _ _); rfl)
    | ((with_reducible intro _ _); rfl)
    | rfl
    | exact Nat.le_of_ble_eq_true rfl
    | omega
    | decide
    | (simp only [Array.size_append, be2_size, be4_size, byteArr_size, List.length_cons, List.length_nil]; omega))
  k_with "v go" => repeat' (k_extra "v1")
  k_with "x1" => (first
    | with_reducible apply ex_cons
    | with_reducible apply ex_nil
    | ((with_reducible apply xr); (focus (k_extra "v go"; done)))
    | ((with_reducible apply xa G); (focus (k_extra "v go"; done)); rfl; rfl)
    | ((with_reducible apply xi); (focus (k_extra "v go"; done)); (all_goals try (intro hc; try (exfalso; first | omega | exact absurd hc (by decide) | exact hc (by decide)))))
    | with_reducible apply ex_break
    | ((with_reducible apply ex_none (e := Expr.Call (Expr.Name _ _) _ _ _)); rfl; rfl)
    | ((with_reducible refine' ex_raise G ?zzW ?zzdl ?zzn ?zzk ?zzd ?zzi ?_); (case zzn => k_is); (case zzk => rfl); (case zzd => rfl); (case zzi => k_is); (case zzdl => decide); (case zzW => first | exact exc44 w | exact exc56 w))
    | ((with_reducible refine' ex_assignT G ?zzq ?zzx ?zzn ?zze ?zzf ?zzs ?zzw ?_); (case zzq => rfl); (case zzn => rfl); (case zze => rfl); (case zzf => rfl); (case zzs => rfl); (case zzw => rfl); (case zzx => decide))
    | ((with_reducible apply ex_assignS (names := [_, _]) G); (case hw => rfl); (case hs => rfl); (case hx => decide))
    | with_reducible refine ex_ret ?_
    | ((with_reducible refine' ex_assign G ?zza ?zzb ?_); (case zza => rfl); (case zzb => rfl))
    | ((with_reducible apply ev_of); (focus (k_extra "v go"; done)))
    | ((with_reducible apply e_call G); k_is; rfl; rfl; k_is; rfl; rfl; rfl; (focus (k_extra "v go"; done)))
    | ((with_reducible refine' ev_call G ?zzn ?zzk ?zzd ?zzi ?zzc ?zzs ?zzx ?_); (case zzn => k_is); (case zzk => rfl); (case zzd => rfl); (case zzi => k_is); (case zzc => rfl); (case zzs => rfl); (case zzx => rfl))
    | with_reducible refine ev_binop ?_
    | ((with_reducible refine' evl_cons ?zzs ?_); (case zzs => rfl))
    | with_reducible refine evl_nil ?_
    | ((with_reducible refine' op_add_bytes ?zza ?_); (case zza => first | omega | (simp only [Array.size_append, be2_size, be4_size, byteArr_size, List.length_cons, List.length_nil]; omega)))
    | ((with_reducible refine' ex_dT ?zza ?_); (case zza => rfl); (try dsimp only [insD, namesOf, nameOf, List.foldr, List.append, List.cons_append, List.nil_append, List.map, List.zip, List.zipWith, List.reverse, List.reverseAux]))
    | (refine ve_exc ?_; first | trivial | omega | (simp only [Array.size_append, byteArr_size, be2_size, be4_size, List.length_cons, List.length_nil] at h; omega))
    | (refine ve_val ?_ ?_; (first | trivial | omega | (simp only [Array.size_append, byteArr_size, be2_size, be4_size, List.length_cons, List.length_nil] at h; omega)); (first | rfl | skip))
    | (exfalso; simp only [Array.size_append, byteArr_size, be2_size, be4_size, List.length_cons, List.length_nil] at h; omega))
  k_with "x go" => repeat' (k_extra "x1")
  trivial

set_option linter.unusedSectionVars false
theorem rows4 : True := by
  k_with "vo c" => with_reducible apply o_call G (fun _ q => t_get16 w q ?_)
  k_with "vo c" => with_reducible apply o_call G (fun _ q => t_get32 w q ?_)
  trivial
def rf (k : Int) (b : Array UInt8) : Out D :=
  if k = 3 then (if (b.size : Int) < 2 then .exc 44 else .val (dT [dS (Str.ofString "time"), dI (by2 b 0 : Nat)]))
  else if ¬ (2 ≤ (b.size : Int) ∧ (b.size : Int) ≤ 255 + 1) then .exc 44
  else .val (dT [dS (if k = 1 then Str.ofString "chassis" else Str.ofString "port"), dI (bat b 0 : Nat), dY (KBy.picked b (some 1) none)])
def ra (b : Array UInt8) : Out D :=
  if ¬ 0 < b.size then .exc 44
  else if ¬ (2 ≤ (bat b 0 : Int) ∧ (bat b 0 : Int) ≤ 32) ∨ (b.size : Int) < (bat b 0 : Int) + 7 then .exc 44
  else if ¬ (bat b ((bat b 0 : Int) + 6).toNat : Int) = ((KBy.picked b (some ((bat b 0 : Int) + 7)) none).size : Int) then .exc 44
  else .val (dT [dS (Str.ofString "address"), dI (bat b 1 : Nat), dY (KBy.picked b (some 2) (some ((bat b 0 : Int) + 1))), dI (bat b ((bat b 0 : Int) + 1).toNat : Nat), dI (by4 b ((bat b 0 : Int) + 2).toNat : Nat), dY (KBy.picked b (some ((bat b 0 : Int) + 7)) none)])
section
variable (w : World) {hs : List Addr} {I : Heap → Prop} (hI : HI hs I)
include hI
theorem t_rf1 {b : Array UInt8} : CT w hs I 550 380 152 [dI 1, dY b] (· = rf 1 b) := by
  k_extra "w enter"
  k_extra "x go"
  · exact ((if_neg (by decide)).trans (if_pos hc)).symm
  · exact ((if_neg (by decide)).trans (if_neg hc)).symm
theorem t_rf2 {b : Array UInt8} : CT w hs I 550 380 152 [dI 2, dY b] (· = rf 2 b) := by
  k_extra "w enter"
  k_extra "x go"
  · exact ((if_neg (by decide)).trans (if_pos hc)).symm
  · exact ((if_neg (by decide)).trans (if_neg hc)).symm
theorem t_rf3 {b : Array UInt8} : CT w hs I 550 380 152 [dI 3, dY b] (· = rf 3 b) := by
  k_extra "w enter"
  k_extra "x go"
  · exact ((if_pos rfl).trans (if_pos hc)).symm
  · exact ((if_pos rfl).trans (if_neg hc)).symm
theorem t_rf {k : Int} {b : Array UInt8} (hk : 1 = k ∨ 2 = k ∨ 3 = k) : CT w hs I 550 380 152 [dI k, dY b] (· = rf k b) := by
  rcases hk with rfl | rfl | rfl
  · exact t_rf1 w hI
  · exact t_rf2 w hI
  · exact t_rf3 w hI
theorem t_ra {b : Array UInt8} : CT w hs I 550 380 145 [dY b] (· = ra b) := by
  by_cases h0 : 0 < b.size
  · k_extra "w enter"
    k_extra "x go"
    · exact ((if_neg (not_not_intro h0)).trans (if_pos hc)).symm
    · exact ((if_neg (not_not_intro h0)).trans ((if_neg (by assumption)).trans (if_pos hc))).symm
    · exact ((if_neg (not_not_intro h0)).trans ((if_neg (by assumption)).trans (if_neg hc))).symm
  · k_extra "w enter"
    k_extra "x go"
    exact (if_pos h0).symm
end

set_option linter.unusedSimpArgs false
set_option linter.unusedVariables false
theorem rows2_T5 : True := by
  k_with_none
  k_with "w enter" => (refine' ct_enter ?cI ?cr ?co ?cc ?cb ?cl ?cn ?c1 ?c2 ?c3 ?c4 ?_; (case cI => assumption); (case cr => decide); (case co => k_is); (case cc => k_is); (case cb => (intro s vs hv; first | (obtain rfl := len0 hv; exact BindsTo.of_eq rfl) | (obtain ⟨a, rfl⟩ := len1 hv; exact BindsTo.of_eq rfl) | (obtain ⟨a, b, rfl⟩ := len2 hv; exact BindsTo.of_eq rfl) | (obtain ⟨a, b, c, rfl⟩ := len3 hv; exact BindsTo.of_eq rfl) | (obtain ⟨a, b, c, d, rfl⟩ := len4 hv; exact BindsTo.of_eq rfl))); (case cl => first | exact (fun _ h => absurd h List.not_mem_nil) | (simp only [List.map, List.mem_cons, List.not_mem_nil, or_false, forall_eq_or_imp, forall_eq]; decide)); (case cn => rfl); (case c1 => rfl); (case c2 => rfl); (case c3 => rfl); (case c4 => decide); intro C G _ _ e3; (dsimp only [List.map, List.zip, List.zipWith, List.reverse, List.reverseAux]); (try k_fold))
  k_with "v1" => (first
    | ((with_reducible show Ev _ _ _ _ _ _); (first | k_extra "ve c" | k_extra "ve"))
    | ((with_reducible show Op2 _ _ _ _ _ _ _ _); k_extra "v2")
    | ((with_reducible show EvL _ _ _ _ _ _); k_extra "vl")
    | ((with_reducible show OpL _ _ _ _ _ _ _); (first | k_extra "vo c" | k_extra "vo"))
    | ((with_reducible show Tst _ _ _ _ _ _); k_extra "vt")
    | ((with_reducible show Cm2 _ _ _ _ _ _ _ _); k_extra "vm")
    | ((with_reducible show EvP _ _ _ _ _ _); k_extra "vp")
    | k_extra "vs")
  k_with "ve c" => fail
  k_with "vo c" => fail
  k_with "ve" => (first
    | ((with_reducible apply v_name G); rfl; rfl; rfl)
    | with_reducible exact v_int
    | with_reducible apply v_bin
    | with_reducible apply v_slice G
    | with_reducible apply v_sub
    | ((with_reducible apply v_globI G); k_is; rfl; rfl)
    | ((with_reducible apply e_call G); k_is; rfl; rfl; k_is; rfl; rfl; rfl)
    | ((with_reducible apply v_bcall (f := Str.ofString "len") (id := "len") G); k_is; boot_fast; decide; rfl; rfl; rfl; rfl; rfl)
    | ((with_reducible apply v_tcall (f := Str.ofString "bytes") (id := "bytes") G); k_is; boot_fast; decide; rfl; rfl; rfl; rfl; rfl)
    | ((with_reducible apply v_tcall (f := Str.ofString "tuple") (id := "tuple") G); k_is; boot_fast; decide; rfl; rfl; rfl; rfl; rfl)
    | ((with_reducible apply v_tcall (f := Str.ofString "int") (id := "int") G); k_is; boot_fast; decide; rfl; rfl; rfl; rfl; rfl)
    | with_reducible apply v_tuple G
    | with_reducible apply v_list G
    | with_reducible exact v_str
    | with_reducible apply v_bytes
    | ((with_reducible apply v_globV G); k_is; rfl; rfl)
    | ((with_reducible apply v_if1); (focus (k_extra "v go"; done)); (first | omega | decide))
    | ((with_reducible apply v_if2); (focus (k_extra "v go"; done)); (first | omega | decide)))
  k_with "v2" => (first
    | with_reducible exact o_addI
    | with_reducible apply o_addY
    | with_reducible exact o_subI
    | with_reducible apply o_mulI
    | with_reducible apply o_modI
    | with_reducible apply o_divI
    | with_reducible apply o_itemY
    | with_reducible apply o_itemT
    | ((with_reducible apply o_itemTT G); (intro _ _; rfl); (intro _ _; rfl); (repeat' first | exact List.mem_cons_self | refine List.mem_cons_of_mem _ ?_)))
  k_with "vl" => (first | with_reducible exact vl_nil | ((with_reducible apply vl_cons); rfl))
  k_with "vo" => (first
    | with_reducible exact o_len
    | with_reducible apply o_bytes1 G
    | with_reducible apply o_bytes2 G
    | with_reducible apply o_bytesN)
  k_with "vt" => (first
    | with_reducible apply tp_chain
    | with_reducible apply tp_cmp
    | with_reducible apply tp_not
    | with_reducible apply tp_or)
  k_with "vm" => (first
    | with_reducible exact cp_lt
    | with_reducible exact cp_le
    | with_reducible exact cp_gt
    | with_reducible exact cp_eq
    | with_reducible exact cp_ne
    | with_reducible exact cp_eqs
    | with_reducible exact cp_in3
    | with_reducible exact cp_first G
    | with_reducible exact cp_tt G)
  k_with "vp" => (first | with_reducible exact p_none | with_reducible apply p_some)
  k_with "vs" => (first
    | ((with_reducible intro _ _ _); rfl)
    | ((with_reducible intro _ _); rfl)
    | rfl
    | exact Nat.le_of_ble_eq_true rfl
    | omega
    | decide
    | (simp only [Array.size_append, be2_size, be4_size, byteArr_size, List.length_cons, List.length_nil]; omega))
  k_with "v go" => repeat' (k_extra "v1")
  k_with "x1" => (first
    | with_reducible apply ex_cons
    | with_reducible apply ex_nil
    | ((with_reducible apply xr); (focus (k_extra "v go"; done)))
    | ((with_reducible apply xa G); (focus (k_extra "v go"; done)); rfl; rfl)
    | ((with_reducible apply xi); (focus (k_extra "v go"; done)); (all_goals try (intro hc; try (exfalso; first | omega | exact absurd hc (by decide) | exact hc (by decide)))))
    | with_reducible apply ex_break
    | ((with_reducible apply ex_none (e := Expr.Call (Expr.Name _ _) _ _ _)); rfl; rfl)
    | ((with_reducible refine' ex_raise G ?zzW ?zzdl ?zzn ?zzk ?zzd ?zzi ?_); (case zzn => k_is); (case zzk => rfl); (case zzd => rfl); (case zzi => k_is); (case zzdl => decide); (case zzW => first | exact exc44 w | exact exc56 w))
    | ((with_reducible refine' ex_assignT G ?zzq ?zzx ?zzn ?zze ?zzf ?zzs ?zzw ?_); (case zzq => rfl); (case zzn => rfl); (case zze => rfl); (case zzf => rfl); (case zzs => rfl); (case zzw => rfl); (case zzx => decide))
    | ((with_reducible apply ex_assignS (names := [_, _]) G); (case hw => rfl); (case hs => rfl); (case hx => decide))
    | with_reducible refine ex_ret ?_
    | ((with_reducible refine' ex_assign G ?zza ?zzb ?_); (case zza => rfl); (case zzb => rfl))
    | ((with_reducible apply ev_of); (focus (k_extra "v go"; done)))
    | ((with_reducible apply e_call G); k_is; rfl; rfl; k_is; rfl; rfl; rfl; (focus (k_extra "v go"; done)))
    | ((with_reducible refine' ev_call G ?zzn ?zzk ?zzd ?zzi ?zzc ?zzs ?zzx ?_); (case zzn => k_is); (case zzk => rfl); (case zzd => rfl); (case zzi => k_is); (case zzc => rfl); (case zzs => rfl); (case zzx => rfl))
    | with_reducible refine ev_binop ?_
    | ((with_reducible refine' evl_cons ?zzs ?_); (case zzs => rfl))
    | with_reducible refine evl_nil ?_
    | ((with_reducible refine' op_add_bytes ?zza ?_); (case zza => first | omega | (simp only [Array.size_append, be2_size, be4_size, byteArr_size, List.length_cons, List.length_nil]; omega)))
    | ((with_reducible refine' ex_dT ?zza ?_); (case zza => rfl); (try dsimp only [insD, namesOf, nameOf, List.foldr, List.append, List.cons_append, List.nil_append, List.map, List.zip, List.zipWith, List.reverse, List.reverseAux]))
    | (refine ve_exc ?_; first | trivial | omega | (simp only [Array.size_append, byteArr_size, be2_size, be4_size, List.length_cons, List.length_nil] at h; omega))
    | (refine ve_val ?_ ?_; (first | trivial | omega | (simp only [Array.size_append, byteArr_size, be2_size, be4_size, List.length_cons, List.length_nil] at h; omega)); (first | rfl | skip))
    | (exfalso; simp only [Array.size_append, byteArr_size, be2_size, be4_size, List.length_cons, List.length_nil] at h; omega))
  k_with "x go" => repeat' (k_extra "x1")
  trivial

set_option linter.unusedSectionVars false
theorem rows5 : True := by
  k_with "vo c" => with_reducible apply o_call G (fun _ q => t_get16 w q ?_)
  k_with "vo c" => with_reducible apply o_call G (fun _ q => t_get32 w q ?_)
  trivial
def tx (x : Str) (b : Array UInt8) : Out D := if 255 < (b.size : Int) then .exc 44 else .val (dT [dS x, dY b])
def rd (k : Int) (b : Array UInt8) : Out D :=
  if 1 = k ∨ 2 = k ∨ 3 = k then rf k b else if 4 = k then tx (Str.ofString "port text") b else if 5 = k then tx (Str.ofString "name") b else if 6 = k then tx (Str.ofString "system text") b
  else if k = 7 then (if ¬ (b.size : Int) = 4 then .exc 44 else .val (dT [dS (Str.ofString "abilities"), dI (by2 b 0 : Nat), dI (by2 b 2 : Nat)]))
  else if k = 8 then ra b
  else if k = 127 then (if (b.size : Int) < 4 then .exc 44 else .val (dT [dS (Str.ofString "own"), dI (((by4 b 0 : Nat) : Int).fdiv 256), dI (bat b 3 : Nat), dY (KBy.picked b (some 4) none)]))
  else .val (dT [dS (Str.ofString "other"), dI k, dY b])
section
variable (w : World) {hs : List Addr} {I : Heap → Prop} (hI : HI hs I)
include hI
theorem t_rd {k : Int} {b : Array UInt8} (hk : 0 ≤ k ∧ k < 128) : CT w hs I 548 375 159 [dI k, dY b] (· = rd k b) := by
  k_with "x1" => ((with_reducible refine op_call G (fun _ q => t_rf w q hc) ?_ ?_ (fun o h => ?_)); decide; decide)
  k_with "x1" => ((with_reducible refine op_call G (fun _ q => t_ra w q) ?_ ?_ (fun o h => ?_)); decide; decide)
  k_extra "w enter"
  k_extra "x go"
  · cases o <;> exact h.trans (if_pos hc).symm
  · refine ex_for G 3 (fun i => dS (ttW.getD i (Str.ofString "", 0)).1) (fun i ρ => (Str.ofString "word", dS (ttW.getD i (Str.ofString "", 0)).1) :: ρ)
      (fun i ρ' => (0 < i → ¬ 4 = k) ∧ (1 < i → ¬ 5 = k) ∧ (2 < i → ¬ 6 = k) ∧ lk ρ' (Str.ofString "kind") = some (dI k) ∧ lk ρ' (Str.ofString "body") = some (dY b)) (fun _ => rfl) ⟨fun h => absurd h (by decide), fun h => absurd h (by decide), fun h => absurd h (by decide), rfl, rfl⟩ (ev_of (v_globV G (by k_is) rfl rfl) (it_tt G)) (fun i it o _ G' => asg_name G' rfl) (fun i ρ' it o hi e hI' G => ?_) (fun ρ' e => ?_)
    · obtain ⟨e4, e5, e6, ek, eb⟩ := e
      k_with "ve" => ((with_reducible apply v_name G); (first | exact ek | exact eb); rfl; rfl)
      have : i = 0 ∨ i = 1 ∨ i = 2 := by omega
      rcases this with rfl | rfl | rfl
      · show Ex _ _ _ ((_, dS (Str.ofString "port text")) :: ρ') _ _
        k_extra "x go"
        · exact ((if_neg (by assumption)).trans ((if_pos (by assumption)).trans (if_pos hc))).symm
        · exact ((if_neg (by assumption)).trans ((if_pos (by assumption)).trans (if_neg hc))).symm
        · exact ⟨fun _ => hc, fun h => absurd h (by decide), fun h => absurd h (by decide), ek, eb⟩
      · show Ex _ _ _ ((_, dS (Str.ofString "name")) :: ρ') _ _
        k_extra "x go"
        · exact ((if_neg (by assumption)).trans ((if_neg (e4 (by decide))).trans ((if_pos (by assumption)).trans (if_pos hc)))).symm
        · exact ((if_neg (by assumption)).trans ((if_neg (e4 (by decide))).trans ((if_pos (by assumption)).trans (if_neg hc)))).symm
        · exact ⟨fun _ => e4 (by decide), fun _ => hc, fun h => absurd h (by decide), ek, eb⟩
      · show Ex _ _ _ ((_, dS (Str.ofString "system text")) :: ρ') _ _
        k_extra "x go"
        · exact ((if_neg (by assumption)).trans ((if_neg (e4 (by decide))).trans ((if_neg (e5 (by decide))).trans ((if_pos (by assumption)).trans (if_pos hc))))).symm
        · exact ((if_neg (by assumption)).trans ((if_neg (e4 (by decide))).trans ((if_neg (e5 (by decide))).trans ((if_pos (by assumption)).trans (if_neg hc))))).symm
        · exact ⟨fun _ => e4 (by decide), fun _ => e5 (by decide), fun _ => hc, ek, eb⟩
    · obtain ⟨e4, e5, e6, ek, eb⟩ := e
      k_with "ve" => ((with_reducible apply v_name G); (first | exact ek | exact eb); rfl; rfl)
      have pre : ∀ {x : Out D}, (if k = 7 then _ else _) = x → rd k b = x := fun h => ((if_neg (by assumption)).trans ((if_neg (e4 (by decide))).trans ((if_neg (e5 (by decide))).trans (if_neg (e6 (by decide)))))).trans h
      show Ex _ _ _ ρ' _ _
      k_extra "x go"
      · exact (pre ((if_pos (by assumption)).trans (if_pos hc))).symm
      · exact (pre ((if_pos (by assumption)).trans (if_neg hc))).symm
      · cases o <;> exact h.trans (pre ((if_neg (by assumption)).trans (if_pos hc))).symm
      · exact (pre ((if_neg (by assumption)).trans ((if_neg (by assumption)).trans ((if_pos (by assumption)).trans (if_pos hc))))).symm
      · exact (pre ((if_neg (by assumption)).trans ((if_neg (by assumption)).trans ((if_pos (by assumption)).trans (if_neg hc))))).symm
      · exact (pre ((if_neg (by assumption)).trans ((if_neg (by assumption)).trans (if_neg hc)))).symm
end

set_option linter.unusedSimpArgs false
set_option linter.unusedVariables false
theorem rows2_T6 : True := by
  k_with_none
  k_with "w enter" => (refine' ct_enter ?cI ?cr ?co ?cc ?cb ?cl ?cn ?c1 ?c2 ?c3 ?c4 ?_; (case cI => assumption); (case cr => decide); (case co => k_is); (case cc => k_is); (case cb => (intro s vs hv; first | (obtain rfl := len0 hv; exact BindsTo.of_eq rfl) | (obtain ⟨a, rfl⟩ := len1 hv; exact BindsTo.of_eq rfl) | (obtain ⟨a, b, rfl⟩ := len2 hv; exact BindsTo.of_eq rfl) | (obtain ⟨a, b, c, rfl⟩ := len3 hv; exact BindsTo.of_eq rfl) | (obtain ⟨a, b, c, d, rfl⟩ := len4 hv; exact BindsTo.of_eq rfl))); (case cl => first | exact (fun _ h => absurd h List.not_mem_nil) | (simp only [List.map, List.mem_cons, List.not_mem_nil, or_false, forall_eq_or_imp, forall_eq]; decide)); (case cn => rfl); (case c1 => rfl); (case c2 => rfl); (case c3 => rfl); (case c4 => decide); intro C G _ _ e3; (dsimp only [List.map, List.zip, List.zipWith, List.reverse, List.reverseAux]); (try k_fold))
  k_with "v1" => (first
    | ((with_reducible show Ev _ _ _ _ _ _); (first | k_extra "ve c" | k_extra "ve"))
    | ((with_reducible show Op2 _ _ _ _ _ _ _ _); k_extra "v2")
    | ((with_reducible show EvL _ _ _ _ _ _); k_extra "vl")
    | ((with_reducible show OpL _ _ _ _ _ _ _); (first | k_extra "vo c" | k_extra "vo"))
    | ((with_reducible show Tst _ _ _ _ _ _); k_extra "vt")
    | ((with_reducible show Cm2 _ _ _ _ _ _ _ _); k_extra "vm")
    | ((with_reducible show EvP _ _ _ _ _ _); k_extra "vp")
    | k_extra "vs")
  k_with "ve c" => fail
  k_with "vo c" => fail
  k_with "ve" => (first
    | ((with_reducible apply v_name G); rfl; rfl; rfl)
    | with_reducible exact v_int
    | with_reducible apply v_bin
    | with_reducible apply v_slice G
    | with_reducible apply v_sub
    | ((with_reducible apply v_globI G); k_is; rfl; rfl)
    | ((with_reducible apply e_call G); k_is; rfl; rfl; k_is; rfl; rfl; rfl)
    | ((with_reducible apply v_bcall (f := Str.ofString "len") (id := "len") G); k_is; boot_fast; decide; rfl; rfl; rfl; rfl; rfl)
    | ((with_reducible apply v_tcall (f := Str.ofString "bytes") (id := "bytes") G); k_is; boot_fast; decide; rfl; rfl; rfl; rfl; rfl)
    | ((with_reducible apply v_tcall (f := Str.ofString "tuple") (id := "tuple") G); k_is; boot_fast; decide; rfl; rfl; rfl; rfl; rfl)
    | ((with_reducible apply v_tcall (f := Str.ofString "int") (id := "int") G); k_is; boot_fast; decide; rfl; rfl; rfl; rfl; rfl)
    | with_reducible apply v_tuple G
    | with_reducible apply v_list G
    | with_reducible exact v_str
    | with_reducible apply v_bytes
    | ((with_reducible apply v_globV G); k_is; rfl; rfl)
    | ((with_reducible apply v_if1); (focus (k_extra "v go"; done)); (first | omega | decide))
    | ((with_reducible apply v_if2); (focus (k_extra "v go"; done)); (first | omega | decide)))
  k_with "v2" => (first
    | with_reducible exact o_addI
    | with_reducible apply o_addY
    | with_reducible exact o_subI
    | with_reducible apply o_mulI
    | with_reducible apply o_modI
    | with_reducible apply o_divI
    | with_reducible apply o_itemY
    | with_reducible apply o_itemT
    | ((with_reducible apply o_itemTT G); (intro _ _; rfl); (intro _ _; rfl); (repeat' first | exact List.mem_cons_self | refine List.mem_cons_of_mem _ ?_)))
  k_with "vl" => (first | with_reducible exact vl_nil | ((with_reducible apply vl_cons); rfl))
  k_with "vo" => (first
    | with_reducible exact o_len
    | with_reducible apply o_bytes1 G
    | with_reducible apply o_bytes2 G
    | with_reducible apply o_bytesN)
  k_with "vt" => (first
    | with_reducible apply tp_chain
    | with_reducible apply tp_cmp
    | with_reducible apply tp_not
    | with_reducible apply tp_or)
  k_with "vm" => (first
    | with_reducible exact cp_lt
    | with_reducible exact cp_le
    | with_reducible exact cp_gt
    | with_reducible exact cp_eq
    | with_reducible exact cp_ne
    | with_reducible exact cp_eqs
    | with_reducible exact cp_in3
    | with_reducible exact cp_first G
    | with_reducible exact cp_tt G)
  k_with "vp" => (first | with_reducible exact p_none | with_reducible apply p_some)
  k_with "vs" => (first
    | ((with_reducible intro _ _ _); rfl)
    | ((with_reducible intro _ _); rfl)
    | rfl
    | exact Nat.le_of_ble_eq_true rfl
    | omega
    | decide
    | (simp only [Array.size_append, be2_size, be4_size, byteArr_size, List.length_cons, List.length_nil]; omega))
  k_with "v go" => repeat' (k_extra "v1")
  k_with "x1" => (first
    | with_reducible apply ex_cons
    | with_reducible apply ex_nil
    | ((with_reducible apply xr); (focus (k_extra "v go"; done)))
    | ((with_reducible apply xa G); (focus (k_extra "v go"; done)); rfl; rfl)
    | ((with_reducible apply xi); (focus (k_extra "v go"; done)); (all_goals try (intro hc; try (exfalso; first | omega | exact absurd hc (by decide) | exact hc (by decide)))))
    | with_reducible apply ex_break
    | ((with_reducible apply ex_none (e := Expr.Call (Expr.Name _ _) _ _ _)); rfl; rfl)
    | ((with_reducible refine' ex_raise G ?zzW ?zzdl ?zzn ?zzk ?zzd ?zzi ?_); (case zzn => k_is); (case zzk => rfl); (case zzd => rfl); (case zzi => k_is); (case zzdl => decide); (case zzW => first | exact exc44 w | exact exc56 w))
    | ((with_reducible refine' ex_assignT G ?zzq ?zzx ?zzn ?zze ?zzf ?zzs ?zzw ?_); (case zzq => rfl); (case zzn => rfl); (case zze => rfl); (case zzf => rfl); (case zzs => rfl); (case zzw => rfl); (case zzx => decide))
    | ((with_reducible apply ex_assignS (names := [_, _]) G); (case hw => rfl); (case hs => rfl); (case hx => decide))
    | with_reducible refine ex_ret ?_
    | ((with_reducible refine' ex_assign G ?zza ?zzb ?_); (case zza => rfl); (case zzb => rfl))
    | ((with_reducible apply ev_of); (focus (k_extra "v go"; done)))
    | ((with_reducible apply e_call G); k_is; rfl; rfl; k_is; rfl; rfl; rfl; (focus (k_extra "v go"; done)))
    | ((with_reducible refine' ev_call G ?zzn ?zzk ?zzd ?zzi ?zzc ?zzs ?zzx ?_); (case zzn => k_is); (case zzk => rfl); (case zzd => rfl); (case zzi => k_is); (case zzc => rfl); (case zzs => rfl); (case zzx => rfl))
    | with_reducible refine ev_binop ?_
    | ((with_reducible refine' evl_cons ?zzs ?_); (case zzs => rfl))
    | with_reducible refine evl_nil ?_
    | ((with_reducible refine' op_add_bytes ?zza ?_); (case zza => first | omega | (simp only [Array.size_append, be2_size, be4_size, byteArr_size, List.length_cons, List.length_nil]; omega)))
    | ((with_reducible refine' ex_dT ?zza ?_); (case zza => rfl); (try dsimp only [insD, namesOf, nameOf, List.foldr, List.append, List.cons_append, List.nil_append, List.map, List.zip, List.zipWith, List.reverse, List.reverseAux]))
    | (refine ve_exc ?_; first | trivial | omega | (simp only [Array.size_append, byteArr_size, be2_size, be4_size, List.length_cons, List.length_nil] at h; omega))
    | (refine ve_val ?_ ?_; (first | trivial | omega | (simp only [Array.size_append, byteArr_size, be2_size, be4_size, List.length_cons, List.length_nil] at h; omega)); (first | rfl | skip))
    | (exfalso; simp only [Array.size_append, byteArr_size, be2_size, be4_size, List.length_cons, List.length_nil] at h; omega))
  k_with "x go" => repeat' (k_extra "x1")
  trivial

set_option linter.unusedSectionVars false
def okRows (rs : List Row) : Bool := !neFW ((rs.take 3).map (·.1)) && ((rs.drop 3).filter fun p => FW.any (fun y => y == p.1)).isEmpty
section
variable (w : World) {hs : List Addr} {I : Heap → Prop} (hI : HI hs I)
include hI
theorem t_check {rs : List Row} (hz : rs.length ≤ 1000) : CT w hs I 548 370 133 [dL (rs.map rowD)] (VE (okRows rs = true) (dV .none) (¬ okRows rs = true) 44) := by
  have l1 : (rs.take 3).length ≤ 1048576 := by rw [List.length_take]; omega
  have l2 : (rs.drop 3).length ≤ 1048576 := by rw [List.length_drop]; omega
  have l3 : (rs.map rowD).length ≤ 1048576 := by rw [List.length_map]; omega
  have u3 : ∀ g vs, Rels g (rs.map rowD) vs → Rels g ((rs.take 3).map rowD) (slicePick vs.toArray none (some 3) none).toList := fun g vs r => by rw [List.map_take]; exact hp_upto (y := 3) (by decide) g vs r
  have f3 : ∀ g vs, Rels g (rs.map rowD) vs → Rels g ((rs.drop 3).map rowD) (slicePick vs.toArray (some 3) none none).toList := fun g vs r => by rw [List.map_drop]; exact hp_from (x := 3) (by decide) g vs r
  k_with "ve c" => ((with_reducible apply v_heads (cl := []) (rs := rs.take 3) G); (focus ((with_reducible apply v_sliceL (ds := rs.map rowD) G); (k_extra "v1"); (exact p_none); (with_reducible apply p_some); (k_extra "v1"); (intro _ _; rfl); (intro _ _; rfl); (exact l3); (exact u3))); (exact l1); rfl; decide; rfl; decide; rfl; (intro _; rfl); (intro _; rfl); (intro _; rfl))
  k_with "ve c" => ((with_reducible apply v_dups (cl := []) (rs := rs.drop 3) G); (focus ((with_reducible apply v_sliceL (ds := rs.map rowD) G); (k_extra "v1"); (with_reducible apply p_some); (k_extra "v1"); (exact p_none); (intro _ _; rfl); (intro _ _; rfl); (exact l3); (exact f3))); (exact l2); rfl; decide; rfl; decide; rfl; (intro _; rfl); (intro _; rfl); (intro _; rfl); (intro _; rfl); k_is; rfl)
  k_with "vo c" => with_reducible exact o_tupleL G (by rw [List.length_map, List.length_map]; exact l1)
  k_with "vm" => with_reducible exact cp_ne100 G (by decide)
  k_with "vm" => with_reducible exact cp_neL0 G (by decide)
  k_extra "w enter"
  k_extra "x go"
  · exact .inr ⟨(fun e => by unfold okRows at e; rw [hc] at e; exact Bool.noConfusion e), rfl⟩
  · exact .inr ⟨(fun e => hc (by rw [List.isEmpty_iff.mp (Bool.and_eq_true_iff.mp e).2]; rfl)), rfl⟩
  · have h1 : ¬ neFW ((rs.take 3).map (·.1)) = true := by assumption
    exact .inl ⟨Bool.and_eq_true_iff.mpr ⟨(by rw [Bool.eq_false_iff.mpr h1]; rfl), List.isEmpty_iff.mpr (List.map_eq_nil_iff.mp (Classical.not_not.mp hc))⟩, rfl⟩
end

set_option linter.unusedSimpArgs false
set_option linter.unusedVariables false
theorem rows2_T7 : True := by
  k_with_none
  k_with "w enter" => (refine' ct_enter ?cI ?cr ?co ?cc ?cb ?cl ?cn ?c1 ?c2 ?c3 ?c4 ?_; (case cI => assumption); (case cr => decide); (case co => k_is); (case cc => k_is); (case cb => (intro s vs hv; first | (obtain rfl := len0 hv; exact BindsTo.of_eq rfl) | (obtain ⟨a, rfl⟩ := len1 hv; exact BindsTo.of_eq rfl) | (obtain ⟨a, b, rfl⟩ := len2 hv; exact BindsTo.of_eq rfl) | (obtain ⟨a, b, c, rfl⟩ := len3 hv; exact BindsTo.of_eq rfl) | (obtain ⟨a, b, c, d, rfl⟩ := len4 hv; exact BindsTo.of_eq rfl))); (case cl => first | exact (fun _ h => absurd h List.not_mem_nil) | (simp only [List.map, List.mem_cons, List.not_mem_nil, or_false, forall_eq_or_imp, forall_eq]; decide)); (case cn => rfl); (case c1 => rfl); (case c2 => rfl); (case c3 => rfl); (case c4 => decide); intro C G _ _ e3; (dsimp only [List.map, List.zip, List.zipWith, List.reverse, List.reverseAux]); (try k_fold))
  k_with "v1" => (first
    | ((with_reducible show Ev _ _ _ _ _ _); (first | k_extra "ve c" | k_extra "ve"))
    | ((with_reducible show Op2 _ _ _ _ _ _ _ _); k_extra "v2")
    | ((with_reducible show EvL _ _ _ _ _ _); k_extra "vl")
    | ((with_reducible show OpL _ _ _ _ _ _ _); (first | k_extra "vo c" | k_extra "vo"))
    | ((with_reducible show Tst _ _ _ _ _ _); k_extra "vt")
    | ((with_reducible show Cm2 _ _ _ _ _ _ _ _); k_extra "vm")
    | ((with_reducible show EvP _ _ _ _ _ _); k_extra "vp")
    | k_extra "vs")
  k_with "ve c" => fail
  k_with "vo c" => fail
  k_with "ve" => (first
    | ((with_reducible apply v_name G); rfl; rfl; rfl)
    | with_reducible exact v_int
    | with_reducible apply v_bin
    | with_reducible apply v_slice G
    | with_reducible apply v_sub
    | ((with_reducible apply v_globI G); k_is; rfl; rfl)
    | ((with_reducible apply e_call G); k_is; rfl; rfl; k_is; rfl; rfl; rfl)
    | ((with_reducible apply v_bcall (f := Str.ofString "len") (id := "len") G); k_is; boot_fast; decide; rfl; rfl; rfl; rfl; rfl)
    | ((with_reducible apply v_tcall (f := Str.ofString "bytes") (id := "bytes") G); k_is; boot_fast; decide; rfl; rfl; rfl; rfl; rfl)
    | ((with_reducible apply v_tcall (f := Str.ofString "tuple") (id := "tuple") G); k_is; boot_fast; decide; rfl; rfl; rfl; rfl; rfl)
    | ((with_reducible apply v_tcall (f := Str.ofString "int") (id := "int") G); k_is; boot_fast; decide; rfl; rfl; rfl; rfl; rfl)
    | with_reducible apply v_tuple G
    | with_reducible apply v_list G
    | with_reducible exact v_str
    | with_reducible apply v_bytes
    | ((with_reducible apply v_globV G); k_is; rfl; rfl)
    | ((with_reducible apply v_if1); (focus (k_extra "v go"; done)); (first | omega | decide))
    | ((with_reducible apply v_if2); (focus (k_extra "v go"; done)); (first | omega | decide)))
  k_with "v2" => (first
    | with_reducible exact o_addI
    | with_reducible apply o_addY
    | with_reducible exact o_subI
    | with_reducible apply o_mulI
    | with_reducible apply o_modI
    | with_reducible apply o_divI
    | with_reducible apply o_itemY
    | with_reducible apply o_itemT
    | ((with_reducible apply o_itemTT G); (intro _ _; rfl); (intro _ _; rfl); (repeat' first | exact List.mem_cons_self | refine List.mem_cons_of_mem _ ?_)))
  k_with "vl" => (first | with_reducible exact vl_nil | ((with_reducible apply vl_cons); rfl))
  k_with "vo" => (first
    | with_reducible exact o_len
    | with_reducible apply o_bytes1 G
    | with_reducible apply o_bytes2 G
    | with_reducible apply o_bytesN)
  k_with "vt" => (first
    | with_reducible apply tp_chain
    | with_reducible apply tp_cmp
    | with_reducible apply tp_not
    | with_reducible apply tp_or)
  k_with "vm" => (first
    | with_reducible exact cp_lt
    | with_reducible exact cp_le
    | with_reducible exact cp_gt
    | with_reducible exact cp_eq
    | with_reducible exact cp_ne
    | with_reducible exact cp_eqs
    | with_reducible exact cp_in3
    | with_reducible exact cp_first G
    | with_reducible exact cp_tt G)
  k_with "vp" => (first | with_reducible exact p_none | with_reducible apply p_some)
  k_with "vs" => (first
    | ((with_reducible intro _ _ _); rfl)
    | ((with_reducible intro _ _); rfl)
    | rfl
    | exact Nat.le_of_ble_eq_true rfl
    | omega
    | decide
    | (simp only [Array.size_append, be2_size, be4_size, byteArr_size, List.length_cons, List.length_nil]; omega))
  k_with "v go" => repeat' (k_extra "v1")
  k_with "x1" => (first
    | with_reducible apply ex_cons
    | with_reducible apply ex_nil
    | ((with_reducible apply xr); (focus (k_extra "v go"; done)))
    | ((with_reducible apply xa G); (focus (k_extra "v go"; done)); rfl; rfl)
    | ((with_reducible apply xi); (focus (k_extra "v go"; done)); (all_goals try (intro hc; try (exfalso; first | omega | exact absurd hc (by decide) | exact hc (by decide)))))
    | with_reducible apply ex_break
    | ((with_reducible apply ex_none (e := Expr.Call (Expr.Name _ _) _ _ _)); rfl; rfl)
    | ((with_reducible refine' ex_raise G ?zzW ?zzdl ?zzn ?zzk ?zzd ?zzi ?_); (case zzn => k_is); (case zzk => rfl); (case zzd => rfl); (case zzi => k_is); (case zzdl => decide); (case zzW => first | exact exc44 w | exact exc56 w))
    | ((with_reducible refine' ex_assignT G ?zzq ?zzx ?zzn ?zze ?zzf ?zzs ?zzw ?_); (case zzq => rfl); (case zzn => rfl); (case zze => rfl); (case zzf => rfl); (case zzs => rfl); (case zzw => rfl); (case zzx => decide))
    | ((with_reducible apply ex_assignS (names := [_, _]) G); (case hw => rfl); (case hs => rfl); (case hx => decide))
    | with_reducible refine ex_ret ?_
    | ((with_reducible refine' ex_assign G ?zza ?zzb ?_); (case zza => rfl); (case zzb => rfl))
    | ((with_reducible apply ev_of); (focus (k_extra "v go"; done)))
    | ((with_reducible apply e_call G); k_is; rfl; rfl; k_is; rfl; rfl; rfl; (focus (k_extra "v go"; done)))
    | ((with_reducible refine' ev_call G ?zzn ?zzk ?zzd ?zzi ?zzc ?zzs ?zzx ?_); (case zzn => k_is); (case zzk => rfl); (case zzd => rfl); (case zzi => k_is); (case zzc => rfl); (case zzs => rfl); (case zzx => rfl))
    | with_reducible refine ev_binop ?_
    | ((with_reducible refine' evl_cons ?zzs ?_); (case zzs => rfl))
    | with_reducible refine evl_nil ?_
    | ((with_reducible refine' op_add_bytes ?zza ?_); (case zza => first | omega | (simp only [Array.size_append, be2_size, be4_size, byteArr_size, List.length_cons, List.length_nil]; omega)))
    | ((with_reducible refine' ex_dT ?zza ?_); (case zza => rfl); (try dsimp only [insD, namesOf, nameOf, List.foldr, List.append, List.cons_append, List.nil_append, List.map, List.zip, List.zipWith, List.reverse, List.reverseAux]))
    | (refine ve_exc ?_; first | trivial | omega | (simp only [Array.size_append, byteArr_size, be2_size, be4_size, List.length_cons, List.length_nil] at h; omega))
    | (refine ve_val ?_ ?_; (first | trivial | omega | (simp only [Array.size_append, byteArr_size, be2_size, be4_size, List.length_cons, List.length_nil] at h; omega)); (first | rfl | skip))
    | (exfalso; simp only [Array.size_append, byteArr_size, be2_size, be4_size, List.length_cons, List.length_nil] at h; omega))
  k_with "x go" => repeat' (k_extra "x1")
  trivial

set_option linter.unusedSectionVars false
def rdO : Option Row → Out D
  | none => .exc 44
  | some r => .val (rowD r)
def rfR (k : Int) (b : Array UInt8) : Option Row :=
  if k = 3 then (if (b.size : Int) < 2 then none else some (Str.ofString "time", [dI (by2 b 0 : Nat)]))
  else if ¬ (2 ≤ (b.size : Int) ∧ (b.size : Int) ≤ 255 + 1) then none
  else some ((if k = 1 then Str.ofString "chassis" else Str.ofString "port"), [dI (bat b 0 : Nat), dY (KBy.picked b (some 1) none)])
def raR (b : Array UInt8) : Option Row :=
  if ¬ 0 < b.size then none
  else if ¬ (2 ≤ (bat b 0 : Int) ∧ (bat b 0 : Int) ≤ 32) ∨ (b.size : Int) < (bat b 0 : Int) + 7 then none
  else if ¬ (bat b ((bat b 0 : Int) + 6).toNat : Int) = ((KBy.picked b (some ((bat b 0 : Int) + 7)) none).size : Int) then none
  else some (Str.ofString "address", [dI (bat b 1 : Nat), dY (KBy.picked b (some 2) (some ((bat b 0 : Int) + 1))), dI (bat b ((bat b 0 : Int) + 1).toNat : Nat), dI (by4 b ((bat b 0 : Int) + 2).toNat : Nat), dY (KBy.picked b (some ((bat b 0 : Int) + 7)) none)])
def txR (x : Str) (b : Array UInt8) : Option Row := if 255 < (b.size : Int) then none else some (x, [dY b])
def rdR (k : Int) (b : Array UInt8) : Option Row :=
  if 1 = k ∨ 2 = k ∨ 3 = k then rfR k b else if 4 = k then txR (Str.ofString "port text") b else if 5 = k then txR (Str.ofString "name") b else if 6 = k then txR (Str.ofString "system text") b
  else if k = 7 then (if ¬ (b.size : Int) = 4 then none else some (Str.ofString "abilities", [dI (by2 b 0 : Nat), dI (by2 b 2 : Nat)]))
  else if k = 8 then raR b
  else if k = 127 then (if (b.size : Int) < 4 then none else some (Str.ofString "own", [dI (((by4 b 0 : Nat) : Int).fdiv 256), dI (bat b 3 : Nat), dY (KBy.picked b (some 4) none)]))
  else some (Str.ofString "other", [dI k, dY b])
theorem rdO_ite {c : Prop} [Decidable c] {a b : Option Row} {x y : Out D} (h1 : x = rdO a) (h2 : y = rdO b) : (if c then x else y) = rdO (if c then a else b) := by
  split
  · exact h1
  · exact h2
theorem rd_x : (.exc 44 : Out D) = rdO none := rfl
theorem rd_v {x : Str} {l : List D} : (.val (dT (dS x :: l)) : Out D) = rdO (some (x, l)) := rfl
theorem rd_R (k : Int) (b : Array UInt8) : rd k b = rdO (rdR k b) := by
  unfold rd rdR rf rfR ra raR tx txR
  repeat' with_reducible first | apply rdO_ite | exact rd_x | exact rd_v
def Flat (r : Row) : Prop := ∀ d ∈ r.2, Tupy d
def FlatO (o : Option Row) : Prop := ∀ r, o = some r → Flat r
theorem flat_ite {c : Prop} [Decidable c] {a b : Option Row} (h1 : FlatO a) (h2 : FlatO b) : FlatO (if c then a else b) := by
  split
  · exact h1
  · exact h2
theorem flat_none : FlatO none := fun _ e => nomatch e
theorem flat_some {x : Str} {l : List D} (h : ∀ d ∈ l, Tupy d) : FlatO (some (x, l)) := fun r e => by cases e; exact h
theorem tl_nil : ∀ d ∈ ([] : List D), Tupy d := fun _ h => nomatch h
theorem tl_cons {a : D} {l : List D} (h : Tupy a) (hl : ∀ d ∈ l, Tupy d) : ∀ d ∈ a :: l, Tupy d := fun d m => by
  rcases List.mem_cons.mp m with rfl | m
  · exact h
  · exact hl d m
theorem rd_flat (k : Int) (b : Array UInt8) : FlatO (rdR k b) := by
  unfold rdR rfR raR txR
  repeat' with_reducible first | exact tupy_I | exact tupy_Y | exact flat_none | apply flat_ite | apply flat_some | exact tl_nil | apply tl_cons

theorem rows_L1 : True := by
  w_top off
  k_with_none
  k_with "mine enter" => (refine wpAny_call ?_; k_dflt (refine' enterP [] ?kX ?kT ?kr ?ko ?kc ?kb ?kl ?_ ?c2 ?c3 ?c4 ?c5; (case kX => k_asm); (case kT => k_asm); (case kr => exact Nat.le_of_ble_eq_true rfl); (case ko => k_is); (case kc => k_is); (case kb => exact BindsTo.of_eq rfl); (case kl => exact locs rfl); (case c2 => exact rfl); (case c3 => exact rfl); (case c4 => exact rfl); (case c5 => decide); k_whole; intro L' h' tk' F' K' l1; (dsimp only [List.map, List.zip, List.zipWith, List.reverse, List.reverseAux] at F'); (have N' := news_enter (hide := []) (news := []) K' l1 (fun _ h => nomatch h)); (dsimp only [hideAll] at F' N'); (try dsimp only); (try k_fold)))
  k_with "exec Raise some none" => (refine raise_ex (w := w) rfl ?_)
  k_with "call ref" => ((with_reducible show wpAny _ _ (call (Value.ref 44) [Value.str _ _]) _ _ _); (with_reducible rename Fr _ _ _ _ => FF); refine mk_exc w (exc44 w) (X.keeps FF.keep) (T.keeps FF.keep) (by rw [depth_under_make]; exact Nat.le_of_ble_eq_true rfl) (fun e h2 tk2 hx => ?_))
  k_with "call ref" => ((with_reducible show wpAny _ _ (call (Value.ref 56) [Value.str _ _]) _ _ _); (with_reducible rename Fr _ _ _ _ => FF); refine mk_exc w (exc56 w) (X.keeps FF.keep) (T.keeps FF.keep) (by rw [depth_under_make]; exact Nat.le_of_ble_eq_true rfl) (fun e h2 tk2 hx => ?_))
  k_with "mine ret" => ((try dsimp only); (with_reducible rename Fr _ _ _ _ => FF); refine hret _ _ _ FF.keep ?_)
  k_with "Raised" => ((with_reducible rename Fr _ _ _ _ => FF); refine Raised.of (by first | exact exc44 w | exact exc56 w) (X.keeps FF.keep) hx ?_; (try dsimp only); (try k_unfold); refine leave_first B FF hx (fun h3 hfly => hexc _ _ _ _ ?_ hfly))
  k_with "subscriptTail" => ((with_reducible show wpAny _ _ (subscriptTail _ (Expr.Slice _ _ none _) (Value.bytes _ _) (Value.ref _)) _ _ _); (with_reducible rename Fr _ _ _ _ => FF); (with_reducible rename News _ _ _ _ => NN); (refine KBc.slice_K (s := ⟨_, _, _, _, _⟩) FF NN rfl (by constructor) (by constructor) ?hz ?_); (case hz => (rw [KBw.ints_length]; l_fact)); intro h2 t2' k2 F2 N2 _; (try simp only [hpick]))
  trivial

theorem bat_byteArr (l : List Int) (i : Nat) (h : 0 ≤ l.getD i 0 ∧ l.getD i 0 < 256) : (bat (byteArr l) i : Int) = l.getD i 0 := by
  have e : bat (byteArr l) i = (l.getD i 0).toNat % 256 := by
    unfold bat byteArr
    by_cases q : i < l.length
    · simp [Array.getD, q]
    · simp [Array.getD, q]
  rw [e]; omega
theorem bat_right (a b : Array UInt8) (i : Nat) : bat (a ++ b) (a.size + i) = bat b i := by
  have : ¬ a.size + i < a.size := by omega
  simp [bat, Array.getD_eq_getD_getElem?, Array.getElem?_append, this]
theorem bat_left (a b : Array UInt8) {i : Nat} (h : i < a.size) : bat (a ++ b) i = bat a i := by
  simp [bat, Array.getD_eq_getD_getElem?, Array.getElem?_append, h]
theorem by2_at (pre x : Array UInt8) {n : Int} (h : 0 ≤ n ∧ n < 65536) : (by2 (pre ++ (be2 n ++ x)) pre.size : Int) = n := by
  have e : by2 (pre ++ (be2 n ++ x)) pre.size = bat (be2 n) 0 * 256 + bat (be2 n) 1 := by
    show bat _ (pre.size + 0) * 256 + bat _ (pre.size + 1) = _
    rw [bat_right, bat_right, bat_left _ _ (by rw [be2_size]; decide), bat_left _ _ (by rw [be2_size]; decide)]
  have e0 := bat_byteArr [n.fdiv 256 % 256, n.fdiv 1 % 256] 0 (by show 0 ≤ n.fdiv 256 % 256 ∧ n.fdiv 256 % 256 < 256; omega)
  have e1 := bat_byteArr [n.fdiv 256 % 256, n.fdiv 1 % 256] 1 (by show 0 ≤ n.fdiv 1 % 256 ∧ n.fdiv 1 % 256 < 256; omega)
  have f0 : (bat (be2 n) 0 : Int) = n.fdiv 256 % 256 := e0
  have f1 : (bat (be2 n) 1 : Int) = n.fdiv 1 % 256 := e1
  rw [Int.fdiv_eq_ediv_of_nonneg _ (by decide)] at f0 f1
  rw [e]; omega
theorem picked_mid (a m z : Array UInt8) : KBy.picked (a ++ (m ++ z)) (some a.size) (some ((a.size : Int) + m.size)) = m := by
  rw [picked_ext]
  show (a ++ (m ++ z)).extract (clipAt _ (a.size : Int)) (clipAt _ ((a.size : Int) + m.size)) = m
  rw [clip_nat _ (by omega) (by simp only [Array.size_append]; omega), clip_nat _ (by omega) (by simp only [Array.size_append]; omega)]
  have e : ((a.size : Int) + m.size).toNat = a.size + m.size := by omega
  rw [e, Int.toNat_natCast]
  apply Array.ext'
  simp

set_option linter.unusedSimpArgs false
set_option linter.unusedVariables false
theorem rows2_T8 : True := by
  k_with_none
  k_with "w enter" => (refine' ct_enter ?cI ?cr ?co ?cc ?cb ?cl ?cn ?c1 ?c2 ?c3 ?c4 ?_; (case cI => assumption); (case cr => decide); (case co => k_is); (case cc => k_is); (case cb => (intro s vs hv; first | (obtain rfl := len0 hv; exact BindsTo.of_eq rfl) | (obtain ⟨a, rfl⟩ := len1 hv; exact BindsTo.of_eq rfl) | (obtain ⟨a, b, rfl⟩ := len2 hv; exact BindsTo.of_eq rfl) | (obtain ⟨a, b, c, rfl⟩ := len3 hv; exact BindsTo.of_eq rfl) | (obtain ⟨a, b, c, d, rfl⟩ := len4 hv; exact BindsTo.of_eq rfl))); (case cl => first | exact (fun _ h => absurd h List.not_mem_nil) | (simp only [List.map, List.mem_cons, List.not_mem_nil, or_false, forall_eq_or_imp, forall_eq]; decide)); (case cn => rfl); (case c1 => rfl); (case c2 => rfl); (case c3 => rfl); (case c4 => decide); intro C G _ _ e3; (dsimp only [List.map, List.zip, List.zipWith, List.reverse, List.reverseAux]); (try k_fold))
  k_with "v1" => (first
    | ((with_reducible show Ev _ _ _ _ _ _); (first | k_extra "ve c" | k_extra "ve"))
    | ((with_reducible show Op2 _ _ _ _ _ _ _ _); k_extra "v2")
    | ((with_reducible show EvL _ _ _ _ _ _); k_extra "vl")
    | ((with_reducible show OpL _ _ _ _ _ _ _); (first | k_extra "vo c" | k_extra "vo"))
    | ((with_reducible show Tst _ _ _ _ _ _); k_extra "vt")
    | ((with_reducible show Cm2 _ _ _ _ _ _ _ _); k_extra "vm")
    | ((with_reducible show EvP _ _ _ _ _ _); k_extra "vp")
    | k_extra "vs")
  k_with "ve c" => fail
  k_with "vo c" => fail
  k_with "ve" => (first
    | ((with_reducible apply v_name G); rfl; rfl; rfl)
    | with_reducible exact v_int
    | with_reducible apply v_bin
    | with_reducible apply v_slice G
    | with_reducible apply v_sub
    | ((with_reducible apply v_globI G); k_is; rfl; rfl)
    | ((with_reducible apply e_call G); k_is; rfl; rfl; k_is; rfl; rfl; rfl)
    | ((with_reducible apply v_bcall (f := Str.ofString "len") (id := "len") G); k_is; boot_fast; decide; rfl; rfl; rfl; rfl; rfl)
    | ((with_reducible apply v_tcall (f := Str.ofString "bytes") (id := "bytes") G); k_is; boot_fast; decide; rfl; rfl; rfl; rfl; rfl)
    | ((with_reducible apply v_tcall (f := Str.ofString "tuple") (id := "tuple") G); k_is; boot_fast; decide; rfl; rfl; rfl; rfl; rfl)
    | ((with_reducible apply v_tcall (f := Str.ofString "int") (id := "int") G); k_is; boot_fast; decide; rfl; rfl; rfl; rfl; rfl)
    | with_reducible apply v_tuple G
    | with_reducible apply v_list G
    | with_reducible exact v_str
    | with_reducible apply v_bytes
    | ((with_reducible apply v_globV G); k_is; rfl; rfl)
    | ((with_reducible apply v_if1); (focus (k_extra "v go"; done)); (first | omega | decide))
    | ((with_reducible apply v_if2); (focus (k_extra "v go"; done)); (first | omega | decide)))
  k_with "v2" => (first
    | with_reducible exact o_addI
    | with_reducible apply o_addY
    | with_reducible exact o_subI
    | with_reducible apply o_mulI
    | with_reducible apply o_modI
    | with_reducible apply o_divI
    | with_reducible apply o_itemY
    | with_reducible apply o_itemT
    | ((with_reducible apply o_itemTT G); (intro _ _; rfl); (intro _ _; rfl); (repeat' first | exact List.mem_cons_self | refine List.mem_cons_of_mem _ ?_)))
  k_with "vl" => (first | with_reducible exact vl_nil | ((with_reducible apply vl_cons); rfl))
  k_with "vo" => (first
    | with_reducible exact o_len
    | with_reducible apply o_bytes1 G
    | with_reducible apply o_bytes2 G
    | with_reducible apply o_bytesN)
  k_with "vt" => (first
    | with_reducible apply tp_chain
    | with_reducible apply tp_cmp
    | with_reducible apply tp_not
    | with_reducible apply tp_or)
  k_with "vm" => (first
    | with_reducible exact cp_lt
    | with_reducible exact cp_le
    | with_reducible exact cp_gt
    | with_reducible exact cp_eq
    | with_reducible exact cp_ne
    | with_reducible exact cp_eqs
    | with_reducible exact cp_in3
    | with_reducible exact cp_first G
    | with_reducible exact cp_tt G)
  k_with "vp" => (first | with_reducible exact p_none | with_reducible apply p_some)
  k_with "vs" => (first
    | ((with_reducible intro _ _ _); rfl)
    | ((with_reducible intro _ _); rfl)
    | rfl
    | exact Nat.le_of_ble_eq_true rfl
    | omega
    | decide
    | (simp only [Array.size_append, be2_size, be4_size, byteArr_size, List.length_cons, List.length_nil]; omega))
  k_with "v go" => repeat' (k_extra "v1")
  k_with "x1" => (first
    | with_reducible apply ex_cons
    | with_reducible apply ex_nil
    | ((with_reducible apply xr); (focus (k_extra "v go"; done)))
    | ((with_reducible apply xa G); (focus (k_extra "v go"; done)); rfl; rfl)
    | ((with_reducible apply xi); (focus (k_extra "v go"; done)); (all_goals try (intro hc; try (exfalso; first | omega | exact absurd hc (by decide) | exact hc (by decide)))))
    | with_reducible apply ex_break
    | ((with_reducible apply ex_none (e := Expr.Call (Expr.Name _ _) _ _ _)); rfl; rfl)
    | ((with_reducible refine' ex_raise G ?zzW ?zzdl ?zzn ?zzk ?zzd ?zzi ?_); (case zzn => k_is); (case zzk => rfl); (case zzd => rfl); (case zzi => k_is); (case zzdl => decide); (case zzW => first | exact exc44 w | exact exc56 w))
    | ((with_reducible refine' ex_assignT G ?zzq ?zzx ?zzn ?zze ?zzf ?zzs ?zzw ?_); (case zzq => rfl); (case zzn => rfl); (case zze => rfl); (case zzf => rfl); (case zzs => rfl); (case zzw => rfl); (case zzx => decide))
    | ((with_reducible apply ex_assignS (names := [_, _]) G); (case hw => rfl); (case hs => rfl); (case hx => decide))
    | with_reducible refine ex_ret ?_
    | ((with_reducible refine' ex_assign G ?zza ?zzb ?_); (case zza => rfl); (case zzb => rfl))
    | ((with_reducible apply ev_of); (focus (k_extra "v go"; done)))
    | ((with_reducible apply e_call G); k_is; rfl; rfl; k_is; rfl; rfl; rfl; (focus (k_extra "v go"; done)))
    | ((with_reducible refine' ev_call G ?zzn ?zzk ?zzd ?zzi ?zzc ?zzs ?zzx ?_); (case zzn => k_is); (case zzk => rfl); (case zzd => rfl); (case zzi => k_is); (case zzc => rfl); (case zzs => rfl); (case zzx => rfl))
    | with_reducible refine ev_binop ?_
    | ((with_reducible refine' evl_cons ?zzs ?_); (case zzs => rfl))
    | with_reducible refine evl_nil ?_
    | ((with_reducible refine' op_add_bytes ?zza ?_); (case zza => first | omega | (simp only [Array.size_append, be2_size, be4_size, byteArr_size, List.length_cons, List.length_nil]; omega)))
    | ((with_reducible refine' ex_dT ?zza ?_); (case zza => rfl); (try dsimp only [insD, namesOf, nameOf, List.foldr, List.append, List.cons_append, List.nil_append, List.map, List.zip, List.zipWith, List.reverse, List.reverseAux]))
    | (refine ve_exc ?_; first | trivial | omega | (simp only [Array.size_append, byteArr_size, be2_size, be4_size, List.length_cons, List.length_nil] at h; omega))
    | (refine ve_val ?_ ?_; (first | trivial | omega | (simp only [Array.size_append, byteArr_size, be2_size, be4_size, List.length_cons, List.length_nil] at h; omega)); (first | rfl | skip))
    | (exfalso; simp only [Array.size_append, byteArr_size, be2_size, be4_size, List.length_cons, List.length_nil] at h; omega))
  k_with "x go" => repeat' (k_extra "x1")
  trivial

set_option linter.unusedSectionVars false
abbrev Lay : Type := Int × Array UInt8
def octs (ls : List Lay) : Array UInt8 := ls.foldr (fun p z => rowB p.1 p.2 ++ z) (be2 0)
def unp : List Lay → List Row → Out D
  | [], acc => if okRows acc = true then .val (dL (acc.map rowD)) else .exc 44
  | p :: ls, acc => match rdR p.1 p.2 with
    | none => .exc 44
    | some r => unp ls (acc ++ [r])
section
variable {w : World} {sc : Scope} {dl ul : Nat} {C : Cx} {ρ : List (Str × D)}
theorem v_sliceE (G : Good w sc dl ul C) {value : Expr} {lo hi : Option Expr} {pos p2 : Pos} {b c : Array UInt8} {l u : Option Int} (h1 : EvV w sc C ρ value (dY b)) (h2 : PV w sc C ρ lo l) (h3 : PV w sc C ρ hi u)
    (hs : ∀ a r, subscripted (.Slice lo hi none p2) false a (Value.ref r) = operate [Value.ref r, a] (getItem a (Value.ref r))) (ht : ∀ b t r, letTemporaryGo value (Value.bytes b t) r = pure ()) (e : KBy.picked b l u = c) : EvV w sc C ρ (.Subscript value (.Slice lo hi none p2) pos) (dY c) := e ▸ v_slice G h1 h2 h3 hs ht
theorem o_divE {a b c : Int} (hb : b ≠ 0) (hg : Builtin.divisionGoesByPylong a b = false) (e : a.fdiv b = c) : Op2 w sc C ρ (binaryOp .FloorDiv) (dI a) (dI b) (· = .val (dI c)) := e ▸ o_divI hb hg
theorem o_modE {a b c : Int} (hb : b ≠ 0) (e : a.fmod b = c) : Op2 w sc C ρ (binaryOp .Mod) (dI a) (dI b) (· = .val (dI c)) := e ▸ o_modI hb
theorem o_get (G : Good w sc dl ul C) {pre x b : Array UInt8} {n : Int} (e : b = pre ++ (be2 n ++ x)) (hn : 0 ≤ n ∧ n < 65536) (h1 : dl ≤ 559) (h2 : ul ≤ 390) : OpL w sc C ρ (callF (.ref 91)) [dY b, dI pre.size] (· = .val (dI n)) := by
  have h := o_call (ρ := ρ) G (fun _ q => t_get16 w q (b := b) (i := pre.size) (by rw [e]; simp only [Array.size_append, be2_size]; omega)) h1 h2
  rw [Int.toNat_natCast, e, by2_at pre x hn, ← e] at h
  exact h
end
theorem octs_nil : octs [] = be2 0 ++ #[] := (Array.append_empty).symm
theorem octs_cons (k : Int) (b : Array UInt8) (ls : List Lay) : octs ((k, b) :: ls) = be2 (k * 512 + b.size) ++ (b ++ octs ls) := by
  show rowB k b ++ octs ls = _
  rw [rowB, Array.append_assoc]
section
variable (w : World) {hs : List Addr} {I : Heap → Prop} (hI : HI hs I)
include hI
theorem t_unp {ls : List Lay} (hl : ∀ p ∈ ls, (1 ≤ p.1 ∧ p.1 < 128) ∧ p.2.size ≤ 511) (hn : ls.length ≤ 100) : CT w hs I 545 360 166 [dY (octs ls)] (· = unp ls []) := by
  k_with "ve c" => with_reducible exact v_list0 G
  k_extra "w enter"
  k_extra "x go"
  refine ex_while (fun k ρ' => ∃ pre ls' acc, (octs ls = pre ++ octs ls' ∧ k = ls'.length ∧ (∀ p ∈ ls', (1 ≤ p.1 ∧ p.1 < 128) ∧ p.2.size ≤ 511) ∧ (∀ r ∈ acc, Flat r) ∧ acc.length + ls'.length ≤ 100 ∧ unp ls [] = unp ls' acc) ∧
      lk ρ' (Str.ofString "octets") = some (dY (octs ls)) ∧ lk ρ' (Str.ofString "at") = some (dI pre.size) ∧ lk ρ' (Str.ofString "rows") = some (dO C.g (acc.map rowD))) ls.length
    ⟨#[], ls, [], ⟨by simp, rfl, hl, fun _ h => (nomatch h), by simpa using hn, rfl⟩, rfl, rfl, rfl⟩ (fun k ρ' ⟨pre, ls', acc, ⟨e, hk, hl', ha, hz, hu⟩, l1, l2, l3⟩ => tst_true ?_)
  show if true = true then _ else _
  rw [if_pos rfl]
  k_with "ve c" => ((with_reducible apply v_name G); (first | exact l1 | exact l2 | exact l3); rfl; rfl)
  cases ls' with
  | nil =>
    rw [octs_nil] at e
    have hsz : (octs ls).size = pre.size + 2 := by rw [e]; simp only [Array.size_append, be2_size]; rfl
    k_with "vo c" => with_reducible exact o_get G e (by decide) (by decide) (by decide)
    k_with "v2" => exact o_divE (c := 0) (by decide) rfl (by decide)
    k_with "v2" => exact o_modE (c := 0) (by decide) (by decide)
    k_with "ve c" => ((with_reducible apply v_own); (with_reducible apply v_name G); exact l3; rfl; rfl)
    k_with "x1" => ((with_reducible refine op_VE G (fun _ q => t_check w q (Nat.le_trans (Nat.le_trans (Nat.le_add_right _ _) hz) (by decide))) ?_ ?_ (fun h => ⟨rfl, ?_⟩) (fun h => ?_)); decide; decide)
    k_extra "x go"
    · exact (hu.trans (if_pos h)).symm
    · exact (hu.trans (if_neg h)).symm
  | cons p ls' =>
    obtain ⟨kd, body⟩ := p
    have hp : (1 ≤ kd ∧ kd < 128) ∧ body.size ≤ 511 := hl' _ List.mem_cons_self
    rw [octs_cons] at e
    have hsz : (octs ls).size = pre.size + 2 + body.size + (octs ls').size := by rw [e]; simp only [Array.size_append, be2_size]; omega
    have hn2 : 0 ≤ kd * 512 + (body.size : Int) ∧ kd * 512 + (body.size : Int) < 65536 := by omega
    have hpk : KBy.picked (octs ls) (some ((pre.size : Int) + 2)) (some ((pre.size : Int) + 2 + (body.size : Int))) = body := by
      have := picked_mid (pre ++ be2 (kd * 512 + body.size)) body (octs ls')
      rw [Array.append_assoc, ← e, Array.size_append, be2_size] at this
      exact this
    k_with "vo c" => with_reducible exact o_get G e hn2 (by decide) (by decide)
    k_with "v2" => exact o_divE (c := kd) (by decide) rfl (by rw [Int.fdiv_eq_ediv_of_nonneg _ (by decide)]; omega)
    k_with "v2" => exact o_modE (c := body.size) (by decide) (by rw [Int.fmod_eq_emod_of_nonneg _ (by decide)]; omega)
    k_extra "x go"
    refine ex_append (ds := acc.map rowD) (ρ' := [(Str.ofString "octets", dY (octs ls)), (Str.ofString "at", dI pre.size), (Str.ofString "size", dI body.size)]) G e3 (by rfl) (by rfl) (by rfl) (by rfl) (by rfl) (by rfl) l3 (by rfl) (by rfl) ?_ ?_ ?_ (fun a => ?_)
    · intro d m
      obtain ⟨r, mr, rfl⟩ := List.mem_map.mp m
      exact tupy_T (tl_cons tupy_S (ha r mr))
    · intro y d e
      rcases lk_cons e with ⟨rfl, rfl⟩ | ⟨_, e⟩
      · exact ⟨l1, tupy_Y⟩
      rcases lk_cons e with ⟨rfl, rfl⟩ | ⟨_, e⟩
      · exact ⟨l2, tupy_I⟩
      rcases lk_cons e with ⟨rfl, rfl⟩ | ⟨_, e⟩
      · exact ⟨rfl, tupy_I⟩
      · cases e
    · rw [List.length_map]; exact Nat.le_trans (Nat.le_trans (Nat.le_add_right _ _) hz) (by decide)
    k_with "ve c" => ((with_reducible apply v_sliceE (c := body) G); k_extra "v1"; (with_reducible apply p_some); (focus (k_extra "v go"; done)); (with_reducible apply p_some); (focus (k_extra "v go"; done)); (intro _ _; rfl); (intro _ _ _; rfl); exact hpk)
    k_with "x1" => ((with_reducible refine op_call G (fun _ q => t_rd w q (k := kd) (b := body) ?_) ?_ ?_ (fun o h => ?_)); omega; decide; decide)
    k_extra "x go"
    rw [rd_R] at h
    cases hr : rdR kd body with
    | none =>
      rw [hr] at h; subst h
      exact (hu.trans (by rw [unp, hr])).symm
    | some r =>
      rw [hr] at h; subst h
      refine ⟨tupy_T (tl_cons tupy_S (rd_flat kd body r hr)), ?_⟩
      k_extra "x go"
      refine ⟨ls'.length, by rw [hk]; exact Nat.lt_succ_self _, pre ++ (be2 (kd * 512 + body.size) ++ body), ls', acc ++ [r], ⟨by rw [e]; simp only [Array.append_assoc], rfl, fun p m => hl' p (List.mem_cons_of_mem _ m), fun q m => ?_, by rw [List.length_append]; rw [List.length_cons] at hz; show acc.length + 1 + _ ≤ _; omega, hu.trans (by rw [unp, hr])⟩, rfl, ?_, by rw [List.map_append]; rfl⟩
      · rcases List.mem_append.mp m with m | m
        · exact ha q m
        · rw [List.mem_singleton.mp m]; exact rd_flat kd body r hr
      · show some (dI _) = some (dI _)
        congr 2
        simp only [Array.size_append, be2_size]; omega
end

set_option linter.unusedSimpArgs false
set_option linter.unusedVariables false
theorem rows2_T9 : True := by
  k_with_none
  k_with "w enter" => (refine' ct_enter ?cI ?cr ?co ?cc ?cb ?cl ?cn ?c1 ?c2 ?c3 ?c4 ?_; (case cI => assumption); (case cr => decide); (case co => k_is); (case cc => k_is); (case cb => (intro s vs hv; first | (obtain rfl := len0 hv; exact BindsTo.of_eq rfl) | (obtain ⟨a, rfl⟩ := len1 hv; exact BindsTo.of_eq rfl) | (obtain ⟨a, b, rfl⟩ := len2 hv; exact BindsTo.of_eq rfl) | (obtain ⟨a, b, c, rfl⟩ := len3 hv; exact BindsTo.of_eq rfl) | (obtain ⟨a, b, c, d, rfl⟩ := len4 hv; exact BindsTo.of_eq rfl))); (case cl => first | exact (fun _ h => absurd h List.not_mem_nil) | (simp only [List.map, List.mem_cons, List.not_mem_nil, or_false, forall_eq_or_imp, forall_eq]; decide)); (case cn => rfl); (case c1 => rfl); (case c2 => rfl); (case c3 => rfl); (case c4 => decide); intro C G _ _ e3; (dsimp only [List.map, List.zip, List.zipWith, List.reverse, List.reverseAux]); (try k_fold))
  k_with "v1" => (first
    | ((with_reducible show Ev _ _ _ _ _ _); (first | k_extra "ve c" | k_extra "ve"))
    | ((with_reducible show Op2 _ _ _ _ _ _ _ _); k_extra "v2")
    | ((with_reducible show EvL _ _ _ _ _ _); k_extra "vl")
    | ((with_reducible show OpL _ _ _ _ _ _ _); (first | k_extra "vo c" | k_extra "vo"))
    | ((with_reducible show Tst _ _ _ _ _ _); k_extra "vt")
    | ((with_reducible show Cm2 _ _ _ _ _ _ _ _); k_extra "vm")
    | ((with_reducible show EvP _ _ _ _ _ _); k_extra "vp")
    | k_extra "vs")
  k_with "ve c" => fail
  k_with "vo c" => fail
  k_with "ve" => (first
    | ((with_reducible apply v_name G); rfl; rfl; rfl)
    | with_reducible exact v_int
    | with_reducible apply v_bin
    | with_reducible apply v_slice G
    | with_reducible apply v_sub
    | ((with_reducible apply v_globI G); k_is; rfl; rfl)
    | ((with_reducible apply e_call G); k_is; rfl; rfl; k_is; rfl; rfl; rfl)
    | ((with_reducible apply v_bcall (f := Str.ofString "len") (id := "len") G); k_is; boot_fast; decide; rfl; rfl; rfl; rfl; rfl)
    | ((with_reducible apply v_tcall (f := Str.ofString "bytes") (id := "bytes") G); k_is; boot_fast; decide; rfl; rfl; rfl; rfl; rfl)
    | ((with_reducible apply v_tcall (f := Str.ofString "tuple") (id := "tuple") G); k_is; boot_fast; decide; rfl; rfl; rfl; rfl; rfl)
    | ((with_reducible apply v_tcall (f := Str.ofString "int") (id := "int") G); k_is; boot_fast; decide; rfl; rfl; rfl; rfl; rfl)
    | with_reducible apply v_tuple G
    | with_reducible apply v_list G
    | with_reducible exact v_str
    | with_reducible apply v_bytes
    | ((with_reducible apply v_globV G); k_is; rfl; rfl)
    | ((with_reducible apply v_if1); (focus (k_extra "v go"; done)); (first | omega | decide))
    | ((with_reducible apply v_if2); (focus (k_extra "v go"; done)); (first | omega | decide)))
  k_with "v2" => (first
    | with_reducible exact o_addI
    | with_reducible apply o_addY
    | with_reducible exact o_subI
    | with_reducible apply o_mulI
    | with_reducible apply o_modI
    | with_reducible apply o_divI
    | with_reducible apply o_itemY
    | with_reducible apply o_itemT
    | ((with_reducible apply o_itemTT G); (intro _ _; rfl); (intro _ _; rfl); (repeat' first | exact List.mem_cons_self | refine List.mem_cons_of_mem _ ?_)))
  k_with "vl" => (first | with_reducible exact vl_nil | ((with_reducible apply vl_cons); rfl))
  k_with "vo" => (first
    | with_reducible exact o_len
    | with_reducible apply o_bytes1 G
    | with_reducible apply o_bytes2 G
    | with_reducible apply o_bytesN)
  k_with "vt" => (first
    | with_reducible apply tp_chain
    | with_reducible apply tp_cmp
    | with_reducible apply tp_not
    | with_reducible apply tp_or)
  k_with "vm" => (first
    | with_reducible exact cp_lt
    | with_reducible exact cp_le
    | with_reducible exact cp_gt
    | with_reducible exact cp_eq
    | with_reducible exact cp_ne
    | with_reducible exact cp_eqs
    | with_reducible exact cp_in3
    | with_reducible exact cp_first G
    | with_reducible exact cp_tt G)
  k_with "vp" => (first | with_reducible exact p_none | with_reducible apply p_some)
  k_with "vs" => (first
    | ((with_reducible intro _ _ _); rfl)
    | ((with_reducible intro _ _); rfl)
    | rfl
    | exact Nat.le_of_ble_eq_true rfl
    | omega
    | decide
    | (simp only [Array.size_append, be2_size, be4_size, byteArr_size, List.length_cons, List.length_nil]; omega))
  k_with "v go" => repeat' (k_extra "v1")
  k_with "x1" => (first
    | with_reducible apply ex_cons
    | with_reducible apply ex_nil
    | ((with_reducible apply xr); (focus (k_extra "v go"; done)))
    | ((with_reducible apply xa G); (focus (k_extra "v go"; done)); rfl; rfl)
    | ((with_reducible apply xi); (focus (k_extra "v go"; done)); (all_goals try (intro hc; try (exfalso; first | omega | exact absurd hc (by decide) | exact hc (by decide)))))
    | with_reducible apply ex_break
    | ((with_reducible apply ex_none (e := Expr.Call (Expr.Name _ _) _ _ _)); rfl; rfl)
    | ((with_reducible refine' ex_raise G ?zzW ?zzdl ?zzn ?zzk ?zzd ?zzi ?_); (case zzn => k_is); (case zzk => rfl); (case zzd => rfl); (case zzi => k_is); (case zzdl => decide); (case zzW => first | exact exc44 w | exact exc56 w))
    | ((with_reducible refine' ex_assignT G ?zzq ?zzx ?zzn ?zze ?zzf ?zzs ?zzw ?_); (case zzq => rfl); (case zzn => rfl); (case zze => rfl); (case zzf => rfl); (case zzs => rfl); (case zzw => rfl); (case zzx => decide))
    | ((with_reducible apply ex_assignS (names := [_, _]) G); (case hw => rfl); (case hs => rfl); (case hx => decide))
    | with_reducible refine ex_ret ?_
    | ((with_reducible refine' ex_assign G ?zza ?zzb ?_); (case zza => rfl); (case zzb => rfl))
    | ((with_reducible apply ev_of); (focus (k_extra "v go"; done)))
    | ((with_reducible apply e_call G); k_is; rfl; rfl; k_is; rfl; rfl; rfl; (focus (k_extra "v go"; done)))
    | ((with_reducible refine' ev_call G ?zzn ?zzk ?zzd ?zzi ?zzc ?zzs ?zzx ?_); (case zzn => k_is); (case zzk => rfl); (case zzd => rfl); (case zzi => k_is); (case zzc => rfl); (case zzs => rfl); (case zzx => rfl))
    | with_reducible refine ev_binop ?_
    | ((with_reducible refine' evl_cons ?zzs ?_); (case zzs => rfl))
    | with_reducible refine evl_nil ?_
    | ((with_reducible refine' op_add_bytes ?zza ?_); (case zza => first | omega | (simp only [Array.size_append, be2_size, be4_size, byteArr_size, List.length_cons, List.length_nil]; omega)))
    | ((with_reducible refine' ex_dT ?zza ?_); (case zza => rfl); (try dsimp only [insD, namesOf, nameOf, List.foldr, List.append, List.cons_append, List.nil_append, List.map, List.zip, List.zipWith, List.reverse, List.reverseAux]))
    | (refine ve_exc ?_; first | trivial | omega | (simp only [Array.size_append, byteArr_size, be2_size, be4_size, List.length_cons, List.length_nil] at h; omega))
    | (refine ve_val ?_ ?_; (first | trivial | omega | (simp only [Array.size_append, byteArr_size, be2_size, be4_size, List.length_cons, List.length_nil] at h; omega)); (first | rfl | skip))
    | (exfalso; simp only [Array.size_append, byteArr_size, be2_size, be4_size, List.length_cons, List.length_nil] at h; omega))
  k_with "x go" => repeat' (k_extra "x1")
  trivial

set_option linter.unusedSectionVars false
def endB : Array UInt8 := be2 (0 * 512 + (([] : List UInt8).toArray.size : Int)) ++ ([] : List UInt8).toArray
theorem endB_eq : endB = be2 0 := Array.append_empty
section
variable (w : World) {hs : List Addr} {I : Heap → Prop} (hI : HI hs I)
include hI
theorem t_end : CT w hs I 556 410 107 [dI 0, dY ([] : List UInt8).toArray] (VE True (dY endB) False 56) :=
  (t_row w hI (k := 0) (b := ([] : List UInt8).toArray) (by omega)).mono fun o h => h.elim (fun x => .inl ⟨trivial, x.2⟩) fun x => absurd x.1 (by decide)
theorem t_pack {rs : List Row} {pk : Row → Option (Array UInt8)} (hpk : ∀ r ∈ rs, ∀ hs I, HI hs I → CT w hs I 552 400 128 [rowD r] (· = pkO (pk r))) (hok : okRows rs = true) (hz : rs.length ≤ 1000) (h2 : 2 ≤ rs.length)
    (hsz : ∀ bs : List (Array UInt8), rs.map pk = bs.map some → bs.foldl (fun n b => n + b.size) 0 ≤ 100000 ∧ (catB bs).size ≤ 100000) :
    CT w hs I 545 360 138 [dL (rs.map rowD)] (fun o => (∃ bs : List (Array UInt8), rs.map pk = bs.map some ∧ o = .val (dY (catB bs ++ endB))) ∨ ((∃ r ∈ rs, pk r = none) ∧ o = .exc 56)) := by
  k_with "x1" => ((with_reducible refine op_VE G (fun _ q => t_check w q hz) ?_ ?_ (fun h => ⟨rfl, ?_⟩) (fun h => absurd hok h)); decide; decide)
  k_with "vo c" => with_reducible exact o_call G (fun _ q => t_end w q) (by decide) (by decide)
  k_with "x1" => ((with_reducible refine e_join G ?_ ?_ ?_ ?_ ?_); rfl; rfl; rfl; rfl)
  k_with "x1" => ((with_reducible apply e_packs (cl := []) (rs := rs) (pk := pk) G); (k_extra "v1"); (omega); rfl; (exact fun r m I q => hpk r m _ I q); decide; decide; decide; rfl; decide; rfl; (intro _; rfl); (intro _; rfl); (intro _; rfl); (intro _; rfl); k_is; k_is; (intro _; rfl))
  k_extra "w enter"
  k_extra "x go"
  · intro bs e
    have hb := hsz bs e
    have hl : bs.length = rs.length := by have := congrArg List.length e; rw [List.length_map, List.length_map] at this; exact this.symm
    have hes : endB.size = 2 := by rw [endB_eq, be2_size]
    refine ⟨bs, rfl, hl ▸ h2, Nat.le_trans hb.1 (by decide), Nat.le_trans hb.2 (by decide), ?_⟩
    have hsum : (catB bs).size + endB.size ≤ 1048576 := by omega
    k_with "v2" => with_reducible exact o_addY hsum
    k_with "x1" => with_reducible refine op_add_bytes hsum ?_
    k_extra "x go"
    exact .inl ⟨bs, e, rfl⟩
  · exact fun q => .inr ⟨q, rfl⟩
end

set_option linter.unusedSimpArgs false
set_option linter.unusedVariables false
theorem rows2_T10 : True := by
  k_with_none
  k_with "w enter" => (refine' ct_enter ?cI ?cr ?co ?cc ?cb ?cl ?cn ?c1 ?c2 ?c3 ?c4 ?_; (case cI => assumption); (case cr => decide); (case co => k_is); (case cc => k_is); (case cb => (intro s vs hv; first | (obtain rfl := len0 hv; exact BindsTo.of_eq rfl) | (obtain ⟨a, rfl⟩ := len1 hv; exact BindsTo.of_eq rfl) | (obtain ⟨a, b, rfl⟩ := len2 hv; exact BindsTo.of_eq rfl) | (obtain ⟨a, b, c, rfl⟩ := len3 hv; exact BindsTo.of_eq rfl) | (obtain ⟨a, b, c, d, rfl⟩ := len4 hv; exact BindsTo.of_eq rfl))); (case cl => first | exact (fun _ h => absurd h List.not_mem_nil) | (simp only [List.map, List.mem_cons, List.not_mem_nil, or_false, forall_eq_or_imp, forall_eq]; decide)); (case cn => rfl); (case c1 => rfl); (case c2 => rfl); (case c3 => rfl); (case c4 => decide); intro C G _ _ e3; (dsimp only [List.map, List.zip, List.zipWith, List.reverse, List.reverseAux]); (try k_fold))
  k_with "v1" => (first
    | ((with_reducible show Ev _ _ _ _ _ _); (first | k_extra "ve c" | k_extra "ve"))
    | ((with_reducible show Op2 _ _ _ _ _ _ _ _); k_extra "v2")
    | ((with_reducible show EvL _ _ _ _ _ _); k_extra "vl")
    | ((with_reducible show OpL _ _ _ _ _ _ _); (first | k_extra "vo c" | k_extra "vo"))
    | ((with_reducible show Tst _ _ _ _ _ _); k_extra "vt")
    | ((with_reducible show Cm2 _ _ _ _ _ _ _ _); k_extra "vm")
    | ((with_reducible show EvP _ _ _ _ _ _); k_extra "vp")
    | k_extra "vs")
  k_with "ve c" => fail
  k_with "vo c" => fail
  k_with "ve" => (first
    | ((with_reducible apply v_name G); rfl; rfl; rfl)
    | with_reducible exact v_int
    | with_reducible apply v_bin
    | with_reducible apply v_slice G
    | with_reducible apply v_sub
    | ((with_reducible apply v_globI G); k_is; rfl; rfl)
    | ((with_reducible apply e_call G); k_is; rfl; rfl; k_is; rfl; rfl; rfl)
    | ((with_reducible apply v_bcall (f := Str.ofString "len") (id := "len") G); k_is; boot_fast; decide; rfl; rfl; rfl; rfl; rfl)
    | ((with_reducible apply v_tcall (f := Str.ofString "bytes") (id := "bytes") G); k_is; boot_fast; decide; rfl; rfl; rfl; rfl; rfl)
    | ((with_reducible apply v_tcall (f := Str.ofString "tuple") (id := "tuple") G); k_is; boot_fast; decide; rfl; rfl; rfl; rfl; rfl)
    | ((with_reducible apply v_tcall (f := Str.ofString "int") (id := "int") G); k_is; boot_fast; decide; rfl; rfl; rfl; rfl; rfl)
    | with_reducible apply v_tuple G
    | with_reducible apply v_list G
    | with_reducible exact v_str
    | with_reducible apply v_bytes
    | ((with_reducible apply v_globV G); k_is; rfl; rfl)
    | ((with_reducible apply v_if1); (focus (k_extra "v go"; done)); (first | omega | decide))
    | ((with_reducible apply v_if2); (focus (k_extra "v go"; done)); (first | omega | decide)))
  k_with "v2" => (first
    | with_reducible exact o_addI
    | with_reducible apply o_addY
    | with_reducible exact o_subI
    | with_reducible apply o_mulI
    | with_reducible apply o_modI
    | with_reducible apply o_divI
    | with_reducible apply o_itemY
    | with_reducible apply o_itemT
    | ((with_reducible apply o_itemTT G); (intro _ _; rfl); (intro _ _; rfl); (repeat' first | exact List.mem_cons_self | refine List.mem_cons_of_mem _ ?_)))
  k_with "vl" => (first | with_reducible exact vl_nil | ((with_reducible apply vl_cons); rfl))
  k_with "vo" => (first
    | with_reducible exact o_len
    | with_reducible apply o_bytes1 G
    | with_reducible apply o_bytes2 G
    | with_reducible apply o_bytesN)
  k_with "vt" => (first
    | with_reducible apply tp_chain
    | with_reducible apply tp_cmp
    | with_reducible apply tp_not
    | with_reducible apply tp_or)
  k_with "vm" => (first
    | with_reducible exact cp_lt
    | with_reducible exact cp_le
    | with_reducible exact cp_gt
    | with_reducible exact cp_eq
    | with_reducible exact cp_ne
    | with_reducible exact cp_eqs
    | with_reducible exact cp_in3
    | with_reducible exact cp_first G
    | with_reducible exact cp_tt G)
  k_with "vp" => (first | with_reducible exact p_none | with_reducible apply p_some)
  k_with "vs" => (first
    | ((with_reducible intro _ _ _); rfl)
    | ((with_reducible intro _ _); rfl)
    | rfl
    | exact Nat.le_of_ble_eq_true rfl
    | omega
    | decide
    | (simp only [Array.size_append, be2_size, be4_size, byteArr_size, List.length_cons, List.length_nil]; omega))
  k_with "v go" => repeat' (k_extra "v1")
  k_with "x1" => (first
    | with_reducible apply ex_cons
    | with_reducible apply ex_nil
    | ((with_reducible apply xr); (focus (k_extra "v go"; done)))
    | ((with_reducible apply xa G); (focus (k_extra "v go"; done)); rfl; rfl)
    | ((with_reducible apply xi); (focus (k_extra "v go"; done)); (all_goals try (intro hc; try (exfalso; first | omega | exact absurd hc (by decide) | exact hc (by decide)))))
    | with_reducible apply ex_break
    | ((with_reducible apply ex_none (e := Expr.Call (Expr.Name _ _) _ _ _)); rfl; rfl)
    | ((with_reducible refine' ex_raise G ?zzW ?zzdl ?zzn ?zzk ?zzd ?zzi ?_); (case zzn => k_is); (case zzk => rfl); (case zzd => rfl); (case zzi => k_is); (case zzdl => decide); (case zzW => first | exact exc44 w | exact exc56 w))
    | ((with_reducible refine' ex_assignT G ?zzq ?zzx ?zzn ?zze ?zzf ?zzs ?zzw ?_); (case zzq => rfl); (case zzn => rfl); (case zze => rfl); (case zzf => rfl); (case zzs => rfl); (case zzw => rfl); (case zzx => decide))
    | ((with_reducible apply ex_assignS (names := [_, _]) G); (case hw => rfl); (case hs => rfl); (case hx => decide))
    | with_reducible refine ex_ret ?_
    | ((with_reducible refine' ex_assign G ?zza ?zzb ?_); (case zza => rfl); (case zzb => rfl))
    | ((with_reducible apply ev_of); (focus (k_extra "v go"; done)))
    | ((with_reducible apply e_call G); k_is; rfl; rfl; k_is; rfl; rfl; rfl; (focus (k_extra "v go"; done)))
    | ((with_reducible refine' ev_call G ?zzn ?zzk ?zzd ?zzi ?zzc ?zzs ?zzx ?_); (case zzn => k_is); (case zzk => rfl); (case zzd => rfl); (case zzi => k_is); (case zzc => rfl); (case zzs => rfl); (case zzx => rfl))
    | with_reducible refine ev_binop ?_
    | ((with_reducible refine' evl_cons ?zzs ?_); (case zzs => rfl))
    | with_reducible refine evl_nil ?_
    | ((with_reducible refine' op_add_bytes ?zza ?_); (case zza => first | omega | (simp only [Array.size_append, be2_size, be4_size, byteArr_size, List.length_cons, List.length_nil]; omega)))
    | ((with_reducible refine' ex_dT ?zza ?_); (case zza => rfl); (try dsimp only [insD, namesOf, nameOf, List.foldr, List.append, List.cons_append, List.nil_append, List.map, List.zip, List.zipWith, List.reverse, List.reverseAux]))
    | (refine ve_exc ?_; first | trivial | omega | (simp only [Array.size_append, byteArr_size, be2_size, be4_size, List.length_cons, List.length_nil] at h; omega))
    | (refine ve_val ?_ ?_; (first | trivial | omega | (simp only [Array.size_append, byteArr_size, be2_size, be4_size, List.length_cons, List.length_nil] at h; omega)); (first | rfl | skip))
    | (exfalso; simp only [Array.size_append, byteArr_size, be2_size, be4_size, List.length_cons, List.length_nil] at h; omega))
  k_with "x go" => repeat' (k_extra "x1")
  trivial

set_option linter.unusedSectionVars false
section
variable (w : World) {hs : List Addr} {I : Heap → Prop} (hI : HI hs I)
include hI
theorem t_laid {k : Int} {b : Array UInt8} (hk : 0 ≤ k ∧ k < 128) (hb : b.size ≤ 512) : CT w hs I 530 300 201 [dI k, dY b] (VE True (dY (rowB k b)) False 56) := by
  have e : byteArr [(2 * k + (b.size : Int) / 256) % 256, (b.size : Int) % 256] ++ b = rowB k b := by
    unfold rowB be2
    congr 2
    rw [Int.fdiv_eq_ediv_of_nonneg _ (by decide), Int.fdiv_eq_ediv_of_nonneg _ (by decide)]
    congr 1
    · omega
    · congr 1; omega
  rw [← e]
  k_with "v2" => exact o_divE (c := (b.size : Int) / 256) (by decide) rfl (Int.fdiv_eq_ediv_of_nonneg _ (by decide))
  k_with "v2" => exact o_modE (c := (b.size : Int) % 256) (by decide) (Int.fmod_eq_emod_of_nonneg _ (by decide))
  k_with "v2" => exact o_modE (c := (2 * k + (b.size : Int) / 256) % 256) (by decide) (Int.fmod_eq_emod_of_nonneg _ (by decide))
  k_extra "w enter"
  k_extra "x go"
theorem t_laddr {o nm : Array UInt8} {sz t : Int} (h1 : 0 ≤ sz ∧ sz < 256) (h2 : 0 ≤ t ∧ t < 256) (ho : o.size ≤ 1000) (hn : nm.size ≤ 1000) : CT w hs I 530 300 222 [dY o, dY nm, dI sz, dI t] (VE True (dY (byteArr [sz, 1] ++ o ++ byteArr [2, 0, 0, 0, 3, t] ++ nm)) False 56) := by
  k_with "vo" => (refine op_bytes_ints (ns := [2, 0, 0, 0, 3, t]) G rfl ?_ (Nat.le_of_ble_eq_true rfl) rfl; intro x hx; simp only [List.mem_cons, List.not_mem_nil, or_false] at hx; omega)
  k_extra "w enter"
  k_extra "x go"
end

set_option linter.unusedSimpArgs false
set_option linter.unusedVariables false
theorem rows2_T11 : True := by
  k_with_none
  k_with "w enter" => (refine' ct_enter ?cI ?cr ?co ?cc ?cb ?cl ?cn ?c1 ?c2 ?c3 ?c4 ?_; (case cI => assumption); (case cr => decide); (case co => k_is); (case cc => k_is); (case cb => (intro s vs hv; first | (obtain rfl := len0 hv; exact BindsTo.of_eq rfl) | (obtain ⟨a, rfl⟩ := len1 hv; exact BindsTo.of_eq rfl) | (obtain ⟨a, b, rfl⟩ := len2 hv; exact BindsTo.of_eq rfl) | (obtain ⟨a, b, c, rfl⟩ := len3 hv; exact BindsTo.of_eq rfl) | (obtain ⟨a, b, c, d, rfl⟩ := len4 hv; exact BindsTo.of_eq rfl))); (case cl => first | exact (fun _ h => absurd h List.not_mem_nil) | (simp only [List.map, List.mem_cons, List.not_mem_nil, or_false, forall_eq_or_imp, forall_eq]; decide)); (case cn => rfl); (case c1 => rfl); (case c2 => rfl); (case c3 => rfl); (case c4 => decide); intro C G _ _ e3; (dsimp only [List.map, List.zip, List.zipWith, List.reverse, List.reverseAux]); (try k_fold))
  k_with "v1" => (first
    | ((with_reducible show Ev _ _ _ _ _ _); (first | k_extra "ve c" | k_extra "ve"))
    | ((with_reducible show Op2 _ _ _ _ _ _ _ _); k_extra "v2")
    | ((with_reducible show EvL _ _ _ _ _ _); k_extra "vl")
    | ((with_reducible show OpL _ _ _ _ _ _ _); (first | k_extra "vo c" | k_extra "vo"))
    | ((with_reducible show Tst _ _ _ _ _ _); k_extra "vt")
    | ((with_reducible show Cm2 _ _ _ _ _ _ _ _); k_extra "vm")
    | ((with_reducible show EvP _ _ _ _ _ _); k_extra "vp")
    | k_extra "vs")
  k_with "ve c" => fail
  k_with "vo c" => fail
  k_with "ve" => (first
    | ((with_reducible apply v_name G); rfl; rfl; rfl)
    | with_reducible exact v_int
    | with_reducible apply v_bin
    | with_reducible apply v_slice G
    | with_reducible apply v_sub
    | ((with_reducible apply v_globI G); k_is; rfl; rfl)
    | ((with_reducible apply e_call G); k_is; rfl; rfl; k_is; rfl; rfl; rfl)
    | ((with_reducible apply v_bcall (f := Str.ofString "len") (id := "len") G); k_is; boot_fast; decide; rfl; rfl; rfl; rfl; rfl)
    | ((with_reducible apply v_tcall (f := Str.ofString "bytes") (id := "bytes") G); k_is; boot_fast; decide; rfl; rfl; rfl; rfl; rfl)
    | ((with_reducible apply v_tcall (f := Str.ofString "tuple") (id := "tuple") G); k_is; boot_fast; decide; rfl; rfl; rfl; rfl; rfl)
    | ((with_reducible apply v_tcall (f := Str.ofString "int") (id := "int") G); k_is; boot_fast; decide; rfl; rfl; rfl; rfl; rfl)
    | with_reducible apply v_tuple G
    | with_reducible apply v_list G
    | with_reducible exact v_str
    | with_reducible apply v_bytes
    | ((with_reducible apply v_globV G); k_is; rfl; rfl)
    | ((with_reducible apply v_if1); (focus (k_extra "v go"; done)); (first | omega | decide))
    | ((with_reducible apply v_if2); (focus (k_extra "v go"; done)); (first | omega | decide)))
  k_with "v2" => (first
    | with_reducible exact o_addI
    | with_reducible apply o_addY
    | with_reducible exact o_subI
    | with_reducible apply o_mulI
    | with_reducible apply o_modI
    | with_reducible apply o_divI
    | with_reducible apply o_itemY
    | with_reducible apply o_itemT
    | ((with_reducible apply o_itemTT G); (intro _ _; rfl); (intro _ _; rfl); (repeat' first | exact List.mem_cons_self | refine List.mem_cons_of_mem _ ?_)))
  k_with "vl" => (first | with_reducible exact vl_nil | ((with_reducible apply vl_cons); rfl))
  k_with "vo" => (first
    | with_reducible exact o_len
    | with_reducible apply o_bytes1 G
    | with_reducible apply o_bytes2 G
    | with_reducible apply o_bytesN)
  k_with "vt" => (first
    | with_reducible apply tp_chain
    | with_reducible apply tp_cmp
    | with_reducible apply tp_not
    | with_reducible apply tp_or)
  k_with "vm" => (first
    | with_reducible exact cp_lt
    | with_reducible exact cp_le
    | with_reducible exact cp_gt
    | with_reducible exact cp_eq
    | with_reducible exact cp_ne
    | with_reducible exact cp_eqs
    | with_reducible exact cp_in3
    | with_reducible exact cp_first G
    | with_reducible exact cp_tt G)
  k_with "vp" => (first | with_reducible exact p_none | with_reducible apply p_some)
  k_with "vs" => (first
    | ((with_reducible intro _ _ _); rfl)
    | ((with_reducible intro _ _); rfl)
    | rfl
    | exact Nat.le_of_ble_eq_true rfl
    | omega
    | decide
    | (simp only [Array.size_append, be2_size, be4_size, byteArr_size, List.length_cons, List.length_nil]; omega))
  k_with "v go" => repeat' (k_extra "v1")
  k_with "x1" => (first
    | with_reducible apply ex_cons
    | with_reducible apply ex_nil
    | ((with_reducible apply xr); (focus (k_extra "v go"; done)))
    | ((with_reducible apply xa G); (focus (k_extra "v go"; done)); rfl; rfl)
    | ((with_reducible apply xi); (focus (k_extra "v go"; done)); (all_goals try (intro hc; try (exfalso; first | omega | exact absurd hc (by decide) | exact hc (by decide)))))
    | with_reducible apply ex_break
    | ((with_reducible apply ex_none (e := Expr.Call (Expr.Name _ _) _ _ _)); rfl; rfl)
    | ((with_reducible refine' ex_raise G ?zzW ?zzdl ?zzn ?zzk ?zzd ?zzi ?_); (case zzn => k_is); (case zzk => rfl); (case zzd => rfl); (case zzi => k_is); (case zzdl => decide); (case zzW => first | exact exc44 w | exact exc56 w))
    | ((with_reducible refine' ex_assignT G ?zzq ?zzx ?zzn ?zze ?zzf ?zzs ?zzw ?_); (case zzq => rfl); (case zzn => rfl); (case zze => rfl); (case zzf => rfl); (case zzs => rfl); (case zzw => rfl); (case zzx => decide))
    | ((with_reducible apply ex_assignS (names := [_, _]) G); (case hw => rfl); (case hs => rfl); (case hx => decide))
    | with_reducible refine ex_ret ?_
    | ((with_reducible refine' ex_assign G ?zza ?zzb ?_); (case zza => rfl); (case zzb => rfl))
    | ((with_reducible apply ev_of); (focus (k_extra "v go"; done)))
    | ((with_reducible apply e_call G); k_is; rfl; rfl; k_is; rfl; rfl; rfl; (focus (k_extra "v go"; done)))
    | ((with_reducible refine' ev_call G ?zzn ?zzk ?zzd ?zzi ?zzc ?zzs ?zzx ?_); (case zzn => k_is); (case zzk => rfl); (case zzd => rfl); (case zzi => k_is); (case zzc => rfl); (case zzs => rfl); (case zzx => rfl))
    | with_reducible refine ev_binop ?_
    | ((with_reducible refine' evl_cons ?zzs ?_); (case zzs => rfl))
    | with_reducible refine evl_nil ?_
    | ((with_reducible refine' op_add_bytes ?zza ?_); (case zza => first | omega | (simp only [Array.size_append, be2_size, be4_size, byteArr_size, List.length_cons, List.length_nil]; omega)))
    | ((with_reducible refine' ex_dT ?zza ?_); (case zza => rfl); (try dsimp only [insD, namesOf, nameOf, List.foldr, List.append, List.cons_append, List.nil_append, List.map, List.zip, List.zipWith, List.reverse, List.reverseAux]))
    | (refine ve_exc ?_; first | trivial | omega | (simp only [Array.size_append, byteArr_size, be2_size, be4_size, List.length_cons, List.length_nil] at h; omega))
    | (refine ve_val ?_ ?_; (first | trivial | omega | (simp only [Array.size_append, byteArr_size, be2_size, be4_size, List.length_cons, List.length_nil] at h; omega)); (first | rfl | skip))
    | (exfalso; simp only [Array.size_append, byteArr_size, be2_size, be4_size, List.length_cons, List.length_nil] at h; omega))
  k_with "x go" => repeat' (k_extra "x1")
  trivial

set_option linter.unusedSectionVars false
def AL (o nm : Array UInt8) (sz t : Int) : Array UInt8 := byteArr [sz, 1] ++ o ++ byteArr [2, 0, 0, 0, 3, t] ++ nm
def zB (n : Nat) : Array UInt8 := Array.replicate n 0
def kbD (p : Lay) : D := dT [dI p.1, dY p.2]
def brks : List Lay := [(7, zB 3), (7, zB 5), (5, zB 256), (4, zB 300), (127, zB 3), (127, #[])] ++ [(8, AL #[97, 98] #[] 3 1), (8, AL #[97, 98] #[120] 3 0)] ++ [(8, AL #[] #[] 1 0), (8, AL #[] #[] 0 0)] ++ [(8, AL (zB 32) #[] 33 0)] ++ [(8, #[]), (8, byteArr [9, 1]), (8, KBy.picked (AL #[97, 98] #[] 3 0) none (some (-1)))]
theorem tl_app {a b : List D} (h : ∀ d ∈ a, Tupy d) (hl : ∀ d ∈ b, Tupy d) : ∀ d ∈ a ++ b, Tupy d := fun d m => (List.mem_append.mp m).elim (h d) (hl d)
section
variable (w : World) {hs : List Addr} {I : Heap → Prop} (hI : HI hs I)
include hI
set_option maxHeartbeats 6000000 in
theorem t_broken : CT w hs I 528 290 243 [] (VE True (dL (brks.map kbD)) False 56) := by
  k_with "vo c" => with_reducible apply o_call G (fun _ q => t_laddr w q ?_ ?_ ?_ ?_)
  k_with "ve c" => with_reducible apply v_neg
  k_with "ve c" => ((with_reducible apply v_own); (with_reducible apply v_name G); rfl; rfl; rfl)
  k_with "v2" => with_reducible apply o_addO G
  k_with "x1" => ((with_reducible apply xr); (with_reducible apply v_own); (focus (k_extra "v go"; done)))
  k_extra "w enter"
  k_extra "x go"
  refine ex_append (ρ' := []) G e3 (by rfl) (by rfl) (by rfl) (by rfl) (by rfl) (by rfl) (by rfl) (by rfl) (by rfl) ?_ (fun _ _ e => nomatch e) (Nat.le_of_ble_eq_true rfl) (fun a => ?_)
  · repeat' with_reducible first | exact tupy_I | exact tupy_Y | apply tupy_T | exact tl_nil | apply tl_app | apply tl_cons
  k_extra "x go"
  refine ⟨by repeat' with_reducible first | exact tupy_I | exact tupy_Y | apply tupy_T | exact tl_nil | apply tl_cons, ?_⟩
  k_extra "x go"

end

set_option linter.unusedSimpArgs false
set_option linter.unusedVariables false
theorem rows2_T12 : True := by
  k_with_none
  k_with "w enter" => (refine' ct_enter ?cI ?cr ?co ?cc ?cb ?cl ?cn ?c1 ?c2 ?c3 ?c4 ?_; (case cI => assumption); (case cr => decide); (case co => k_is); (case cc => k_is); (case cb => (intro s vs hv; first | (obtain rfl := len0 hv; exact BindsTo.of_eq rfl) | (obtain ⟨a, rfl⟩ := len1 hv; exact BindsTo.of_eq rfl) | (obtain ⟨a, b, rfl⟩ := len2 hv; exact BindsTo.of_eq rfl) | (obtain ⟨a, b, c, rfl⟩ := len3 hv; exact BindsTo.of_eq rfl) | (obtain ⟨a, b, c, d, rfl⟩ := len4 hv; exact BindsTo.of_eq rfl))); (case cl => first | exact (fun _ h => absurd h List.not_mem_nil) | (simp only [List.map, List.mem_cons, List.not_mem_nil, or_false, forall_eq_or_imp, forall_eq]; decide)); (case cn => rfl); (case c1 => rfl); (case c2 => rfl); (case c3 => rfl); (case c4 => decide); intro C G _ _ e3; (dsimp only [List.map, List.zip, List.zipWith, List.reverse, List.reverseAux]); (try k_fold))
  k_with "v1" => (first
    | ((with_reducible show Ev _ _ _ _ _ _); (first | k_extra "ve c" | k_extra "ve"))
    | ((with_reducible show Op2 _ _ _ _ _ _ _ _); k_extra "v2")
    | ((with_reducible show EvL _ _ _ _ _ _); k_extra "vl")
    | ((with_reducible show OpL _ _ _ _ _ _ _); (first | k_extra "vo c" | k_extra "vo"))
    | ((with_reducible show Tst _ _ _ _ _ _); k_extra "vt")
    | ((with_reducible show Cm2 _ _ _ _ _ _ _ _); k_extra "vm")
    | ((with_reducible show EvP _ _ _ _ _ _); k_extra "vp")
    | k_extra "vs")
  k_with "ve c" => fail
  k_with "vo c" => fail
  k_with "ve" => (first
    | ((with_reducible apply v_name G); rfl; rfl; rfl)
    | with_reducible exact v_int
    | with_reducible apply v_bin
    | with_reducible apply v_slice G
    | with_reducible apply v_sub
    | ((with_reducible apply v_globI G); k_is; rfl; rfl)
    | ((with_reducible apply e_call G); k_is; rfl; rfl; k_is; rfl; rfl; rfl)
    | ((with_reducible apply v_bcall (f := Str.ofString "len") (id := "len") G); k_is; boot_fast; decide; rfl; rfl; rfl; rfl; rfl)
    | ((with_reducible apply v_tcall (f := Str.ofString "bytes") (id := "bytes") G); k_is; boot_fast; decide; rfl; rfl; rfl; rfl; rfl)
    | ((with_reducible apply v_tcall (f := Str.ofString "tuple") (id := "tuple") G); k_is; boot_fast; decide; rfl; rfl; rfl; rfl; rfl)
    | ((with_reducible apply v_tcall (f := Str.ofString "int") (id := "int") G); k_is; boot_fast; decide; rfl; rfl; rfl; rfl; rfl)
    | with_reducible apply v_tuple G
    | with_reducible apply v_list G
    | with_reducible exact v_str
    | with_reducible apply v_bytes
    | ((with_reducible apply v_globV G); k_is; rfl; rfl)
    | ((with_reducible apply v_if1); (focus (k_extra "v go"; done)); (first | omega | decide))
    | ((with_reducible apply v_if2); (focus (k_extra "v go"; done)); (first | omega | decide)))
  k_with "v2" => (first
    | with_reducible exact o_addI
    | with_reducible apply o_addY
    | with_reducible exact o_subI
    | with_reducible apply o_mulI
    | with_reducible apply o_modI
    | with_reducible apply o_divI
    | with_reducible apply o_itemY
    | with_reducible apply o_itemT
    | ((with_reducible apply o_itemTT G); (intro _ _; rfl); (intro _ _; rfl); (repeat' first | exact List.mem_cons_self | refine List.mem_cons_of_mem _ ?_)))
  k_with "vl" => (first | with_reducible exact vl_nil | ((with_reducible apply vl_cons); rfl))
  k_with "vo" => (first
    | with_reducible exact o_len
    | with_reducible apply o_bytes1 G
    | with_reducible apply o_bytes2 G
    | with_reducible apply o_bytesN)
  k_with "vt" => (first
    | with_reducible apply tp_chain
    | with_reducible apply tp_cmp
    | with_reducible apply tp_not
    | with_reducible apply tp_or)
  k_with "vm" => (first
    | with_reducible exact cp_lt
    | with_reducible exact cp_le
    | with_reducible exact cp_gt
    | with_reducible exact cp_eq
    | with_reducible exact cp_ne
    | with_reducible exact cp_eqs
    | with_reducible exact cp_in3
    | with_reducible exact cp_first G
    | with_reducible exact cp_tt G)
  k_with "vp" => (first | with_reducible exact p_none | with_reducible apply p_some)
  k_with "vs" => (first
    | ((with_reducible intro _ _ _); rfl)
    | ((with_reducible intro _ _); rfl)
    | rfl
    | exact Nat.le_of_ble_eq_true rfl
    | omega
    | decide
    | (simp only [Array.size_append, be2_size, be4_size, byteArr_size, List.length_cons, List.length_nil]; omega))
  k_with "v go" => repeat' (k_extra "v1")
  k_with "x1" => (first
    | with_reducible apply ex_cons
    | with_reducible apply ex_nil
    | ((with_reducible apply xr); (focus (k_extra "v go"; done)))
    | ((with_reducible apply xa G); (focus (k_extra "v go"; done)); rfl; rfl)
    | ((with_reducible apply xi); (focus (k_extra "v go"; done)); (all_goals try (intro hc; try (exfalso; first | omega | exact absurd hc (by decide) | exact hc (by decide)))))
    | with_reducible apply ex_break
    | ((with_reducible apply ex_none (e := Expr.Call (Expr.Name _ _) _ _ _)); rfl; rfl)
    | ((with_reducible refine' ex_raise G ?zzW ?zzdl ?zzn ?zzk ?zzd ?zzi ?_); (case zzn => k_is); (case zzk => rfl); (case zzd => rfl); (case zzi => k_is); (case zzdl => decide); (case zzW => first | exact exc44 w | exact exc56 w))
    | ((with_reducible refine' ex_assignT G ?zzq ?zzx ?zzn ?zze ?zzf ?zzs ?zzw ?_); (case zzq => rfl); (case zzn => rfl); (case zze => rfl); (case zzf => rfl); (case zzs => rfl); (case zzw => rfl); (case zzx => decide))
    | ((with_reducible apply ex_assignS (names := [_, _]) G); (case hw => rfl); (case hs => rfl); (case hx => decide))
    | with_reducible refine ex_ret ?_
    | ((with_reducible refine' ex_assign G ?zza ?zzb ?_); (case zza => rfl); (case zzb => rfl))
    | ((with_reducible apply ev_of); (focus (k_extra "v go"; done)))
    | ((with_reducible apply e_call G); k_is; rfl; rfl; k_is; rfl; rfl; rfl; (focus (k_extra "v go"; done)))
    | ((with_reducible refine' ev_call G ?zzn ?zzk ?zzd ?zzi ?zzc ?zzs ?zzx ?_); (case zzn => k_is); (case zzk => rfl); (case zzd => rfl); (case zzi => k_is); (case zzc => rfl); (case zzs => rfl); (case zzx => rfl))
    | with_reducible refine ev_binop ?_
    | ((with_reducible refine' evl_cons ?zzs ?_); (case zzs => rfl))
    | with_reducible refine evl_nil ?_
    | ((with_reducible refine' op_add_bytes ?zza ?_); (case zza => first | omega | (simp only [Array.size_append, be2_size, be4_size, byteArr_size, List.length_cons, List.length_nil]; omega)))
    | ((with_reducible refine' ex_dT ?zza ?_); (case zza => rfl); (try dsimp only [insD, namesOf, nameOf, List.foldr, List.append, List.cons_append, List.nil_append, List.map, List.zip, List.zipWith, List.reverse, List.reverseAux]))
    | (refine ve_exc ?_; first | trivial | omega | (simp only [Array.size_append, byteArr_size, be2_size, be4_size, List.length_cons, List.length_nil] at h; omega))
    | (refine ve_val ?_ ?_; (first | trivial | omega | (simp only [Array.size_append, byteArr_size, be2_size, be4_size, List.length_cons, List.length_nil] at h; omega)); (first | rfl | skip))
    | (exfalso; simp only [Array.size_append, byteArr_size, be2_size, be4_size, List.length_cons, List.length_nil] at h; omega))
  k_with "x go" => repeat' (k_extra "x1")
  trivial

set_option linter.unusedSectionVars false
section
variable {w : World} {sc : Scope} {dl ul : Nat} {C : Cx} {ρ : List (Str × D)}
theorem ol_of {f : List Value → Sem Value} {ds : List D} {d : D} {P : Out D → Prop} (h : OpL w sc C ρ f ds (· = .val d)) (hp : P (.val d)) : OpL w sc C ρ f ds P := fun vs => eg_mono (h vs) fun _ q => q ▸ hp
theorem o2_of {f : Value → Value → Sem Value} {d1 d2 d : D} {P : Out D → Prop} (h : Op2 w sc C ρ f d1 d2 (· = .val d)) (hp : P (.val d)) : Op2 w sc C ρ f d1 d2 P := fun v1 v2 => eg_mono (h v1 v2) fun _ q => q ▸ hp
/-- source[0], source[1] -/
theorem e_src0 (G : Good w sc dl ul C) {a : Addr} (S : Src C.hid C.I a) {x : Str} {p1 p2 pos : Pos} {k : Nat} {P : Out D → Prop} (hl : lk ρ x = some (dV (.ref a))) (hk : sc.names.lookup x = some .local) (hd : (x == Str.ofString "__debug__") = false)
    (hp : ∀ i, 0 ≤ i → P (.val (dI i))) : Ev w sc C ρ (.Subscript (.Name x p1) (.Constant (.int 0) k p2) pos) P :=
  ev_sub (ev_of (v_name G hl hk hd) (ev_of v_int (op_src0 S (fun _ _ => rfl) (fun _ _ => rfl) hp)))
theorem e_src1 (G : Good w sc dl ul C) {a : Addr} (S : Src C.hid C.I a) {x : Str} {p1 p2 pos : Pos} {k : Nat} {P : Out D → Prop} (hl : lk ρ x = some (dV (.ref a))) (hk : sc.names.lookup x = some .local) (hd : (x == Str.ofString "__debug__") = false)
    (hp : ∀ i, 0 ≤ i → i < 2147483647 → P (.val (dI i))) : Ev w sc C ρ (.Subscript (.Name x p1) (.Constant (.int 1) k p2) pos) P :=
  ev_sub (ev_of (v_name G hl hk hd) (ev_of v_int (op_src1 S (fun _ _ => rfl) (fun _ _ => rfl) hp)))
end
theorem ex_z {i : Int} {A : Int → Prop} {B : Prop} (h : A i) (hp : B) : ∃ z, dI i = dI z ∧ A z ∧ B := ⟨i, rfl, h, hp⟩
theorem fd_nn {x y : Int} (hx : 0 ≤ x) (hy : 1 ≤ y) : 0 ≤ x.fdiv y := by rw [Int.fdiv_eq_ediv_of_nonneg _ (by omega)]; exact Int.ediv_nonneg hx (by omega)
theorem fm_nn {x y : Int} (hy : 1 ≤ y) : 0 ≤ x.fmod y := by rw [Int.fmod_eq_emod_of_nonneg _ (by omega)]; exact Int.emod_nonneg _ (by omega)
theorem fm_lt {x y : Int} (hy : 1 ≤ y) : x.fmod y < y := by rw [Int.fmod_eq_emod_of_nonneg _ (by omega)]; exact Int.emod_lt_of_pos _ (by omega)
section
variable (w : World) {hs : List Addr} {I : Heap → Prop} (hI : HI hs I)
include hI
theorem t_take {a : Addr} (S : Src hs I a) {top : Int} (h : 1 ≤ top ∧ top ≤ 512) : CT w hs I 520 250 180 [dV (.ref a), dI top] (fun o => ∃ r, o = .val (dI r) ∧ 0 ≤ r ∧ r < top) := by
  k_with "x1" => ((with_reducible refine e_src0 G S ?_ ?_ ?_ (fun x hx => ?_)); rfl; rfl; rfl)
  k_with "x1" => ((with_reducible refine e_src1 G S ?_ ?_ ?_ (fun y hy hy2 => ?_)); rfl; rfl; rfl)
  k_with "x1" => ((with_reducible refine ex_if (tst_cmp ?_ ?_)); rfl)
  k_with "x1" => (with_reducible refine cm_gt (ite_of (fun h0 => ?_) fun h0 => ?_))
  k_with "x1" => ((with_reducible refine ev_tcall (f := Str.ofString "int") (id := "int") G ?_ ?_ ?_ ?_ ?_ ?_ ?_ ?_ ?_); k_is; boot_fast; decide; rfl; rfl; rfl; rfl; rfl)
  k_with "x1" => ((with_reducible refine ex_src G S ?_ ?_ ?_ ?_ ?_ ?_); (first | exact .inl rfl | exact .inr rfl); rfl; rfl; rfl; rfl)
  k_with "x1" => with_reducible refine ol_of o_int ?_
  k_with "x1" => ((with_reducible refine op_add_int ?_))
  k_with "x1" => ((with_reducible refine o2_of (o_mulI ?_) ?_); omega)
  k_with "x1" => ((with_reducible refine o2_of (o_modI ?_) ?_); omega)
  k_with "x1" => ((with_reducible refine o2_of (o_divS ?_) ?_); omega)
  k_with "x1" => ((with_reducible refine ev_tcall (f := Str.ofString "int") (id := "int") G ?_ ?_ ?_ ?_ ?_ ?_ ?_ ?_ ?_); k_is; boot_fast; decide; rfl; rfl; rfl; rfl; rfl)
  k_with "x1" => (refine ex_z ?_ ?_; (first | exact ⟨fd_nn (by assumption) h.1, fun h => absurd h (by decide)⟩ | exact ⟨fm_nn (by decide), fun _ => fm_lt (by decide)⟩))
  k_extra "w enter"
  rename_i eh eI
  subst eh eI
  k_extra "x go"
  all_goals exact ⟨_, rfl, fm_nn h.1, fm_lt h.1⟩
end

set_option linter.unusedSimpArgs false
set_option linter.unusedVariables false
theorem rows2_T13 : True := by
  k_with_none
  k_with "w enter" => (refine' ct_enter ?cI ?cr ?co ?cc ?cb ?cl ?cn ?c1 ?c2 ?c3 ?c4 ?_; (case cI => assumption); (case cr => decide); (case co => k_is); (case cc => k_is); (case cb => (intro s vs hv; first | (obtain rfl := len0 hv; exact BindsTo.of_eq rfl) | (obtain ⟨a, rfl⟩ := len1 hv; exact BindsTo.of_eq rfl) | (obtain ⟨a, b, rfl⟩ := len2 hv; exact BindsTo.of_eq rfl) | (obtain ⟨a, b, c, rfl⟩ := len3 hv; exact BindsTo.of_eq rfl) | (obtain ⟨a, b, c, d, rfl⟩ := len4 hv; exact BindsTo.of_eq rfl))); (case cl => first | exact (fun _ h => absurd h List.not_mem_nil) | (simp only [List.map, List.mem_cons, List.not_mem_nil, or_false, forall_eq_or_imp, forall_eq]; decide)); (case cn => rfl); (case c1 => rfl); (case c2 => rfl); (case c3 => rfl); (case c4 => decide); intro C G _ _ e3; (dsimp only [List.map, List.zip, List.zipWith, List.reverse, List.reverseAux]); (try k_fold))
  k_with "v1" => (first
    | ((with_reducible show Ev _ _ _ _ _ _); (first | k_extra "ve c" | k_extra "ve"))
    | ((with_reducible show Op2 _ _ _ _ _ _ _ _); k_extra "v2")
    | ((with_reducible show EvL _ _ _ _ _ _); k_extra "vl")
    | ((with_reducible show OpL _ _ _ _ _ _ _); (first | k_extra "vo c" | k_extra "vo"))
    | ((with_reducible show Tst _ _ _ _ _ _); k_extra "vt")
    | ((with_reducible show Cm2 _ _ _ _ _ _ _ _); k_extra "vm")
    | ((with_reducible show EvP _ _ _ _ _ _); k_extra "vp")
    | k_extra "vs")
  k_with "ve c" => fail
  k_with "vo c" => fail
  k_with "ve" => (first
    | ((with_reducible apply v_name G); rfl; rfl; rfl)
    | with_reducible exact v_int
    | with_reducible apply v_bin
    | with_reducible apply v_slice G
    | with_reducible apply v_sub
    | ((with_reducible apply v_globI G); k_is; rfl; rfl)
    | ((with_reducible apply e_call G); k_is; rfl; rfl; k_is; rfl; rfl; rfl)
    | ((with_reducible apply v_bcall (f := Str.ofString "len") (id := "len") G); k_is; boot_fast; decide; rfl; rfl; rfl; rfl; rfl)
    | ((with_reducible apply v_tcall (f := Str.ofString "bytes") (id := "bytes") G); k_is; boot_fast; decide; rfl; rfl; rfl; rfl; rfl)
    | ((with_reducible apply v_tcall (f := Str.ofString "tuple") (id := "tuple") G); k_is; boot_fast; decide; rfl; rfl; rfl; rfl; rfl)
    | ((with_reducible apply v_tcall (f := Str.ofString "int") (id := "int") G); k_is; boot_fast; decide; rfl; rfl; rfl; rfl; rfl)
    | with_reducible apply v_tuple G
    | with_reducible apply v_list G
    | with_reducible exact v_str
    | with_reducible apply v_bytes
    | ((with_reducible apply v_globV G); k_is; rfl; rfl)
    | ((with_reducible apply v_if1); (focus (k_extra "v go"; done)); (first | omega | decide))
    | ((with_reducible apply v_if2); (focus (k_extra "v go"; done)); (first | omega | decide)))
  k_with "v2" => (first
    | with_reducible exact o_addI
    | with_reducible apply o_addY
    | with_reducible exact o_subI
    | with_reducible apply o_mulI
    | with_reducible apply o_modI
    | with_reducible apply o_divI
    | with_reducible apply o_itemY
    | with_reducible apply o_itemT
    | ((with_reducible apply o_itemTT G); (intro _ _; rfl); (intro _ _; rfl); (repeat' first | exact List.mem_cons_self | refine List.mem_cons_of_mem _ ?_)))
  k_with "vl" => (first | with_reducible exact vl_nil | ((with_reducible apply vl_cons); rfl))
  k_with "vo" => (first
    | with_reducible exact o_len
    | with_reducible apply o_bytes1 G
    | with_reducible apply o_bytes2 G
    | with_reducible apply o_bytesN)
  k_with "vt" => (first
    | with_reducible apply tp_chain
    | with_reducible apply tp_cmp
    | with_reducible apply tp_not
    | with_reducible apply tp_or)
  k_with "vm" => (first
    | with_reducible exact cp_lt
    | with_reducible exact cp_le
    | with_reducible exact cp_gt
    | with_reducible exact cp_eq
    | with_reducible exact cp_ne
    | with_reducible exact cp_eqs
    | with_reducible exact cp_in3
    | with_reducible exact cp_first G
    | with_reducible exact cp_tt G)
  k_with "vp" => (first | with_reducible exact p_none | with_reducible apply p_some)
  k_with "vs" => (first
    | ((with_reducible intro _ _ _); rfl)
    | ((with_reducible intro _ _); rfl)
    | rfl
    | exact Nat.le_of_ble_eq_true rfl
    | omega
    | decide
    | (simp only [Array.size_append, be2_size, be4_size, byteArr_size, List.length_cons, List.length_nil]; omega))
  k_with "v go" => repeat' (k_extra "v1")
  k_with "x1" => (first
    | with_reducible apply ex_cons
    | with_reducible apply ex_nil
    | ((with_reducible apply xr); (focus (k_extra "v go"; done)))
    | ((with_reducible apply xa G); (focus (k_extra "v go"; done)); rfl; rfl)
    | ((with_reducible apply xi); (focus (k_extra "v go"; done)); (all_goals try (intro hc; try (exfalso; first | omega | exact absurd hc (by decide) | exact hc (by decide)))))
    | with_reducible apply ex_break
    | ((with_reducible apply ex_none (e := Expr.Call (Expr.Name _ _) _ _ _)); rfl; rfl)
    | ((with_reducible refine' ex_raise G ?zzW ?zzdl ?zzn ?zzk ?zzd ?zzi ?_); (case zzn => k_is); (case zzk => rfl); (case zzd => rfl); (case zzi => k_is); (case zzdl => decide); (case zzW => first | exact exc44 w | exact exc56 w))
    | ((with_reducible refine' ex_assignT G ?zzq ?zzx ?zzn ?zze ?zzf ?zzs ?zzw ?_); (case zzq => rfl); (case zzn => rfl); (case zze => rfl); (case zzf => rfl); (case zzs => rfl); (case zzw => rfl); (case zzx => decide))
    | ((with_reducible apply ex_assignS (names := [_, _]) G); (case hw => rfl); (case hs => rfl); (case hx => decide))
    | with_reducible refine ex_ret ?_
    | ((with_reducible refine' ex_assign G ?zza ?zzb ?_); (case zza => rfl); (case zzb => rfl))
    | ((with_reducible apply ev_of); (focus (k_extra "v go"; done)))
    | ((with_reducible apply e_call G); k_is; rfl; rfl; k_is; rfl; rfl; rfl; (focus (k_extra "v go"; done)))
    | ((with_reducible refine' ev_call G ?zzn ?zzk ?zzd ?zzi ?zzc ?zzs ?zzx ?_); (case zzn => k_is); (case zzk => rfl); (case zzd => rfl); (case zzi => k_is); (case zzc => rfl); (case zzs => rfl); (case zzx => rfl))
    | with_reducible refine ev_binop ?_
    | ((with_reducible refine' evl_cons ?zzs ?_); (case zzs => rfl))
    | with_reducible refine evl_nil ?_
    | ((with_reducible refine' op_add_bytes ?zza ?_); (case zza => first | omega | (simp only [Array.size_append, be2_size, be4_size, byteArr_size, List.length_cons, List.length_nil]; omega)))
    | ((with_reducible refine' ex_dT ?zza ?_); (case zza => rfl); (try dsimp only [insD, namesOf, nameOf, List.foldr, List.append, List.cons_append, List.nil_append, List.map, List.zip, List.zipWith, List.reverse, List.reverseAux]))
    | (refine ve_exc ?_; first | trivial | omega | (simp only [Array.size_append, byteArr_size, be2_size, be4_size, List.length_cons, List.length_nil] at h; omega))
    | (refine ve_val ?_ ?_; (first | trivial | omega | (simp only [Array.size_append, byteArr_size, be2_size, be4_size, List.length_cons, List.length_nil] at h; omega)); (first | rfl | skip))
    | (exfalso; simp only [Array.size_append, byteArr_size, be2_size, be4_size, List.length_cons, List.length_nil] at h; omega))
  k_with "x go" => repeat' (k_extra "x1")
  trivial

set_option linter.unusedSectionVars false
section
variable {w : World} {sc : Scope} {dl ul : Nat} {C : Cx} {ρ : List (Str × D)}
theorem op_take (G : Good w sc dl ul C) {a : Addr} (S : Src C.hid C.I a) {top : Int} {P : Out D → Prop} (h : 1 ≤ top ∧ top ≤ 512) (h1 : dl ≤ 520) (h2 : ul ≤ 250) (hp : ∀ r, 0 ≤ r → r < top → P (.val (dI r))) : OpL w sc C ρ (callF (.ref 180)) [dV (.ref a), dI top] P :=
  op_callS G (t_take w G.hi S h) h1 h2 (fun _ ⟨_, e, _⟩ => nomatch e) fun _ ⟨r, e, a, b⟩ => by cases e; exact hp r a b
end
section
variable (w : World) {hs : List Addr} {I : Heap → Prop} (hI : HI hs I)
include hI
theorem t_one {a : Addr} (S : Src hs I a) : CT w hs I 518 240 187 [dV (.ref a), dL [dI (-3), dI 0, dI 0, dI 1]] (fun o => ∃ r, o = .val (dI r) ∧ (r = -3 ∨ r = 0 ∨ r = 1)) := by
  k_with "vo c" => with_reducible apply o_lenL
  k_with "x1" => ((with_reducible refine op_take G S ?_ ?_ ?_ (fun r hr1 hr2 => ?_)); decide; decide; decide)
  k_with "x1" => with_reducible refine ev_sub ?_
  k_extra "w enter"
  rename_i eh eI
  subst eh eI
  k_extra "x go"
  have hr : r = 0 ∨ r = 1 ∨ r = 2 ∨ r = 3 := by simp at hr2; omega
  rcases hr with rfl | rfl | rfl | rfl
  · exact o2_of (o_itemL (i := 0) (fun _ _ => rfl) (fun _ _ => rfl) (by decide) rfl) ⟨_, rfl, .inl rfl⟩
  · exact o2_of (o_itemL (i := 1) (fun _ _ => rfl) (fun _ _ => rfl) (by decide) rfl) ⟨_, rfl, .inr (.inl rfl)⟩
  · exact o2_of (o_itemL (i := 2) (fun _ _ => rfl) (fun _ _ => rfl) (by decide) rfl) ⟨_, rfl, .inr (.inl rfl)⟩
  · exact o2_of (o_itemL (i := 3) (fun _ _ => rfl) (fun _ _ => rfl) (by decide) rfl) ⟨_, rfl, .inr (.inr rfl)⟩
theorem t_filled {a : Addr} (S : Src hs I a) {many : Int} (h : 0 ≤ many ∧ many ≤ 1000) : CT w hs I 518 240 208 [dV (.ref a), dI many] (fun o => ∃ b : Array UInt8, o = .val (dY b) ∧ (b.size : Int) = many) := by
  k_with "x1" => ((with_reducible refine op_take G S ?_ ?_ ?_ (fun r hr1 hr2 => ?_)); decide; decide; decide)
  k_with "x1" => ((with_reducible refine ev_tcall (f := Str.ofString "bytes") (id := "bytes") G ?_ ?_ ?_ ?_ ?_ ?_ ?_ ?_ ?_); k_is; boot_fast; decide; rfl; rfl; rfl; rfl; rfl)
  k_with "x1" => with_reducible refine ev_list ?_
  k_with "x1" => ((with_reducible refine op_list G ?_ ?_); exact Nat.le_of_ble_eq_true rfl)
  k_with "x1" => ((with_reducible refine ol_of (o_bytes1 G ?_) ?_); omega)
  k_with "x1" => ((with_reducible refine o2_of (o_mulY ?_) ?_); omega)
  k_extra "w enter"
  rename_i eh eI
  subst eh eI
  k_extra "x go"
  all_goals exact ⟨_, rfl, by rw [Array.size_replicate]; omega⟩
end

set_option linter.unusedSimpArgs false
set_option linter.unusedVariables false
theorem rows2_T14 : True := by
  k_with_none
  k_with "w enter" => (refine' ct_enter ?cI ?cr ?co ?cc ?cb ?cl ?cn ?c1 ?c2 ?c3 ?c4 ?_; (case cI => assumption); (case cr => decide); (case co => k_is); (case cc => k_is); (case cb => (intro s vs hv; first | (obtain rfl := len0 hv; exact BindsTo.of_eq rfl) | (obtain ⟨a, rfl⟩ := len1 hv; exact BindsTo.of_eq rfl) | (obtain ⟨a, b, rfl⟩ := len2 hv; exact BindsTo.of_eq rfl) | (obtain ⟨a, b, c, rfl⟩ := len3 hv; exact BindsTo.of_eq rfl) | (obtain ⟨a, b, c, d, rfl⟩ := len4 hv; exact BindsTo.of_eq rfl))); (case cl => first | exact (fun _ h => absurd h List.not_mem_nil) | (simp only [List.map, List.mem_cons, List.not_mem_nil, or_false, forall_eq_or_imp, forall_eq]; decide)); (case cn => rfl); (case c1 => rfl); (case c2 => rfl); (case c3 => rfl); (case c4 => decide); intro C G _ _ e3; (dsimp only [List.map, List.zip, List.zipWith, List.reverse, List.reverseAux]); (try k_fold))
  k_with "v1" => (first
    | ((with_reducible show Ev _ _ _ _ _ _); (first | k_extra "ve c" | k_extra "ve"))
    | ((with_reducible show Op2 _ _ _ _ _ _ _ _); k_extra "v2")
    | ((with_reducible show EvL _ _ _ _ _ _); k_extra "vl")
    | ((with_reducible show OpL _ _ _ _ _ _ _); (first | k_extra "vo c" | k_extra "vo"))
    | ((with_reducible show Tst _ _ _ _ _ _); k_extra "vt")
    | ((with_reducible show Cm2 _ _ _ _ _ _ _ _); k_extra "vm")
    | ((with_reducible show EvP _ _ _ _ _ _); k_extra "vp")
    | k_extra "vs")
  k_with "ve c" => fail
  k_with "vo c" => fail
  k_with "ve" => (first
    | ((with_reducible apply v_name G); rfl; rfl; rfl)
    | with_reducible exact v_int
    | with_reducible apply v_bin
    | with_reducible apply v_slice G
    | with_reducible apply v_sub
    | ((with_reducible apply v_globI G); k_is; rfl; rfl)
    | ((with_reducible apply e_call G); k_is; rfl; rfl; k_is; rfl; rfl; rfl)
    | ((with_reducible apply v_bcall (f := Str.ofString "len") (id := "len") G); k_is; boot_fast; decide; rfl; rfl; rfl; rfl; rfl)
    | ((with_reducible apply v_tcall (f := Str.ofString "bytes") (id := "bytes") G); k_is; boot_fast; decide; rfl; rfl; rfl; rfl; rfl)
    | ((with_reducible apply v_tcall (f := Str.ofString "tuple") (id := "tuple") G); k_is; boot_fast; decide; rfl; rfl; rfl; rfl; rfl)
    | ((with_reducible apply v_tcall (f := Str.ofString "int") (id := "int") G); k_is; boot_fast; decide; rfl; rfl; rfl; rfl; rfl)
    | with_reducible apply v_tuple G
    | with_reducible apply v_list G
    | with_reducible exact v_str
    | with_reducible apply v_bytes
    | ((with_reducible apply v_globV G); k_is; rfl; rfl)
    | ((with_reducible apply v_if1); (focus (k_extra "v go"; done)); (first | omega | decide))
    | ((with_reducible apply v_if2); (focus (k_extra "v go"; done)); (first | omega | decide)))
  k_with "v2" => (first
    | with_reducible exact o_addI
    | with_reducible apply o_addY
    | with_reducible exact o_subI
    | with_reducible apply o_mulI
    | with_reducible apply o_modI
    | with_reducible apply o_divI
    | with_reducible apply o_itemY
    | with_reducible apply o_itemT
    | ((with_reducible apply o_itemTT G); (intro _ _; rfl); (intro _ _; rfl); (repeat' first | exact List.mem_cons_self | refine List.mem_cons_of_mem _ ?_)))
  k_with "vl" => (first | with_reducible exact vl_nil | ((with_reducible apply vl_cons); rfl))
  k_with "vo" => (first
    | with_reducible exact o_len
    | with_reducible apply o_bytes1 G
    | with_reducible apply o_bytes2 G
    | with_reducible apply o_bytesN)
  k_with "vt" => (first
    | with_reducible apply tp_chain
    | with_reducible apply tp_cmp
    | with_reducible apply tp_not
    | with_reducible apply tp_or)
  k_with "vm" => (first
    | with_reducible exact cp_lt
    | with_reducible exact cp_le
    | with_reducible exact cp_gt
    | with_reducible exact cp_eq
    | with_reducible exact cp_ne
    | with_reducible exact cp_eqs
    | with_reducible exact cp_in3
    | with_reducible exact cp_first G
    | with_reducible exact cp_tt G)
  k_with "vp" => (first | with_reducible exact p_none | with_reducible apply p_some)
  k_with "vs" => (first
    | ((with_reducible intro _ _ _); rfl)
    | ((with_reducible intro _ _); rfl)
    | rfl
    | exact Nat.le_of_ble_eq_true rfl
    | omega
    | decide
    | (simp only [Array.size_append, be2_size, be4_size, byteArr_size, List.length_cons, List.length_nil]; omega))
  k_with "v go" => repeat' (k_extra "v1")
  k_with "x1" => (first
    | with_reducible apply ex_cons
    | with_reducible apply ex_nil
    | ((with_reducible apply xr); (focus (k_extra "v go"; done)))
    | ((with_reducible apply xa G); (focus (k_extra "v go"; done)); rfl; rfl)
    | ((with_reducible apply xi); (focus (k_extra "v go"; done)); (all_goals try (intro hc; try (exfalso; first | omega | exact absurd hc (by decide) | exact hc (by decide)))))
    | with_reducible apply ex_break
    | ((with_reducible apply ex_none (e := Expr.Call (Expr.Name _ _) _ _ _)); rfl; rfl)
    | ((with_reducible refine' ex_raise G ?zzW ?zzdl ?zzn ?zzk ?zzd ?zzi ?_); (case zzn => k_is); (case zzk => rfl); (case zzd => rfl); (case zzi => k_is); (case zzdl => decide); (case zzW => first | exact exc44 w | exact exc56 w))
    | ((with_reducible refine' ex_assignT G ?zzq ?zzx ?zzn ?zze ?zzf ?zzs ?zzw ?_); (case zzq => rfl); (case zzn => rfl); (case zze => rfl); (case zzf => rfl); (case zzs => rfl); (case zzw => rfl); (case zzx => decide))
    | ((with_reducible apply ex_assignS (names := [_, _]) G); (case hw => rfl); (case hs => rfl); (case hx => decide))
    | with_reducible refine ex_ret ?_
    | ((with_reducible refine' ex_assign G ?zza ?zzb ?_); (case zza => rfl); (case zzb => rfl))
    | ((with_reducible apply ev_of); (focus (k_extra "v go"; done)))
    | ((with_reducible apply e_call G); k_is; rfl; rfl; k_is; rfl; rfl; rfl; (focus (k_extra "v go"; done)))
    | ((with_reducible refine' ev_call G ?zzn ?zzk ?zzd ?zzi ?zzc ?zzs ?zzx ?_); (case zzn => k_is); (case zzk => rfl); (case zzd => rfl); (case zzi => k_is); (case zzc => rfl); (case zzs => rfl); (case zzx => rfl))
    | with_reducible refine ev_binop ?_
    | ((with_reducible refine' evl_cons ?zzs ?_); (case zzs => rfl))
    | with_reducible refine evl_nil ?_
    | ((with_reducible refine' op_add_bytes ?zza ?_); (case zza => first | omega | (simp only [Array.size_append, be2_size, be4_size, byteArr_size, List.length_cons, List.length_nil]; omega)))
    | ((with_reducible refine' ex_dT ?zza ?_); (case zza => rfl); (try dsimp only [insD, namesOf, nameOf, List.foldr, List.append, List.cons_append, List.nil_append, List.map, List.zip, List.zipWith, List.reverse, List.reverseAux]))
    | (refine ve_exc ?_; first | trivial | omega | (simp only [Array.size_append, byteArr_size, be2_size, be4_size, List.length_cons, List.length_nil] at h; omega))
    | (refine ve_val ?_ ?_; (first | trivial | omega | (simp only [Array.size_append, byteArr_size, be2_size, be4_size, List.length_cons, List.length_nil] at h; omega)); (first | rfl | skip))
    | (exfalso; simp only [Array.size_append, byteArr_size, be2_size, be4_size, List.length_cons, List.length_nil] at h; omega))
  k_with "x go" => repeat' (k_extra "x1")
  trivial

set_option linter.unusedSectionVars false
def first3 (x y : Array UInt8) : List Row := [(Str.ofString "chassis", [dI 7, dY x]), (Str.ofString "port", [dI 5, dY y]), (Str.ofString "time", [dI 600])]
def oct3 (x y : Array UInt8) : Array UInt8 := rowB 1 (byteArr [7] ++ x) ++ rowB 2 (byteArr [5] ++ y) ++ rowB 3 (byteArr [2, 88])
theorem rowB_size (k : Int) (b : Array UInt8) : (rowB k b).size = b.size + 2 := by simp only [rowB, Array.size_append, be2_size]; omega
section
variable {w : World} {sc : Scope} {dl ul : Nat} {C : Cx} {ρ : List (Str × D)}
theorem op_filled (G : Good w sc dl ul C) {a : Addr} (S : Src C.hid C.I a) {many : Int} {P : Out D → Prop} (h : 0 ≤ many ∧ many ≤ 1000) (h1 : dl ≤ 518) (h2 : ul ≤ 240) (hp : ∀ b : Array UInt8, (b.size : Int) = many → P (.val (dY b))) : OpL w sc C ρ (callF (.ref 208)) [dV (.ref a), dI many] P :=
  op_callS G (t_filled w G.hi S h) h1 h2 (fun _ ⟨_, e, _⟩ => nomatch e) fun _ ⟨r, e, q⟩ => by cases e; exact hp r q
end
section
variable (w : World) {hs : List Addr} {I : Heap → Prop} (hI : HI hs I)
include hI
theorem t_first {a : Addr} (S : Src hs I a) {ch po : Int} (h1 : 0 ≤ ch ∧ ch ≤ 300) (h2 : 0 ≤ po ∧ po ≤ 300) : CT w hs I 516 230 215 [dV (.ref a), dI ch, dI po] (fun o => ∃ x y : Array UInt8, o = .val (dL [dL ((first3 x y).map rowD), dY (oct3 x y)]) ∧ (x.size : Int) = ch ∧ (y.size : Int) = po) := by
  k_with "vo c" => with_reducible apply o_call G (fun _ q => t_laid w q ?_ ?_)
  k_with "x1" => ((with_reducible refine op_filled G S ?_ ?_ ?_ (fun b hb => ?_)); omega; decide; decide)
  k_with "x1" => with_reducible refine ev_tuple ?_
  k_with "x1" => ((with_reducible refine op_tuple G ?_ ?_); exact Nat.le_of_ble_eq_true rfl)
  k_with "vs" => (simp only [Array.size_append, rowB_size, byteArr_size, List.length_cons, List.length_nil]; omega)
  k_extra "w enter"
  rename_i eh eI
  subst eh eI
  k_extra "x go"
  all_goals exact ⟨_, _, rfl, by assumption, by assumption⟩
end

theorem rows_L2 : True := by
  w_top off
  k_with_none
  k_with "mine enter" => (refine wpAny_call ?_; k_dflt (refine' enterP [] ?kX ?kT ?kr ?ko ?kc ?kb ?kl ?_ ?c2 ?c3 ?c4 ?c5; (case kX => k_asm); (case kT => k_asm); (case kr => exact Nat.le_of_ble_eq_true rfl); (case ko => k_is); (case kc => k_is); (case kb => exact BindsTo.of_eq rfl); (case kl => exact locs rfl); (case c2 => exact rfl); (case c3 => exact rfl); (case c4 => exact rfl); (case c5 => decide); k_whole; intro L' h' tk' F' K' l1; (dsimp only [List.map, List.zip, List.zipWith, List.reverse, List.reverseAux] at F'); (have N' := news_enter (hide := []) (news := []) K' l1 (fun _ h => nomatch h)); (dsimp only [hideAll] at F' N'); (try dsimp only); (try k_fold)))
  k_with "exec Raise some none" => (refine raise_ex (w := w) rfl ?_)
  k_with "call ref" => ((with_reducible show wpAny _ _ (call (Value.ref 44) [Value.str _ _]) _ _ _); (with_reducible rename Fr _ _ _ _ => FF); refine mk_exc w (exc44 w) (X.keeps FF.keep) (T.keeps FF.keep) (by rw [depth_under_make]; exact Nat.le_of_ble_eq_true rfl) (fun e h2 tk2 hx => ?_))
  k_with "call ref" => ((with_reducible show wpAny _ _ (call (Value.ref 56) [Value.str _ _]) _ _ _); (with_reducible rename Fr _ _ _ _ => FF); refine mk_exc w (exc56 w) (X.keeps FF.keep) (T.keeps FF.keep) (by rw [depth_under_make]; exact Nat.le_of_ble_eq_true rfl) (fun e h2 tk2 hx => ?_))
  k_with "mine ret" => ((try dsimp only); (with_reducible rename Fr _ _ _ _ => FF); refine hret _ _ _ FF.keep ?_)
  k_with "Raised" => ((with_reducible rename Fr _ _ _ _ => FF); refine Raised.of (by first | exact exc44 w | exact exc56 w) (X.keeps FF.keep) hx ?_; (try dsimp only); (try k_unfold); refine leave_first B FF hx (fun h3 hfly => hexc _ _ _ _ ?_ hfly))
  k_with "subscriptTail" => ((with_reducible show wpAny _ _ (subscriptTail _ (Expr.Slice _ _ none _) (Value.bytes _ _) (Value.ref _)) _ _ _); (with_reducible rename Fr _ _ _ _ => FF); (with_reducible rename News _ _ _ _ => NN); (refine KBc.slice_K (s := ⟨_, _, _, _, _⟩) FF NN rfl (by constructor) (by constructor) ?hz ?_); (case hz => (rw [KBw.ints_length]; l_fact)); intro h2 t2' k2 F2 N2 _; (try simp only [hpick]))
  trivial

theorem byteArr_app (l m : List Int) : byteArr l ++ byteArr m = byteArr (l ++ m) := by simp [byteArr]
theorem pk_none (a : Array UInt8) : KBy.picked a none none = a := by
  rw [picked_ext]; apply Array.ext'; simp
theorem picked_from (a z : Array UInt8) : KBy.picked (a ++ z) (some a.size) none = z := by
  rw [picked_ext]
  show (a ++ z).extract (clipAt _ (a.size : Int)) _ = z
  rw [clip_nat _ (by omega) (by simp only [Array.size_append]; omega), Int.toNat_natCast]
  apply Array.ext'
  simp
theorem by4_at (x : Array UInt8) (l : List Int) (hl : l.length = 4) (h : ∀ i, 0 ≤ l.getD i 0 ∧ l.getD i 0 < 256) (pre : Array UInt8) : (by4 (pre ++ (byteArr l ++ x)) pre.size : Int) = ((l.getD 0 0 * 256 + l.getD 1 0) * 256 + l.getD 2 0) * 256 + l.getD 3 0 := by
  have hz : (byteArr l).size = 4 := by rw [byteArr_size, hl]
  have e : by4 (pre ++ (byteArr l ++ x)) pre.size = ((bat (byteArr l) 0 * 256 + bat (byteArr l) 1) * 256 + bat (byteArr l) 2) * 256 + bat (byteArr l) 3 := by
    show ((bat _ (pre.size + 0) * 256 + bat _ (pre.size + 1)) * 256 + bat _ (pre.size + 2)) * 256 + bat _ (pre.size + 3) = _
    rw [bat_right, bat_right, bat_right, bat_right, bat_left _ _ (by omega), bat_left _ _ (by omega), bat_left _ _ (by omega), bat_left _ _ (by omega)]
  have f0 := bat_byteArr l 0 (h 0)
  have f1 := bat_byteArr l 1 (h 1)
  have f2 := bat_byteArr l 2 (h 2)
  have f3 := bat_byteArr l 3 (h 3)
  rw [e]; omega
theorem be4_own : be4 (32962 * 256 + 9) = byteArr [0, 128, 194, 9] := by unfold be4; congr 1
theorem be4_3 : be4 3 = byteArr [0, 0, 0, 3] := by unfold be4; congr 1
theorem addr_eq (o nm : Array UInt8) : addrB 1 2 3 o nm = AL o nm ((o.size : Int) + 1) nm.size := by
  unfold addrB AL
  have : byteArr [2] ++ be4 3 ++ byteArr [(nm.size : Int)] = byteArr [2, 0, 0, 0, 3, (nm.size : Int)] := by rw [be4_3, byteArr_app, byteArr_app]; rfl
  rw [← this]
  simp only [Array.append_assoc]
/-- what reads an address -/
theorem ra_AL (o nm : Array UInt8) (h1 : 1 ≤ o.size ∧ o.size ≤ 31) (h2 : nm.size ≤ 128) : raR (AL o nm ((o.size : Int) + 1) nm.size) = some (Str.ofString "address", [dI 1, dY o, dI 2, dI 3, dY nm]) := by
  have hsz : (AL o nm ((o.size : Int) + 1) nm.size).size = o.size + nm.size + 8 := by rw [← addr_eq, addrB_size]
  have e0 : (bat (AL o nm ((o.size : Int) + 1) nm.size) 0 : Int) = (o.size : Int) + 1 := by
    unfold AL
    rw [Array.append_assoc, Array.append_assoc, bat_left _ _ (by rw [byteArr_size]; exact Nat.le_of_ble_eq_true rfl)]
    exact bat_byteArr [(o.size : Int) + 1, 1] 0 (by show 0 ≤ (o.size : Int) + 1 ∧ (o.size : Int) + 1 < 256; omega)
  have e1 : (bat (AL o nm ((o.size : Int) + 1) nm.size) 1 : Int) = 1 := by
    unfold AL
    rw [Array.append_assoc, Array.append_assoc, bat_left _ _ (by rw [byteArr_size]; exact Nat.le_of_ble_eq_true rfl)]
    exact bat_byteArr [(o.size : Int) + 1, 1] 1 ⟨by show (0:Int) ≤ 1; decide, by show (1:Int) < 256; decide⟩
  have ps : (byteArr [(o.size : Int) + 1, 1] ++ o).size = o.size + 2 := by rw [Array.size_append, byteArr_size]; simp; omega
  have eA : AL o nm ((o.size : Int) + 1) nm.size = (byteArr [(o.size : Int) + 1, 1] ++ o) ++ (byteArr [2, 0, 0, 0, 3, (nm.size : Int)] ++ nm) := by unfold AL; simp only [Array.append_assoc]
  have at_ : ∀ i : Nat, i < 6 → bat (AL o nm ((o.size : Int) + 1) nm.size) (o.size + 2 + i) = bat (byteArr [2, 0, 0, 0, 3, (nm.size : Int)]) i := fun i hi => by
    rw [eA, ← ps, bat_right, bat_left _ _ (by rw [byteArr_size]; exact hi)]
  have e2 : (bat (AL o nm ((o.size : Int) + 1) nm.size) (((o.size : Int) + 1 + 1).toNat) : Int) = 2 := by
    rw [show ((o.size : Int) + 1 + 1).toNat = o.size + 2 + 0 by omega, at_ 0 (by decide)]
    exact bat_byteArr [2, 0, 0, 0, 3, (nm.size : Int)] 0 ⟨by show (0:Int) ≤ 2; decide, by show (2:Int) < 256; decide⟩
  have e7 : (bat (AL o nm ((o.size : Int) + 1) nm.size) (((o.size : Int) + 1 + 6).toNat) : Int) = nm.size := by
    rw [show ((o.size : Int) + 1 + 6).toNat = o.size + 2 + 5 by omega, at_ 5 (by decide)]
    exact bat_byteArr [2, 0, 0, 0, 3, (nm.size : Int)] 5 (by show 0 ≤ (nm.size : Int) ∧ (nm.size : Int) < 256; omega)
  have e4 : (by4 (AL o nm ((o.size : Int) + 1) nm.size) (((o.size : Int) + 1 + 2).toNat) : Int) = 3 := by
    have hp : ((byteArr [(o.size : Int) + 1, 1] ++ o) ++ byteArr [2]).size = o.size + 3 := by rw [Array.size_append, ps, byteArr_size]; simp
    have eB : AL o nm ((o.size : Int) + 1) nm.size = ((byteArr [(o.size : Int) + 1, 1] ++ o) ++ byteArr [2]) ++ (byteArr [0, 0, 0, 3] ++ (byteArr [(nm.size : Int)] ++ nm)) := by
      rw [eA]
      have : byteArr [2, 0, 0, 0, 3, (nm.size : Int)] = byteArr [2] ++ byteArr [0, 0, 0, 3] ++ byteArr [(nm.size : Int)] := by rw [byteArr_app, byteArr_app]; rfl
      rw [this]; simp only [Array.append_assoc]
    rw [show ((o.size : Int) + 1 + 2).toNat = ((byteArr [(o.size : Int) + 1, 1] ++ o) ++ byteArr [2]).size by rw [hp]; omega, eB]
    exact by4_at _ [0, 0, 0, 3] rfl (fun i => by
      match i with
      | 0 => decide
      | 1 => decide
      | 2 => decide
      | 3 => decide
      | n + 4 => exact ⟨Int.le_refl 0, by show (0:Int) < 256; decide⟩) _
  have p1 : KBy.picked (AL o nm ((o.size : Int) + 1) nm.size) (some ((o.size : Int) + 1 + 7)) none = nm := by
    have hp : (byteArr [(o.size : Int) + 1, 1] ++ o ++ byteArr [2, 0, 0, 0, 3, (nm.size : Int)]).size = o.size + 8 := by rw [Array.size_append, ps, byteArr_size]; simp
    have := picked_from (byteArr [(o.size : Int) + 1, 1] ++ o ++ byteArr [2, 0, 0, 0, 3, (nm.size : Int)]) nm
    rw [hp] at this
    rw [show (o.size : Int) + 1 + 7 = ((o.size + 8 : Nat) : Int) by omega]
    exact this
  have p2 : KBy.picked (AL o nm ((o.size : Int) + 1) nm.size) (some 2) (some ((o.size : Int) + 1 + 1)) = o := by
    have := picked_mid (byteArr [(o.size : Int) + 1, 1]) o (byteArr [2, 0, 0, 0, 3, (nm.size : Int)] ++ nm)
    rw [← Array.append_assoc, ← eA, byteArr_size] at this
    rw [show (o.size : Int) + 1 + 1 = ((([(o.size : Int) + 1, 1].length : Nat) : Int) + o.size) by simp; omega]
    exact this
  unfold raR
  rw [if_neg (by omega), e0, if_neg (by omega), e7, p1, if_neg (by simp), e1, e2, e4, p2]
theorem rd_own (b : Array UInt8) : rdR 127 (byteArr [0, 128, 194, 9] ++ b) = some (Str.ofString "own", [dI 32962, dI 9, dY b]) := by
  have e4 : (by4 (byteArr [0, 128, 194, 9] ++ b) 0 : Int) = 32962 * 256 + 9 := by
    have := by4_at b [0, 128, 194, 9] rfl (fun i => by
      match i with
      | 0 => decide
      | 1 => decide
      | 2 => decide
      | 3 => decide
      | n + 4 => exact ⟨Int.le_refl 0, by show (0:Int) < 256; decide⟩) #[]
    rw [Array.empty_append] at this
    exact this
  have e3 : (bat (byteArr [0, 128, 194, 9] ++ b) 3 : Int) = 9 := by
    rw [bat_left _ _ (by rw [byteArr_size]; decide)]
    exact bat_byteArr [0, 128, 194, 9] 3 (by decide)
  have p : KBy.picked (byteArr [0, 128, 194, 9] ++ b) (some 4) none = b := picked_from (byteArr [0, 128, 194, 9]) b
  have hz : ¬ ((byteArr [0, 128, 194, 9] ++ b).size : Int) < 4 := by rw [Array.size_append, byteArr_size]; simp; omega
  unfold rdR
  rw [if_neg (by decide), if_neg (by decide), if_neg (by decide), if_neg (by decide), if_neg (by decide), if_neg (by decide), if_pos rfl, if_neg hz, e4, e3, p]
  rfl
theorem rd_other (b : Array UInt8) : rdR 20 b = some (Str.ofString "other", [dI 20, dY b]) := by
  unfold rdR
  rw [if_neg (by decide), if_neg (by decide), if_neg (by decide), if_neg (by decide), if_neg (by decide), if_neg (by decide), if_neg (by decide)]
theorem rd_sys (b : Array UInt8) (h : b.size ≤ 255) : rdR 6 b = some (Str.ofString "system text", [dY b]) := by
  unfold rdR txR
  rw [if_neg (by decide), if_neg (by decide), if_neg (by decide), if_pos rfl, if_neg (by omega)]
theorem rd_addr (o nm : Array UInt8) (h1 : 1 ≤ o.size ∧ o.size ≤ 31) (h2 : nm.size ≤ 128) : rdR 8 (AL o nm ((o.size : Int) + 1) nm.size) = some (Str.ofString "address", [dI 1, dY o, dI 2, dI 3, dY nm]) := by
  unfold rdR
  rw [if_neg (by decide), if_neg (by decide), if_neg (by decide), if_neg (by decide), if_neg (by decide), if_pos rfl, ra_AL o nm h1 h2]

set_option linter.unusedSimpArgs false
set_option linter.unusedVariables false
theorem rows2_T15 : True := by
  k_with_none
  k_with "w enter" => (refine' ct_enter ?cI ?cr ?co ?cc ?cb ?cl ?cn ?c1 ?c2 ?c3 ?c4 ?_; (case cI => assumption); (case cr => decide); (case co => k_is); (case cc => k_is); (case cb => (intro s vs hv; first | (obtain rfl := len0 hv; exact BindsTo.of_eq rfl) | (obtain ⟨a, rfl⟩ := len1 hv; exact BindsTo.of_eq rfl) | (obtain ⟨a, b, rfl⟩ := len2 hv; exact BindsTo.of_eq rfl) | (obtain ⟨a, b, c, rfl⟩ := len3 hv; exact BindsTo.of_eq rfl) | (obtain ⟨a, b, c, d, rfl⟩ := len4 hv; exact BindsTo.of_eq rfl))); (case cl => first | exact (fun _ h => absurd h List.not_mem_nil) | (simp only [List.map, List.mem_cons, List.not_mem_nil, or_false, forall_eq_or_imp, forall_eq]; decide)); (case cn => rfl); (case c1 => rfl); (case c2 => rfl); (case c3 => rfl); (case c4 => decide); intro C G _ _ e3; (dsimp only [List.map, List.zip, List.zipWith, List.reverse, List.reverseAux]); (try k_fold))
  k_with "v1" => (first
    | ((with_reducible show Ev _ _ _ _ _ _); (first | k_extra "ve c" | k_extra "ve"))
    | ((with_reducible show Op2 _ _ _ _ _ _ _ _); k_extra "v2")
    | ((with_reducible show EvL _ _ _ _ _ _); k_extra "vl")
    | ((with_reducible show OpL _ _ _ _ _ _ _); (first | k_extra "vo c" | k_extra "vo"))
    | ((with_reducible show Tst _ _ _ _ _ _); k_extra "vt")
    | ((with_reducible show Cm2 _ _ _ _ _ _ _ _); k_extra "vm")
    | ((with_reducible show EvP _ _ _ _ _ _); k_extra "vp")
    | k_extra "vs")
  k_with "ve c" => fail
  k_with "vo c" => fail
  k_with "ve" => (first
    | ((with_reducible apply v_name G); rfl; rfl; rfl)
    | with_reducible exact v_int
    | with_reducible apply v_bin
    | with_reducible apply v_slice G
    | with_reducible apply v_sub
    | ((with_reducible apply v_globI G); k_is; rfl; rfl)
    | ((with_reducible apply e_call G); k_is; rfl; rfl; k_is; rfl; rfl; rfl)
    | ((with_reducible apply v_bcall (f := Str.ofString "len") (id := "len") G); k_is; boot_fast; decide; rfl; rfl; rfl; rfl; rfl)
    | ((with_reducible apply v_tcall (f := Str.ofString "bytes") (id := "bytes") G); k_is; boot_fast; decide; rfl; rfl; rfl; rfl; rfl)
    | ((with_reducible apply v_tcall (f := Str.ofString "tuple") (id := "tuple") G); k_is; boot_fast; decide; rfl; rfl; rfl; rfl; rfl)
    | ((with_reducible apply v_tcall (f := Str.ofString "int") (id := "int") G); k_is; boot_fast; decide; rfl; rfl; rfl; rfl; rfl)
    | with_reducible apply v_tuple G
    | with_reducible apply v_list G
    | with_reducible exact v_str
    | with_reducible apply v_bytes
    | ((with_reducible apply v_globV G); k_is; rfl; rfl)
    | ((with_reducible apply v_if1); (focus (k_extra "v go"; done)); (first | omega | decide))
    | ((with_reducible apply v_if2); (focus (k_extra "v go"; done)); (first | omega | decide)))
  k_with "v2" => (first
    | with_reducible exact o_addI
    | with_reducible apply o_addY
    | with_reducible exact o_subI
    | with_reducible apply o_mulI
    | with_reducible apply o_modI
    | with_reducible apply o_divI
    | with_reducible apply o_itemY
    | with_reducible apply o_itemT
    | ((with_reducible apply o_itemTT G); (intro _ _; rfl); (intro _ _; rfl); (repeat' first | exact List.mem_cons_self | refine List.mem_cons_of_mem _ ?_)))
  k_with "vl" => (first | with_reducible exact vl_nil | ((with_reducible apply vl_cons); rfl))
  k_with "vo" => (first
    | with_reducible exact o_len
    | with_reducible apply o_bytes1 G
    | with_reducible apply o_bytes2 G
    | with_reducible apply o_bytesN)
  k_with "vt" => (first
    | with_reducible apply tp_chain
    | with_reducible apply tp_cmp
    | with_reducible apply tp_not
    | with_reducible apply tp_or)
  k_with "vm" => (first
    | with_reducible exact cp_lt
    | with_reducible exact cp_le
    | with_reducible exact cp_gt
    | with_reducible exact cp_eq
    | with_reducible exact cp_ne
    | with_reducible exact cp_eqs
    | with_reducible exact cp_in3
    | with_reducible exact cp_first G
    | with_reducible exact cp_tt G)
  k_with "vp" => (first | with_reducible exact p_none | with_reducible apply p_some)
  k_with "vs" => (first
    | ((with_reducible intro _ _ _); rfl)
    | ((with_reducible intro _ _); rfl)
    | rfl
    | exact Nat.le_of_ble_eq_true rfl
    | omega
    | decide
    | (simp only [Array.size_append, be2_size, be4_size, byteArr_size, List.length_cons, List.length_nil]; omega))
  k_with "v go" => repeat' (k_extra "v1")
  k_with "x1" => (first
    | with_reducible apply ex_cons
    | with_reducible apply ex_nil
    | ((with_reducible apply xr); (focus (k_extra "v go"; done)))
    | ((with_reducible apply xa G); (focus (k_extra "v go"; done)); rfl; rfl)
    | ((with_reducible apply xi); (focus (k_extra "v go"; done)); (all_goals try (intro hc; try (exfalso; first | omega | exact absurd hc (by decide) | exact hc (by decide)))))
    | with_reducible apply ex_break
    | ((with_reducible apply ex_none (e := Expr.Call (Expr.Name _ _) _ _ _)); rfl; rfl)
    | ((with_reducible refine' ex_raise G ?zzW ?zzdl ?zzn ?zzk ?zzd ?zzi ?_); (case zzn => k_is); (case zzk => rfl); (case zzd => rfl); (case zzi => k_is); (case zzdl => decide); (case zzW => first | exact exc44 w | exact exc56 w))
    | ((with_reducible refine' ex_assignT G ?zzq ?zzx ?zzn ?zze ?zzf ?zzs ?zzw ?_); (case zzq => rfl); (case zzn => rfl); (case zze => rfl); (case zzf => rfl); (case zzs => rfl); (case zzw => rfl); (case zzx => decide))
    | ((with_reducible apply ex_assignS (names := [_, _]) G); (case hw => rfl); (case hs => rfl); (case hx => decide))
    | with_reducible refine ex_ret ?_
    | ((with_reducible refine' ex_assign G ?zza ?zzb ?_); (case zza => rfl); (case zzb => rfl))
    | ((with_reducible apply ev_of); (focus (k_extra "v go"; done)))
    | ((with_reducible apply e_call G); k_is; rfl; rfl; k_is; rfl; rfl; rfl; (focus (k_extra "v go"; done)))
    | ((with_reducible refine' ev_call G ?zzn ?zzk ?zzd ?zzi ?zzc ?zzs ?zzx ?_); (case zzn => k_is); (case zzk => rfl); (case zzd => rfl); (case zzi => k_is); (case zzc => rfl); (case zzs => rfl); (case zzx => rfl))
    | with_reducible refine ev_binop ?_
    | ((with_reducible refine' evl_cons ?zzs ?_); (case zzs => rfl))
    | with_reducible refine evl_nil ?_
    | ((with_reducible refine' op_add_bytes ?zza ?_); (case zza => first | omega | (simp only [Array.size_append, be2_size, be4_size, byteArr_size, List.length_cons, List.length_nil]; omega)))
    | ((with_reducible refine' ex_dT ?zza ?_); (case zza => rfl); (try dsimp only [insD, namesOf, nameOf, List.foldr, List.append, List.cons_append, List.nil_append, List.map, List.zip, List.zipWith, List.reverse, List.reverseAux]))
    | (refine ve_exc ?_; first | trivial | omega | (simp only [Array.size_append, byteArr_size, be2_size, be4_size, List.length_cons, List.length_nil] at h; omega))
    | (refine ve_val ?_ ?_; (first | trivial | omega | (simp only [Array.size_append, byteArr_size, be2_size, be4_size, List.length_cons, List.length_nil] at h; omega)); (first | rfl | skip))
    | (exfalso; simp only [Array.size_append, byteArr_size, be2_size, be4_size, List.length_cons, List.length_nil] at h; omega))
  k_with "x go" => repeat' (k_extra "x1")
  trivial

set_option linter.unusedSectionVars false
/-- a great row: how it packs and reads -/
structure Great (w : World) (row : Row) (k : Int) (body : Array UInt8) (ok : Bool) : Prop where
  kb : (1 ≤ k ∧ k < 128) ∧ body.size ≤ 512
  pk : ∀ hs I, HI hs I → CT w hs I 552 400 128 [rowD row] (· = pkO (if ok then some (rowB k body) else none))
  rd : ok = true → body.size ≤ 511 ∧ rdR k body = some row
  nf : FW.any (fun y => y == row.1) = false
  sm : Sm row.2
theorem pk_of {w : World} {row : Row} {b b' : Array UInt8} {c1 c2 : Prop} {ok : Bool} (h : ∀ hs I, HI hs I → CT w hs I 552 400 128 [rowD row] (VE c1 (dY b') c2 56)) (hb : c1 → b' = b) (h1 : c1 → ok = true) (h2 : c2 → ok = false) :
    ∀ hs I, HI hs I → CT w hs I 552 400 128 [rowD row] (· = pkO (if ok then some b else none)) := fun hs I hI => (h hs I hI).mono fun o q => by
  rcases q with ⟨x, rfl⟩ | ⟨x, rfl⟩
  · rw [h1 x, hb x]; rfl
  · rw [h2 x]; rfl
section
variable (w : World)
theorem gr_own {b : Array UInt8} {ov : Int} (h : (b.size : Int) = 507 + ov) (ho : ov = -3 ∨ ov = 0 ∨ ov = 1) : Great w (Str.ofString "own", [dI 32962, dI 9, dY b]) 127 (byteArr [0, 128, 194, 9] ++ b) (decide (ov < 1)) := by
  refine ⟨⟨by decide, by rw [Array.size_append, byteArr_size]; show 4 + _ ≤ _; omega⟩, pk_of (fun hs I hI => t_pk127 w hI (by decide) (by decide) (by omega)) (fun _ => by rw [be4_own]) (fun h => decide_eq_true (by omega)) (fun h => decide_eq_false (by omega)), fun e => ?_, (by decide +kernel : (FW.any fun y => y == Str.ofString "own") = false), sm_cons (fun _ => same_I) (sm_cons (fun _ => same_I) (sm_cons (fun _ => same_Y) sm_nil))⟩
  have := of_decide_eq_true e
  exact ⟨by rw [Array.size_append, byteArr_size]; show 4 + _ ≤ _; omega, rd_own b⟩
theorem gr_other {b : Array UInt8} {ov : Int} (h : (b.size : Int) = 511 + ov) (ho : ov = -3 ∨ ov = 0 ∨ ov = 1) : Great w (Str.ofString "other", [dI 20, dY b]) 20 b (decide (ov < 1)) := by
  refine ⟨⟨by decide, by omega⟩, pk_of (fun hs I hI => t_pk0 w hI (by decide)) (fun _ => rfl) (fun h => decide_eq_true (by omega)) (fun h => decide_eq_false (by omega)), fun e => ?_, (by decide +kernel : (FW.any fun y => y == Str.ofString "other") = false), sm_cons (fun _ => same_I) (sm_cons (fun _ => same_Y) sm_nil)⟩
  have := of_decide_eq_true e
  exact ⟨by omega, rd_other b⟩
theorem gr_sys {b : Array UInt8} {ov : Int} (h : (b.size : Int) = 255 + ov) (ho : ov = -3 ∨ ov = 0 ∨ ov = 1) : Great w (Str.ofString "system text", [dY b]) 6 b (decide (ov < 1)) := by
  refine ⟨⟨by decide, by omega⟩, pk_of (fun hs I hI => t_pk6 w hI) (fun _ => rfl) (fun h => decide_eq_true (by omega)) (fun h => decide_eq_false (by omega)), fun e => ?_, (by decide +kernel : (FW.any fun y => y == Str.ofString "system text") = false), sm_cons (fun _ => same_Y) sm_nil⟩
  have := of_decide_eq_true e
  exact ⟨by omega, rd_sys b (by omega)⟩
theorem gr_addr {o nm : Array UInt8} {ov : Int} (h : 1 ≤ o.size ∧ o.size ≤ 32 ∧ nm.size ≤ 129) (ho : ov < 1 ↔ o.size ≤ 31 ∧ nm.size ≤ 128) : Great w (Str.ofString "address", [dI 1, dY o, dI 2, dI 3, dY nm]) 8 (AL o nm ((o.size : Int) + 1) nm.size) (decide (ov < 1)) := by
  have hz : (AL o nm ((o.size : Int) + 1) nm.size).size = o.size + nm.size + 8 := by rw [← addr_eq, addrB_size]
  refine ⟨⟨by decide, by omega⟩, pk_of (fun hs I hI => t_pk8 w hI (by decide) (by decide) (by decide)) (fun _ => by rw [addr_eq]) (fun h => decide_eq_true (by omega)) (fun h => decide_eq_false (by omega)), fun e => ?_, (by decide +kernel : (FW.any fun y => y == Str.ofString "address") = false), sm_cons (fun _ => same_I) (sm_cons (fun _ => same_Y) (sm_cons (fun _ => same_I) (sm_cons (fun _ => same_I) (sm_cons (fun _ => same_Y) sm_nil))))⟩
  have := of_decide_eq_true e
  exact ⟨by omega, rd_addr o nm (by omega) (by omega)⟩
end
section
variable {w : World} {sc : Scope} {dl ul : Nat} {C : Cx} {ρ : List (Str × D)}
theorem op_one (G : Good w sc dl ul C) {a : Addr} (S : Src C.hid C.I a) {P : Out D → Prop} (h1 : dl ≤ 518) (h2 : ul ≤ 240) (hp : ∀ r, (r = -3 ∨ r = 0 ∨ r = 1) → P (.val (dI r))) : OpL w sc C ρ (callF (.ref 187)) [dV (.ref a), dL [dI (-3), dI 0, dI 0, dI 1]] P :=
  op_callS G (t_one w G.hi S) h1 h2 (fun _ ⟨_, e, _⟩ => nomatch e) fun _ ⟨r, e, q⟩ => by cases e; exact hp r q
theorem op_take5 (G : Good w sc dl ul C) {a : Addr} (S : Src C.hid C.I a) {P : Out D → Prop} (h1 : dl ≤ 520) (h2 : ul ≤ 250) (p0 : P (.val (dI 0))) (p1 : P (.val (dI 1))) (p2 : P (.val (dI 2))) (p3 : P (.val (dI 3))) (p4 : P (.val (dI 4))) : OpL w sc C ρ (callF (.ref 180)) [dV (.ref a), dI 5] P :=
  op_take G S (by decide) h1 h2 fun r x y => by
    have : r = 0 ∨ r = 1 ∨ r = 2 ∨ r = 3 ∨ r = 4 := by omega
    rcases this with rfl | rfl | rfl | rfl | rfl <;> assumption
end
section
variable (w : World) {hs : List Addr} {I : Heap → Prop} (hI : HI hs I)
include hI
set_option maxHeartbeats 4000000 in
theorem t_great {a : Addr} (S : Src hs I a) : CT w hs I 514 220 229 [dV (.ref a)] (fun o => ∃ row k body ok, o = .val (dT [rowD row, dY (rowB k body), dB ok]) ∧ Great w row k body ok) := by
  k_with "vo c" => with_reducible apply o_call G (fun _ q => t_laid w q ?_ ?_)
  k_with "vo c" => with_reducible apply o_call G (fun _ q => t_laddr w q ?_ ?_ ?_ ?_)
  k_with "vo" => (refine op_bytes_ints (ns := [0, 128, 194, 9]) G rfl ?_ (Nat.le_of_ble_eq_true rfl) rfl; intro x hx; simp only [List.mem_cons, List.not_mem_nil, or_false] at hx; omega)
  k_with "ve c" => with_reducible apply v_neg
  k_with "ve c" => with_reducible apply v_cmp
  k_with "vm" => with_reducible exact cv_lt
  k_with "x1" => ((with_reducible refine op_filled G S ?_ ?_ ?_ (fun b hb => ?_)); omega; decide; decide)
  k_with "x1" => with_reducible refine ev_tuple ?_
  k_with "x1" => ((with_reducible refine op_tuple G ?_ ?_); exact Nat.le_of_ble_eq_true rfl)
  k_with "x1" => ((with_reducible refine op_take5 G S ?_ ?_ ?_ ?_ ?_ ?_ ?_); decide; decide)
  k_with "x1" => ((with_reducible refine op_one G S ?_ ?_ (fun ov ho => ?_)); decide; decide)
  k_with "vs" => (simp only [AL, Array.size_append, rowB_size, byteArr_size, List.length_cons, List.length_nil]; omega)
  k_extra "w enter"
  rename_i eh eI
  subst eh eI
  k_extra "x go"
  · exact ⟨_, _, _, _, rfl, gr_own w (by assumption) ho⟩
  · exact ⟨_, _, _, _, rfl, gr_other w (by assumption) ho⟩
  · exact ⟨_, _, _, _, rfl, gr_sys w (by assumption) ho⟩
  · rename_i b1 q1 b2 q2
    exact ⟨_, _, _, _, rfl, gr_addr w (by omega) (by omega)⟩
  · rename_i b1 q1 b2 q2
    exact ⟨_, _, _, _, rfl, gr_addr w (by omega) (by omega)⟩
end

set_option linter.unusedSimpArgs false
set_option linter.unusedVariables false
theorem rows2_T16 : True := by
  k_with_none
  k_with "w enter" => (refine' ct_enter ?cI ?cr ?co ?cc ?cb ?cl ?cn ?c1 ?c2 ?c3 ?c4 ?_; (case cI => assumption); (case cr => decide); (case co => k_is); (case cc => k_is); (case cb => (intro s vs hv; first | (obtain rfl := len0 hv; exact BindsTo.of_eq rfl) | (obtain ⟨a, rfl⟩ := len1 hv; exact BindsTo.of_eq rfl) | (obtain ⟨a, b, rfl⟩ := len2 hv; exact BindsTo.of_eq rfl) | (obtain ⟨a, b, c, rfl⟩ := len3 hv; exact BindsTo.of_eq rfl) | (obtain ⟨a, b, c, d, rfl⟩ := len4 hv; exact BindsTo.of_eq rfl))); (case cl => first | exact (fun _ h => absurd h List.not_mem_nil) | (simp only [List.map, List.mem_cons, List.not_mem_nil, or_false, forall_eq_or_imp, forall_eq]; decide)); (case cn => rfl); (case c1 => rfl); (case c2 => rfl); (case c3 => rfl); (case c4 => decide); intro C G _ _ e3; (dsimp only [List.map, List.zip, List.zipWith, List.reverse, List.reverseAux]); (try k_fold))
  k_with "v1" => (first
    | ((with_reducible show Ev _ _ _ _ _ _); (first | k_extra "ve c" | k_extra "ve"))
    | ((with_reducible show Op2 _ _ _ _ _ _ _ _); k_extra "v2")
    | ((with_reducible show EvL _ _ _ _ _ _); k_extra "vl")
    | ((with_reducible show OpL _ _ _ _ _ _ _); (first | k_extra "vo c" | k_extra "vo"))
    | ((with_reducible show Tst _ _ _ _ _ _); k_extra "vt")
    | ((with_reducible show Cm2 _ _ _ _ _ _ _ _); k_extra "vm")
    | ((with_reducible show EvP _ _ _ _ _ _); k_extra "vp")
    | k_extra "vs")
  k_with "ve c" => fail
  k_with "vo c" => fail
  k_with "ve" => (first
    | ((with_reducible apply v_name G); rfl; rfl; rfl)
    | with_reducible exact v_int
    | with_reducible apply v_bin
    | with_reducible apply v_slice G
    | with_reducible apply v_sub
    | ((with_reducible apply v_globI G); k_is; rfl; rfl)
    | ((with_reducible apply e_call G); k_is; rfl; rfl; k_is; rfl; rfl; rfl)
    | ((with_reducible apply v_bcall (f := Str.ofString "len") (id := "len") G); k_is; boot_fast; decide; rfl; rfl; rfl; rfl; rfl)
    | ((with_reducible apply v_tcall (f := Str.ofString "bytes") (id := "bytes") G); k_is; boot_fast; decide; rfl; rfl; rfl; rfl; rfl)
    | ((with_reducible apply v_tcall (f := Str.ofString "tuple") (id := "tuple") G); k_is; boot_fast; decide; rfl; rfl; rfl; rfl; rfl)
    | ((with_reducible apply v_tcall (f := Str.ofString "int") (id := "int") G); k_is; boot_fast; decide; rfl; rfl; rfl; rfl; rfl)
    | with_reducible apply v_tuple G
    | with_reducible apply v_list G
    | with_reducible exact v_str
    | with_reducible apply v_bytes
    | ((with_reducible apply v_globV G); k_is; rfl; rfl)
    | ((with_reducible apply v_if1); (focus (k_extra "v go"; done)); (first | omega | decide))
    | ((with_reducible apply v_if2); (focus (k_extra "v go"; done)); (first | omega | decide)))
  k_with "v2" => (first
    | with_reducible exact o_addI
    | with_reducible apply o_addY
    | with_reducible exact o_subI
    | with_reducible apply o_mulI
    | with_reducible apply o_modI
    | with_reducible apply o_divI
    | with_reducible apply o_itemY
    | with_reducible apply o_itemT
    | ((with_reducible apply o_itemTT G); (intro _ _; rfl); (intro _ _; rfl); (repeat' first | exact List.mem_cons_self | refine List.mem_cons_of_mem _ ?_)))
  k_with "vl" => (first | with_reducible exact vl_nil | ((with_reducible apply vl_cons); rfl))
  k_with "vo" => (first
    | with_reducible exact o_len
    | with_reducible apply o_bytes1 G
    | with_reducible apply o_bytes2 G
    | with_reducible apply o_bytesN)
  k_with "vt" => (first
    | with_reducible apply tp_chain
    | with_reducible apply tp_cmp
    | with_reducible apply tp_not
    | with_reducible apply tp_or)
  k_with "vm" => (first
    | with_reducible exact cp_lt
    | with_reducible exact cp_le
    | with_reducible exact cp_gt
    | with_reducible exact cp_eq
    | with_reducible exact cp_ne
    | with_reducible exact cp_eqs
    | with_reducible exact cp_in3
    | with_reducible exact cp_first G
    | with_reducible exact cp_tt G)
  k_with "vp" => (first | with_reducible exact p_none | with_reducible apply p_some)
  k_with "vs" => (first
    | ((with_reducible intro _ _ _); rfl)
    | ((with_reducible intro _ _); rfl)
    | rfl
    | exact Nat.le_of_ble_eq_true rfl
    | omega
    | decide
    | (simp only [Array.size_append, be2_size, be4_size, byteArr_size, List.length_cons, List.length_nil]; omega))
  k_with "v go" => repeat' (k_extra "v1")
  k_with "x1" => (first
    | with_reducible apply ex_cons
    | with_reducible apply ex_nil
    | ((with_reducible apply xr); (focus (k_extra "v go"; done)))
    | ((with_reducible apply xa G); (focus (k_extra "v go"; done)); rfl; rfl)
    | ((with_reducible apply xi); (focus (k_extra "v go"; done)); (all_goals try (intro hc; try (exfalso; first | omega | exact absurd hc (by decide) | exact hc (by decide)))))
    | with_reducible apply ex_break
    | ((with_reducible apply ex_none (e := Expr.Call (Expr.Name _ _) _ _ _)); rfl; rfl)
    | ((with_reducible refine' ex_raise G ?zzW ?zzdl ?zzn ?zzk ?zzd ?zzi ?_); (case zzn => k_is); (case zzk => rfl); (case zzd => rfl); (case zzi => k_is); (case zzdl => decide); (case zzW => first | exact exc44 w | exact exc56 w))
    | ((with_reducible refine' ex_assignT G ?zzq ?zzx ?zzn ?zze ?zzf ?zzs ?zzw ?_); (case zzq => rfl); (case zzn => rfl); (case zze => rfl); (case zzf => rfl); (case zzs => rfl); (case zzw => rfl); (case zzx => decide))
    | ((with_reducible apply ex_assignS (names := [_, _]) G); (case hw => rfl); (case hs => rfl); (case hx => decide))
    | with_reducible refine ex_ret ?_
    | ((with_reducible refine' ex_assign G ?zza ?zzb ?_); (case zza => rfl); (case zzb => rfl))
    | ((with_reducible apply ev_of); (focus (k_extra "v go"; done)))
    | ((with_reducible apply e_call G); k_is; rfl; rfl; k_is; rfl; rfl; rfl; (focus (k_extra "v go"; done)))
    | ((with_reducible refine' ev_call G ?zzn ?zzk ?zzd ?zzi ?zzc ?zzs ?zzx ?_); (case zzn => k_is); (case zzk => rfl); (case zzd => rfl); (case zzi => k_is); (case zzc => rfl); (case zzs => rfl); (case zzx => rfl))
    | with_reducible refine ev_binop ?_
    | ((with_reducible refine' evl_cons ?zzs ?_); (case zzs => rfl))
    | with_reducible refine evl_nil ?_
    | ((with_reducible refine' op_add_bytes ?zza ?_); (case zza => first | omega | (simp only [Array.size_append, be2_size, be4_size, byteArr_size, List.length_cons, List.length_nil]; omega)))
    | ((with_reducible refine' ex_dT ?zza ?_); (case zza => rfl); (try dsimp only [insD, namesOf, nameOf, List.foldr, List.append, List.cons_append, List.nil_append, List.map, List.zip, List.zipWith, List.reverse, List.reverseAux]))
    | (refine ve_exc ?_; first | trivial | omega | (simp only [Array.size_append, byteArr_size, be2_size, be4_size, List.length_cons, List.length_nil] at h; omega))
    | (refine ve_val ?_ ?_; (first | trivial | omega | (simp only [Array.size_append, byteArr_size, be2_size, be4_size, List.length_cons, List.length_nil] at h; omega)); (first | rfl | skip))
    | (exfalso; simp only [Array.size_append, byteArr_size, be2_size, be4_size, List.length_cons, List.length_nil] at h; omega))
  k_with "x go" => repeat' (k_extra "x1")
  trivial

set_option linter.unusedSectionVars false
def pL : List Lay := [(1, ([7, 97] : List UInt8).toArray), (2, ([5, 98] : List UInt8).toArray), (3, byteArr [0, 9])]
def sL : List Lay := [(1, ([7] : List UInt8).toArray), (2, Array.replicate 257 0), (3, ([9] : List UInt8).toArray)]
def layB (p : Lay) : Array UInt8 := rowB p.1 p.2
def pD : List D := pL.map fun p => dY (layB p)
def sD : List D := sL.map fun p => dY (layB p)
theorem pD_len : pD.length = 3 := rfl
/-- broken rows: octets that no reader takes -/
def Broken (b : Array UInt8) : Prop := ∃ ls : List Lay, b = catB (ls.map layB) ∧ (∀ p ∈ ls, (1 ≤ p.1 ∧ p.1 < 128) ∧ p.2.size ≤ 511) ∧ ls.length ≤ 100 ∧ unp ls [] = .exc 44
theorem brk_p {ds : List D} {F : List (Array UInt8) → Prop} (ls : List Lay) (e : ds = (ls.map layB).map dY) (h : 2 ≤ ls.length) (h1 : (ls.map layB).foldl (fun n b => n + b.size) 0 ≤ 1048576) (h2 : (catB (ls.map layB)).size ≤ 1048576) (hF : F (ls.map layB)) :
    ∃ bs : List (Array UInt8), dL ds = dL (bs.map dY) ∧ 2 ≤ bs.length ∧ bs.foldl (fun n b => n + b.size) 0 ≤ 1048576 ∧ (catB bs).size ≤ 1048576 ∧ F bs := ⟨_, e ▸ rfl, by rw [List.length_map]; exact h, h1, h2, hF⟩
abbrev lay0 : Lay := (0, #[])
theorem fb0 {r : Nat} (h : r < 3) : List.take (r : Int).toNat pD ++ [sD.getD r (dI 0)] ++ List.drop ((r : Int) + 1).toNat pD = ((pL.take r ++ [sL.getD r lay0] ++ pL.drop (r + 1)).map layB).map dY := by
  have : r = 0 ∨ r = 1 ∨ r = 2 := by omega
  rcases this with rfl | rfl | rfl <;> rfl
theorem fb1 {r : Nat} (h : r < 3) : List.take (r : Int).toNat pD ++ List.drop ((r : Int) + 1).toNat pD = ((pL.take r ++ pL.drop (r + 1)).map layB).map dY := by
  have : r = 0 ∨ r = 1 ∨ r = 2 := by omega
  rcases this with rfl | rfl | rfl <;> rfl
theorem fb2 {r : Nat} (h : r < 3) : pD ++ [pD.getD r (dI 0)] = ((pL ++ [pL.getD r lay0]).map layB).map dY := by
  have : r = 0 ∨ r = 1 ∨ r = 2 := by omega
  rcases this with rfl | rfl | rfl <;> rfl
def okLs (ls : List Lay) : Bool := ls.all (fun p => decide ((1 ≤ p.1 ∧ p.1 < 128) ∧ p.2.size ≤ 511)) && decide (ls.length ≤ 100) && decide (2 ≤ ls.length) && decide ((ls.map layB).foldl (fun n b => n + b.size) 0 ≤ 1048576) && decide ((catB (ls.map layB)).size ≤ 1048576)
theorem okLs_p {ls : List Lay} (h : okLs ls = true) (hu : unp ls [] = .exc 44) : Broken (catB (ls.map layB)) ∧ 2 ≤ ls.length ∧ (ls.map layB).foldl (fun n b => n + b.size) 0 ≤ 1048576 ∧ (catB (ls.map layB)).size ≤ 1048576 := by
  unfold okLs at h
  simp only [Bool.and_eq_true, List.all_eq_true, decide_eq_true_eq] at h
  exact ⟨⟨ls, rfl, h.1.1.1.1, h.1.1.1.2, hu⟩, h.1.1.2, h.1.2, h.2⟩
theorem fbk0 {r : Nat} (h : r < 3) : okLs (pL.take r ++ [sL.getD r lay0] ++ pL.drop (r + 1)) = true ∧ unp (pL.take r ++ [sL.getD r lay0] ++ pL.drop (r + 1)) [] = .exc 44 := by
  have : r = 0 ∨ r = 1 ∨ r = 2 := by omega
  rcases this with rfl | rfl | rfl <;> exact ⟨by decide +kernel, by kernel_rfl⟩
theorem fbk1 {r : Nat} (h : r < 3) : okLs (pL.take r ++ pL.drop (r + 1)) = true ∧ unp (pL.take r ++ pL.drop (r + 1)) [] = .exc 44 := by
  have : r = 0 ∨ r = 1 ∨ r = 2 := by omega
  rcases this with rfl | rfl | rfl <;> exact ⟨by decide +kernel, by kernel_rfl⟩
theorem fbk2 {r : Nat} (h : r < 3) : okLs (pL ++ [pL.getD r lay0]) = true ∧ unp (pL ++ [pL.getD r lay0]) [] = .exc 44 := by
  have : r = 0 ∨ r = 1 ∨ r = 2 := by omega
  rcases this with rfl | rfl | rfl <;> exact ⟨by decide +kernel, by kernel_rfl⟩
theorem fin0 {r : Nat} (h : r < 3) {F : List (Array UInt8) → Prop} (hF : ∀ bs, Broken (catB bs) → F bs) : ∃ bs : List (Array UInt8), dL (List.take (r : Int).toNat pD ++ [sD.getD r (dI 0)] ++ List.drop ((r : Int) + 1).toNat pD) = dL (bs.map dY) ∧ 2 ≤ bs.length ∧ bs.foldl (fun n b => n + b.size) 0 ≤ 1048576 ∧ (catB bs).size ≤ 1048576 ∧ F bs :=
  have q := okLs_p (fbk0 h).1 (fbk0 h).2
  brk_p _ (fb0 h) q.2.1 q.2.2.1 q.2.2.2 (hF _ q.1)
theorem fin1 {r : Nat} (h : r < 3) {F : List (Array UInt8) → Prop} (hF : ∀ bs, Broken (catB bs) → F bs) : ∃ bs : List (Array UInt8), dL (List.take (r : Int).toNat pD ++ List.drop ((r : Int) + 1).toNat pD) = dL (bs.map dY) ∧ 2 ≤ bs.length ∧ bs.foldl (fun n b => n + b.size) 0 ≤ 1048576 ∧ (catB bs).size ≤ 1048576 ∧ F bs :=
  have q := okLs_p (fbk1 h).1 (fbk1 h).2
  brk_p _ (fb1 h) q.2.1 q.2.2.1 q.2.2.2 (hF _ q.1)
theorem fin2 {r : Nat} (h : r < 3) {F : List (Array UInt8) → Prop} (hF : ∀ bs, Broken (catB bs) → F bs) : ∃ bs : List (Array UInt8), dL (pD ++ [pD.getD r (dI 0)]) = dL (bs.map dY) ∧ 2 ≤ bs.length ∧ bs.foldl (fun n b => n + b.size) 0 ≤ 1048576 ∧ (catB bs).size ≤ 1048576 ∧ F bs :=
  have q := okLs_p (fbk2 h).1 (fbk2 h).2
  brk_p _ (fb2 h) q.2.1 q.2.2.1 q.2.2.2 (hF _ q.1)
section
variable {w : World} {sc : Scope} {dl ul : Nat} {C : Cx} {ρ : List (Str × D)}
theorem ev_if {t b o : Expr} {pos : Pos} {P : Out D → Prop} {c : Prop} (h : TP w sc C ρ t c) (h1 : c → Ev w sc C ρ b P) (h2 : ¬ c → Ev w sc C ρ o P) : Ev w sc C ρ (.IfExp t b o pos) P := ev_ifexp (eg_mono h fun o q => by
  obtain ⟨x, rfl, i⟩ := q
  cases x
  · exact h2 fun z => absurd (i.mpr z) (by decide)
  · exact h1 (i.mp rfl))
end
section
variable {w : World} {sc : Scope} {dl ul : Nat} {C : Cx} {ρ : List (Str × D)}
theorem op_take3 (G : Good w sc dl ul C) {a : Addr} (S : Src C.hid C.I a) {P : Out D → Prop} (h1 : dl ≤ 520) (h2 : ul ≤ 250) (hp : ∀ r : Nat, r < 3 → P (.val (dI r))) : OpL w sc C ρ (callF (.ref 180)) [dV (.ref a), dI 3] P :=
  op_take G S (by decide) h1 h2 fun r x y => by
    obtain ⟨n, rfl⟩ := Int.eq_ofNat_of_zero_le x
    exact hp n (by omega)
theorem v_part (G : Good w sc dl ul C) {l r : Expr} {pos : Pos} {ds : List D} {i : Nat} (h1 : EvV w sc C ρ l (dL ds)) (h2 : EvV w sc C ρ r (dI i)) (hs : ∀ a u, subscripted r false (Value.ref a) (Value.int i u) = operate [Value.ref a, Value.int i u] (getItem (Value.ref a) (Value.int i u))) (ht : ∀ a z, letTemporaryGo l (Value.ref a) z = pure ())
    (hi : i < ds.length) (hz : ds.length ≤ 1000) : EvV w sc C ρ (.Subscript l r pos) (ds.getD i (dI 0)) :=
  v_sub h1 h2 (o_itemL (i := i) hs ht (by omega) (by rw [Int.toNat_natCast, List.getD_eq_getElem?_getD, List.getElem?_eq_getElem hi]; rfl))
end
section
variable (w : World) {hs : List Addr} {I : Heap → Prop} (hI : HI hs I)
include hI
theorem t_fbroken {a : Addr} (S : Src hs I a) : CT w hs I 514 220 250 [dV (.ref a)] (fun o => ∃ b, o = .val (dY b) ∧ Broken b) := by
  k_with "vo c" => with_reducible apply o_call G (fun _ q => t_laid w q ?_ ?_)
  k_with "x1" => with_reducible refine ev_tuple ?_
  k_with "x1" => ((with_reducible refine op_tuple G ?_ ?_); exact Nat.le_of_ble_eq_true rfl)
  k_with "x1" => ((with_reducible refine op_take3 G S ?_ ?_ (fun r hr => ?_)); decide; decide)
  k_with "ve c" => ((with_reducible apply v_part (ds := pD) G); k_extra "v1"; k_extra "v1"; (intro _ _; rfl); (intro _ _; rfl); exact (by assumption); exact Nat.le_of_ble_eq_true rfl)
  k_with "ve c" => ((with_reducible apply v_part (ds := sD) G); k_extra "v1"; k_extra "v1"; (intro _ _; rfl); (intro _ _; rfl); exact (by assumption); exact Nat.le_of_ble_eq_true rfl)
  k_with "v2" => with_reducible apply o_addL G
  k_with "ve c" => ((with_reducible apply v_sliceL (ds := pD) G); k_extra "v1"; exact p_none; (with_reducible apply p_some); k_extra "v1"; (intro _ _; rfl); (intro _ _; rfl); exact Nat.le_of_ble_eq_true rfl; exact hp_upto (by omega))
  k_with "ve c" => ((with_reducible apply v_sliceL (ds := pD) G); k_extra "v1"; (with_reducible apply p_some); (focus (k_extra "v go"; done)); exact p_none; (intro _ _; rfl); (intro _ _; rfl); exact Nat.le_of_ble_eq_true rfl; exact hp_from (by omega))
  k_with "x1" => ((with_reducible refine e_join G ?_ ?_ ?_ ?_ ?_); rfl; rfl; rfl; rfl)
  k_with "vs" => (simp only [Array.size_append, byteArr_size, List.length_cons, List.length_nil, Array.size_replicate]; omega)
  k_with "vs" => (simp only [List.length_append, List.length_take, List.length_drop, List.length_cons, List.length_nil, pD_len]; omega)
  k_with "x1" => ((with_reducible apply ev_if); (focus (k_extra "v go"; done)); (all_goals intro hc))
  k_extra "w enter"
  rename_i eh eI
  subst eh eI
  k_extra "x go"
  · exact fin0 (by assumption) fun bs h => ⟨_, rfl, h⟩
  · exact fin1 (by assumption) fun bs h => ⟨_, rfl, h⟩
  · exact fin2 (by assumption) fun bs h => ⟨_, rfl, h⟩
end

set_option linter.unusedSimpArgs false
set_option linter.unusedVariables false
theorem rows2_T17 : True := by
  k_with_none
  k_with "w enter" => (refine' ct_enter ?cI ?cr ?co ?cc ?cb ?cl ?cn ?c1 ?c2 ?c3 ?c4 ?_; (case cI => assumption); (case cr => decide); (case co => k_is); (case cc => k_is); (case cb => (intro s vs hv; first | (obtain rfl := len0 hv; exact BindsTo.of_eq rfl) | (obtain ⟨a, rfl⟩ := len1 hv; exact BindsTo.of_eq rfl) | (obtain ⟨a, b, rfl⟩ := len2 hv; exact BindsTo.of_eq rfl) | (obtain ⟨a, b, c, rfl⟩ := len3 hv; exact BindsTo.of_eq rfl) | (obtain ⟨a, b, c, d, rfl⟩ := len4 hv; exact BindsTo.of_eq rfl))); (case cl => first | exact (fun _ h => absurd h List.not_mem_nil) | (simp only [List.map, List.mem_cons, List.not_mem_nil, or_false, forall_eq_or_imp, forall_eq]; decide)); (case cn => rfl); (case c1 => rfl); (case c2 => rfl); (case c3 => rfl); (case c4 => decide); intro C G _ _ e3; (dsimp only [List.map, List.zip, List.zipWith, List.reverse, List.reverseAux]); (try k_fold))
  k_with "v1" => (first
    | ((with_reducible show Ev _ _ _ _ _ _); (first | k_extra "ve c" | k_extra "ve"))
    | ((with_reducible show Op2 _ _ _ _ _ _ _ _); k_extra "v2")
    | ((with_reducible show EvL _ _ _ _ _ _); k_extra "vl")
    | ((with_reducible show OpL _ _ _ _ _ _ _); (first | k_extra "vo c" | k_extra "vo"))
    | ((with_reducible show Tst _ _ _ _ _ _); k_extra "vt")
    | ((with_reducible show Cm2 _ _ _ _ _ _ _ _); k_extra "vm")
    | ((with_reducible show EvP _ _ _ _ _ _); k_extra "vp")
    | k_extra "vs")
  k_with "ve c" => fail
  k_with "vo c" => fail
  k_with "ve" => (first
    | ((with_reducible apply v_name G); rfl; rfl; rfl)
    | with_reducible exact v_int
    | with_reducible apply v_bin
    | with_reducible apply v_slice G
    | with_reducible apply v_sub
    | ((with_reducible apply v_globI G); k_is; rfl; rfl)
    | ((with_reducible apply e_call G); k_is; rfl; rfl; k_is; rfl; rfl; rfl)
    | ((with_reducible apply v_bcall (f := Str.ofString "len") (id := "len") G); k_is; boot_fast; decide; rfl; rfl; rfl; rfl; rfl)
    | ((with_reducible apply v_tcall (f := Str.ofString "bytes") (id := "bytes") G); k_is; boot_fast; decide; rfl; rfl; rfl; rfl; rfl)
    | ((with_reducible apply v_tcall (f := Str.ofString "tuple") (id := "tuple") G); k_is; boot_fast; decide; rfl; rfl; rfl; rfl; rfl)
    | ((with_reducible apply v_tcall (f := Str.ofString "int") (id := "int") G); k_is; boot_fast; decide; rfl; rfl; rfl; rfl; rfl)
    | with_reducible apply v_tuple G
    | with_reducible apply v_list G
    | with_reducible exact v_str
    | with_reducible apply v_bytes
    | ((with_reducible apply v_globV G); k_is; rfl; rfl)
    | ((with_reducible apply v_if1); (focus (k_extra "v go"; done)); (first | omega | decide))
    | ((with_reducible apply v_if2); (focus (k_extra "v go"; done)); (first | omega | decide)))
  k_with "v2" => (first
    | with_reducible exact o_addI
    | with_reducible apply o_addY
    | with_reducible exact o_subI
    | with_reducible apply o_mulI
    | with_reducible apply o_modI
    | with_reducible apply o_divI
    | with_reducible apply o_itemY
    | with_reducible apply o_itemT
    | ((with_reducible apply o_itemTT G); (intro _ _; rfl); (intro _ _; rfl); (repeat' first | exact List.mem_cons_self | refine List.mem_cons_of_mem _ ?_)))
  k_with "vl" => (first | with_reducible exact vl_nil | ((with_reducible apply vl_cons); rfl))
  k_with "vo" => (first
    | with_reducible exact o_len
    | with_reducible apply o_bytes1 G
    | with_reducible apply o_bytes2 G
    | with_reducible apply o_bytesN)
  k_with "vt" => (first
    | with_reducible apply tp_chain
    | with_reducible apply tp_cmp
    | with_reducible apply tp_not
    | with_reducible apply tp_or)
  k_with "vm" => (first
    | with_reducible exact cp_lt
    | with_reducible exact cp_le
    | with_reducible exact cp_gt
    | with_reducible exact cp_eq
    | with_reducible exact cp_ne
    | with_reducible exact cp_eqs
    | with_reducible exact cp_in3
    | with_reducible exact cp_first G
    | with_reducible exact cp_tt G)
  k_with "vp" => (first | with_reducible exact p_none | with_reducible apply p_some)
  k_with "vs" => (first
    | ((with_reducible intro _ _ _); rfl)
    | ((with_reducible intro _ _); rfl)
    | rfl
    | exact Nat.le_of_ble_eq_true rfl
    | omega
    | decide
    | (simp only [Array.size_append, be2_size, be4_size, byteArr_size, List.length_cons, List.length_nil]; omega))
  k_with "v go" => repeat' (k_extra "v1")
  k_with "x1" => (first
    | with_reducible apply ex_cons
    | with_reducible apply ex_nil
    | ((with_reducible apply xr); (focus (k_extra "v go"; done)))
    | ((with_reducible apply xa G); (focus (k_extra "v go"; done)); rfl; rfl)
    | ((with_reducible apply xi); (focus (k_extra "v go"; done)); (all_goals try (intro hc; try (exfalso; first | omega | exact absurd hc (by decide) | exact hc (by decide)))))
    | with_reducible apply ex_break
    | ((with_reducible apply ex_none (e := Expr.Call (Expr.Name _ _) _ _ _)); rfl; rfl)
    | ((with_reducible refine' ex_raise G ?zzW ?zzdl ?zzn ?zzk ?zzd ?zzi ?_); (case zzn => k_is); (case zzk => rfl); (case zzd => rfl); (case zzi => k_is); (case zzdl => decide); (case zzW => first | exact exc44 w | exact exc56 w))
    | ((with_reducible refine' ex_assignT G ?zzq ?zzx ?zzn ?zze ?zzf ?zzs ?zzw ?_); (case zzq => rfl); (case zzn => rfl); (case zze => rfl); (case zzf => rfl); (case zzs => rfl); (case zzw => rfl); (case zzx => decide))
    | ((with_reducible apply ex_assignS (names := [_, _]) G); (case hw => rfl); (case hs => rfl); (case hx => decide))
    | with_reducible refine ex_ret ?_
    | ((with_reducible refine' ex_assign G ?zza ?zzb ?_); (case zza => rfl); (case zzb => rfl))
    | ((with_reducible apply ev_of); (focus (k_extra "v go"; done)))
    | ((with_reducible apply e_call G); k_is; rfl; rfl; k_is; rfl; rfl; rfl; (focus (k_extra "v go"; done)))
    | ((with_reducible refine' ev_call G ?zzn ?zzk ?zzd ?zzi ?zzc ?zzs ?zzx ?_); (case zzn => k_is); (case zzk => rfl); (case zzd => rfl); (case zzi => k_is); (case zzc => rfl); (case zzs => rfl); (case zzx => rfl))
    | with_reducible refine ev_binop ?_
    | ((with_reducible refine' evl_cons ?zzs ?_); (case zzs => rfl))
    | with_reducible refine evl_nil ?_
    | ((with_reducible refine' op_add_bytes ?zza ?_); (case zza => first | omega | (simp only [Array.size_append, be2_size, be4_size, byteArr_size, List.length_cons, List.length_nil]; omega)))
    | ((with_reducible refine' ex_dT ?zza ?_); (case zza => rfl); (try dsimp only [insD, namesOf, nameOf, List.foldr, List.append, List.cons_append, List.nil_append, List.map, List.zip, List.zipWith, List.reverse, List.reverseAux]))
    | (refine ve_exc ?_; first | trivial | omega | (simp only [Array.size_append, byteArr_size, be2_size, be4_size, List.length_cons, List.length_nil] at h; omega))
    | (refine ve_val ?_ ?_; (first | trivial | omega | (simp only [Array.size_append, byteArr_size, be2_size, be4_size, List.length_cons, List.length_nil] at h; omega)); (first | rfl | skip))
    | (exfalso; simp only [Array.size_append, byteArr_size, be2_size, be4_size, List.length_cons, List.length_nil] at h; omega))
  k_with "x go" => repeat' (k_extra "x1")
  trivial

set_option linter.unusedSectionVars false
/-- a list that came from outside -/
def dLI (l : List D) : D := ⟨fun h v => ∃ a vs, v = .ref a ∧ h.IsList a vs.toArray ∧ Rels h l vs, by
  intro h h' v k r
  obtain ⟨a, vs, e, t, q⟩ := r
  exact ⟨a, vs, e, isList_keep k t, q.keep k⟩⟩
section
variable {w : World} {sc : Scope} {dl ul : Nat} {C : Cx} {ρ : List (Str × D)}
theorem o_lenI {ds : List D} (hz : ds.length ≤ 1048576) : OpL w sc C ρ (callF (.builtin "len")) [dLI ds] (· = .val (dI ds.length)) := by
  intro vs; refine .mk ?_; rintro s Q E F ⟨v, _, rfl, ⟨a, us, rfl, hx, r⟩, rfl⟩ hq he
  have := r.length
  refine Calls.call_len_list (isList_keep (z_sub C _) hx) (by rw [List.size_toArray]; omega) (hq _ _ s.heap _ rfl F (KK.refl _) ⟨s.toks + 1, ?_⟩)
  rw [List.size_toArray, this]
theorem o_itemI {l r : Expr} {ds : List D} {i : Int} {d : D} (hs : ∀ a u, subscripted r false (Value.ref a) (Value.int i u) = operate [Value.ref a, Value.int i u] (getItem (Value.ref a) (Value.int i u))) (ht : ∀ a z, letTemporaryGo l (Value.ref a) z = pure ())
    (hi : 0 ≤ i ∧ i < 1048576) (hd : ds[i.toNat]? = some d) : Op2 w sc C ρ (subscriptTail l r) (dLI ds) (dI i) (· = .val d) := by
  intro v1 v2; refine .mk ?_; rintro s Q E F ⟨⟨a, vs, rfl, hx, r⟩, ⟨u, rfl⟩⟩ hq he
  obtain ⟨v, hv, rr⟩ := r.get hd
  exact item_listL (isList_keep (z_sub C _) hx) hi.1 (by omega) hv (hq _ _ s.heap s.toks rfl F (KK.refl _) rr) (hs _ _) (ht _)
theorem v_listO (G : Good w sc dl ul C) {elts : List Expr} {pos : Pos} {ds : List D} (h : LV w sc C ρ pos elts ds) (hz : ds.length ≤ 1048576) : EvV w sc C ρ (.List elts pos) (dO C.g ds) := ev_list (el_of h fun vs => .mk fun s Q E F r hq he => by
  obtain ⟨m, F1, N1, hout⟩ := F.out G
  refine newList_N F1 N1 (fun h' F' N' => ?_) (by rw [r.length]; exact Nat.le_trans hz (by decide))
  have hk := hout h' F' (news_tail N')
  exact hq _ _ h' s.toks rfl hk.1 hk.2 ⟨_, vs, rfl, (N' _ List.mem_cons_self).2.2, ⟨_, hideAll_get _ (N' _ List.mem_cons_self).1 (not_hid G F)⟩, r.keep hk.2.z⟩)
/-- what holds behind a statement, however it went -/
theorem ex_then {st : Stmt} {l : List Stmt} {P : SOut → Prop} (J : List (Str × D) → Prop) (h : Ex1 w sc C ρ st (thenS P J)) (k : ∀ ρ', J ρ' → Ex w sc C ρ' l P) : Ex w sc C ρ (st :: l) P :=
  ex_cons (.mk fun s Q E F hn hb hr he => h.go s Q E F (fun ρ' h' tk' p => hn ρ' h' tk' (k ρ' p)) hb hr he)
theorem o_modM {a b : Int} (hb : 0 < b) : Op2 w sc C ρ (binaryOp .Mod) (dI a) (dI b) (· = .val (dI (a % b))) := o_modE (by omega) (Int.fmod_eq_emod_of_nonneg _ (by omega))
theorem max_nn (c : Int) : 0 ≤ if -1 - c > c then -1 - c else c := by split <;> omega
theorem mulB_nn {a : Int} {b : Bool} (h : 0 ≤ a) : 0 ≤ a * if b then 1 else 0 := by cases b <;> simp [h]
end
section
variable (w : World) {hs : List Addr} {I : Heap → Prop} (hI : HI hs I)
include hI
theorem t_pool {ns : List Int} (hn : ns.length ≤ 1000) : CTG w hs I 520 250 173 [dLI (ns.map dI), dI 0] (fun g o => ∃ x y, o = .val (dO g [dI x, dI y]) ∧ 0 ≤ x ∧ 0 ≤ y ∧ y < 2147483647) := by
  k_with "w enter" => (refine' ct_enterG ?cI ?cr ?co ?cc ?cb ?cl ?cn ?c1 ?c2 ?c3 ?c4 ?_; (case cI => assumption); (case cr => decide); (case co => k_is); (case cc => k_is); (case cb => (intro s vs hv; obtain ⟨a, b, rfl⟩ := len2 hv; exact BindsTo.of_eq rfl)); (case cl => (simp only [List.map, List.mem_cons, List.not_mem_nil, or_false, forall_eq_or_imp, forall_eq]; decide)); (case cn => rfl); (case c1 => rfl); (case c2 => rfl); (case c3 => rfl); (case c4 => decide); intro C G _ _ e3; (dsimp only [List.map, List.zip, List.zipWith, List.reverse, List.reverseAux]); (try k_fold))
  k_with "vo c" => (with_reducible apply o_lenI; (rw [List.length_map]; omega))
  k_with "vo c" => with_reducible exact o_int
  k_with "vo c" => with_reducible exact o_intB
  k_with "ve c" => with_reducible apply v_neg
  k_extra "w enter"
  refine ex_cons (xa G v_int rfl rfl ?_)
  refine ex_then (fun ρ' => ∃ c, lk ρ' (Str.ofString "cell") = some (dI c) ∧ lk ρ' (Str.ofString "k") = some (dI 0)) ?_ fun ρ' ⟨c, l1, l2⟩ => ?_
  · cases ns with
    | nil =>
      k_extra "x go"
      exact ⟨0, rfl, rfl⟩
    | cons n ns =>
      k_with "v2" => (with_reducible apply o_itemI (ds := (n :: ns).map dI) (i := 0) (d := dI n))
      k_extra "x go"
      · exact ⟨n, rfl, rfl⟩
      · exact ⟨0, rfl, rfl⟩
  · k_with "ve c" => ((with_reducible apply v_name G); (first | exact l1 | exact l2); rfl; rfl)
    k_with "ve c" => ((with_reducible apply v_bcall (f := Str.ofString "max") (id := "max") G); k_is; boot_fast; decide; rfl; rfl; rfl; rfl; rfl)
    k_with "vo c" => with_reducible exact o_max G
    k_with "ve c" => (with_reducible apply v_listO G)
    k_with "ve c" => with_reducible apply v_cmp
    k_with "vm" => with_reducible exact cv_ge
    k_with "v2" => with_reducible apply o_pow
    k_with "v2" => with_reducible exact o_mulB
    k_with "v2" => with_reducible apply o_modM
    k_extra "x go"
    exact ⟨_, _, rfl, mulB_nn (max_nn c), Int.emod_nonneg _ (by decide), Int.emod_lt_of_pos _ (by decide)⟩
end

theorem rows_L3 : True := by
  w_top off
  k_with_none
  k_with "mine enter" => (refine wpAny_call ?_; k_dflt (refine' enterP [] ?kX ?kT ?kr ?ko ?kc ?kb ?kl ?_ ?c2 ?c3 ?c4 ?c5; (case kX => k_asm); (case kT => k_asm); (case kr => exact Nat.le_of_ble_eq_true rfl); (case ko => k_is); (case kc => k_is); (case kb => exact BindsTo.of_eq rfl); (case kl => exact locs rfl); (case c2 => exact rfl); (case c3 => exact rfl); (case c4 => exact rfl); (case c5 => decide); k_whole; intro L' h' tk' F' K' l1; (dsimp only [List.map, List.zip, List.zipWith, List.reverse, List.reverseAux] at F'); (have N' := news_enter (hide := []) (news := []) K' l1 (fun _ h => nomatch h)); (dsimp only [hideAll] at F' N'); (try dsimp only); (try k_fold)))
  k_with "exec Raise some none" => (refine raise_ex (w := w) rfl ?_)
  k_with "call ref" => ((with_reducible show wpAny _ _ (call (Value.ref 44) [Value.str _ _]) _ _ _); (with_reducible rename Fr _ _ _ _ => FF); refine mk_exc w (exc44 w) (X.keeps FF.keep) (T.keeps FF.keep) (by rw [depth_under_make]; exact Nat.le_of_ble_eq_true rfl) (fun e h2 tk2 hx => ?_))
  k_with "call ref" => ((with_reducible show wpAny _ _ (call (Value.ref 56) [Value.str _ _]) _ _ _); (with_reducible rename Fr _ _ _ _ => FF); refine mk_exc w (exc56 w) (X.keeps FF.keep) (T.keeps FF.keep) (by rw [depth_under_make]; exact Nat.le_of_ble_eq_true rfl) (fun e h2 tk2 hx => ?_))
  k_with "mine ret" => ((try dsimp only); (with_reducible rename Fr _ _ _ _ => FF); refine hret _ _ _ FF.keep ?_)
  k_with "Raised" => ((with_reducible rename Fr _ _ _ _ => FF); refine Raised.of (by first | exact exc44 w | exact exc56 w) (X.keeps FF.keep) hx ?_; (try dsimp only); (try k_unfold); refine leave_first B FF hx (fun h3 hfly => hexc _ _ _ _ ?_ hfly))
  k_with "subscriptTail" => ((with_reducible show wpAny _ _ (subscriptTail _ (Expr.Slice _ _ none _) (Value.bytes _ _) (Value.ref _)) _ _ _); (with_reducible rename Fr _ _ _ _ => FF); (with_reducible rename News _ _ _ _ => NN); (refine KBc.slice_K (s := ⟨_, _, _, _, _⟩) FF NN rfl (by constructor) (by constructor) ?hz ?_); (case hz => (rw [KBw.ints_length]; l_fact)); intro h2 t2' k2 F2 N2 _; (try simp only [hpick]))
  trivial

/-- what the rows pack to, told by their words -/
def pkOf (a b c e : Option (Array UInt8)) (r : Row) : Option (Array UInt8) :=
  if r.1 == Str.ofString "chassis" then a else if r.1 == Str.ofString "port" then b else if r.1 == Str.ofString "time" then c else e
def pkN (k : Int) (n : Int) (x : Array UInt8) : Option (Array UInt8) := if 1 ≤ x.size ∧ x.size ≤ 255 then some (rowB k (byteArr [n] ++ x)) else none
def PkIs (w : World) (r : Row) (o : Option (Array UInt8)) : Prop := ∀ hs I, HI hs I → CT w hs I 552 400 128 [rowD r] (· = pkO o)
/-- three first rows and others -/
def rowsOf (n1 n2 t : Int) (x y : Array UInt8) (more : List Row) : List Row := (Str.ofString "chassis", [dI n1, dY x]) :: (Str.ofString "port", [dI n2, dY y]) :: (Str.ofString "time", [dI t]) :: more
theorem pkIs_of {w : World} {r : Row} {b : Array UInt8} {c1 c2 : Prop} [Decidable c1] (h : ∀ hs I, HI hs I → CT w hs I 552 400 128 [rowD r] (VE c1 (dY b) c2 56)) (hc : c2 → ¬ c1) : PkIs w r (if c1 then some b else none) := fun hs I hI => (h hs I hI).mono fun o q => by
  rcases q with ⟨x, rfl⟩ | ⟨x, rfl⟩
  · rw [if_pos x]; rfl
  · rw [if_neg (hc x)]; rfl
theorem pkOf_m {a b c e : Option (Array UInt8)} {r : Row} (h : FW.any (fun y => y == r.1) = false) : pkOf a b c e r = e := by
  unfold pkOf
  simp only [FW, List.any_cons, List.any_nil, Bool.or_false, Bool.or_eq_false_iff] at h
  have sy : ∀ {x : Str}, (x == r.1) = false → ¬ (r.1 == x) = true := fun h q => by rw [eq_of_beq q, beq_self_eq_true] at h; cases h
  rw [if_neg (sy h.1), if_neg (sy h.2.1), if_neg (sy h.2.2)]
theorem rows_pk {w : World} {n1 n2 t : Int} {x y : Array UInt8} {more : List Row} {e : Option (Array UInt8)} (h1 : 0 ≤ n1 ∧ n1 < 256) (h2 : 0 ≤ n2 ∧ n2 < 256) (h3 : 0 ≤ t ∧ t < 65536) (hm : ∀ r ∈ more, PkIs w r e ∧ FW.any (fun y => y == r.1) = false) :
    ∀ r ∈ rowsOf n1 n2 t x y more, PkIs w r (pkOf (pkN 1 n1 x) (pkN 2 n2 y) (some (rowB 3 (be2 t))) e r) := fun r m => by
  rcases List.mem_cons.mp m with rfl | m
  · exact pkIs_of (fun hs I hI => t_pk1 w hI h1) fun h => h
  rcases List.mem_cons.mp m with rfl | m
  · exact pkIs_of (fun hs I hI => t_pk2 w hI h2) fun h => h
  rcases List.mem_cons.mp m with rfl | m
  · exact fun hs I hI => (t_pk3 w hI h3).mono fun o q => q.elim (fun x => x.2) fun x => x.1.elim
  · rw [pkOf_m (hm r m).2]; exact (hm r m).1
theorem rows_ok {n1 n2 t : Int} {x y : Array UInt8} {more : List Row} (hm : ∀ r ∈ more, FW.any (fun y => y == r.1) = false) : okRows (rowsOf n1 n2 t x y more) = true := by
  have e : (more.filter fun p => FW.any (fun y => y == p.1)) = [] := List.filter_eq_nil_iff.mpr fun r m => by rw [hm r m]; exact Bool.false_ne_true
  show (!neFW [Str.ofString "chassis", Str.ofString "port", Str.ofString "time"] && (more.filter fun p => FW.any (fun y => y == p.1)).isEmpty) = true
  rw [e]; decide +kernel
theorem cat_size (bs : List (Array UInt8)) : ∀ z : Array UInt8, (bs.foldl (· ++ ·) z).size = bs.foldl (fun n b => n + b.size) z.size := by
  induction bs with
  | nil => intro z; rfl
  | cons b bs ih => intro z; rw [List.foldl_cons, List.foldl_cons, ih, Array.size_append]
theorem sum_le (m : Nat) (bs : List (Array UInt8)) : ∀ n : Nat, (∀ b ∈ bs, b.size ≤ m) → bs.foldl (fun n b => n + b.size) n ≤ n + bs.length * m := by
  induction bs with
  | nil => intro n _; exact Nat.le_add_right _ _
  | cons b bs ih =>
    intro n h
    have := ih (n + b.size) fun b m => h b (List.mem_cons_of_mem _ m)
    have h1 := h b List.mem_cons_self
    rw [List.foldl_cons, List.length_cons, Nat.succ_mul]; omega
theorem pack_size {rs : List Row} {pk : Row → Option (Array UInt8)} (h : ∀ r ∈ rs, ∀ b, pk r = some b → b.size ≤ 1000) (hl : rs.length ≤ 10) : ∀ bs : List (Array UInt8), rs.map pk = bs.map some → bs.foldl (fun n b => n + b.size) 0 ≤ 100000 ∧ (catB bs).size ≤ 100000 := fun bs e => by
  have hb : ∀ b ∈ bs, b.size ≤ 1000 := fun b m => by
    have : some b ∈ rs.map pk := by rw [e]; exact List.mem_map.mpr ⟨b, m, rfl⟩
    obtain ⟨r, mr, hr⟩ := List.mem_map.mp this
    exact h r mr b hr
  have hlen : bs.length = rs.length := by have := congrArg List.length e; rw [List.length_map, List.length_map] at this; exact this.symm
  have := sum_le 1000 bs 0 hb
  have h2 : bs.foldl (fun n b => n + b.size) 0 ≤ 100000 := by omega
  exact ⟨h2, by rw [catB, cat_size]; exact h2⟩
theorem pkN_size {k n : Int} {x b : Array UInt8} (h : pkN k n x = some b) : b.size ≤ 1000 := by
  unfold pkN at h
  split at h
  · cases h; rw [rowB_size, Array.size_append, byteArr_size]; simp; omega
  · cases h
theorem pkOf_size {a b c e : Option (Array UInt8)} {r : Row} {z : Array UInt8} (h : pkOf a b c e r = some z) (ha : ∀ z, a = some z → z.size ≤ 1000) (hb : ∀ z, b = some z → z.size ≤ 1000) (hc : ∀ z, c = some z → z.size ≤ 1000) (he : ∀ z, e = some z → z.size ≤ 1000) : z.size ≤ 1000 := by
  unfold pkOf at h
  split at h
  · exact ha z h
  split at h
  · exact hb z h
  split at h
  · exact hc z h
  · exact he z h
section
variable (w : World) {hs : List Addr} {I : Heap → Prop} (hI : HI hs I)
include hI
/-- how the rows of this law are packed -/
theorem t_packR {n1 n2 t : Int} {x y : Array UInt8} {more : List Row} {e : Option (Array UInt8)} (h1 : 0 ≤ n1 ∧ n1 < 256) (h2 : 0 ≤ n2 ∧ n2 < 256) (h3 : 0 ≤ t ∧ t < 65536) (hl : more.length ≤ 5) (hm : ∀ r ∈ more, PkIs w r e ∧ FW.any (fun y => y == r.1) = false) (he : ∀ z, e = some z → z.size ≤ 1000) :
    CT w hs I 545 360 138 [dL ((rowsOf n1 n2 t x y more).map rowD)] (fun o => (∃ bs : List (Array UInt8), (rowsOf n1 n2 t x y more).map (pkOf (pkN 1 n1 x) (pkN 2 n2 y) (some (rowB 3 (be2 t))) e) = bs.map some ∧ o = .val (dY (catB bs ++ endB))) ∨
      ((∃ r ∈ rowsOf n1 n2 t x y more, pkOf (pkN 1 n1 x) (pkN 2 n2 y) (some (rowB 3 (be2 t))) e r = none) ∧ o = .exc 56)) :=
  t_pack w hI (fun r m => rows_pk h1 h2 h3 hm r m) (rows_ok fun r m => (hm r m).2) (by show more.length + 3 ≤ _; omega) (by show 2 ≤ more.length + 3; omega)
    (pack_size (fun r m b q => pkOf_size q (fun z => pkN_size) (fun z => pkN_size) (fun z q => by cases q; rw [rowB_size, be2_size]; decide) he) (by show more.length + 3 ≤ _; omega))
/-- all packed -/
theorem t_packV {n1 n2 t : Int} {x y : Array UInt8} {z : Array UInt8} (h1 : 0 ≤ n1 ∧ n1 < 256) (h2 : 0 ≤ n2 ∧ n2 < 256) (h3 : 0 ≤ t ∧ t < 65536) (hx : 1 ≤ x.size ∧ x.size ≤ 255) (hy : 1 ≤ y.size ∧ y.size ≤ 255) {r : Row} (hr : PkIs w r (some z)) (hf : FW.any (fun y => y == r.1) = false) (hz : z.size ≤ 1000) :
    CT w hs I 545 360 138 [dL ((rowsOf n1 n2 t x y [r]).map rowD)] (· = .val (dY (catB [rowB 1 (byteArr [n1] ++ x), rowB 2 (byteArr [n2] ++ y), rowB 3 (be2 t), z] ++ endB))) :=
  (t_packR w hI h1 h2 h3 (more := [r]) (e := some z) (Nat.le_of_ble_eq_true rfl) (fun q m => by rw [List.mem_singleton.mp m]; exact ⟨hr, hf⟩) (fun _ q => by cases q; exact hz)).mono fun o q => by
    have e : (rowsOf n1 n2 t x y [r]).map (pkOf (pkN 1 n1 x) (pkN 2 n2 y) (some (rowB 3 (be2 t))) (some z)) = [rowB 1 (byteArr [n1] ++ x), rowB 2 (byteArr [n2] ++ y), rowB 3 (be2 t), z].map some := by
      show [pkN 1 n1 x, pkN 2 n2 y, some (rowB 3 (be2 t)), pkOf _ _ _ _ r] = _
      rw [pkOf_m hf, pkN, if_pos hx, pkN, if_pos hy]; rfl
    rcases q with ⟨bs, e2, rfl⟩ | ⟨⟨q, m, hq⟩, _⟩
    · rw [e] at e2
      have : _ = bs := (List.map_inj_right fun a b h => Option.some.inj h).mp e2
      rw [← this]
    · have m2 := List.mem_map.mpr ⟨q, m, hq⟩
      rw [e] at m2
      obtain ⟨_, _, h⟩ := List.mem_map.mp m2
      cases h
/-- one of them not packed -/
theorem t_packX {n1 n2 t : Int} {x y : Array UInt8} {more : List Row} {e : Option (Array UInt8)} (h1 : 0 ≤ n1 ∧ n1 < 256) (h2 : 0 ≤ n2 ∧ n2 < 256) (h3 : 0 ≤ t ∧ t < 65536) (hl : more.length ≤ 5) (hm : ∀ r ∈ more, PkIs w r e ∧ FW.any (fun y => y == r.1) = false) (he : ∀ z, e = some z → z.size ≤ 1000)
    (hn : none ∈ (rowsOf n1 n2 t x y more).map (pkOf (pkN 1 n1 x) (pkN 2 n2 y) (some (rowB 3 (be2 t))) e)) : CT w hs I 545 360 138 [dL ((rowsOf n1 n2 t x y more).map rowD)] (· = .exc 56) :=
  (t_packR w hI h1 h2 h3 hl hm he).mono fun o q => by
    rcases q with ⟨bs, e2, rfl⟩ | ⟨_, h⟩
    · rw [e2] at hn
      obtain ⟨_, _, h⟩ := List.mem_map.mp hn
      cases h
    · exact h
end

theorem rows_L4 : True := by
  w_top off
  k_with_none
  k_with "mine enter" => (refine wpAny_call ?_; k_dflt (refine' enterP [] ?kX ?kT ?kr ?ko ?kc ?kb ?kl ?_ ?c2 ?c3 ?c4 ?c5; (case kX => k_asm); (case kT => k_asm); (case kr => exact Nat.le_of_ble_eq_true rfl); (case ko => k_is); (case kc => k_is); (case kb => exact BindsTo.of_eq rfl); (case kl => exact locs rfl); (case c2 => exact rfl); (case c3 => exact rfl); (case c4 => exact rfl); (case c5 => decide); k_whole; intro L' h' tk' F' K' l1; (dsimp only [List.map, List.zip, List.zipWith, List.reverse, List.reverseAux] at F'); (have N' := news_enter (hide := []) (news := []) K' l1 (fun _ h => nomatch h)); (dsimp only [hideAll] at F' N'); (try dsimp only); (try k_fold)))
  k_with "exec Raise some none" => (refine raise_ex (w := w) rfl ?_)
  k_with "call ref" => ((with_reducible show wpAny _ _ (call (Value.ref 44) [Value.str _ _]) _ _ _); (with_reducible rename Fr _ _ _ _ => FF); refine mk_exc w (exc44 w) (X.keeps FF.keep) (T.keeps FF.keep) (by rw [depth_under_make]; exact Nat.le_of_ble_eq_true rfl) (fun e h2 tk2 hx => ?_))
  k_with "call ref" => ((with_reducible show wpAny _ _ (call (Value.ref 56) [Value.str _ _]) _ _ _); (with_reducible rename Fr _ _ _ _ => FF); refine mk_exc w (exc56 w) (X.keeps FF.keep) (T.keeps FF.keep) (by rw [depth_under_make]; exact Nat.le_of_ble_eq_true rfl) (fun e h2 tk2 hx => ?_))
  k_with "mine ret" => ((try dsimp only); (with_reducible rename Fr _ _ _ _ => FF); refine hret _ _ _ FF.keep ?_)
  k_with "Raised" => ((with_reducible rename Fr _ _ _ _ => FF); refine Raised.of (by first | exact exc44 w | exact exc56 w) (X.keeps FF.keep) hx ?_; (try dsimp only); (try k_unfold); refine leave_first B FF hx (fun h3 hfly => hexc _ _ _ _ ?_ hfly))
  k_with "subscriptTail" => ((with_reducible show wpAny _ _ (subscriptTail _ (Expr.Slice _ _ none _) (Value.bytes _ _) (Value.ref _)) _ _ _); (with_reducible rename Fr _ _ _ _ => FF); (with_reducible rename News _ _ _ _ => NN); (refine KBc.slice_K (s := ⟨_, _, _, _, _⟩) FF NN rfl (by constructor) (by constructor) ?hz ?_); (case hz => (rw [KBw.ints_length]; l_fact)); intro h2 t2' k2 F2 N2 _; (try simp only [hpick]))
  trivial

theorem be2_600 : be2 600 = byteArr [2, 88] := by unfold be2; congr 1
theorem be2_0 : be2 0 = Array.replicate (Int.toNat 2) 0 := by kernel_rfl
theorem rfR_first {k n : Int} {x : Array UInt8} (hk : k ≠ 3) (hn : 0 ≤ n ∧ n < 256) (hx : 1 ≤ x.size ∧ x.size ≤ 255) : rfR k (byteArr [n] ++ x) = some ((if k = 1 then Str.ofString "chassis" else Str.ofString "port"), [dI n, dY x]) := by
  have hs : (byteArr [n] ++ x).size = x.size + 1 := by rw [Array.size_append, byteArr_size]; simp; omega
  have e0 : (bat (byteArr [n] ++ x) 0 : Int) = n := by
    rw [bat_left _ _ (by rw [byteArr_size]; exact Nat.le_of_ble_eq_true rfl)]
    exact bat_byteArr [n] 0 hn
  have p : KBy.picked (byteArr [n] ++ x) (some 1) none = x := by
    have := picked_from (byteArr [n]) x
    rw [byteArr_size] at this; exact this
  unfold rfR
  rw [if_neg hk, if_neg (by omega), e0, p]
theorem rd_1 {n : Int} {x : Array UInt8} (hn : 0 ≤ n ∧ n < 256) (hx : 1 ≤ x.size ∧ x.size ≤ 255) : rdR 1 (byteArr [n] ++ x) = some (Str.ofString "chassis", [dI n, dY x]) := by
  unfold rdR; rw [if_pos (by decide), rfR_first (by decide) hn hx, if_pos rfl]
theorem rd_2 {n : Int} {x : Array UInt8} (hn : 0 ≤ n ∧ n < 256) (hx : 1 ≤ x.size ∧ x.size ≤ 255) : rdR 2 (byteArr [n] ++ x) = some (Str.ofString "port", [dI n, dY x]) := by
  unfold rdR; rw [if_pos (by decide), rfR_first (by decide) hn hx, if_neg (by decide)]
theorem rd_3 {t : Int} (ht : 0 ≤ t ∧ t < 65536) : rdR 3 (be2 t) = some (Str.ofString "time", [dI t]) := by
  have e : (by2 (be2 t) 0 : Int) = t := by
    have := by2_at #[] #[] ht
    rw [Array.append_empty, Array.empty_append] at this; exact this
  unfold rdR rfR; rw [if_pos (by decide), if_pos rfl, if_neg (by rw [be2_size]; decide), e]
def laysOf (n1 n2 t : Int) (x y : Array UInt8) (k : Int) (body : Array UInt8) : List Lay := [(1, byteArr [n1] ++ x), (2, byteArr [n2] ++ y), (3, be2 t), (k, body)]
theorem unp_lays {n1 n2 t k : Int} {x y body : Array UInt8} (h1 : 0 ≤ n1 ∧ n1 < 256) (h2 : 0 ≤ n2 ∧ n2 < 256) (h3 : 0 ≤ t ∧ t < 65536) (hx : 1 ≤ x.size ∧ x.size ≤ 255) (hy : 1 ≤ y.size ∧ y.size ≤ 255) :
    unp (laysOf n1 n2 t x y k body) [] = match rdR k body with | none => .exc 44 | some r => unp [] (rowsOf n1 n2 t x y [r]) := by
  unfold laysOf
  rw [unp, rd_1 h1 hx]
  show unp _ _ = _
  rw [unp, rd_2 h2 hy]
  show unp _ _ = _
  rw [unp, rd_3 h3]
  show unp _ _ = _
  rw [unp]
  cases rdR k body <;> rfl
theorem unp_rows {n1 n2 t : Int} {x y : Array UInt8} {r : Row} (hf : FW.any (fun y => y == r.1) = false) : unp [] (rowsOf n1 n2 t x y [r]) = .val (dL ((rowsOf n1 n2 t x y [r]).map rowD)) := by
  rw [unp, if_pos (rows_ok fun q m => by rw [List.mem_singleton.mp m]; exact hf)]
theorem lays_ok {n1 n2 t k : Int} {x y body : Array UInt8} (hx : x.size ≤ 255) (hy : y.size ≤ 255) (hk : 1 ≤ k ∧ k < 128) (hb : body.size ≤ 511) : ∀ p ∈ laysOf n1 n2 t x y k body, (1 ≤ p.1 ∧ p.1 < 128) ∧ p.2.size ≤ 511 := fun p m => by
  unfold laysOf at m
  simp only [List.mem_cons, List.not_mem_nil, or_false] at m
  rcases m with rfl | rfl | rfl | rfl
  · refine ⟨(by decide : (1:Int) ≤ 1 ∧ (1:Int) < 128), ?_⟩; rw [Array.size_append, byteArr_size]; simp; omega
  · refine ⟨(by decide : (1:Int) ≤ 2 ∧ (2:Int) < 128), ?_⟩; rw [Array.size_append, byteArr_size]; simp; omega
  · refine ⟨(by decide : (1:Int) ≤ 3 ∧ (3:Int) < 128), ?_⟩; rw [be2_size]; decide
  · exact ⟨hk, hb⟩
theorem lays_octs (n1 n2 t k : Int) (x y body : Array UInt8) : octs (laysOf n1 n2 t x y k body) = rowB 1 (byteArr [n1] ++ x) ++ rowB 2 (byteArr [n2] ++ y) ++ rowB 3 (be2 t) ++ rowB k body ++ Array.replicate (Int.toNat 2) 0 := by
  rw [← be2_0]
  unfold laysOf octs
  simp only [List.foldr, Array.append_assoc]
theorem lays_cat (n1 n2 t k : Int) (x y body : Array UInt8) : octs (laysOf n1 n2 t x y k body) = catB [rowB 1 (byteArr [n1] ++ x), rowB 2 (byteArr [n2] ++ y), rowB 3 (be2 t), rowB k body] ++ endB := by
  rw [endB_eq]
  unfold laysOf octs catB
  simp only [List.foldr, List.foldl, Array.append_assoc, Array.empty_append]
/-- broken octets -/
theorem broken_octs {b : Array UInt8} (h : Broken b) : ∃ ls : List Lay, b ++ Array.replicate (Int.toNat 2) 0 = octs ls ∧ (∀ p ∈ ls, (1 ≤ p.1 ∧ p.1 < 128) ∧ p.2.size ≤ 511) ∧ ls.length ≤ 100 ∧ unp ls [] = .exc 44 := by
  obtain ⟨ls, rfl, h1, h2, h3⟩ := h
  refine ⟨ls, ?_, h1, h2, h3⟩
  rw [← be2_0]
  have : ∀ (ls : List Lay) (z : Array UInt8), (ls.map layB).foldl (· ++ ·) z ++ be2 0 = z ++ octs ls := fun ls => by
    induction ls with
    | nil => intro z; rfl
    | cons p ls ih =>
      intro z
      rw [List.map_cons, List.foldl_cons, ih]
      show z ++ layB p ++ octs ls = z ++ (rowB p.1 p.2 ++ octs ls)
      rw [Array.append_assoc]; rfl
  rw [catB, this, Array.empty_append]
theorem brks_none : ∀ p ∈ brks, rdR p.1 p.2 = none ∧ (1 ≤ p.1 ∧ p.1 < 128) ∧ p.2.size ≤ 511 := by
  have h : (brks.all fun p => (rdR p.1 p.2).isNone && decide ((1 ≤ p.1 ∧ p.1 < 128) ∧ p.2.size ≤ 511)) = true := by kernel_rfl
  intro p m
  have := List.all_eq_true.mp h p m
  simp only [Bool.and_eq_true, decide_eq_true_eq, Option.isNone_iff_eq_none] at this
  exact this

set_option linter.unusedSimpArgs false
set_option linter.unusedVariables false
theorem rows2_T18 : True := by
  k_with_none
  k_with "w enter" => (refine' ct_enter ?cI ?cr ?co ?cc ?cb ?cl ?cn ?c1 ?c2 ?c3 ?c4 ?_; (case cI => assumption); (case cr => decide); (case co => k_is); (case cc => k_is); (case cb => (intro s vs hv; first | (obtain rfl := len0 hv; exact BindsTo.of_eq rfl) | (obtain ⟨a, rfl⟩ := len1 hv; exact BindsTo.of_eq rfl) | (obtain ⟨a, b, rfl⟩ := len2 hv; exact BindsTo.of_eq rfl) | (obtain ⟨a, b, c, rfl⟩ := len3 hv; exact BindsTo.of_eq rfl) | (obtain ⟨a, b, c, d, rfl⟩ := len4 hv; exact BindsTo.of_eq rfl))); (case cl => first | exact (fun _ h => absurd h List.not_mem_nil) | (simp only [List.map, List.mem_cons, List.not_mem_nil, or_false, forall_eq_or_imp, forall_eq]; decide)); (case cn => rfl); (case c1 => rfl); (case c2 => rfl); (case c3 => rfl); (case c4 => decide); intro C G _ _ e3; (dsimp only [List.map, List.zip, List.zipWith, List.reverse, List.reverseAux]); (try k_fold))
  k_with "v1" => (first
    | ((with_reducible show Ev _ _ _ _ _ _); (first | k_extra "ve c" | k_extra "ve"))
    | ((with_reducible show Op2 _ _ _ _ _ _ _ _); k_extra "v2")
    | ((with_reducible show EvL _ _ _ _ _ _); k_extra "vl")
    | ((with_reducible show OpL _ _ _ _ _ _ _); (first | k_extra "vo c" | k_extra "vo"))
    | ((with_reducible show Tst _ _ _ _ _ _); k_extra "vt")
    | ((with_reducible show Cm2 _ _ _ _ _ _ _ _); k_extra "vm")
    | ((with_reducible show EvP _ _ _ _ _ _); k_extra "vp")
    | k_extra "vs")
  k_with "ve c" => fail
  k_with "vo c" => fail
  k_with "ve" => (first
    | ((with_reducible apply v_name G); rfl; rfl; rfl)
    | with_reducible exact v_int
    | with_reducible apply v_bin
    | with_reducible apply v_slice G
    | with_reducible apply v_sub
    | ((with_reducible apply v_globI G); k_is; rfl; rfl)
    | ((with_reducible apply e_call G); k_is; rfl; rfl; k_is; rfl; rfl; rfl)
    | ((with_reducible apply v_bcall (f := Str.ofString "len") (id := "len") G); k_is; boot_fast; decide; rfl; rfl; rfl; rfl; rfl)
    | ((with_reducible apply v_tcall (f := Str.ofString "bytes") (id := "bytes") G); k_is; boot_fast; decide; rfl; rfl; rfl; rfl; rfl)
    | ((with_reducible apply v_tcall (f := Str.ofString "tuple") (id := "tuple") G); k_is; boot_fast; decide; rfl; rfl; rfl; rfl; rfl)
    | ((with_reducible apply v_tcall (f := Str.ofString "int") (id := "int") G); k_is; boot_fast; decide; rfl; rfl; rfl; rfl; rfl)
    | with_reducible apply v_tuple G
    | with_reducible apply v_list G
    | with_reducible exact v_str
    | with_reducible apply v_bytes
    | ((with_reducible apply v_globV G); k_is; rfl; rfl)
    | ((with_reducible apply v_if1); (focus (k_extra "v go"; done)); (first | omega | decide))
    | ((with_reducible apply v_if2); (focus (k_extra "v go"; done)); (first | omega | decide)))
  k_with "v2" => (first
    | with_reducible exact o_addI
    | with_reducible apply o_addY
    | with_reducible exact o_subI
    | with_reducible apply o_mulI
    | with_reducible apply o_modI
    | with_reducible apply o_divI
    | with_reducible apply o_itemY
    | with_reducible apply o_itemT
    | ((with_reducible apply o_itemTT G); (intro _ _; rfl); (intro _ _; rfl); (repeat' first | exact List.mem_cons_self | refine List.mem_cons_of_mem _ ?_)))
  k_with "vl" => (first | with_reducible exact vl_nil | ((with_reducible apply vl_cons); rfl))
  k_with "vo" => (first
    | with_reducible exact o_len
    | with_reducible apply o_bytes1 G
    | with_reducible apply o_bytes2 G
    | with_reducible apply o_bytesN)
  k_with "vt" => (first
    | with_reducible apply tp_chain
    | with_reducible apply tp_cmp
    | with_reducible apply tp_not
    | with_reducible apply tp_or)
  k_with "vm" => (first
    | with_reducible exact cp_lt
    | with_reducible exact cp_le
    | with_reducible exact cp_gt
    | with_reducible exact cp_eq
    | with_reducible exact cp_ne
    | with_reducible exact cp_eqs
    | with_reducible exact cp_in3
    | with_reducible exact cp_first G
    | with_reducible exact cp_tt G)
  k_with "vp" => (first | with_reducible exact p_none | with_reducible apply p_some)
  k_with "vs" => (first
    | ((with_reducible intro _ _ _); rfl)
    | ((with_reducible intro _ _); rfl)
    | rfl
    | exact Nat.le_of_ble_eq_true rfl
    | omega
    | decide
    | (simp only [Array.size_append, be2_size, be4_size, byteArr_size, List.length_cons, List.length_nil]; omega))
  k_with "v go" => repeat' (k_extra "v1")
  k_with "x1" => (first
    | with_reducible apply ex_cons
    | with_reducible apply ex_nil
    | ((with_reducible apply xr); (focus (k_extra "v go"; done)))
    | ((with_reducible apply xa G); (focus (k_extra "v go"; done)); rfl; rfl)
    | ((with_reducible apply xi); (focus (k_extra "v go"; done)); (all_goals try (intro hc; try (exfalso; first | omega | exact absurd hc (by decide) | exact hc (by decide)))))
    | with_reducible apply ex_break
    | ((with_reducible apply ex_none (e := Expr.Call (Expr.Name _ _) _ _ _)); rfl; rfl)
    | ((with_reducible refine' ex_raise G ?zzW ?zzdl ?zzn ?zzk ?zzd ?zzi ?_); (case zzn => k_is); (case zzk => rfl); (case zzd => rfl); (case zzi => k_is); (case zzdl => decide); (case zzW => first | exact exc44 w | exact exc56 w))
    | ((with_reducible refine' ex_assignT G ?zzq ?zzx ?zzn ?zze ?zzf ?zzs ?zzw ?_); (case zzq => rfl); (case zzn => rfl); (case zze => rfl); (case zzf => rfl); (case zzs => rfl); (case zzw => rfl); (case zzx => decide))
    | ((with_reducible apply ex_assignS (names := [_, _]) G); (case hw => rfl); (case hs => rfl); (case hx => decide))
    | with_reducible refine ex_ret ?_
    | ((with_reducible refine' ex_assign G ?zza ?zzb ?_); (case zza => rfl); (case zzb => rfl))
    | ((with_reducible apply ev_of); (focus (k_extra "v go"; done)))
    | ((with_reducible apply e_call G); k_is; rfl; rfl; k_is; rfl; rfl; rfl; (focus (k_extra "v go"; done)))
    | ((with_reducible refine' ev_call G ?zzn ?zzk ?zzd ?zzi ?zzc ?zzs ?zzx ?_); (case zzn => k_is); (case zzk => rfl); (case zzd => rfl); (case zzi => k_is); (case zzc => rfl); (case zzs => rfl); (case zzx => rfl))
    | with_reducible refine ev_binop ?_
    | ((with_reducible refine' evl_cons ?zzs ?_); (case zzs => rfl))
    | with_reducible refine evl_nil ?_
    | ((with_reducible refine' op_add_bytes ?zza ?_); (case zza => first | omega | (simp only [Array.size_append, be2_size, be4_size, byteArr_size, List.length_cons, List.length_nil]; omega)))
    | ((with_reducible refine' ex_dT ?zza ?_); (case zza => rfl); (try dsimp only [insD, namesOf, nameOf, List.foldr, List.append, List.cons_append, List.nil_append, List.map, List.zip, List.zipWith, List.reverse, List.reverseAux]))
    | (refine ve_exc ?_; first | trivial | omega | (simp only [Array.size_append, byteArr_size, be2_size, be4_size, List.length_cons, List.length_nil] at h; omega))
    | (refine ve_val ?_ ?_; (first | trivial | omega | (simp only [Array.size_append, byteArr_size, be2_size, be4_size, List.length_cons, List.length_nil] at h; omega)); (first | rfl | skip))
    | (exfalso; simp only [Array.size_append, byteArr_size, be2_size, be4_size, List.length_cons, List.length_nil] at h; omega))
  k_with "x go" => repeat' (k_extra "x1")
  trivial

set_option linter.unusedSectionVars false
theorem ne1 (n : Nat) : n + 1 ≠ n + 1 + 1 := by omega
theorem ne2 (n : Nat) : n + 1 ≠ n + 1 + 1 + 1 := by omega
abbrev lamQ (x : Str) : Str := x ++ ".<locals>." ++ "<lambda>"
section
variable {w : World} {sc : Scope} {dl ul : Nat} {C : Cx} {ρ : List (Str × D)}
theorem op_first (G : Good w sc dl ul C) {a : Addr} (S : Src C.hid C.I a) {ch po : Int} {P : Out D → Prop} (h : (0 ≤ ch ∧ ch ≤ 300) ∧ 0 ≤ po ∧ po ≤ 300) (h1 : dl ≤ 516) (h2 : ul ≤ 230) (hp : ∀ x y : Array UInt8, (x.size : Int) = ch → (y.size : Int) = po → P (.val (dL [dL ((rowsOf 7 5 600 x y []).map rowD), dY (oct3 x y)]))) : OpL w sc C ρ (callF (.ref 215)) [dV (.ref a), dI ch, dI po] P :=
  op_callS G (t_first w G.hi S h.1 h.2) h1 h2 (fun _ ⟨_, _, e, _⟩ => nomatch e) fun _ ⟨x, y, e, a, b⟩ => by cases e; exact hp x y a b
theorem op_great (G : Good w sc dl ul C) {a : Addr} (S : Src C.hid C.I a) {P : Out D → Prop} (h1 : dl ≤ 514) (h2 : ul ≤ 220) (hp : ∀ row k body ok, Great w row k body ok → P (.val (dT [rowD row, dY (rowB k body), dB ok]))) : OpL w sc C ρ (callF (.ref 229)) [dV (.ref a)] P :=
  op_callS G (t_great w G.hi S) h1 h2 (fun _ ⟨_, _, _, _, e, _⟩ => nomatch e) fun _ ⟨row, k, body, ok, e, g⟩ => by cases e; exact hp row k body ok g
end
section
variable (w : World) {hs : List Addr} {I : Heap → Prop} (hI : HI hs I)
include hI
theorem t_gr {a : Addr} (S : Own hs I a (SrcAt a)) (Tb : Own hs I 231 (TabIs 231 (lamQ (Str.ofString "_law_great_right")))) : CTW w hs I 402 60 236 [dV (.ref a)] (· = dB true) := by
  refine' ct_enterW (x := Str.ofString "source") hI ?cr ?co ?cc ?cb ?cx ?cn ?c1 ?c2 ?c3 ?_
  (case cr => decide)
  (case co => k_is)
  (case cc => k_is)
  (case cb => (intro s v; exact BindsTo.of_eq rfl))
  (case cx => rfl)
  (case cn => decide)
  (case c1 => rfl)
  (case c2 => rfl)
  (case c3 => rfl)
  intro C G K hcl hgh hst hcd hcn XB TB
  have l1 : C.cl.lookup (Str.ofString "rows") = some (C.L + 1 + 1) := by rw [hcl]; rfl
  have l2 : C.cl.lookup (Str.ofString "row") = some (C.L + 1) := by rw [hcl]; rfl
  have l3 : C.cl.lookup (Str.ofString "whole") = some (C.L + 1 + 1 + 1) := by rw [hcl]; rfl
  have n1 : ∀ b K', Own hs I b K' → C.L + 1 + 1 ≠ b := fun b K' O q => K.apart _ _ l1 (q ▸ O.mem)
  have n2 : ∀ b K', Own hs I b K' → C.L + 1 ≠ b := fun b K' O q => K.apart _ _ l2 (q ▸ O.mem)
  have n3 : ∀ b K', Own hs I b K' → C.L + 1 + 1 + 1 ≠ b := fun b K' O q => K.apart _ _ l3 (q ▸ O.mem)
  have S0 := Src.of (K.own _ _ S)
  have Sa := (K.own _ _ S)
  have Tq : Own C.hid C.I 231 (TabIs 231 (lamQ C.cn)) := by rw [hcn]; exact K.own _ _ Tb
  refine exr_assignTC (qs := [(Str.ofString "octets", _)]) G l1 (K.cell _ _ l1) rfl (by decide) rfl rfl rfl rfl rfl ?_
  k_extra "x1"
  refine op_first G S0 (by decide) (by decide) (by decide) fun x y hx hy => ⟨_, _, .inr rfl, rfl, fun v1 G => ?_⟩
  have Sa1 := Sa.cell (v := some v1) (n1 _ _ S)
  have Tq1 := Tq.cell (v := some v1) (n1 _ _ Tb)
  refine exr_assignTC (qs := [(Str.ofString "told", _), (Str.ofString "is_let", _)]) G l2 ((K.cell _ _ l2).cell (ne1 _).symm) rfl (by decide) rfl rfl rfl rfl rfl ?_
  k_extra "x1"
  refine op_great G (Src.of Sa1) (by decide) (by decide) fun row k body ok gr => ⟨_, _, .inl rfl, rfl, fun v2 G => ?_⟩
  have Tq2 := Tq1.cell (v := some v2) (n2 _ _ Tb)
  k_with "vs" => (have := gr.kb; simp only [oct3, Array.size_append, rowB_size, byteArr_size, List.length_cons, List.length_nil, Array.size_replicate]; omega)
  have hw : oct3 x y ++ rowB k body ++ Array.replicate (Int.toNat 2) 0 = octs (laysOf 7 5 600 x y k body) := by rw [lays_octs, be2_600]; rfl
  refine exr_assignC (d := dY (octs (laysOf 7 5 600 x y k body))) G l3 (((K.cell _ _ l3).cell (ne1 (C.L + 1))).cell (ne2 _)) rfl rfl (by rw [← hw]; k_extra "v go") fun v3 G => ?_
  have Tq3 := Tq2.cell (v := some v3) (n3 _ _ Tb)
  refine exr_if G (tp_not (tp_name (v_name G rfl rfl rfl))) (fun hc => ?_) (fun hc => ?_)
  · have hok : ok = false := by cases ok; rfl; exact absurd rfl hc
    subst hok
    refine exr_wordEq (d0 := dFn w _ _ 406 80 (· = .exc 56)) (P' := (· = dS (Str.ofString "size"))) G XB TB ?_ rfl rfl ?_ rfl rfl rfl rfl ?_ (t_word w G.hi (fun d p => nomatch p) fun c p => .inr ⟨by cases p; rfl, rfl⟩) (by decide) (by decide) fun d p => ⟨_, p, by decide⟩
    (k_is)
    (k_is)
    refine v_lambda (clos := [(Str.ofString "rows", C.L + 1 + 1), (Str.ofString "row", C.L + 1)]) G [(Str.ofString "rows", dL ((rowsOf 7 5 600 x y []).map rowD)), (Str.ofString "row", rowD row)] rfl (by intro _ _ _; rfl) hcd Tq3 (by kernel_rfl) ?_ ?_ (no_local (by decide)) rfl rfl rfl (by decide) (by decide) ?_ (fun C' G e1 e2 => ?_)
    · show closureFor _ (envX C.cn _ C.L C.a C.ccd C.cl) = _
      rw [hcl]; rfl
    · exact clos_sub fun p m => by
        rcases List.mem_cons.mp m with rfl | m
        · exact l1
        · rw [List.mem_singleton.mp m]; exact l2
    · intro x d e
      rcases lk_cons e with ⟨rfl, rfl⟩ | ⟨_, e⟩
      · exact ⟨rfl, rfl, _, rfl⟩
      rcases lk_cons e with ⟨rfl, rfl⟩ | ⟨_, e⟩
      · exact ⟨rfl, rfl, _, rfl⟩
      · cases e
    · k_with "ve c" => ((with_reducible apply v_free G); rfl; exact e2 _ _ rfl rfl; rfl; rfl; rfl)
      k_with "v2" => with_reducible apply o_addL G
      k_extra "x1"
      exact op_call G (fun I hI => t_packX w hI (n1 := 7) (n2 := 5) (t := 600) (x := x) (y := y) (more := [row]) (e := none) (by decide) (by decide) (by decide) (Nat.le_of_ble_eq_true rfl) (fun q m => by rw [List.mem_singleton.mp m]; exact ⟨gr.pk, gr.nf⟩) (fun _ q => nomatch q)
        (List.mem_map.mpr ⟨row, List.mem_cons_of_mem _ (List.mem_cons_of_mem _ (List.mem_cons_of_mem _ List.mem_cons_self)), pkOf_m gr.nf⟩)) (by decide) (by decide) fun _ q => q
  · have hok : ok = true := Classical.not_not.mp hc
    subst hok
    have hkb := gr.kb
    have hrd := gr.rd rfl
    refine exr_cons G (xr (v_and (v_cmp (d1 := dY (octs (laysOf 7 5 600 x y k body))) ?_ (v_cell G rfl rfl rfl rfl) rfl cv_eqY) (v_cmp (d1 := dL ((rowsOf 7 5 600 x y [row]).map rowD)) (d2 := dL ((rowsOf 7 5 600 x y [row]).map rowD)) ?_ ?_ rfl (cv_eqL G (by decide) ?_))) rfl)
    · refine e_call G ?_ rfl rfl ?_ rfl rfl rfl (vl_cons (d := dFn w _ _ 406 80 (· = .val (dY (octs (laysOf 7 5 600 x y k body))))) rfl ?_ vl_nil) (op_callS G (t_wordV w G.hi fun _ q => nomatch q) (by decide) (by decide) (fun _ q => nomatch q) fun _ q => q)
      (k_is)
      (k_is)
      refine v_lambda (clos := [(Str.ofString "rows", C.L + 1 + 1), (Str.ofString "row", C.L + 1)]) G [(Str.ofString "rows", dL ((rowsOf 7 5 600 x y []).map rowD)), (Str.ofString "row", rowD row)] rfl (by intro _ _ _; rfl) hcd Tq3 (by kernel_rfl) ?_ ?_ (no_local (by decide)) rfl rfl rfl (by decide) (by decide) ?_ (fun C' G e1 e2 => ?_)
      · show closureFor _ (envX C.cn _ C.L C.a C.ccd C.cl) = _
        rw [hcl]; rfl
      · exact clos_sub fun p m => by
          rcases List.mem_cons.mp m with rfl | m
          · exact l1
          · rw [List.mem_singleton.mp m]; exact l2
      · intro x d e
        rcases lk_cons e with ⟨rfl, rfl⟩ | ⟨_, e⟩
        · exact ⟨rfl, rfl, _, rfl⟩
        rcases lk_cons e with ⟨rfl, rfl⟩ | ⟨_, e⟩
        · exact ⟨rfl, rfl, _, rfl⟩
        · cases e
      · k_with "ve c" => ((with_reducible apply v_free G); rfl; exact e2 _ _ rfl rfl; rfl; rfl; rfl)
        k_with "v2" => with_reducible apply o_addL G
        k_extra "x1"
        exact op_call G (fun I hI => t_packV w hI (n1 := 7) (n2 := 5) (t := 600) (x := x) (y := y) (r := row) (z := rowB k body) (by decide) (by decide) (by decide) (by omega) (by omega) gr.pk gr.nf (by rw [rowB_size]; omega)) (by decide) (by decide) fun _ q => q.trans (by rw [lays_cat])
    · refine e_call G ?_ rfl rfl ?_ rfl rfl rfl (vl_cons (d := dFn w _ _ 406 80 (· = .val (dL ((rowsOf 7 5 600 x y [row]).map rowD)))) rfl ?_ vl_nil) (op_callS G (t_wordV w G.hi fun _ q => nomatch q) (by decide) (by decide) (fun _ q => nomatch q) fun _ q => q)
      (k_is)
      (k_is)
      refine v_lambda (clos := [(Str.ofString "whole", C.L + 1 + 1 + 1)]) G [(Str.ofString "whole", dY (octs (laysOf 7 5 600 x y k body)))] rfl (by intro _ _ _; rfl) hcd Tq3 (by kernel_rfl) ?_ ?_ (no_local (by decide)) rfl rfl rfl (by decide) (by decide) ?_ (fun C' G e1 e2 => ?_)
      · show closureFor _ (envX C.cn _ C.L C.a C.ccd C.cl) = _
        rw [hcl]; rfl
      · exact clos_sub fun p m => by rw [List.mem_singleton.mp m]; exact l3
      · intro x d e
        rcases lk_cons e with ⟨rfl, rfl⟩ | ⟨_, e⟩
        · exact ⟨rfl, rfl, _, rfl⟩
        · cases e
      · k_with "ve c" => ((with_reducible apply v_free G); rfl; exact e2 _ _ rfl rfl; rfl; rfl; rfl)
        k_extra "x1"
        exact op_call G (fun I hI => t_unp w hI (ls := laysOf 7 5 600 x y k body) (lays_ok (by omega) (by omega) hkb.1 hrd.1) (Nat.le_of_ble_eq_true rfl)) (by decide) (by decide) fun _ q => q.trans (by rw [unp_lays (by decide) (by decide) (by decide) (by omega) (by omega), hrd.2]; exact unp_rows gr.nf)
    · refine v_bin (d1 := dL ((rowsOf 7 5 600 x y []).map rowD)) (d2 := dL [rowD row]) (v_cell G rfl rfl rfl rfl) (v_list G (vl_cons rfl (v_cell G rfl rfl rfl rfl) vl_nil) (Nat.le_of_ble_eq_true rfl)) (o_addL G (Nat.le_of_ble_eq_true rfl))
    · intro d m
      obtain ⟨r, mr, rfl⟩ := List.mem_map.mp m
      refine sm_T (sm_cons (fun _ => same_S) ?_) 99
      unfold rowsOf at mr
      simp only [List.mem_cons, List.not_mem_nil, or_false] at mr
      rcases mr with rfl | rfl | rfl | rfl
      · exact sm_cons (fun _ => same_I) (sm_cons (fun _ => same_Y) sm_nil)
      · exact sm_cons (fun _ => same_I) (sm_cons (fun _ => same_Y) sm_nil)
      · exact sm_cons (fun _ => same_I) sm_nil
      · exact gr.sm
end

set_option linter.unusedSimpArgs false
set_option linter.unusedVariables false
theorem rows2_T19 : True := by
  k_with_none
  k_with "w enter" => (refine' ct_enter ?cI ?cr ?co ?cc ?cb ?cl ?cn ?c1 ?c2 ?c3 ?c4 ?_; (case cI => assumption); (case cr => decide); (case co => k_is); (case cc => k_is); (case cb => (intro s vs hv; first | (obtain rfl := len0 hv; exact BindsTo.of_eq rfl) | (obtain ⟨a, rfl⟩ := len1 hv; exact BindsTo.of_eq rfl) | (obtain ⟨a, b, rfl⟩ := len2 hv; exact BindsTo.of_eq rfl) | (obtain ⟨a, b, c, rfl⟩ := len3 hv; exact BindsTo.of_eq rfl) | (obtain ⟨a, b, c, d, rfl⟩ := len4 hv; exact BindsTo.of_eq rfl))); (case cl => first | exact (fun _ h => absurd h List.not_mem_nil) | (simp only [List.map, List.mem_cons, List.not_mem_nil, or_false, forall_eq_or_imp, forall_eq]; decide)); (case cn => rfl); (case c1 => rfl); (case c2 => rfl); (case c3 => rfl); (case c4 => decide); intro C G _ _ e3; (dsimp only [List.map, List.zip, List.zipWith, List.reverse, List.reverseAux]); (try k_fold))
  k_with "v1" => (first
    | ((with_reducible show Ev _ _ _ _ _ _); (first | k_extra "ve c" | k_extra "ve"))
    | ((with_reducible show Op2 _ _ _ _ _ _ _ _); k_extra "v2")
    | ((with_reducible show EvL _ _ _ _ _ _); k_extra "vl")
    | ((with_reducible show OpL _ _ _ _ _ _ _); (first | k_extra "vo c" | k_extra "vo"))
    | ((with_reducible show Tst _ _ _ _ _ _); k_extra "vt")
    | ((with_reducible show Cm2 _ _ _ _ _ _ _ _); k_extra "vm")
    | ((with_reducible show EvP _ _ _ _ _ _); k_extra "vp")
    | k_extra "vs")
  k_with "ve c" => fail
  k_with "vo c" => fail
  k_with "ve" => (first
    | ((with_reducible apply v_name G); rfl; rfl; rfl)
    | with_reducible exact v_int
    | with_reducible apply v_bin
    | with_reducible apply v_slice G
    | with_reducible apply v_sub
    | ((with_reducible apply v_globI G); k_is; rfl; rfl)
    | ((with_reducible apply e_call G); k_is; rfl; rfl; k_is; rfl; rfl; rfl)
    | ((with_reducible apply v_bcall (f := Str.ofString "len") (id := "len") G); k_is; boot_fast; decide; rfl; rfl; rfl; rfl; rfl)
    | ((with_reducible apply v_tcall (f := Str.ofString "bytes") (id := "bytes") G); k_is; boot_fast; decide; rfl; rfl; rfl; rfl; rfl)
    | ((with_reducible apply v_tcall (f := Str.ofString "tuple") (id := "tuple") G); k_is; boot_fast; decide; rfl; rfl; rfl; rfl; rfl)
    | ((with_reducible apply v_tcall (f := Str.ofString "int") (id := "int") G); k_is; boot_fast; decide; rfl; rfl; rfl; rfl; rfl)
    | with_reducible apply v_tuple G
    | with_reducible apply v_list G
    | with_reducible exact v_str
    | with_reducible apply v_bytes
    | ((with_reducible apply v_globV G); k_is; rfl; rfl)
    | ((with_reducible apply v_if1); (focus (k_extra "v go"; done)); (first | omega | decide))
    | ((with_reducible apply v_if2); (focus (k_extra "v go"; done)); (first | omega | decide)))
  k_with "v2" => (first
    | with_reducible exact o_addI
    | with_reducible apply o_addY
    | with_reducible exact o_subI
    | with_reducible apply o_mulI
    | with_reducible apply o_modI
    | with_reducible apply o_divI
    | with_reducible apply o_itemY
    | with_reducible apply o_itemT
    | ((with_reducible apply o_itemTT G); (intro _ _; rfl); (intro _ _; rfl); (repeat' first | exact List.mem_cons_self | refine List.mem_cons_of_mem _ ?_)))
  k_with "vl" => (first | with_reducible exact vl_nil | ((with_reducible apply vl_cons); rfl))
  k_with "vo" => (first
    | with_reducible exact o_len
    | with_reducible apply o_bytes1 G
    | with_reducible apply o_bytes2 G
    | with_reducible apply o_bytesN)
  k_with "vt" => (first
    | with_reducible apply tp_chain
    | with_reducible apply tp_cmp
    | with_reducible apply tp_not
    | with_reducible apply tp_or)
  k_with "vm" => (first
    | with_reducible exact cp_lt
    | with_reducible exact cp_le
    | with_reducible exact cp_gt
    | with_reducible exact cp_eq
    | with_reducible exact cp_ne
    | with_reducible exact cp_eqs
    | with_reducible exact cp_in3
    | with_reducible exact cp_first G
    | with_reducible exact cp_tt G)
  k_with "vp" => (first | with_reducible exact p_none | with_reducible apply p_some)
  k_with "vs" => (first
    | ((with_reducible intro _ _ _); rfl)
    | ((with_reducible intro _ _); rfl)
    | rfl
    | exact Nat.le_of_ble_eq_true rfl
    | omega
    | decide
    | (simp only [Array.size_append, be2_size, be4_size, byteArr_size, List.length_cons, List.length_nil]; omega))
  k_with "v go" => repeat' (k_extra "v1")
  k_with "x1" => (first
    | with_reducible apply ex_cons
    | with_reducible apply ex_nil
    | ((with_reducible apply xr); (focus (k_extra "v go"; done)))
    | ((with_reducible apply xa G); (focus (k_extra "v go"; done)); rfl; rfl)
    | ((with_reducible apply xi); (focus (k_extra "v go"; done)); (all_goals try (intro hc; try (exfalso; first | omega | exact absurd hc (by decide) | exact hc (by decide)))))
    | with_reducible apply ex_break
    | ((with_reducible apply ex_none (e := Expr.Call (Expr.Name _ _) _ _ _)); rfl; rfl)
    | ((with_reducible refine' ex_raise G ?zzW ?zzdl ?zzn ?zzk ?zzd ?zzi ?_); (case zzn => k_is); (case zzk => rfl); (case zzd => rfl); (case zzi => k_is); (case zzdl => decide); (case zzW => first | exact exc44 w | exact exc56 w))
    | ((with_reducible refine' ex_assignT G ?zzq ?zzx ?zzn ?zze ?zzf ?zzs ?zzw ?_); (case zzq => rfl); (case zzn => rfl); (case zze => rfl); (case zzf => rfl); (case zzs => rfl); (case zzw => rfl); (case zzx => decide))
    | ((with_reducible apply ex_assignS (names := [_, _]) G); (case hw => rfl); (case hs => rfl); (case hx => decide))
    | with_reducible refine ex_ret ?_
    | ((with_reducible refine' ex_assign G ?zza ?zzb ?_); (case zza => rfl); (case zzb => rfl))
    | ((with_reducible apply ev_of); (focus (k_extra "v go"; done)))
    | ((with_reducible apply e_call G); k_is; rfl; rfl; k_is; rfl; rfl; rfl; (focus (k_extra "v go"; done)))
    | ((with_reducible refine' ev_call G ?zzn ?zzk ?zzd ?zzi ?zzc ?zzs ?zzx ?_); (case zzn => k_is); (case zzk => rfl); (case zzd => rfl); (case zzi => k_is); (case zzc => rfl); (case zzs => rfl); (case zzx => rfl))
    | with_reducible refine ev_binop ?_
    | ((with_reducible refine' evl_cons ?zzs ?_); (case zzs => rfl))
    | with_reducible refine evl_nil ?_
    | ((with_reducible refine' op_add_bytes ?zza ?_); (case zza => first | omega | (simp only [Array.size_append, be2_size, be4_size, byteArr_size, List.length_cons, List.length_nil]; omega)))
    | ((with_reducible refine' ex_dT ?zza ?_); (case zza => rfl); (try dsimp only [insD, namesOf, nameOf, List.foldr, List.append, List.cons_append, List.nil_append, List.map, List.zip, List.zipWith, List.reverse, List.reverseAux]))
    | (refine ve_exc ?_; first | trivial | omega | (simp only [Array.size_append, byteArr_size, be2_size, be4_size, List.length_cons, List.length_nil] at h; omega))
    | (refine ve_val ?_ ?_; (first | trivial | omega | (simp only [Array.size_append, byteArr_size, be2_size, be4_size, List.length_cons, List.length_nil] at h; omega)); (first | rfl | skip))
    | (exfalso; simp only [Array.size_append, byteArr_size, be2_size, be4_size, List.length_cons, List.length_nil] at h; omega))
  k_with "x go" => repeat' (k_extra "x1")
  trivial

set_option linter.unusedSectionVars false
def smallX : Array UInt8 := Array.replicate (Int.toNat 300) 0
def smallR : List Row := rowsOf 7 5 9 ([97] : List UInt8).toArray ([98] : List UInt8).toArray [(Str.ofString "other", [dI 9, dY smallX])]
def smallL : List Lay := laysOf 7 5 9 ([97] : List UInt8).toArray ([98] : List UInt8).toArray 9 smallX
theorem small_pk (w : World) : PkIs w (Str.ofString "other", [dI 9, dY smallX]) (some (rowB 9 smallX)) := fun hs I hI => (t_pk0 w hI (k := 9) (b := smallX) (by decide)).mono fun o q => by
  rcases q with ⟨_, rfl⟩ | ⟨x, _⟩
  · rfl
  · exact absurd x (by unfold smallX; rw [Array.size_replicate]; decide)
theorem small_nf : FW.any (fun y => y == Str.ofString "other") = false := by decide +kernel
theorem small_unp : unp smallL [] = .val (dL (smallR.map rowD)) := by
  have e : rdR 9 smallX = some (Str.ofString "other", [dI 9, dY smallX]) := by
    unfold rdR
    rw [if_neg (by decide), if_neg (by decide), if_neg (by decide), if_neg (by decide), if_neg (by decide), if_neg (by decide), if_neg (by decide)]
  unfold smallL
  rw [unp_lays (by decide) (by decide) (by decide) (by decide) (by decide), e]
  exact unp_rows small_nf
theorem small_sm : ∀ d ∈ smallR.map rowD, Same 100 d := fun d m => by
  obtain ⟨r, mr, rfl⟩ := List.mem_map.mp m
  refine sm_T (sm_cons (fun _ => same_S) ?_) 99
  unfold smallR rowsOf at mr
  simp only [List.mem_cons, List.not_mem_nil, or_false] at mr
  rcases mr with rfl | rfl | rfl | rfl
  · exact sm_cons (fun _ => same_I) (sm_cons (fun _ => same_Y) sm_nil)
  · exact sm_cons (fun _ => same_I) (sm_cons (fun _ => same_Y) sm_nil)
  · exact sm_cons (fun _ => same_I) sm_nil
  · exact sm_cons (fun _ => same_I) (sm_cons (fun _ => same_Y) sm_nil)
section
variable {w : World} {sc : Scope} {dl ul : Nat} {C : Cx} {ρ : List (Str × D)}
theorem v_bool {b : Bool} {k : Nat} {pos : Pos} : EvV w sc C ρ (.Constant (.bool b) k pos) (dB b) := .mk fun s Q E F _ hq _ => wpAny_Constant_bool (hq _ _ s.heap s.toks rfl F (KK.refl _) rfl)
theorem broken_size {b : Array UInt8} (h : Broken b) : b.size ≤ 100000 := by
  obtain ⟨ls, rfl, h1, h2, _⟩ := h
  have := sum_le 513 (ls.map layB) 0 fun z m => by
    obtain ⟨p, mp, rfl⟩ := List.mem_map.mp m
    unfold layB; rw [rowB_size]; have := (h1 p mp).2; omega
  rw [List.length_map] at this
  rw [catB, cat_size]
  show List.foldl _ 0 _ ≤ _
  omega
theorem op_fbroken (G : Good w sc dl ul C) {a : Addr} (S : Src C.hid C.I a) {P : Out D → Prop} (h1 : dl ≤ 514) (h2 : ul ≤ 220) (hp : ∀ b, Broken b → P (.val (dY b))) : OpL w sc C ρ (callF (.ref 250)) [dV (.ref a)] P :=
  op_callS G (t_fbroken w G.hi S) h1 h2 (fun _ ⟨_, e, _⟩ => nomatch e) fun _ ⟨b, e, hb⟩ => by cases e; exact hp b hb
theorem op_pool (G : Good w sc dl ul C) {ns : List Int} {P : Out D → Prop} (hn : ns.length ≤ 1000) (h1 : dl ≤ 520) (h2 : ul ≤ 250) (hp : ∀ i j, (0 ≤ i ∧ 0 ≤ j ∧ j < 2147483647) → P (.val (dO C.g [dI i, dI j]))) : OpL w sc C ρ (callF (.ref 173)) [dLI (ns.map dI), dI 0] P := by
  intro vs; refine .mk fun s Q E F r hq he => ?_
  obtain ⟨hI0, m, F1, R⟩ := id F
  obtain ⟨mean, mg, mb, T⟩ := G.T
  refine wpAny_weaken (t_pool w G.hi hn vs (C.env sc :: C.outer) C.base (hideAll s.heap C.hid) s mean mg mb Q E (below_hid G F1) (below_hid G F1) (fun h _ k b o e => k b o (fun m => by rw [hideAll_none _ m] at e; cases e) (of_hideAll _ e)) (Nat.le_of_eq (hideAll_size _ _)) (G.X.keeps (stays_hid G F1)) (T.keeps (stays_hid G F1)) hI0 r
    (fun d v h' tk' p i k r' => ?_) (fun c e h' tk' p fl => by obtain ⟨_, _, q, _⟩ := p; cases q)) G.hh G.hA (Nat.le_trans G.dep h1) (Nat.le_trans G.uni h2)
  obtain ⟨x, y, q, hxy⟩ := p
  cases q
  have kk : KK C s.heap h' := fun b o n e => k b o (fun z => n (List.mem_cons_of_mem _ z)) e
  obtain ⟨a, vs, rfl, ga, q⟩ := r'
  refine hq _ _ h' tk' (hp x y hxy) ⟨i, m, ⟨F1.ns.at' fun o q => k _ _ (L_not_hid G F1) q, fun b o e => k _ _ (fun z => by rw [G.hidn b z] at e; cases e) (F1.keep b o e), F1.above⟩, fun x d e => let ⟨v, e1, r⟩ := R x d e; ⟨v, e1, d.mono _ _ _ kk.z r⟩⟩ kk ⟨a, vs, rfl, ?_, q⟩
  cases z : C.g.get? a with
  | none => rfl
  | some o => have := stays_hid G F1 _ _ z; rw [ga] at this; cases this
end
def prs : List (Int × Int) := [(0, 1), (1, 0), (256, 1), (1, 256)]
def prD (p : Int × Int) : D := dT [dI p.1, dI p.2]
theorem prs_bad {x y : Array UInt8} (i : Nat) (hi : i < prs.length) (hx : (x.size : Int) = (prs.getD i (0, 0)).1) (hy : (y.size : Int) = (prs.getD i (0, 0)).2) : none ∈ (rowsOf 7 5 600 x y []).map (pkOf (pkN 1 7 x) (pkN 2 5 y) (some (rowB 3 (be2 600))) none) := by
  show none ∈ [pkN 1 7 x, pkN 2 5 y, some (rowB 3 (be2 600))]
  have hi' : i < 4 := hi
  have : i = 0 ∨ i = 1 ∨ i = 2 ∨ i = 3 := by omega
  rcases this with rfl | rfl | rfl | rfl
  · have : (x.size : Int) = 0 := hx
    rw [pkN, if_neg (by omega)]; exact List.mem_cons_self
  · have : (y.size : Int) = 0 := hy
    rw [pkN, pkN, if_neg (c := 1 ≤ y.size ∧ _) (by omega)]; exact List.mem_cons_of_mem _ List.mem_cons_self
  · have : (x.size : Int) = 256 := hx
    rw [pkN, if_neg (by omega)]; exact List.mem_cons_self
  · have : (y.size : Int) = 256 := hy
    rw [pkN, pkN, if_neg (c := 1 ≤ y.size ∧ _) (by omega)]; exact List.mem_cons_of_mem _ List.mem_cons_self
theorem prs_in (i : Nat) (hi : i < prs.length) : (0 ≤ (prs.getD i (0, 0)).1 ∧ (prs.getD i (0, 0)).1 ≤ 300) ∧ 0 ≤ (prs.getD i (0, 0)).2 ∧ (prs.getD i (0, 0)).2 ≤ 300 := by
  have hi' : i < 4 := hi
  have : i = 0 ∨ i = 1 ∨ i = 2 ∨ i = 3 := by omega
  rcases this with rfl | rfl | rfl | rfl <;> decide
def lawP (o : SOut) : Prop := match o with | .ret d => d = dB true | _ => False
section
variable (w : World) {hs : List Addr} {I : Heap → Prop} (hI : HI hs I)
include hI
theorem t_law {ns : List Int} (hn : ns.length ≤ 1000) (Tg : Own hs I 231 (TabIs 231 (lamQ (Str.ofString "_law_great_right")))) (Tl : Own hs I 252 (TabIs 252 (lamQ (Str.ofString "law")))) : CTWo (· = []) w hs I 400 50 257 [dLI (ns.map dI)] (· = dB true) := by
  refine' ct_enterWo (x := Str.ofString "script") hI ?cr ?co ?cc ?cb ?cx ?cn ?c1 ?c2 ?c3 ?_
  (case cr => decide)
  (case co => k_is)
  (case cc => k_is)
  (case cb => (intro s v; exact BindsTo.of_eq rfl))
  (case cx => rfl)
  (case cn => decide)
  (case c1 => rfl)
  (case c2 => rfl)
  (case c3 => rfl)
  intro C G K hcl hgh hst hcd hcn XB TB hO
  have lb : C.cl.lookup (Str.ofString "broken") = some (C.L + 1) := by rw [hcl]; rfl
  have ls : C.cl.lookup (Str.ofString "small") = some (C.L + 1 + 1) := by rw [hcl]; rfl
  have lw : C.cl.lookup (Str.ofString "whole") = some (C.L + 1 + 1 + 1) := by rw [hcl]; rfl
  have lx : C.cl.lookup (Str.ofString "wrong") = some (C.L + 1 + 1 + 1 + 1) := by rw [hcl]; rfl
  have ns : ∀ b K', Own hs I b K' → C.L + 1 + 1 ≠ b := fun b K' O q => K.apart _ _ ls (q ▸ O.mem)
  have Tq : Own C.hid C.I 252 (TabIs 252 (lamQ C.cn)) := by rw [hcn]; exact K.own _ _ Tl
  have Gq : Own C.hid C.I 231 (TabIs 231 (lamQ (Str.ofString "_law_great_right"))) := K.own _ _ Tg
  have Ob := (K.cell _ _ lb)
  have Ow := (K.cell _ _ lw)
  have Ox := (K.cell _ _ lx)
  refine exr_ex G ?_
  refine ex_assignC G ls (K.cell _ _ ls) rfl rfl ?_
  k_extra "x1"
  intro vs G
  have Tq := Tq.cell (v := some vs) (ns _ _ Tl)
  have Gq := Gq.cell (v := some vs) (ns _ _ Tg)
  have Ob := Ob.cell (v := some vs) (ne1 _).symm
  have Ow := Ow.cell (v := some vs) (ne1 (C.L + 1))
  have Ox := Ox.cell (v := some vs) (ne2 (C.L + 1))
  refine ex_cons (xi (c := False) (tp_cmp (d1 := dL (smallR.map rowD)) (d2 := dL (smallR.map rowD)) ?_ (v_cell G rfl rfl rfl rfl) rfl (cp_neL G (by decide) small_sm)) (fun h => h.elim) fun _ => ex_nil ?_)
  · refine e_call G ?_ rfl rfl ?_ rfl rfl rfl (vl_cons (d := dFn w _ _ 406 80 (· = .val (dL (smallR.map rowD)))) rfl ?_ vl_nil) (op_callS G (t_wordV w G.hi fun _ q => nomatch q) (by decide) (by decide) (fun _ q => nomatch q) fun _ q => q)
    (k_is)
    (k_is)
    refine v_lambda (clos := [(Str.ofString "small", C.L + 1 + 1)]) G [(Str.ofString "small", dL (smallR.map rowD))] rfl (by intro _ _ _; rfl) hcd Tq (by kernel_rfl) ?_ ?_ (no_local (by decide)) rfl rfl rfl (by decide) (by decide) ?_ (fun C' G e1 e2 => ?_)
    · show closureFor _ (envX C.cn _ C.L C.a C.ccd C.cl) = _
      rw [hcl]; rfl
    · exact clos_sub fun p m => by rw [List.mem_singleton.mp m]; exact ls
    · intro x d e
      rcases lk_cons e with ⟨rfl, rfl⟩ | ⟨_, e⟩
      · exact ⟨rfl, rfl, _, rfl⟩
      · cases e
    · refine e_call G ?_ rfl rfl ?_ rfl rfl rfl (vl_cons (d := dY (octs smallL)) rfl (e_call G ?_ rfl rfl ?_ rfl rfl rfl (vl_cons rfl (v_free G rfl (e2 _ _ rfl rfl) rfl rfl rfl) vl_nil)
        (op_call G (fun I hI => t_packV w hI (n1 := 7) (n2 := 5) (t := 9) (x := ([97] : List UInt8).toArray) (y := ([98] : List UInt8).toArray) (r := (Str.ofString "other", [dI 9, dY smallX])) (z := rowB 9 smallX) (by decide) (by decide) (by decide) (by decide) (by decide) (small_pk w) small_nf (by rw [rowB_size]; unfold smallX; rw [Array.size_replicate]; decide)) (by decide) (by decide) fun _ q => q.trans (by unfold smallL; rw [lays_cat]))) vl_nil)
        (op_call G (fun I hI => t_unp w hI (ls := smallL) (lays_ok (by decide) (by decide) (by decide) (by unfold smallX; rw [Array.size_replicate]; decide)) (Nat.le_of_ble_eq_true rfl)) (by decide) (by decide) fun _ q => q.trans small_unp)
      (k_is)
      (k_is)
      (k_is)
      (k_is)
  have hi0 := G.hi
  refine ex_adopt G hst rfl rfl (e_call G ?_ rfl rfl ?_ rfl rfl rfl (vl_cons rfl (v_name G rfl rfl rfl) (vl_cons rfl v_int vl_nil)) (op_pool G hn (by decide) (by decide) fun i j hij => ⟨i, j, rfl, hij, fun a ha G => ?_⟩))
  (k_is)
  (k_is)
  have Sa := own_src hi0 ha
  have up : ∀ b K', Own (C.setc (Str.ofString "small") (C.L + 1 + 1) vs).hid (C.setc (Str.ofString "small") (C.L + 1 + 1) vs).I b K' → Own ((C.setc (Str.ofString "small") (C.L + 1 + 1) vs).src a).hid ((C.setc (Str.ofString "small") (C.L + 1 + 1) vs).src a).I b K' := fun b K' O => own_src' (C := C.setc (Str.ofString "small") (C.L + 1 + 1) vs) O fun q => ha (q ▸ O.mem)
  have Tq := up _ _ Tq
  have Gq := up _ _ Gq
  have Ob := up _ _ Ob
  have Ow := up _ _ Ow
  have Ox := up _ _ Ox
  refine ex_cons (ex_assignL G rfl (by decide) rfl rfl rfl rfl rfl (e_call G ?_ rfl rfl ?_ rfl rfl rfl (vl_cons rfl (v_name G rfl rfl rfl) (vl_cons rfl v_int (vl_cons rfl v_int vl_nil))) (op_first G (Src.of Sa) (by decide) (by decide) (by decide) fun x y hx hy => ⟨_, rfl, rfl, ?_⟩)))
  (k_is)
  (k_is)
  refine ex_cons (ex_for G brks.length (fun i => (brks.map kbD).getD i (dI 0)) (fun i ρ => (Str.ofString "body", dY (brks.getD i lay0).2) :: (Str.ofString "kind", dI (brks.getD i lay0).1) :: ρ)
    (fun i ρ' => lk ρ' (Str.ofString "source") = some (dV (.ref a)) ∧ lk ρ' (Str.ofString "octets") = some (dY (oct3 x y))) (fun _ => rfl) ⟨rfl, rfl⟩ (ev_call0 G ?_ rfl rfl ?_ rfl (op_VE G (fun _ q => t_broken w q) (by decide) (by decide) (fun _ => it_list G fun I ax i v s Q E hit q => letGo_listiter hit q) fun f => f.elim)) (fun i it o hi G' => ?_) (fun i ρ' it o hi hJ hit G => ?_) (fun ρ' hJ => ?_))
  (k_is)
  (k_is)
  · have : (brks.map kbD).getD i (dI 0) = dT [dI (brks.getD i lay0).1, dY (brks.getD i lay0).2] := by simp [hi, kbD]
    rw [this]
    exact asg_two G' rfl rfl rfl
  · obtain ⟨j1, j2⟩ := hJ
    have hp := brks_none (brks.getD i lay0) (by
      have : brks.getD i lay0 = brks[i] := by simp [hi]
      rw [this]; exact List.getElem_mem hi)
    generalize brks.getD i lay0 = p at hp
    have Tq := Tq.more (it := it) (o := o) (fun q => hit (q ▸ Tq.mem))
    have Ow := Ow.more (it := it) (o := o) (fun q => hit (q ▸ Ow.mem))
    have hw : oct3 x y ++ rowB p.1 p.2 ++ Array.replicate (Int.toNat 2) 0 = octs (laysOf 7 5 600 x y p.1 p.2) := by rw [lays_octs, be2_600]; rfl
    refine ex_assignC G lw Ow rfl rfl (ev_of (d := dY (octs (laysOf 7 5 600 x y p.1 p.2))) ?_ fun v G => ?_)
    · rw [← hw]
      k_with "ve c" => ((with_reducible apply v_name G); (first | exact j1 | exact j2); rfl; rfl)
      k_with "vo c" => with_reducible apply o_call G (fun _ q => t_laid w q ?_ ?_)
      k_with "vs" => (simp only [oct3, Array.size_append, rowB_size, byteArr_size, List.length_cons, List.length_nil, Array.size_replicate]; omega)
      k_extra "v go"
    · have Tq := Tq.cell (c := C.L + 1 + 1 + 1) (v := some v) (fun q => K.apart _ _ lw (q ▸ Tl.mem))
      refine ex_cons (xi (c := (Str.ofString "form" == Str.ofString "form") = false) (tp_cmp (d1 := dS (Str.ofString "form")) ?_ v_str rfl cp_nes) (fun h => absurd h (by decide)) fun _ => ex_nil (ex_nil ⟨[(Str.ofString "source", dV (.ref a)), (Str.ofString "octets", dY (oct3 x y))], fun z d e => ?_, rfl, rfl⟩))
      · refine e_call G ?_ rfl rfl ?_ rfl rfl rfl (vl_cons (d := dFn w _ _ 406 80 (· = .exc 44)) rfl ?_ vl_nil) (op_callW G hO XB TB (t_word w G.hi (R := (· = dS (Str.ofString "form"))) (fun _ p => nomatch p) (fun c p => .inl ⟨by cases p; rfl, rfl⟩)) (by decide) (by decide) fun _ q => congrArg Out.val q)
        (k_is)
        (k_is)
        refine v_lambda (clos := [(Str.ofString "whole", C.L + 1 + 1 + 1)]) G [(Str.ofString "whole", dY (octs (laysOf 7 5 600 x y p.1 p.2)))] rfl (by intro _ _ _; rfl) hcd Tq (by kernel_rfl) ?_ ?_ (no_local (by decide)) rfl rfl rfl (by decide) (by decide) ?_ (fun C' G e1 e2 => ?_)
        · show closureFor _ (envX C.cn _ C.L C.a C.ccd C.cl) = _
          rw [hcl]; rfl
        · exact clos_sub fun p m => by rw [List.mem_singleton.mp m]; exact lw
        · intro x d e
          rcases lk_cons e with ⟨rfl, rfl⟩ | ⟨_, e⟩
          · exact ⟨rfl, rfl, _, rfl⟩
          · cases e
        · refine e_call G ?_ rfl rfl ?_ rfl rfl rfl (vl_cons rfl (v_free G rfl (e2 _ _ rfl rfl) rfl rfl rfl) vl_nil) (op_call G (fun I hI => t_unp w hI (ls := laysOf 7 5 600 x y p.1 p.2) (lays_ok (by omega) (by omega) hp.2.1 hp.2.2) (Nat.le_of_ble_eq_true rfl)) (by decide) (by decide) fun _ q => q.trans (by rw [unp_lays (by decide) (by decide) (by decide) (by omega) (by omega), hp.1]))
          (k_is)
          (k_is)
      · rcases lk_cons e with ⟨rfl, rfl⟩ | ⟨_, e⟩
        · exact ⟨by decide, j1⟩
        rcases lk_cons e with ⟨rfl, rfl⟩ | ⟨_, e⟩
        · exact ⟨by decide, j2⟩
        · cases e
  obtain ⟨j1, _⟩ := hJ
  refine ex_cons (ex_for G 2 (fun i => dI i) (fun i ρ => (Str.ofString "turn", dI i) :: ρ) (fun _ ρ' => lk ρ' (Str.ofString "source") = some (dV (.ref a))) (fun _ => rfl) j1 (ev_of (d := dR 2) ?_ (it_range G (by decide))) (fun i it o _ G' => asg_name G' rfl) (fun i ρ' it o hi j1 hit G => ?_) (fun ρ' j1 => ?_))
  · refine v_tcall (f := Str.ofString "range") (id := "range") G ?_ ?_ ?_ ?_ ?_ ?_ ?_ ?_ (vl_cons (d := dI ((2 : Nat) : Int)) rfl v_int vl_nil) (o_range G)
    (k_is)
    (boot_fast)
    (decide)
    all_goals rfl
  · have Sa := Sa.more (it := it) (o := o) (fun q => hit (q ▸ Sa.mem))
    have Tq := Tq.more (it := it) (o := o) (fun q => hit (q ▸ Tq.mem))
    have Gq := Gq.more (it := it) (o := o) (fun q => hit (q ▸ Gq.mem))
    have Ob := Ob.more (it := it) (o := o) (fun q => hit (q ▸ Ob.mem))
    have haL : C.L + 1 ≠ a := fun q => ha (q ▸ (K.cell _ _ lb).mem)
    refine ex_assignC G lb Ob rfl rfl (ev_binop (e_call G ?_ rfl rfl ?_ rfl rfl rfl (vl_cons rfl (v_name G j1 rfl rfl) vl_nil) (op_fbroken G (Src.of Sa) (by decide) (by decide) fun b hb => ev_of (d := dY (Array.replicate (Int.toNat 2) 0)) ?_ (op_add_bytes (by have := broken_size hb; rw [Array.size_replicate]; omega) ?_))))
    (k_is)
    (k_is)
    · k_extra "v go"
    obtain ⟨lays, e1, e2, e3, e4⟩ := broken_octs hb
    rw [e1]
    intro v G
    have Sa := Sa.cell (v := some v) haL
    have Tq := Tq.cell (c := C.L + 1) (v := some v) (fun q => K.apart _ _ lb (q ▸ Tl.mem))
    have Gq := Gq.cell (c := C.L + 1) (v := some v) (fun q => K.apart _ _ lb (q ▸ Tg.mem))
    refine ex_cons (xi (c := (Str.ofString "form" == Str.ofString "form") = false ∨ ¬ (true = true)) (tp_or (tp_cmp (d1 := dS (Str.ofString "form")) ?_ v_str rfl cp_nes) (tp_not (tp_call (e_call G ?_ rfl rfl ?_ rfl rfl rfl (vl_cons rfl (v_name G j1 rfl rfl) vl_nil) (op_callW G hO XB TB (t_gr w G.hi Sa Gq) (by decide) (by decide) fun _ q => congrArg Out.val q))))) (fun h => h.elim (fun h => absurd h (by decide)) fun h => absurd rfl h) fun _ => ex_nil (ex_nil ⟨[(Str.ofString "source", dV (.ref a))], fun z d e => ?_, rfl⟩))
    · refine e_call G ?_ rfl rfl ?_ rfl rfl rfl (vl_cons (d := dFn w _ _ 406 80 (· = .exc 44)) rfl ?_ vl_nil) (op_callW G hO XB TB (t_word w G.hi (R := (· = dS (Str.ofString "form"))) (fun _ p => nomatch p) (fun c p => .inl ⟨by cases p; rfl, rfl⟩)) (by decide) (by decide) fun _ q => congrArg Out.val q)
      (k_is)
      (k_is)
      refine v_lambda (clos := [(Str.ofString "broken", C.L + 1)]) G [(Str.ofString "broken", dY (octs lays))] rfl (by intro _ _ _; rfl) hcd Tq (by kernel_rfl) ?_ ?_ (no_local (by decide)) rfl rfl rfl (by decide) (by decide) ?_ (fun C' G e1' e2' => ?_)
      · show closureFor _ (envX C.cn _ C.L C.a C.ccd C.cl) = _
        rw [hcl]; rfl
      · exact clos_sub fun p m => by rw [List.mem_singleton.mp m]; exact lb
      · intro x d e
        rcases lk_cons e with ⟨rfl, rfl⟩ | ⟨_, e⟩
        · exact ⟨rfl, rfl, _, rfl⟩
        · cases e
      · refine e_call G ?_ rfl rfl ?_ rfl rfl rfl (vl_cons rfl (v_free G rfl (e2' _ _ rfl rfl) rfl rfl rfl) vl_nil) (op_call G (fun I hI => t_unp w hI (ls := lays) e2 e3) (by decide) (by decide) fun _ q => q.trans e4)
        (k_is)
        (k_is)
    · (k_is)
    · (k_is)
    · rcases lk_cons e with ⟨rfl, rfl⟩ | ⟨_, e⟩
      · exact ⟨by decide, j1⟩
      · cases e
  refine ex_cons (ex_for G prs.length (fun i => (prs.map prD).getD i (dI 0)) (fun i ρ => (Str.ofString "port", dI (prs.getD i (0, 0)).2) :: (Str.ofString "chassis", dI (prs.getD i (0, 0)).1) :: ρ) (fun _ ρ' => lk ρ' (Str.ofString "source") = some (dV (.ref a))) (fun _ => rfl) j1 (ev_of (d := dL (prs.map prD)) ?_ (it_list G fun I ax i v s Q E hit q => letGo_listiter hit q)) (fun i it o hi G' => ?_) (fun i ρ' it o hi j1 hit G => ?_) (fun ρ' j1 => ?_))
  · show EvV _ _ _ _ _ (dL [dT [dI 0, dI 1], dT [dI 1, dI 0], dT [dI 256, dI 1], dT [dI 1, dI 256]])
    k_extra "v go"
  · have : (prs.map prD).getD i (dI 0) = dT [dI (prs.getD i (0, 0)).1, dI (prs.getD i (0, 0)).2] := by simp [hi, prD]
    rw [this]
    exact asg_two G' rfl rfl rfl
  · have Sa := Sa.more (it := it) (o := o) (fun q => hit (q ▸ Sa.mem))
    have Tq := Tq.more (it := it) (o := o) (fun q => hit (q ▸ Tq.mem))
    have Ox := Ox.more (it := it) (o := o) (fun q => hit (q ▸ Ox.mem))
    have hbad := fun (x y : Array UInt8) => prs_bad (x := x) (y := y) i hi
    have hin := prs_in i hi
    generalize prs.getD i (0, 0) = p at hbad hin
    refine ex_assignC G lx Ox rfl rfl (ev_sub (e_call G ?_ rfl rfl ?_ rfl rfl rfl (vl_cons rfl (v_name G j1 rfl rfl) (vl_cons rfl (v_name G rfl rfl rfl) (vl_cons rfl (v_name G rfl rfl rfl) vl_nil))) (op_first G (Src.of Sa) hin (by decide) (by decide) fun x y hx hy => ev_of v_int (o2_of (o_itemLR (i := 0) (fun _ _ => rfl) (by decide) rfl) fun v G => ?_))))
    (k_is)
    (k_is)
    have Tq := Tq.cell (c := C.L + 1 + 1 + 1 + 1) (v := some v) (fun q => K.apart _ _ lx (q ▸ Tl.mem))
    refine ex_cons (xi (c := (Str.ofString "size" == Str.ofString "size") = false) (tp_cmp (d1 := dS (Str.ofString "size")) ?_ v_str rfl cp_nes) (fun h => absurd h (by decide)) fun _ => ex_nil (ex_nil ⟨[(Str.ofString "source", dV (.ref a))], fun z d e => ?_, rfl⟩))
    · refine e_call G ?_ rfl rfl ?_ rfl rfl rfl (vl_cons (d := dFn w _ _ 406 80 (· = .exc 56)) rfl ?_ vl_nil) (op_callW G hO XB TB (t_word w G.hi (R := (· = dS (Str.ofString "size"))) (fun _ p => nomatch p) (fun c p => .inr ⟨by cases p; rfl, rfl⟩)) (by decide) (by decide) fun _ q => congrArg Out.val q)
      (k_is)
      (k_is)
      refine v_lambda (clos := [(Str.ofString "wrong", C.L + 1 + 1 + 1 + 1)]) G [(Str.ofString "wrong", dL ((rowsOf 7 5 600 x y []).map rowD))] rfl (by intro _ _ _; rfl) hcd Tq (by kernel_rfl) ?_ ?_ (no_local (by decide)) rfl rfl rfl (by decide) (by decide) ?_ (fun C' G e1 e2 => ?_)
      · show closureFor _ (envX C.cn _ C.L C.a C.ccd C.cl) = _
        rw [hcl]; rfl
      · exact clos_sub fun p m => by rw [List.mem_singleton.mp m]; exact lx
      · intro x d e
        rcases lk_cons e with ⟨rfl, rfl⟩ | ⟨_, e⟩
        · exact ⟨rfl, rfl, _, rfl⟩
        · cases e
      · refine e_call G ?_ rfl rfl ?_ rfl rfl rfl (vl_cons rfl (v_free G rfl (e2 _ _ rfl rfl) rfl rfl rfl) vl_nil) (op_call G (fun I hI => t_packX w hI (n1 := 7) (n2 := 5) (t := 600) (x := x) (y := y) (more := []) (e := none) (by decide) (by decide) (by decide) (Nat.le_of_ble_eq_true rfl) (fun _ m => nomatch m) (fun _ q => nomatch q) (hbad x y hx hy)) (by decide) (by decide) fun _ q => q)
        (k_is)
        (k_is)
    · rcases lk_cons e with ⟨rfl, rfl⟩ | ⟨_, e⟩
      · exact ⟨by decide, j1⟩
      · cases e
  exact ex_cons (xr v_bool rfl)
end

set_option linter.unusedSectionVars false
theorem codeAny_weaken {M : Model} {A : Around} {D U : Nat} {outer : List Env} {c : Code} {R : Result → Shared → Prop} {s : Shared} (h : codeAny M (AR D U outer) c R s) (h1 : A.handled = none) (h2 : A.frames = some outer) (h3 : A.depth ≤ D) (h4 : A.units ≤ U) : codeAny M A c R s := fun Γ p hc hΓ =>
  h Γ p hc ⟨hΓ.1.trans h1, Nat.le_trans hΓ.2.1 h3, fun l hl => hΓ.2.2.1 l (h2.trans hl), fun g hg => (nomatch hg), Nat.le_trans hΓ.2.2.2.2 h4⟩
abbrev tabs2 : List (Addr × Addr) := [(235, 231), (256, 252)]
def I0 (h : Heap) : Prop := TabIs 231 (lamQ (Str.ofString "_law_great_right")) h ∧ TabIs 252 (lamQ (Str.ofString "law")) h
theorem tabIs_but {h h' : Heap} {P b : Addr} {q : Str} (n : P ≠ b) (x : TabIs P q h) {oP : Obj} (hb : h.get? b = some oP) (hn : ¬ Codey oP) (k : ∀ x o, x ≠ b → h.get? x = some o → h'.get? x = some o) : TabIs P q h' := by
  obtain ⟨ps, e, t, c⟩ := x
  exact ⟨ps, k _ _ n e, t, fun pos cv e => codeRec_but (c pos cv e) hb hn k⟩
theorem tabIs_not {h : Heap} {P : Addr} {q : Str} (x : TabIs P q h) : ∃ o, h.get? P = some o ∧ ¬ Codey o := let ⟨ps, e, t, _⟩ := x; ⟨_, e, tab_not t⟩
theorem tabIs_codey {h h' : Heap} {P : Addr} {q : Str} {hs : List Addr} (m : P ∈ hs) (x : TabIs P q h) (k : ∀ b o, b ∈ hs ∨ Codey o → h.get? b = some o → h'.get? b = some o) : TabIs P q h' := by
  obtain ⟨ps, e, t, c⟩ := x
  refine ⟨ps, k _ _ (.inl m) e, t, fun pos cv e => ?_⟩
  obtain ⟨c', oc, vs, t', e1, g, d, hv⟩ := c pos cv e
  exact ⟨c', oc, vs, t', e1, k _ _ (.inr ⟨vs, _, t', d, hv⟩) g, d, hv⟩
theorem hi0 : HI [231, 252] I0 := ⟨fun h h' i k => ⟨tabIs_codey List.mem_cons_self i.1 k, tabIs_codey (List.mem_cons_of_mem _ List.mem_cons_self) i.2 k⟩, fun h i b m => by
  rcases List.mem_cons.mp m with rfl | m
  · exact tabIs_not i.1
  · rw [List.mem_singleton.mp m]; exact tabIs_not i.2⟩
theorem own231 : Own [231, 252] I0 231 (TabIs 231 (lamQ (Str.ofString "_law_great_right"))) := ⟨List.mem_cons_self, fun h i => i.1, fun h h' i k e => ⟨k, let ⟨o, e1, n⟩ := tabIs_not i.1; tabIs_but (by decide) i.2 e1 n e⟩⟩
theorem own252 : Own [231, 252] I0 252 (TabIs 252 (lamQ (Str.ofString "law"))) := ⟨List.mem_cons_of_mem _ List.mem_cons_self, fun h i => i.2, fun h h' i k e => ⟨let ⟨o, e1, n⟩ := tabIs_not i.2; tabIs_but (by decide) i.1 e1 n e, k⟩⟩
theorem ints_told {h : Heap} {vs : List Value} {ns : List Int} (x : IntsAre vs ns) : Rels h (ns.map dI) vs := by
  induction x with
  | nil => rfl
  | cons n t _ ih => exact ⟨_, _, rfl, ⟨t, rfl⟩, ih⟩
theorem tab_start {h : Heap} {P : Addr} {q : Str} (e : h.get? P = some (tabObj #[])) : TabIs P q h := ⟨#[], e, trivial, fun _ _ e => nomatch e⟩
theorem law_runs (w : World) {s : Shared} {mean : ExcName → Option Value} {mg mb : Str → Option Value} (KX : Frag.In (hd.heap_39 w.params) s.heap) (T : Top hd.view_39 LW0 mean mg mb s.heap) (hT : TabsAt tabs2 s.heap) {l : Addr} {vs : List Value} {ns : List Int} (hL : s.heap.IsList l vs.toArray) (hI : IntsAre vs ns) (hn : ns.length ≤ 1000) {R : Result → Shared → Prop}
    (hR : ∀ h' tk', Keep (ghostOf s.heap tabs2) h' → GrownAll tabs2 h' → R (.ok (.ret (.bool true))) { s with heap := h', toks := tk' }) : codeAny (model pr w) callerA (.call (.ref 257) ⟨[.ref l], []⟩) R s := by
  have e1 : s.heap.get? 231 = some (tabObj #[]) := (hT (235, 231) List.mem_cons_self).2
  have e2 : s.heap.get? 252 = some (tabObj #[]) := (hT (256, 252) (List.mem_cons_of_mem _ List.mem_cons_self)).2
  refine codeAny_weaken (t_law w hi0 hn own231 own252 [.ref l] [] (ghostOf s.heap tabs2) s mean mg mb R rfl ⟨rfl, fun _ _ e => e, trivial⟩ (ghost_K hT KX (by kernel_rfl)) (ghost_top hT T) ⟨tab_start e1, tab_start e2⟩ ⟨.ref l, [], rfl, ⟨l, vs, rfl, ghost_list hT hL, ints_told hI⟩, rfl⟩ (fun d v h' tk' p i k _ r => ?_)) rfl rfl (by decide) (by decide)
  subst p
  cases r
  refine hR h' tk' (fun b o e => ?_) ⟨let ⟨ps, e, _⟩ := i.1; ⟨ps, e⟩, let ⟨ps, e, _⟩ := i.2; ⟨ps, e⟩, trivial⟩
  exact k b o (fun m => nomatch m) (fun m => by have := hideAll_none (h := s.heap) _ m; rw [show (hideAll s.heap [231, 252]).get? b = some o from e] at this; cases this) (of_hideAll _ e)
end Mine
open Mine
set_option maxHeartbeats 8000000 in
theorem PySem.Challenge.cw_pf0383_01_holds : PySem.Challenge.rw_pf0383_01.Holds := by
  refine hd fun said => holds_open (q := hd.view_39) (loose := [Str.ofString "TEXT_TYPES"]) (Xt := XtK) (XP := XL hd.view_39 []) (Yf := Hook.obs (kmHook hd.heap_39 asK asK_is [231, 252])) (Ya := Hook.val (kmHook hd.heap_39 asK asK_is [231, 252])) (YP := Hook.says (kmHook hd.heap_39 asK asK_is [231, 252])) (N := 3610) left_run (Hook.of (kmHook hd.heap_39 asK asK_is [231, 252])) (Hook.keeps (kmHook hd.heap_39 asK asK_is [231, 252])) (fun s e => xl_of s (Bool.and_eq_true_iff.mp e).1) XL.keeps (by rfl) (by rfl) (by rfl) (fun s e => recFacts_of (Bool.and_eq_true_iff.mp e).2) (by rfl) said (by decide +kernel) ⟨rfl, rfl, rfl, rfl, rfl, by decide +kernel⟩ ?hw ?hc
  case hw => w_witness2
  k_fill
  intro w s₀ s₁ mg mb G Y fa o pm cd doc dV kV ho hdd hcd hD hmg hg args vals as hpre hlay hrd hwl hlo
  have KX := km_in_of Y
  km_tabs Y
  refine Ground.open G ?_
  intro T B D TE TW
  km_lay T hmg ho hdd cd
  wrow_args hpre hlay hrd hwl hlo
  refine enter_call ?_
  w_top on
  kn_posts
  have hfa : fa = 257 := by
    have := mg_of KX (Top.g T) (n := Str.ofString "law") (v := .ref 257) (by kernel_rfl)
    rw [this] at hmg
    cases hmg; rfl
  subst hfa
  refine law_runs w KX T hT9 (by assumption) (by assumption) (by omega) fun h' tk' k gr => ⟨⟨.inl ⟨_, .bool true, [], rfl, raisesW_false ?_, .bool true, ?_, unshared_nil⟩, k, rfl, hg⟩, gr⟩
  · wrow_none_raised
  · wrow_post
