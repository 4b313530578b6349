import PyProof.Rows.All
import Wide.All
import OpenK.AllK
import Wide.FinOn
import PySem.Challenge.RW_nt0554_01
set_option Elab.async false
set_option compiler.extract_closed false
set_option linter.all false
set_option maxRecDepth 100000
set_option maxHeartbeats 8000000
namespace Mine
section
open PySem PySem.W PyProof.Rows
/-- the top's statements without the names of the files -/
noncomputable def view : Program := { PySem.Challenge.pw_nt0554_01 with main := { PySem.Challenge.pw_nt0554_01.main with body := (match PySem.Challenge.pw_nt0554_01.main.body with
  | [a0, _, a2, a3, a4, _, a6, _, a8, a9, a10, a11, a12, a13, _, a15, a16, a17, _, a19, _, a21, _, a23, a24, a25, a26, a27] => [a0, a2, a3, a4, a6, a8, a9, a10, a11, a12, a13, a15, a16, a17, a19, a21, a23, a24, a25, a26, a27]
  | _ => []) } }
section
local macro_rules | `(tactic| o_law) => `(tactic| refine holds_law (by decide +kernel) fun said => ?_)
set_option hygiene false in
local macro_rules | `(tactic| o_head $H) => `(tactic| (refine holds_open (q := Mine.view) (loose := []) (Xt := fun s => xlAt Mine.view [] s && recOk (RowW.records PySem.Challenge.rw_nt0554_01.row.toRowW) s) (XP := XL Mine.view []) (Yf := Hook.obs $H) (Ya := Hook.val $H) (YP := Hook.says $H) (N := 3876) ?hl (Hook.of $H) (Hook.keeps $H) (fun s e => xl_of s (Bool.and_eq_true_iff.mp e).1) XL.keeps (by rfl) (by rfl) (by rfl) (fun s e => recFacts_of (Bool.and_eq_true_iff.mp e).2) (by rfl) (by first | assumption | decide +kernel) (by decide +kernel) ⟨rfl, rfl, rfl, rfl, rfl, by decide +kernel⟩ ?hw ?hc; (case hl => (intro w; show ((fencedOpening treeTable PySem.Challenge.pw_nt0554_01 w 3876).bind (topFrom treeTable PySem.Challenge.pw_nt0554_01 w 3876)).map _ = _; unfold fencedOpening topFrom; rw [Fast.te14082659384304107361, Fast.te10274390034422433532, Fast.te14289696077712309145, Fast.te4187177175401517315, Fast.te1435165496053646825, Fast.te14364793385576792824]; kernel_rfl!))))
open_top hd for PySem.Challenge.rw_nt0554_01
end
end
open PySem PySem.W PyProof.Rows PySem.Calls PySem.Spec PyProof.Rows.LCg
theorem calm1 : True := by (w_top off); first | walk1 | trivial
section
noncomputable abbrev prg : Program := PySem.Challenge.rw_nt0554_01.row.prog
noncomputable abbrev pp : Program := view

/-- what a call needs of the heap that stays as it is -/
structure Ok (w : World) (A : Around) (g : Heap) : Prop where
  B : ∃ base outer, Below A base outer g
  X : (hd.heap_1 w.params).In g
  T : ∃ mean mg mb, Top pp (looseW pp []) mean mg mb g
  hh : A.handled = none

noncomputable def Sub (g h : Heap) : Prop := (∀ b o, g.get? b = some o → h.get? b = some o) ∧ g.objs.size ≤ h.objs.size
noncomputable def Led (g h : Heap) (l : List (Addr × Obj)) : Prop := ∀ p ∈ l, h.get? p.1 = some p.2 ∧ g.get? p.1 = none
theorem Sub.refl (h : Heap) : Sub h h := ⟨fun _ _ e => e, Nat.le_refl _⟩
theorem Led.nil {g h : Heap} : Led g h [] := fun _ hp => nomatch hp
theorem Led.of {g h : Heap} {L : Addr} {l : List (Addr × Obj)} (N : News g L h l) : Led g h l := fun p hp => ⟨(N p hp).1, (N p hp).2.2⟩
theorem Led.sub {g h : Heap} {l l' : List (Addr × Obj)} (N : Led g h l) (hs : ∀ p ∈ l', p ∈ l) : Led g h l' := fun p hp => N p (hs p hp)

section
variable {w : World} {A : Around} {s : Shared} {g : Heap} {R : Result → Shared → Prop} {name qual : Str} {params : Arguments} {body : List Stmt} {scope : Scope} {dV kV doc pm cdv ct oc : Value} {an od : Option Addr} {osl : Array (Option Value)} {f : Addr} {args : Args} {binds : List (Str × Value)} {news : List (Addr × Obj)}

theorem enter (ok : Ok w A g) (hs : Sub g s.heap) (hl : Led g s.heap news)
    (ho : (hd.heap_1 w.params).lookup f = some ⟨oc, od, .func (fnOf name qual params body scope dV kV doc pm an cdv ct), osl⟩)
    (hcd : codeIn (hd.heap_1 w.params) cdv qual = true) (hroom : A.depth < recursionLimit)
    (hbind : BindsTo s (fnOf name qual params body scope dV kV doc pm an cdv ct) args binds) (hloc : ∀ y ∈ binds, scope.names.lookup y.1 = some .local)
    (h : ∀ base outer mean mg mb L h₁, Below A base outer g → (hd.heap_1 w.params).In g → Top pp (looseW pp []) mean mg mb g → Fr g L h₁ (fun y => binds.reverse.lookup y) → News g L h₁ news → (∀ p ∈ news, p.1 < L) →
      wpAny (model prg w) (A.deeper (envOf qual scope L f cdv)) (execs body (envOf qual scope L f cdv))
        (fun fl s' => R (.ok (.ret (match fl with | .ret v => v | _ => .none))) s') (fun _ _ => False) { s with heap := h₁, toks := s.toks + binds.length })
    (hcell : ∀ x ∈ scope.names, x.2 ≠ .cell) (hco : scope.isCoroutine = false) (hgen : scope.isGenerator = false) (hk : scope.kind = .function) :
    codeAny (model prg w) A (.call (.ref f) args) R s := by
  obtain ⟨base, outer, B⟩ := ok.B
  obtain ⟨mean, mg, mb, T⟩ := ok.T
  refine codeAny_call_def (fd := fnOf name qual params body scope dV kV doc pm an cdv ct) (body := body) (binds := binds) hroom (hs.1 _ _ (ok.X _ _ ho)) rfl (T.nolimit.keeps hs.1) (codeRec_of (ok.X.keeps hs.1) hcd) rfl hbind hcell hloc (fun h₁ hns hk₁ => ?_) hco hgen hk
  exact wpAny_mono (h base outer mean mg mb s.heap.objs.size h₁ B ok.X T ⟨hns, fun b o e => hk₁ b o (hs.1 b o e), hs.2⟩
    (fun p hp => ⟨hk₁ _ _ (hl p hp).1, Nat.ne_of_lt (Heap.lt_size (hl p hp).1), (hl p hp).2⟩) (fun p hp => Heap.lt_size (hl p hp).1)) (fun _ _ x => x) (fun _ _ x => x.elim)
end

section
variable {w : World} {A₀ : Around} {s : Shared} {base h₀ : Heap} {outer : List Env} {L : Addr} {m mg mb : Str → Option Value} {mean : ExcName → Option Value} {env : Env} {l : List (Addr × Obj)}

theorem site (B : Below A₀ base outer h₀) (F : Fr h₀ L s.heap m) (X : (hd.heap_1 w.params).In h₀) (T : Top pp (looseW pp []) mean mg mb h₀) (N : News h₀ L s.heap l) (W : List (Addr × Obj))
    (hW : ∀ p ∈ W, p ∈ l) (hf : env.frame = some L) (hk : env.scope.kind = .function) (hh : A₀.handled = none) :
    ∃ g, Ok w (A₀.deeper env) g ∧ Sub g s.heap ∧ Led g s.heap W ∧ (∀ p ∈ l, p.1 ∉ W.map (·.1) → g.get? p.1 = some p.2) ∧ (∀ b o, h₀.get? b = some o → g.get? b = some o) ∧ (∀ b o, s.heap.get? b = some o → b ∉ W.map (·.1) → g.get? b = some o) ∧
      ∃ lk, (∀ p ∈ l, p.1 ∉ W.map (·.1) → p ∈ lk) ∧ (∀ p ∈ lk, p ∈ l ∧ p.1 ∉ W.map (·.1)) ∧
      ∀ h' l', (∀ b o, g.get? b = some o → h'.get? b = some o) → Led g h' l' → Fr h₀ L h' m ∧ News h₀ L h' (l' ++ lk) := by
  have NW : News h₀ L s.heap W := fun p hp => N p (hW p hp)
  have hA : (A₀.deeper env).frames = some (env :: outer) := Around.frames_deeper B.stack
  have B' : Below A₀ base outer h₀ := B
  obtain ⟨FG, BG, st, -⟩ := groundX (R := fun _ _ => True) (A := A₀.deeper env) B' F NW hA hf hk
  have st : ∀ b o, h₀.get? b = some o → (hideAll s.heap (W.map (·.1))).get? b = some o := fun b o e => st b o e
  refine ⟨hideAll s.heap (W.map (·.1)), ⟨⟨base, _, BG⟩, X.keeps st, ⟨mean, mg, mb, T.keeps st⟩, hh⟩, ⟨fun b o e => of_hideAll _ e, Nat.le_of_eq (hideAll_size _ _)⟩,
    fun p hp => ⟨(NW p hp).1, hideAll_none _ (List.mem_map_of_mem hp)⟩, fun p hp hn => hideAll_get _ (N p hp).1 hn, st, fun b o e hn => hideAll_get _ e hn, l.filter (fun p => decide (p.1 ∉ W.map (·.1))), fun p hp hn => List.mem_filter.mpr ⟨hp, by simpa using hn⟩, fun p hp => ⟨(List.mem_filter.mp hp).1, by simpa using (List.mem_filter.mp hp).2⟩, fun h' l' keep hl' => ?_⟩
  obtain ⟨oL, es, ep, hLg, hLd, hLk, hLf⟩ := FG.ns
  refine ⟨⟨⟨oL, es, ep, keep L oL hLg, hLd, hLk, hLf⟩, fun b o e => keep b o (st b o e), F.above⟩, fun p hp => ?_⟩
  rcases List.mem_append.mp hp with hp | hp
  · refine ⟨(hl' p hp).1, fun q => ?_, ?_⟩
    · have := (hl' p hp).2; rw [q, hLg] at this; cases this
    · cases q : h₀.get? p.1 with
      | none => rfl
      | some o => have := (hl' p hp).2; rw [st _ _ q] at this; cases this
  · obtain ⟨hp, hn⟩ := List.mem_filter.mp hp
    exact ⟨keep _ _ (hideAll_get _ (N p hp).1 (by simpa using hn)), (N p hp).2⟩
end
theorem room1 {d a b n : Nat} (h : d + a < n) (hk : b ≤ a) : d + b < n := Nat.lt_of_le_of_lt (Nat.add_le_add_left hk d) h
theorem room2 {d a b c n : Nat} (h : d + a < n) (hk : c + b ≤ a) : d + c + b < n := Nat.add_assoc d c b ▸ room1 h hk
theorem roomU {A : Around} {env : Env} {a b : Nat} (h : A.units + a < cLine) (hk : 3 + b ≤ a) : (A.deeper env).units + b < cLine := room2 (d := A.units) h hk
theorem hideQ {α : Type} {M : Model} {A : Around} {t : Sem α} {Q : α → Shared → Prop} {E : Value → Shared → Prop} {s : Shared} (h : ∀ Q' : α → Shared → Prop, (∀ v s', Q v s' → Q' v s') → wpAny M A t Q' E s) : wpAny M A t Q E s := h Q fun _ _ x => x
theorem hideAE {α β : Type} {M : Model} {A A' : Around} {t : Sem α} {u : Sem β} {Q : β → Shared → Prop} {E E' : Value → Shared → Prop} {s : Shared} (h : ∀ Q' : β → Shared → Prop, (∀ v s', Q v s' → Q' v s') → wpAny M A t (fun _ s' => wpAny M A' u Q' E' s') E s) : wpAny M A t (fun _ s' => wpAny M A' u Q E' s') E s := h Q fun _ _ x => x
/-- the goal as a name: a motive then copies the name -/
theorem hideGoal {P : Prop} (h : ∀ G : Prop, (P → G) → G) : P := h P id
end
section
theorem word1 : True := by
  k_with_none
  trivial
theorem word2 : True := by
  k_with "m.enter" => ((rename Around => A9); cases A9; (have hh9 := Ok.hh (by assumption)); (dsimp only at hh9); subst hh9; (rename _ + _ < recursionLimit => hd9); (dsimp only at hd9); (try ((rename _ + _ < cLine => hu9); (dsimp only at hu9))); refine' enter (by assumption) (by assumption) ?k3 ?k6 ?k7 ?k8 ?k9 ?kB ?_ ?c5 ?c2 ?c3 ?c4; (case k3 => first | assumption | exact Led.nil); (case k6 => k_dflt k_is); (case k7 => k_dflt k_is); (case k8 => dsimp only; omega); (case k9 => exact BindsTo.of_eq rfl); (case c5 => decide); (case kB => exact locs rfl); (case c2 => exact rfl); (case c3 => exact rfl); (case c4 => exact rfl); k_whole; intro _ _ _ _ _ _ _ _ _ _ _ _ _; (have hst9 := Below.stack (by assumption)); (dsimp only at hst9); subst hst9; (try dsimp only); (try k_fold))
  trivial

/-- the mean of the text: half of it away from nought -/
noncomputable def rnd (t n : Int) : Int := if 0 ≤ t then ((2 * if t < 0 then -t else t) + n).fdiv (2 * n) else -((2 * if t < 0 then -t else t) + n).fdiv (2 * n)
section
variable {w : World} {A : Around} {s : Shared} {g : Heap} {R : Result → Shared → Prop}
theorem rounded_spec (ok : Ok w A g) (hs : Sub g s.heap) (hd : A.depth + 1 < recursionLimit) {tot many : Int} {t1 t2 : Tok} (hm : 0 < many) (hm2 : many < 1000)
    (hR : ∀ h' tk t, (∀ b o, g.get? b = some o → h'.get? b = some o) → R (.ok (.ret (.int (rnd tot many) t))) {s with heap := h', toks := tk}) :
    codeAny (model prg w) A (.call (.ref 270) ⟨[.int tot t1, .int many t2], []⟩) R s := by
  walk_at "m.enter"
  k_steps
  · rename_i hc
    simp only [rnd, if_pos hc] at hR
    exact hR _ _ _ (Fr.keep (by assumption))
  · rename_i hc
    simp only [rnd, if_neg hc] at hR
    exact hR _ _ _ (Fr.keep (by assumption))
theorem take_spec (ok : Ok w A g) (hs : Sub g s.heap) (hd : A.depth + 1 < recursionLimit) {S : Addr} {x y top : Int} {tx ty t1 : Tok} {n : Nat} (hm : 0 < top) (hm2 : top < 1000)
    (hS : Led g s.heap [(S, listOf #[.int x tx, .int y ty] n)])
    (hR : ∀ h' tk d t x' y' tx' ty', (∀ b o, g.get? b = some o → h'.get? b = some o) → Led g h' [(S, listOf #[.int x' tx', .int y' ty'] n)] → 0 ≤ d → d < top → R (.ok (.ret (.int d t))) {s with heap := h', toks := tk}) :
    codeAny (model prg w) A (.call (.ref 263) ⟨[.ref S, .int top t1], []⟩) R s := by
  walk_at "m.enter"
  k_steps
  · exact hR _ _ _ _ _ _ _ _ (Fr.keep (by assumption)) (Led.of (by assumption)) (Int.fmod_nonneg_of_pos _ hm) (Int.fmod_lt_of_pos _ hm)
  · have e1 : ∀ a b : Int, [a, b].getD (Int.toNat 1) 0 = b := fun _ _ => rfl
    have e0 : ∀ a b : Int, [a, b].getD (Int.toNat 0) 0 = a := fun _ _ => rfl
    simp only [e1, e0] at *
    have b1 : 0 ≤ (y * 39373 + 7).fmod 2147483647 := Int.fmod_nonneg_of_pos _ (by decide)
    have b2 : (y * 39373 + 7).fmod 2147483647 < 2147483647 := Int.fmod_lt_of_pos _ (by decide)
    generalize hv : (y * 39373 + 7).fmod 2147483647 = v at *
    k_steps
    exact hR _ _ _ _ _ _ _ _ (Fr.keep (by assumption)) (Led.of (by assumption)) (Int.fmod_nonneg_of_pos _ hm) (Int.fmod_lt_of_pos _ hm)
end
end
theorem calm2 : True := by (w_top off); first | walk1 | trivial
section
theorem word3 : True := by
  k_with_none
  trivial
theorem word4 : True := by
  k_with "m.enter" => ((rename Around => A9); cases A9; (have hh9 := Ok.hh (by assumption)); (dsimp only at hh9); subst hh9; (rename _ + _ < recursionLimit => hd9); (dsimp only at hd9); (try ((rename _ + _ < cLine => hu9); (dsimp only at hu9))); refine' enter (by assumption) (by assumption) ?k3 ?k6 ?k7 ?k8 ?k9 ?kB ?_ ?c5 ?c2 ?c3 ?c4; (case k3 => first | assumption | exact Led.nil); (case k6 => k_dflt k_is); (case k7 => k_dflt k_is); (case k8 => dsimp only; omega); (case k9 => exact BindsTo.of_eq rfl); (case c5 => decide); (case kB => exact locs rfl); (case c2 => exact rfl); (case c3 => exact rfl); (case c4 => exact rfl); k_whole; intro _ _ _ _ _ _ _ _ _ _ _ _ _; (have hst9 := Below.stack (by assumption)); (dsimp only at hst9); subst hst9; (try dsimp only); (try k_fold))
  trivial
section
variable {w : World} {A : Around} {s : Shared} {g : Heap} {R : Result → Shared → Prop}
theorem pool_spec (ok : Ok w A g) (hs : Sub g s.heap) (hd : A.depth + 1 < recursionLimit) {l : Addr} {vs : List Value} {ns : List Int}
    (hl : g.IsList l vs.toArray) (hi : IntsAre vs ns) (hlen : ns.length ≤ 63)
    (hR : ∀ h' tk S x' y' tx' ty' n, (∀ b o, g.get? b = some o → h'.get? b = some o) → Led g h' [(S, listOf #[.int x' tx', .int y' ty'] n)] → R (.ok (.ret (.ref S))) {s with heap := h', toks := tk}) :
    codeAny (model prg w) A (.call (.ref 256) ⟨[.ref l], []⟩) R s := by
  walk_at "m.enter"
  k_steps
  all_goals exact hR _ _ _ _ _ _ _ _ (Fr.keep (by assumption)) (Led.of (by assumption))
end
section
variable {w : World} {A₀ : Around} {s : Shared} {base h₀ : Heap} {outer : List Env} {L : Addr} {m mg mb : Str → Option Value} {mean : ExcName → Option Value} {env : Env} {l : List (Addr × Obj)} {Q E : Value → Shared → Prop}
theorem pool_at (B : Below A₀ base outer h₀) (F : Fr h₀ L s.heap m) (X : (hd.heap_1 w.params).In h₀) (T : Top pp (looseW pp []) mean mg mb h₀) (N : News h₀ L s.heap l) (hf : env.frame = some L) (hk : env.scope.kind = .function) (hh : A₀.handled = none)
    (hd : A₀.depth + 2 < recursionLimit) {a : Addr} {vs : List Value} {ns : List Int} (hl : h₀.IsList a vs.toArray) (hi : IntsAre vs ns) (hlen : ns.length ≤ 63)
    (hQ : ∀ S h' tk x' y' tx' ty' n, Fr h₀ L h' m → News h₀ L h' ((S, listOf #[.int x' tx', .int y' ty'] n) :: l) → (∀ p ∈ l, p.1 ≠ S) → Q (.ref S) {s with heap := h', toks := tk}) :
    wpAny (model prg w) (A₀.deeper env) (call (.ref 256) [.ref a]) Q E s := by
  obtain ⟨g, ok, hs, -, hg, h0, -, lk, k1, k2, k3⟩ := site B F X T N [] (fun _ h => nomatch h) hf hk hh
  refine wpAny_call (pool_spec ok hs hd (hl.at fun o e => h0 _ o e) hi hlen fun h' tk S x' y' tx' ty' n keep led => ?_)
  obtain ⟨F', N'⟩ := k3 h' _ keep led
  refine hQ S h' tk x' y' tx' ty' n F' (fun p hp => N' p ?_) (fun p hp e => ?_)
  · rcases List.mem_cons.mp hp with rfl | hp
    · exact .head _
    · exact List.mem_append_right _ (k1 p hp (by simp))
  · have h1 := hg p hp (by simp)
    have h2 := (led _ (.head _)).2
    rw [e] at h1
    rw [h1] at h2
    cases h2
theorem take_at (B : Below A₀ base outer h₀) (F : Fr h₀ L s.heap m) (X : (hd.heap_1 w.params).In h₀) (T : Top pp (looseW pp []) mean mg mb h₀) (N : News h₀ L s.heap l) (hf : env.frame = some L) (hk : env.scope.kind = .function) (hh : A₀.handled = none)
    (hd : A₀.depth + 2 < recursionLimit) {S : Addr} {x y top : Int} {tx ty t1 : Tok} {n : Nat} (hm : 0 < top) (hm2 : top < 1000) (hS : (S, listOf #[.int x tx, .int y ty] n) ∈ l)
    (hQ : ∀ h' tk d t x' y' tx' ty' l', Fr h₀ L h' m → News h₀ L h' l' → (S, listOf #[.int x' tx', .int y' ty'] n) ∈ l' → (∀ p ∈ l, p.1 ≠ S → p ∈ l') → (∀ p ∈ l', p = (S, listOf #[.int x' tx', .int y' ty'] n) ∨ (p ∈ l ∧ p.1 ≠ S)) → 0 ≤ d → d < top → Q (.int d t) {s with heap := h', toks := tk}) :
    wpAny (model prg w) (A₀.deeper env) (call (.ref 263) [.ref S, .int top t1]) Q E s := by
  obtain ⟨g, ok, hs, hW, hg, h0, -, lk, k1, k2, k3⟩ := site B F X T N [(S, listOf #[.int x tx, .int y ty] n)] (by intro p hp; rw [List.mem_singleton.mp hp]; exact hS) hf hk hh
  refine wpAny_call (take_spec ok hs hd hm hm2 hW fun h' tk d t x' y' tx' ty' keep led d0 d1 => ?_)
  obtain ⟨F', N'⟩ := k3 h' _ keep led
  refine hQ h' tk d t x' y' tx' ty' _ F' N' (.head _) (fun p hp e => List.mem_append_right _ (k1 p hp (by simpa using e))) (fun p hp => ?_) d0 d1
  rcases List.mem_append.mp hp with hp | hp
  · exact .inl (List.mem_singleton.mp hp)
  · exact .inr ⟨(k2 p hp).1, by simpa using (k2 p hp).2⟩
theorem take_atU (B : Below A₀ base outer h₀) (F : Fr h₀ L s.heap m) (X : (hd.heap_1 w.params).In h₀) (T : Top pp (looseW pp []) mean mg mb h₀) (N : News h₀ L s.heap l) (hf : env.frame = some L) (hk : env.scope.kind = .function) (hh : A₀.handled = none)
    (hd : A₀.depth + 2 < recursionLimit) {S : Addr} {x y top : Int} {tx ty t1 : Tok} {n : Nat} {G : Obj → List (Addr × Obj)} (hm : 0 < top) (hm2 : top < 1000) (U : UpdF S (listOf #[.int x tx, .int y ty] n) l G)
    (hQ : ∀ h' tk d t x' y' tx' ty', Fr h₀ L h' m → News h₀ L h' (G (listOf #[.int x' tx', .int y' ty'] n)) → 0 ≤ d → d < top → Q (.int d t) {s with heap := h', toks := tk}) :
    wpAny (model prg w) (A₀.deeper env) (call (.ref 263) [.ref S, .int top t1]) Q E s := by
  obtain ⟨pre, post, rfl, hG, h1, h2⟩ := U.split
  refine take_at B F X T N hf hk hh hd hm hm2 (List.mem_append_right _ (.head _)) fun h' tk d t x' y' tx' ty' l' F' N' hS' hl' _ d0 d1 => hQ h' tk d t x' y' tx' ty' F' (fun p hp => N' p ?_) d0 d1
  rw [hG] at hp
  rcases List.mem_append.mp hp with hp | hp
  · exact hl' p (List.mem_append_left _ hp) (h1 p hp)
  · rcases List.mem_cons.mp hp with rfl | hp
    · exact hS'
    · exact hl' p (List.mem_append_right _ (.tail _ hp)) (h2 p hp)
end
end
theorem calm3 : True := by (w_top off); first | walk1 | trivial
section
/-- a dict object with these entries -/
noncomputable def RawD (h : Heap) (d : Addr) (es : Array DictEntry) (ep : Nat) : Prop := ∃ o, h.get? d = some o ∧ o.ExactDict ∧ o.data = .dict es ep
theorem RawD.at {h h' : Heap} {d : Addr} {es : Array DictEntry} {ep : Nat} (x : RawD h d es ep) (e : ∀ o, h.get? d = some o → h'.get? d = some o) : RawD h' d es ep := let ⟨o, ho, r⟩ := x; ⟨o, e _ ho, r⟩
theorem RawD.lt {h : Heap} {d : Addr} {es : Array DictEntry} {ep : Nat} (x : RawD h d es ep) : d < h.objs.size := let ⟨_, ho, _⟩ := x; Heap.lt_size ho
theorem RawD.typeIs {s : Shared} {d : Addr} {es : Array DictEntry} {ep : Nat} (x : RawD s.heap d es ep) : s.TypeIs (.ref d) "dict" := let ⟨o, ho, hc, _⟩ := x; ⟨o, ho, hc.1⟩

section
variable {prog : Program} {w : World} {A : Around} {E : Value → Shared → Prop} {s : Shared}

theorem iter_raw {d : Addr} {es : Array DictEntry} {ep : Nat} {Q : Value → Shared → Prop} (hd : (d == sysModules) = false) (hm : RawD s.heap d es ep)
    (hQ : Q (.ref s.heap.objs.size) { s with heap := s.heap.push { cls := .type "dict_keyiterator", data := .fields #[.ref d, .int 0 0, .int es.size 0, .int ep 0] } }) :
    wpAny (model prog w) A (pyIter (.ref d)) Q E s := by
  have hT := hm.typeIs
  obtain ⟨o, ho, hc, hdat⟩ := hm
  refine wpAny_pyIter_slot hT F.slot_dict_iter (wpAny_call_entry F.slot_dict_iter hT F.entry_dict_iter ?_ (F.args_dict_iter_1 _))
  unfold Builtin.«dict.__iter__» Builtin.Dict.dictSlotNone
  refine wpAny_bind (wpAny_bind (wpAny_notOrdered_dict hT (wpAny_pure ?_)))
  show wpAny _ _ (Builtin.Dict.showsAll d >>= _) _ _ s
  unfold Builtin.Dict.showsAll
  simp only [hd, Bool.false_eq_true, if_false]
  refine wpAny_bind (wpAny_pure (wpAny_bind (wpAny_dictEntries ho hdat (wpAny_bind (wpAny_dictEpoch ho hdat ?_)))))
  refine wpAny_bind (wpAny_newObj_type (wpAny_pure ⟨_, rfl, "dict_keyiterator", _, ⟨_, Heap.get?_push_size _ rfl, rfl⟩, F.slot_dict_keyiterator_next.lookup, ?_⟩))
  simpa [rawInt] using hQ

theorem next_raw {it d : Addr} {i ep : Nat} {es : Array DictEntry} {e : DictEntry} {Q : Option Value → Shared → Prop} (hit : s.heap.IsKeyIter it d i es.size ep)
    (hm : RawD s.heap d es ep) (hx : es[i]? = some e)
    (hQ : ∀ h', h'.IsKeyIter it d (i + 1) es.size ep → Heap.SameBut it s.heap h' → Q (some e.key) { s with heap := h' }) :
    wpAny (model prog w) A (pyNext (.ref it)) Q E s := by
  have hT := hit.typeIs
  obtain ⟨o, ho, hc, hd⟩ := id hit
  obtain ⟨od, hod, -, hdd⟩ := hm
  unfold pyNext
  refine wpAny_bind (wpAny_attempt (wpAny_callSpecial?_slot (name := Str.ofString "__next__") hT F.slot_dict_keyiterator_next
    (wpAny_call_entry F.slot_dict_keyiterator_next hT F.entry_dict_keyiterator_next ?_ (F.args_dict_keyiterator_next_1 _))))
  refine wpAny_bind (wpAny_pure (wpAny_bind (wpAny_bind (wpAny_bind (wpAny_typeNameOfWhole_keyiter hT (wpAny_pure (wpAny_bind (wpAny_fieldsOf ho hd ?_))))))))
  have hown : Builtin.Dict_items.ownsTuple "dict_keyiterator" = false := by decide
  simp only [hown, Bool.false_eq_true, if_false]
  show wpAny _ _ (if (Value.ref d == Value.none) = true then _ else _) _ _ s
  rw [if_neg (show ¬ ((Value.ref d == Value.none) = true) from Bool.false_ne_true)]
  refine wpAny_bind (wpAny_pure (wpAny_bind (wpAny_dictEntries hod hdd ?_)))
  rw [if_neg (by simp)]
  refine wpAny_bind (wpAny_pure (wpAny_bind (wpAny_dictEpoch hod hdd ?_)))
  rw [if_neg (by simp)]
  refine wpAny_pure ?_
  simp only [show ¬ ((i : Int) < 0) from by omega, if_false, Int.toNat_natCast, hx]
  refine wpAny_bind (wpAny_bind (wpAny_typeNameOfWhole_keyiter hT (wpAny_pure (wpAny_bind (wpAny_isOneOf_keyiter hT ?_)))))
  show wpAny _ _ (setField (.ref it) 1 (rawInt ((i : Int) + 1)) >>= _) _ _ s
  refine wpAny_bind (wpAny_setField ho hd (by simp) ?_)
  have hit' : (s.heap.update it (Obj.mapFields (·.setIfInBounds 1 (rawInt ((i : Int) + 1))))).IsKeyIter it d (i + 1) es.size ep :=
    ⟨_, Heap.get?_update_self _ ho (Obj.isFreed_of_fields (Obj.data_mapFields hd _)), (Obj.cls_mapFields ..).trans hc, by rw [Obj.data_mapFields hd]; simp [rawInt]⟩
  refine wpAny_bind (wpAny_holding (wpAny_bind (wpAny_isOneOf_keyiter (s := { s with heap := s.heap.update it (Obj.mapFields (·.setIfInBounds 1 (rawInt ((i : Int) + 1)))) }) hit'.typeIs ?_)))
  show wpAny _ _ (pure e.key) _ _ _
  exact wpAny_pure (wpAny_pure ⟨_, rfl, wpAny_pure (hQ _ hit' (Heap.SameBut.update ..))⟩)

theorem next_raw_end {it d : Addr} {i ep : Nat} {es : Array DictEntry} {Q : Option Value → Shared → Prop} (hh : A.handled = none) (hit : s.heap.IsKeyIter it d i es.size ep)
    (hm : RawD s.heap d es ep) (hx : es[i]? = none)
    (hQ : ∀ h', Heap.ExtBut it s.heap h' → Q none { s with heap := h' }) : wpAny (model prog w) A (pyNext (.ref it)) Q E s := by
  have hT := hit.typeIs
  obtain ⟨o, ho, hc, hd⟩ := id hit
  obtain ⟨od, hod, -, hdd⟩ := hm
  unfold pyNext
  refine wpAny_bind (wpAny_attempt (wpAny_callSpecial?_slot (name := Str.ofString "__next__") hT F.slot_dict_keyiterator_next
    (wpAny_call_entry F.slot_dict_keyiterator_next hT F.entry_dict_keyiterator_next ?_ (F.args_dict_keyiterator_next_1 _))))
  refine wpAny_bind (wpAny_pure (wpAny_bind (wpAny_bind (wpAny_bind (wpAny_typeNameOfWhole_keyiter hT (wpAny_pure (wpAny_bind (wpAny_fieldsOf ho hd ?_))))))))
  have hown : Builtin.Dict_items.ownsTuple "dict_keyiterator" = false := by decide
  simp only [hown, Bool.false_eq_true, if_false]
  show wpAny _ _ (if (Value.ref d == Value.none) = true then _ else _) _ _ s
  rw [if_neg (show ¬ ((Value.ref d == Value.none) = true) from Bool.false_ne_true)]
  refine wpAny_bind (wpAny_pure (wpAny_bind (wpAny_dictEntries hod hdd ?_)))
  rw [if_neg (by simp)]
  refine wpAny_bind (wpAny_pure (wpAny_bind (wpAny_dictEpoch hod hdd ?_)))
  rw [if_neg (by simp)]
  refine wpAny_pure ?_
  simp only [show ¬ ((i : Int) < 0) from by omega, if_false, Int.toNat_natCast, hx]
  refine wpAny_bind (wpAny_bind (wpAny_typeNameOfWhole_keyiter hT (wpAny_pure ?_)))
  show wpAny _ _ (setField (.ref it) 0 .none >>= _) _ _ s
  refine wpAny_bind (wpAny_setField ho hd (by simp) ?_)
  show wpAny _ _ (newExc (.type "StopIteration") [] >>= _) _ _ _
  refine wpAny_bind ?_
  simp only [newExc, newTuple]
  refine wpAny_bind (wpAny_newObj_type ?_ (by size_fits))
  refine wpAny_bind (m := firstArgMember _ _) (wpAny_of_eq (a := Value.none) (by first | rfl | (simp only [firstArgMember]; rfl)) ?_)
  refine wpAny_newObj_type ?_ (by size_fits)
  simp only [raiseNew]
  refine wpAny_bind (wpAny_handled ?_)
  rw [show A.in1.handled = none from hh]
  refine wpAny_bind (wpAny_pure (wpAny_throw ?_))
  refine wpAny_bind (wpAny_isInstance (T := "StopIteration") (b := true) ⟨_, Heap.get?_push_size _ rfl, rfl⟩ isSubtype_stop ?_)
  exact wpAny_pure (hQ _ (((Heap.SameBut.update ..).extBut.push _).push _))

theorem walks_raw (hh : A.handled = none) (I d : Addr) (hne : d ≠ I) (es : Array DictEntry) (ep : Nat) :
    Walks prog w A I [I, d] [I] es.size (fun i v => ∃ e, es[i]? = some e ∧ v = e.key) (fun i h => h.IsKeyIter I d i es.size ep ∧ RawD h d es ep) where
  sub := fun b hb => by simp at hb; simp [hb]
  frame := fun _ _ _ st hk => ⟨st.1.at fun o e => hk I (by simp) o e, st.2.at fun o e => hk d (by simp) o e⟩
  item := fun i s Q E hi st hQ => by
    refine next_raw st.1 st.2 (e := es[i]) (by simp [hi]) fun h' hit' hs' => ?_
    exact hQ _ h' s.toks ⟨es[i], by simp [hi], rfl⟩ ⟨hit', st.2.at fun o e => hs'.extBut d o hne e⟩ fun b o hb e => hs'.extBut b o (fun h => hb (by simp [h])) e
  done := fun s Q E st hQ => next_raw_end hh st.1 st.2 (by simp) fun h' he' => hQ h' s.toks fun b o hb e => he' b o (fun h => hb (by simp [h])) e
  self := fun _ _ _ _ st hQ => wpAny_pyIter_keyiter st.1 hQ

theorem src_raw {d : Addr} {es : Array DictEntry} {ep : Nat} (lo : (d == sysModules) = false) : KdlSrc prog w "dict" d d es.size (fun i v => ∃ e, es[i]? = some e ∧ v = e.key) (fun h => RawD h d es ep) where
  type := fun _ hm => hm.typeIs
  there := fun _ hm => ⟨hm.lt, hm.lt⟩
  keep := fun _ _ hm hk => hm.at fun o e => hk d (.inl rfl) o e
  notList := by decide
  notTuple := by decide
  hint := fun _ _ _ _ hm hq => kdl_hint_dict hm.typeIs hq
  iter := fun _ _ hh hm => ⟨_, _, (fun _ _ hq => iter_raw lo hm hq), walks_raw hh _ d (Nat.ne_of_lt hm.lt) es ep, ⟨⟨_, Heap.get?_push_size _ rfl, rfl, rfl⟩, hm.at fun _ e => Heap.get?_push_of_some _ e⟩⟩
end
end
section
/-- an iterator: it moves by itself -/
noncomputable def It (o : Obj) : Bool := match o.data, o.cls with
  | .fields _, .type n => ["list_iterator", "range_iterator", "dict_keyiterator", "tuple_iterator", "generator"].contains n
  | _, _ => false
/-- what is known of the objects: those of the base, those of the ledger -/
noncomputable def Kn (g : Heap) (l : List (Addr × Obj)) (a : Addr) (o : Obj) : Prop := (g.get? a = some o ∨ (a, o) ∈ l) ∧ It o = false
/-- new since the base, and open to change -/
noncomputable def Own (l : List (Addr × Obj)) (a : Addr) : Prop := ∃ o, (a, o) ∈ l ∧ It o = false
/-- the ledger's later form: all stands but what is off -/
noncomputable def Ev (l l' : List (Addr × Obj)) (off : List Addr) : Prop := ∀ p ∈ l, p.1 ∉ off → It p.2 = false → p ∈ l'
noncomputable def KeepIt (l l' : List (Addr × Obj)) : Prop := ∀ p ∈ l, It p.2 = true → p ∈ l'
noncomputable def TupP (prog : Program) (w : World) (P : Addr → Obj → Prop) (ks : List Int) (a : Addr) : Prop :=
  ∃ o items n, P a o ∧ o.cls = .type "tuple" ∧ o.data = .seq items n ∧ ItemsAre (intKind prog w) ks items.toList
noncomputable def DictP (prog : Program) (w : World) (P : Addr → Obj → Prop) (d : Addr) (xs : List (List Int × Addr × Value)) : Prop :=
  ∃ o es ep, P d o ∧ o.ExactDict ∧ o.data = .dict es ep ∧ es.toList = xs.map (entryOfKey (tupleKind (intKind prog w))) ∧ (∀ x ∈ xs, TupP prog w P x.1 x.2.1) ∧ (xs.map (·.1)).Nodup
noncomputable def ListP (P : Addr → Obj → Prop) (a : Addr) (vs : List Value) : Prop := ∃ o n, P a o ∧ o.cls = .type "list" ∧ o.data = .seq vs.toArray n ∧ o.dict = none
noncomputable def ValsP (P : Addr → Obj → Prop) (a : Addr) (vs : List Value) : Prop := ∃ o n, P a o ∧ o.cls = .type "tuple" ∧ o.data = .seq vs.toArray n

section
variable {prog : Program} {w : World} {P P' : Addr → Obj → Prop} {ks : List Int} {a d : Addr} {xs : List (List Int × Addr × Value)} {vs : List Value}
theorem it_no {o : Obj} {n : String} (hc : o.cls = .type n) (hn : ["list_iterator", "range_iterator", "dict_keyiterator", "tuple_iterator", "generator"].contains n = false) : It o = false := by
  unfold It; rw [hc]
  cases o.data <;> first | exact hn | rfl
theorem it_cell {o : Obj} {v : Option Value} (hd : o.data = .cell v) : It o = false := by unfold It; rw [hd]
theorem TupP.mono (x : TupP prog w P ks a) (h : ∀ a o, It o = false → P a o → P' a o) : TupP prog w P' ks a := let ⟨o, i, n, p, r⟩ := x; ⟨o, i, n, h _ _ (it_no r.1 (by decide)) p, r⟩
theorem DictP.mono (x : DictP prog w P d xs) (h : ∀ a o, It o = false → P a o → P' a o) : DictP prog w P' d xs := let ⟨o, es, ep, p, a, b, c, t, n⟩ := x; ⟨o, es, ep, h _ _ (it_no a.1 (by decide)) p, a, b, c, fun y hy => (t y hy).mono h, n⟩
theorem ListP.mono (x : ListP P a vs) (h : ∀ a o, It o = false → P a o → P' a o) : ListP P' a vs := let ⟨o, n, p, r⟩ := x; ⟨o, n, h _ _ (it_no r.1 (by decide)) p, r⟩
end

section
variable {g h : Heap} {L : Addr} {m : Str → Option Value} {l l' l₂ : List (Addr × Obj)} {a b d : Addr} {o o' : Obj} {off : List Addr}
theorem Kn.get (F : Fr g L h m) (N : News g L h l) (k : Kn g l a o) : h.get? a = some o := k.1.elim (F.keep a o) fun hm => (N _ hm).1
theorem Kn.base (k : g.get? a = some o) (i : It o = false) : Kn g l a o := ⟨.inl k, i⟩
theorem Kn.in (k : (a, o) ∈ l) (i : It o = false) : Kn g l a o := ⟨.inr k, i⟩
theorem Kn.ev (e : Ev l l' off) (k : Kn g l a o) (hn : a ∉ off) : Kn g l' a o := ⟨k.1.imp id fun hm => e _ hm hn k.2, k.2⟩
theorem Kn.sub (e : Ev l l' []) (k : Kn g l a o) : Kn g l' a o := k.ev e (List.not_mem_nil)
theorem Kn.neL (F : Fr g L h m) (N : News g L h l) (k : Kn g l a o) : a ≠ L := by
  rcases k.1 with k | k
  · exact Nat.ne_of_lt (Nat.lt_of_lt_of_le (Heap.lt_size k) F.above)
  · exact (N _ k).2.1
theorem Kn.ne (F : Fr g L h m) (N : News g L h l) (k : Kn g l a o) (k' : Kn g l b o') (e : o.cls ≠ o'.cls) : a ≠ b := by
  rintro rfl
  have h1 := k.get F N
  rw [k'.get F N] at h1
  exact e (by rw [Option.some.inj h1])
theorem Own.ev (e : Ev l l' []) (k : Own l a) : Own l' a := let ⟨o, h, i⟩ := k; ⟨o, e _ h (List.not_mem_nil) i, i⟩
theorem Own.in (k : (a, o) ∈ l) (i : It o = false) : Own l a := ⟨o, k, i⟩
theorem Own.evOff (e : Ev l l' off) (ho : ∀ x ∈ off, Own l' x) (k : Own l a) : Own l' a := by
  obtain ⟨o, h, i⟩ := k
  by_cases q : a ∈ off
  · exact ho a q
  · exact ⟨o, e _ h q i, i⟩
theorem Ev.refl : Ev l l off := fun _ hp _ _ => hp
theorem Ev.trans (x : Ev l l' off) (y : Ev l' l₂ off) : Ev l l₂ off := fun p hp hn i => y p (x p hp hn i) hn i
theorem Ev.wk {off' : List Addr} (x : Ev l l' off) (hs : ∀ a ∈ off, a ∈ off') : Ev l l' off' := fun p hp hn i => x p hp (fun q => hn (hs _ q)) i
theorem Ev.nil (x : Ev l l' []) : Ev l l' off := x.wk fun _ h => nomatch h
theorem Ev.cons (x : Ev l l' off) {p : Addr × Obj} : Ev l (p :: l') off := fun q hq hn i => .tail _ (x q hq hn i)
theorem Ev.of (x : ∀ p ∈ l, p ∈ l') : Ev l l' off := fun p hp _ _ => x p hp
theorem KeepIt.refl : KeepIt l l := fun _ hp _ => hp
theorem KeepIt.trans (x : KeepIt l l') (y : KeepIt l' l₂) : KeepIt l l₂ := fun p hp i => y p (x p hp i) i
theorem KeepIt.cons (x : KeepIt l l') {p : Addr × Obj} : KeepIt l (p :: l') := fun q hq i => .tail _ (x q hq i)
theorem KeepIt.of (x : ∀ p ∈ l, p ∈ l') : KeepIt l l' := fun p hp _ => x p hp
/-- the ledger with one object changed -/
noncomputable def setL (l : List (Addr × Obj)) (a : Addr) (o : Obj) : List (Addr × Obj) := (a, o) :: l.filter fun p => decide (p.1 ≠ a)
theorem mem_setL {p : Addr × Obj} (hp : p ∈ l) (hn : p.1 ≠ a) : p ∈ setL l a o := List.mem_cons_of_mem _ (List.mem_filter.mpr ⟨hp, by simpa using hn⟩)
theorem of_setL {p : Addr × Obj} (hp : p ∈ setL l a o) : p = (a, o) ∨ (p ∈ l ∧ p.1 ≠ a) := by
  rcases List.mem_cons.mp hp with e | hp
  · exact .inl e
  · exact .inr ⟨(List.mem_filter.mp hp).1, by simpa using (List.mem_filter.mp hp).2⟩
theorem news_same (N : News g L h l) {p q : Addr × Obj} (hp : p ∈ l) (hq : q ∈ l) (e : p.1 = q.1) : p.2 = q.2 := by
  have h1 := (N p hp).1
  rw [e, (N q hq).1] at h1
  exact (Option.some.inj h1).symm
theorem mutL {h' : Heap} (F : Fr g L h m) (N : News g L h l) (hm : Own l a) (hs : Heap.SameBut a h h') (ho : h'.get? a = some o) (hi : It o = false) :
    ∃ l', Fr g L h' m ∧ News g L h' l' ∧ (a, o) ∈ l' ∧ Ev l l' [a] ∧ KeepIt l l' ∧ (∀ x, Own l x → Own l' x) ∧ (∀ p ∈ l', p = (a, o) ∨ (p ∈ l ∧ p.1 ≠ a)) := by
  obtain ⟨o₀, hm, i₀⟩ := hm
  have ev : Ev l (setL l a o) [a] := fun p hp hn _ => mem_setL hp (fun e => hn (e ▸ List.mem_singleton.mpr rfl))
  refine ⟨setL l a o, F.change hs (N _ hm).2.1 (N _ hm).2.2, fun p hp => ?_, List.mem_cons_self, ev, fun p hp i => ?_, fun x k => k.evOff ev fun y hy => ?_, fun p hp => of_setL hp⟩
  · rcases of_setL hp with rfl | ⟨hp, hn⟩
    · exact ⟨ho, (N _ hm).2⟩
    · exact ⟨(hs.2 _ hn).trans (N _ hp).1, (N _ hp).2⟩
  · refine mem_setL hp fun e => ?_
    rw [news_same N hp hm e, i₀] at i
    cases i
  · rw [List.mem_singleton.mp hy]; exact ⟨o, List.mem_cons_self, hi⟩
end

section
variable {prog : Program} {w : World} {A : Around} {E : Value → Shared → Prop} {s : Shared} {g : Heap} {L : Addr} {m : Str → Option Value} {l : List (Addr × Obj)} {ks : List Int} {a d : Addr} {xs : List (List Int × Addr × Value)} {vs : List Value}
theorem TupP.at (x : TupP prog w (Kn g l) ks a) (F : Fr g L s.heap m) (N : News g L s.heap l) : (tupleKind (intKind prog w)).is s.heap ks a := let ⟨o, i, n, p, r⟩ := x; ⟨o, i, n, p.get F N, r⟩
theorem DictP.at (x : DictP prog w (Kn g l) d xs) (F : Fr g L s.heap m) (N : News g L s.heap l) : s.heap.DictOfH (tupleKind (intKind prog w)) d xs := let ⟨o, es, ep, p, a, b, c, t, n⟩ := x; ⟨o, es, ep, p.get F N, a, b, c, fun y hy => (t y hy).at F N, n⟩
theorem ListP.at (x : ListP (Kn g l) a vs) (F : Fr g L s.heap m) (N : News g L s.heap l) : s.heap.IsList a vs.toArray := let ⟨_, n, p, c, d, _⟩ := x; ⟨_, p.get F N, c, n, d⟩
theorem ValsP.at (x : ValsP (Kn g l) a vs) (F : Fr g L s.heap m) (N : News g L s.heap l) : IsTup s.heap a vs.toArray := let ⟨o, n, p, r⟩ := x; ⟨o, p.get F N, r.1, n, r.2⟩
theorem DictP.typeIs (x : DictP prog w (Kn g l) d xs) (F : Fr g L s.heap m) (N : News g L s.heap l) : s.TypeIs (.ref d) "dict" := (x.at F N).typeIs
theorem TupP.ne_dict (x : TupP prog w (Kn g l) ks a) (y : DictP prog w (Kn g l) d xs) (F : Fr g L s.heap m) (N : News g L s.heap l) : a ≠ d := by
  obtain ⟨o, i, n, p, hc, _⟩ := x
  obtain ⟨o', es, ep, p', hd, _⟩ := y
  exact p.ne F N p' (by rw [hc, hd.1]; intro e; injection e with e; exact absurd e (by decide))
theorem it_dict {o : Obj} (h : o.cls = .type "dict") : It o = false := it_no h (by decide)
theorem DictP.set {xs' : List (List Int × Addr × Value)} {h' : Heap} (x : DictP prog w (Kn g l) d xs) (F : Fr g L s.heap m) (N : News g L s.heap l) (hm : Own l d) (hs : Heap.SameBut d s.heap h') (hd : h'.DictOfH (tupleKind (intKind prog w)) d xs')
    (hk : ∀ y ∈ xs', TupP prog w (Kn g l) y.1 y.2.1) :
    ∃ l', Fr g L h' m ∧ News g L h' l' ∧ DictP prog w (Kn g l') d xs' ∧ Ev l l' [d] ∧ KeepIt l l' ∧ (∀ x, Own l x → Own l' x) := by
  obtain ⟨o, es, ep, ho, hc, hdat, he, _, hn⟩ := hd
  obtain ⟨l', F', N', hin, ev, ki, ow, -⟩ := mutL F N hm hs ho (it_dict hc.1)
  refine ⟨l', F', N', ⟨o, es, ep, .in hin (it_dict hc.1), hc, hdat, he, fun y hy => ?_, hn⟩, ev, ki, ow⟩
  have t := hk y hy
  have hne := t.ne_dict x F N
  obtain ⟨o', i, n, p, r⟩ := t
  exact ⟨o', i, n, p.ev ev (by simpa using hne), r⟩
theorem mem_storedH {k : List Int} {v : Value} {y : List Int × Addr × Value} (hy : y ∈ storedH xs k a v) : (∃ z ∈ xs, y.1 = z.1 ∧ y.2.1 = z.2.1) ∨ (y.1 = k ∧ y.2.1 = a) := by
  unfold storedH at hy
  split at hy
  · obtain ⟨z, hz, rfl⟩ := List.mem_map.mp hy
    refine .inl ⟨z, hz, ?_⟩
    unfold putAt
    split <;> exact ⟨rfl, rfl⟩
  · rcases List.mem_append.mp hy with hy | hy
    · exact .inl ⟨y, hy, rfl, rfl⟩
    · rw [List.mem_singleton.mp hy]; exact .inr ⟨rfl, rfl⟩

theorem dset {v : Value} {Q : Unit → Shared → Prop} (F : Fr g L s.heap m) (N : News g L s.heap l) (x : DictP prog w (Kn g l) d xs) (hm : Own l d) (t : TupP prog w (Kn g l) ks a) (hu : A.units + 1 < cLine) (hsz : xs.length ≤ sizeLine)
    (hQ : ∀ h' tk l', Fr g L h' m → News g L h' l' → DictP prog w (Kn g l') d (storedH xs ks a v) → Ev l l' [d] → KeepIt l l' → (∀ x, Own l x → Own l' x) → Q () { s with heap := h', toks := tk }) :
    wpAny (model prog w) A (setItem (.ref d) (.ref a) v) Q E s := by
  refine wpAny_setItem_heap (knd := tupleKind (intKind prog w)) hu (t.at F N) (x.at F N) (fun h' hd hs => ?_) hsz
  obtain ⟨l', F', N', x', k1, k2, k3⟩ := x.set F N hm hs hd fun y hy => by
    rcases mem_storedH hy with ⟨z, hz, e1, e2⟩ | ⟨e1, e2⟩
    · obtain ⟨_, _, _, _, _, _, _, t', _⟩ := x
      rw [e1, e2]; exact t' z hz
    · rw [e1, e2]; exact t
  exact hQ h' _ l' F' N' x' k1 k2 k3

theorem dget {p : Addr × Value} {Q : Value → Shared → Prop} (F : Fr g L s.heap m) (N : News g L s.heap l) (x : DictP prog w (Kn g l) d xs) (t : TupP prog w (Kn g l) ks a) (hu : A.units + 1 < cLine) (hp : atKey xs ks = some p)
    (hQ : ∀ tk, Q p.2 { s with toks := tk }) : wpAny (model prog w) A (getItem (.ref d) (.ref a)) Q E s :=
  wpAny_getItem_heap (knd := tupleKind (intKind prog w)) hu (t.at F N) (x.at F N) hp (hQ _)

theorem din {Q : Value → Shared → Prop} (F : Fr g L s.heap m) (N : News g L s.heap l) (x : DictP prog w (Kn g l) d xs) (t : TupP prog w (Kn g l) ks a) (hu : A.units + 1 < cLine) (lo : (d == sysModules) = false)
    (hQ : ∀ tk, Q (.bool (atKey xs ks).isSome) { s with toks := tk }) : wpAny (model prog w) A (compareOp .In (.ref a) (.ref d)) Q E s :=
  wpAny_in_heap (knd := tupleKind (intKind prog w)) hu (t.at F N) lo (x.at F N) (hQ _)

/-- «x not in y» is «x in y», turned -/
theorem notin_of_in {b c : Value} {r : Bool} {S : Shared → Prop} {Q : Value → Shared → Prop} (h : wpAny (model prog w) A (compareOp .In b c) (fun v s' => v = Value.bool r ∧ S s') E s)
    (hQ : ∀ s', S s' → Q (.bool !r) s') : wpAny (model prog w) A (compareOp .NotIn b c) Q E s := by
  have h' : wpAny (model prog w) A ((contains c b) >>= fun x => pure (Value.bool x)) (fun v s' => v = Value.bool r ∧ S s') E s := h
  show wpAny (model prog w) A ((contains c b) >>= fun x => pure (Value.bool (!x))) Q E s
  intro Γ p hΓ
  have k := h' Γ p hΓ
  rw [Sem.wp_bind'] at k ⊢
  refine Sem.wp_mono (model prog w) Γ _ (fun x p' s' hx => ?_) (fun _ _ _ e => e) p s k
  rw [Sem.wp_pure'] at hx ⊢
  obtain ⟨e, hS⟩ := hx
  injection e with e
  subst e
  exact hQ s' hS

theorem dnotin {Q : Value → Shared → Prop} (F : Fr g L s.heap m) (N : News g L s.heap l) (x : DictP prog w (Kn g l) d xs) (t : TupP prog w (Kn g l) ks a) (hu : A.units + 1 < cLine) (lo : (d == sysModules) = false)
    (hQ : ∀ tk, Q (.bool !(atKey xs ks).isSome) { s with toks := tk }) : wpAny (model prog w) A (compareOp .NotIn (.ref a) (.ref d)) Q E s :=
  notin_of_in (S := fun s' => ∃ tk, s' = { s with toks := tk }) (din F N x t hu lo fun tk => ⟨rfl, tk, rfl⟩) fun s' ⟨tk, e⟩ => e ▸ hQ tk

/-- a dict's entries without a key -/
noncomputable def dropKey (xs : List (List Int × Addr × Value)) (ks : List Int) : List (List Int × Addr × Value) := xs.filter fun x => decide (x.1 ≠ ks)

theorem eraseIdx_key {β : Type} (f : List Int × Addr × Value → β) {ks : List Int} : ∀ {xs : List (List Int × Addr × Value)} {j : Nat} {p : Addr × Value}, (xs.map (·.1)).Nodup → xs[j]? = some (ks, p) → (xs.map f).eraseIdx j = (dropKey xs ks).map f
  | [], _, _, _, h => by simp at h
  | x :: r, 0, p, hn, h => by
    simp only [List.getElem?_cons_zero, Option.some.injEq] at h
    subst h
    rw [List.map_cons, List.nodup_cons] at hn
    have e : dropKey ((ks, p) :: r) ks = r := by
      unfold dropKey
      rw [List.filter_cons_of_neg (by simp)]
      refine List.filter_eq_self.mpr fun y hy => ?_
      simp only [decide_eq_true_eq]
      exact fun q => hn.1 (List.mem_map.mpr ⟨y, hy, q⟩)
    rw [e]; rfl
  | x :: r, j + 1, p, hn, h => by
    simp only [List.getElem?_cons_succ] at h
    rw [List.map_cons, List.nodup_cons] at hn
    have hne : x.1 ≠ ks := fun q => hn.1 (List.mem_map.mpr ⟨(ks, p), List.mem_of_getElem? h, q.symm⟩)
    have ih := eraseIdx_key f hn.2 h
    show f x :: (r.map f).eraseIdx j = _
    rw [ih]
    unfold dropKey
    rw [List.filter_cons_of_pos (by simpa using hne)]
    rfl

theorem dpop {p : Addr × Value} {Q : Value → Shared → Prop} (F : Fr g L s.heap m) (N : News g L s.heap l) (x : DictP prog w (Kn g l) d xs) (hm : Own l d) (t : TupP prog w (Kn g l) ks a) (hu : A.units + 1 < cLine) (hp : atKey xs ks = some p) (hsz : xs.length ≤ sizeLine)
    (hQ : ∀ h' tk l', Fr g L h' m → News g L h' l' → DictP prog w (Kn g l') d (dropKey xs ks) → Ev l l' [d] → KeepIt l l' → (∀ x, Own l x → Own l' x) → Q p.2 { s with heap := h', toks := tk }) :
    wpAny (model prog w) A (call (.builtin "dict.pop") [.ref d, .ref a]) Q E s := by
  have hk := t.at F N
  have hT := (x.at F N).typeIs
  obtain ⟨o, es, ep, ho, hc, hd, he, his, hn⟩ := x.at F N
  refine wpAny_call_entry PySem.F.slot_dict_pop hT PySem.F.entry_dict_pop ?_ (PySem.F.args_dict_pop_2 _ _)
  unfold Builtin.«dict.pop»
  refine wpAny_bind ?_
  unfold Builtin.Dict.keyAndDefault
  refine wpAny_bind (wpAny_notOrdered_dict hT ?_)
  show wpAny _ _ (pure (d, Value.ref a, none)) _ _ s
  refine wpAny_pure ?_
  have hkp : (keyPart (.ref a)).isSome = false := rfl
  simp only [hkp, Bool.false_eq_true, if_false]
  refine wpAny_bind (wpAny_dictEntries ho hd (wpAny_bind (wpAny_pure ?_)))
  obtain ⟨j, hj⟩ : ∃ j, xs[j]? = some (ks, p) := by
    unfold atKey at hp
    cases q : xs.find? (fun x => decide (x.1 = ks)) with
    | none => rw [q] at hp; cases hp
    | some z =>
      rw [q] at hp
      have hz := List.find?_some q
      have hz' : z.1 = ks := by simpa using hz
      obtain ⟨j, hj⟩ := List.mem_iff_getElem?.mp (List.mem_of_find?_eq_some q)
      refine ⟨j, hj.trans (congrArg some ?_)⟩
      have : z.2 = p := by simpa using hp
      rw [← hz', ← this]
  have hne : es.isEmpty = false := by
    cases es with
    | mk ls =>
      cases ls with
      | nil =>
        have : xs = [] := by simpa using he.symm
        rw [this] at hj; simp at hj
      | cons _ _ => rfl
  simp only [hne, Bool.false_eq_true, if_false]
  have hsze : es.size = xs.length := size_of_entries he
  have take : ∀ (Q' : Option DictEntry → Shared → Prop) (E' : Value → Shared → Prop), (∀ h' tk l', Fr g L h' m → News g L h' l' → DictP prog w (Kn g l') d (dropKey xs ks) → Ev l l' [d] → KeepIt l l' → (∀ x, Own l x → Own l' x) → ∀ e : DictEntry, e.val = p.2 → Q' (some e) { s with heap := h', toks := tk }) →
      wpAny (model prog w) A.in1 (Builtin.Dict.takeOut d (.ref a)) Q' E' s := by
    intro Q' E' hQ'
    unfold Builtin.Dict.takeOut
    refine wpAny_holding ?_
    refine wpAny_bind ((tupleKind (intKind prog w)).pyHash (A := A.in1) hu hk ?_)
    refine wpAny_bind (wpAny_dictFind_heap (knd := tupleKind (intKind prog w)) (s := { s with toks := s.toks + (tupleKind (intKind prog w)).draws ks }) hu hk ho hd he his hn (fun hno => absurd hj (hno j p)) (fun j' p' hj' => ?_))
    have hjj : j' = j := idxH_unique hn hj' hj
    subst hjj
    refine wpAny_bind (wpAny_dictEntries (s := { s with toks := s.toks + (tupleKind (intKind prog w)).draws ks }) ho hd ?_)
    rw [entry_at he j', hj]
    refine wpAny_bind (wpAny_updateDictKeys (hz := by rw [hsze]; exact hsz) (s := { s with toks := s.toks + (tupleKind (intKind prog w)).draws ks }) ho hd (wpAny_pure ?_))
    have hs' := Heap.SameBut.update s.heap d (Obj.mapDictKeys fun es => es.eraseIdxIfInBounds j')
    have hD : (s.heap.update d (Obj.mapDictKeys fun es => es.eraseIdxIfInBounds j')).DictOfH (tupleKind (intKind prog w)) d (dropKey xs ks) := by
      refine ⟨_, _, ep + 1, Heap.get?_update_self _ ho (Obj.isFreed_of_dict (Obj.data_mapDictKeys hd _)), hc.mapDictKeys _, Obj.data_mapDictKeys hd _, ?_, fun y hy => ?_, ?_⟩
      · rw [← eraseIdx_key _ hn hj, ← he]
        obtain ⟨ls⟩ := es
        simp
      · exact (tupleKind (intKind prog w)).keeps (his y (List.mem_filter.mp hy).1) ho hd hs'
      · exact (List.filter_sublist.map _).nodup hn
    obtain ⟨l', F', N', x', k1, k2, k3⟩ := x.set F N hm hs' hD fun y hy => by
      obtain ⟨_, _, _, _, _, _, _, t', _⟩ := x
      exact t' y (List.mem_filter.mp hy).1
    exact hQ' _ _ l' F' N' x' k1 k2 k3 _ rfl
  refine wpAny_bind (take _ _ fun h' tk l' F' N' x' k1 k2 k3 e ev => ?_)
  simp only [Option.isNone_some, Bool.false_eq_true, if_false]
  exact wpAny_bind (wpAny_letGo (wpAny_pure ⟨e.val, rfl, by rw [ev]; exact hQ h' tk l' F' N' x' k1 k2 k3⟩))
end
end
section
/-- the end of a comprehension's turn -/
noncomputable def CEnd (h₀ : Heap) (L : Addr) (m : Str → Option Value) (s₁ : Shared) (keep : List (Addr × Obj)) (off : List Addr) (K : List (Addr × Obj) → Prop) (s₃ : Shared) : Prop :=
  ∃ h' tk l', s₃ = { s₁ with heap := h', toks := tk } ∧ Fr h₀ L h' m ∧ News h₀ L h' (keep ++ l') ∧ (∀ p ∈ l', p.1 ∉ off) ∧ K l'

noncomputable def CTurn (prog : Program) (w : World) (A : Around) (cenv : Env) (tst : Option PySem.Expr) (elt : PySem.Expr) (yes : Value → Shared → Prop) (no : Shared → Prop) (E : Value → Shared → Prop) (s : Shared) : Prop :=
  match tst with
  | none => wpAny (model prog w) A (eval elt cenv) yes E s
  | some c => wpAny (model prog w) A (isTrue c cenv (eval c cenv)) (fun ok s₃ => if ok = true then wpAny (model prog w) A (eval elt cenv) yes E s₃ else no s₃) E s

section
variable {prog : Program} {w : World} {A : Around} {E : Value → Shared → Prop} {s : Shared}
theorem cloop {elt target iter : PySem.Expr} {tst : Option PySem.Expr} {scope : Scope} {pos : Pos} {it acc : Value} {env : Env} {R : Result → Shared → Prop} (I : Nat → Shared → Prop)
    (turn : ∀ n s, I n s → ∀ E : Value → Shared → Prop, wpAny (model prog w) A (pyNext it) (fun r s₁ => match r with
      | none => R (.ok .next) s₁
      | some v => wpAny (model prog w) A (letOwnedTupleGo target it v) (fun _ s₀ => wpAny (model prog w) A (assign target env v) (fun _ s₂ =>
          CTurn prog w A env tst elt (fun x s₄ => wpAny (model prog w) A (call (.builtin "list.append") [acc, x]) (fun _ s₅ => ∃ m, m < n ∧ I m s₅) E s₄) (fun s₃ => ∃ m, m < n ∧ I m s₃) E s₂) E s₀) E s₁) E s)
    (n : Nat) (h : I n s) : codeAny (model prog w) A (.compLoop (.ListComp elt [⟨target, iter, tst.toList, 0⟩] scope pos) 0 it acc env) R s := by
  cases tst with
  | none => exact kcp_loop I (fun n s hI => turn n s hI _) n h
  | some c => exact kct_loop I (fun n s hI => turn n s hI _) n h
end

section
variable {prog : Program} {w : World} {A : Around} {E : Value → Shared → Prop} {s : Shared} {h₀ : Heap} {L : Addr} {m : Str → Option Value} {env : Env}

/-- what a comprehension's source and turns must say, at its iterator -/
structure CAt (prog : Program) (w : World) (A : Around) (h₀ : Heap) (L : Addr) (m : Str → Option Value) (env : Env) (target : PySem.Expr) (tst : Option PySem.Expr) (elt : PySem.Expr) (scope : Scope) (cl : List (Str × Addr))
    (I : Addr) (fp wr : List Addr) (n : Nat) (P Md : Nat → Value → Heap → Prop) (Bd : Nat → Value → (Str → Option Value) → Prop) (St : Nat → Heap → Prop) (l : List (Addr × Obj)) (J : Nat → List Value → List (Addr × Obj) → Prop) (s₂ : Shared) : Prop where
  W : KTurns prog w A target I fp wr n P Md St
  self : ∀ (s : Shared) (Q : Value → Shared → Prop) (E : Value → Shared → Prop), St 0 s.heap → Q (.ref I) s → wpAny (model prog w) A (pyIter (.ref I)) Q E s
  hn : n ≤ sizeLine
  hL : L ∉ fp
  hwr : ∀ b ∈ wr, h₀.get? b = none
  hl : ∀ p ∈ l, p.1 ∉ wr
  hfp : ∀ b ∈ fp, b < s₂.heap.objs.size
  st : St 0 s₂.heap
  F : Fr h₀ L s₂.heap m
  N : News h₀ L s₂.heap l
  j0 : J 0 [] l
  asg : ∀ C m₁ i v (s : Shared) (Q : Unit → Shared → Prop) (E : Value → Shared → Prop) ys l₁, i < n → P i v s.heap → J i ys l₁ → News h₀ L s.heap l₁ → (∀ b o, h₀.get? b = some o → s.heap.get? b = some o) → s.heap.Ns C m₁ →
    (∀ h' tk m', Bd i v m' → h'.Ns C m' → (∀ b o, b ≠ C → s.heap.get? b = some o → h'.get? b = some o) → Q () { s with heap := h', toks := tk }) → wpAny (model prog w) A (assign target (compEnvC scope cl C env) v) Q E s
  itr : ∀ i h, St i h → ∀ b ∈ wr, ∃ o, h.get? b = some o ∧ It o = true
  turn : ∀ i v ys l₁ h₁ tk₁ own C oC m₂ D (E' : Value → Shared → Prop), i < n → (∀ b ∈ wr, ∃ o, (b, o) ∈ own ∧ It o = true) → Bd i v m₂ → J i ys l₁ → ys.length ≤ i → NsObj oC m₂ → (∀ p ∈ l₁, p.1 ∉ C :: D :: wr) → Fr h₀ L h₁ m → News h₀ L h₁ ((C, oC) :: (D, lst ys) :: own ++ l₁) →
    CTurn prog w A (compEnvC scope cl C env) tst elt (fun y => CEnd h₀ L m { s₂ with heap := h₁, toks := tk₁ } ((C, oC) :: (D, lst ys) :: own) (C :: D :: wr) (J (i + 1) (ys ++ [y])))
      (CEnd h₀ L m { s₂ with heap := h₁, toks := tk₁ } ((C, oC) :: (D, lst ys) :: own) (C :: D :: wr) (J (i + 1) ys)) E' { s₂ with heap := h₁, toks := tk₁ }

theorem cblock {elt target iter : PySem.Expr} {tst : Option PySem.Expr} {scope : Scope} {cl : List (Str × Addr)} {pos : Pos} {s₂ : Shared} {I : Addr} {fp wr : List Addr} {n : Nat} {P Md : Nat → Value → Heap → Prop} {Bd : Nat → Value → (Str → Option Value) → Prop} {St : Nat → Heap → Prop} {l : List (Addr × Obj)} {J : Nat → List Value → List (Addr × Obj) → Prop}
    {RR : Value → Addr → Result → Shared → Prop} (hcell : ∀ y ∈ scope.names, y.2 ≠ .cell) (hkind : scope.kind = .function)
    (X : CAt prog w A h₀ L m env target tst elt scope cl I fp wr n P Md Bd St l J s₂)
    (hRR : ∀ D C h tk m' ys l', J n ys l' → ys.length ≤ n → Fr h₀ L h m → News h₀ L h ((D, lst ys) :: l') → (∀ p ∈ l', p.1 ≠ D) → (∀ p ∈ l', p.1 ≠ C) → h.Ns C m' → h₀.get? C = none → C ≠ L → C ≠ D → RR (.ref D) C (.ok .next) { s₂ with heap := h, toks := tk }) :
    wpAny (model prog w) A (newList []) (fun acc s₃ => wpAny (model prog w) A (newFunctionEnv scope env.globals cl [] env.qual none .none (some env)) (fun cenv s₄ =>
      codeAny (model prog w) A (.compStart (.ListComp elt [⟨target, iter, tst.toList, 0⟩] scope pos) 0 (.ref I) acc { cenv with scope := relabel scope env }) (RR acc cenv.locals) s₄) E s₃) E s₂ := by
  refine hideGoal fun hG1 hE1 => ?_
  obtain ⟨W, self, hn, hLf, hwr, hlw, hfp, hst, F, N, hj0, asg, itr, turn⟩ := X
  refine hE1 ?_
  clear hE1
  refine wpAny_newObj_type (wpAny_newFunctionEnv hcell (by intro y hy; simp at hy) (fun h₁ hns₁ hsb₁ => ?_) hkind)
  dsimp only at hns₁ hsb₁ ⊢
  generalize hH2 : s₂.heap.push { cls := .type "list", dict := none, data := .seq ([] : List Value).toArray } = H2 at hns₁ hsb₁ ⊢
  have hC : H2.objs.size = s₂.heap.objs.size + 1 := by rw [← hH2, Heap.size_push]
  have hDC : s₂.heap.objs.size ≠ H2.objs.size := by rw [hC]; exact Nat.ne_of_lt (Nat.lt_succ_self _)
  have below : ∀ b, b < s₂.heap.objs.size → b ≠ H2.objs.size ∧ b ≠ s₂.heap.objs.size := fun b hb => ⟨by rw [hC]; exact Nat.ne_of_lt (Nat.lt_succ_of_lt hb), Nat.ne_of_lt hb⟩
  have old : ∀ b o, s₂.heap.get? b = some o → h₁.get? b = some o := fun b o e => hsb₁.extBut b o (below b (Heap.lt_size e)).1 (Heap.get?_push_of_some _ (hH2 ▸ Heap.get?_push_of_some _ e))
  have hacc : h₁.get? s₂.heap.objs.size = some (lst []) := hsb₁.extBut _ _ hDC (Heap.get?_push_of_some _ (hH2 ▸ Heap.get?_push_size _ rfl))
  have hst₁ : St 0 h₁ := W.frame _ _ _ hst fun b _ o e => old b o e
  have fresh : ∀ a, s₂.heap.objs.size ≤ a → s₂.heap.get? a = none := fun a ha => by
    cases e : s₂.heap.get? a with
    | none => rfl
    | some o' => exact absurd (Heap.lt_size e) (Nat.not_lt.mpr ha)
  have fresh₀ : ∀ a, s₂.heap.objs.size ≤ a → h₀.get? a = none := fun a ha => by
    cases e : h₀.get? a with
    | none => rfl
    | some o' => have := F.keep a o' e; rw [fresh a ha] at this; cases this
  have hD₀ : h₀.get? s₂.heap.objs.size = none := fresh₀ _ (Nat.le_refl _)
  have hC₀ : h₀.get? H2.objs.size = none := fresh₀ _ (by rw [hC]; exact Nat.le_succ _)
  have hLlt : L < s₂.heap.objs.size := F.ns.lt
  have hDL : s₂.heap.objs.size ≠ L := Ne.symm (below L hLlt).2
  have hCL : H2.objs.size ≠ L := Ne.symm (below L hLlt).1
  have hCf : H2.objs.size ∉ fp := fun hm => (below _ (hfp _ hm)).1 rfl
  have hDf : s₂.heap.objs.size ∉ fp := fun hm => (below _ (hfp _ hm)).2 rfl
  have hCw : H2.objs.size ∉ wr := fun hm => hCf (W.sub _ hm)
  have hDw : s₂.heap.objs.size ∉ wr := fun hm => hDf (W.sub _ hm)
  have hLw : L ∉ wr := fun hm => hLf (W.sub _ hm)
  have off₀ : ∀ p ∈ l, p.1 ∉ H2.objs.size :: s₂.heap.objs.size :: wr := fun p hp hm => by
    rcases List.mem_cons.mp hm with e | hm
    · exact (below _ (Heap.lt_size (N p hp).1)).1 e
    · rcases List.mem_cons.mp hm with e | hm
      · exact (below _ (Heap.lt_size (N p hp).1)).2 e
      · exact hlw p hp hm
  have old₀ : ∀ b o, h₀.get? b = some o → b ∉ H2.objs.size :: s₂.heap.objs.size :: wr := fun b o e hm => by
    rcases List.mem_cons.mp hm with q | hm
    · rw [q, hC₀] at e; cases e
    · rcases List.mem_cons.mp hm with q | hm
      · rw [q, hD₀] at e; cases e
      · rw [hwr b hm] at e; cases e
  have loop : ∀ s₃ : Shared, s₃ = { s₂ with heap := h₁, toks := s₂.toks + ([] : List (Str × Value)).length } →
      codeAny (model prog w) A (.compLoop (.ListComp elt [⟨target, iter, tst.toList, 0⟩] scope pos) 0 (.ref I) (.ref s₂.heap.objs.size) (compEnvC scope cl H2.objs.size env))
        (RR (.ref s₂.heap.objs.size) H2.objs.size) s₃ := by
    rintro s₃ rfl
    refine cloop
      (fun k s' => ∃ h' tk i ys m' l', s' = { s₂ with heap := h', toks := tk } ∧ i ≤ n ∧ k = n + 1 - i ∧ ys.length ≤ i ∧ St i h' ∧ Fr h₀ L h' m ∧ h'.Ns H2.objs.size m' ∧
        News h₀ L h' ((s₂.heap.objs.size, lst ys) :: l') ∧ (∀ p ∈ l', p.1 ∉ H2.objs.size :: s₂.heap.objs.size :: wr) ∧ J i ys l') ?_ (n + 1)
      ⟨h₁, _, 0, [], _, l, rfl, Nat.zero_le _, rfl, Nat.le_refl _, hst₁, F.keeps old, hns₁, fun p hp => ?_, off₀, hj0⟩
    · rintro k s' ⟨h', tk, i, ys, m', l', rfl, hi, rfl, hyl, hst', F', hn', N', off', hJ⟩ E₁
      by_cases hlt : i < n
      · refine W.item i _ _ _ hlt hst' fun v h₂ tk₂ hMd hk₂ => ?_
        refine W.go i v _ _ _ hMd fun h₃ hP hst₃ hk₃ => ?_
        have up₃ : ∀ c o, c ∉ wr → h'.get? c = some o → h₃.get? c = some o := fun c o hc e => hk₃ c o hc (hk₂ c o hc e)
        refine asg H2.objs.size m' i v _ _ _ _ _ hlt hP hJ (fun p hp => ⟨up₃ _ _ (fun z => off' p hp (List.mem_cons_of_mem _ (List.mem_cons_of_mem _ z))) (N' _ (List.mem_cons_of_mem _ hp)).1, (N' _ (List.mem_cons_of_mem _ hp)).2⟩) (fun b o e => up₃ b o (fun hm => by rw [hwr b hm] at e; cases e) (F'.keep b o e)) (hn'.at' fun o e => up₃ _ o hCw e) fun h₄ tk₄ m₄ hBd hn₄ hs₄ => ?_
        have up : ∀ c o, c ∉ H2.objs.size :: wr → h'.get? c = some o → h₄.get? c = some o := fun c o hc e => hs₄ c o (fun q => hc (q ▸ List.mem_cons_self)) (up₃ c o (fun q => hc (List.mem_cons_of_mem _ q)) e)
        refine hideGoal fun hG2 hE2 => ?_
        obtain ⟨oC, heC, hoC⟩ := ns_obj hn₄
        refine hE2 ?_
        clear hE2
        have F₄ : Fr h₀ L h₄ m := ⟨F'.ns.at' fun o e => up _ o (fun q => by rcases List.mem_cons.mp q with q | q; exact hCL q.symm; exact hLw q) e, fun c o e => up c o (fun q => old₀ c o e (by rcases List.mem_cons.mp q with q | q; exact q ▸ List.mem_cons_self; exact List.mem_cons_of_mem _ (List.mem_cons_of_mem _ q))) (F'.keep c o e), F'.above⟩
        have hst₄ : St (i + 1) h₄ := W.frame _ _ _ hst₃ fun b hb o e => hs₄ b o (fun q => hCf (q ▸ hb)) e
        have Nown : News h₀ L h₄ (PyProof.Rows.ownOf h₀ fp h₄) := news_ownOf hLf
        have N₄ : News h₀ L h₄ ((H2.objs.size, oC) :: (s₂.heap.objs.size, lst ys) :: PyProof.Rows.ownOf h₀ fp h₄ ++ l') := fun q hq => by
          rcases List.mem_cons.mp hq with rfl | hq
          · exact ⟨heC, hCL, hC₀⟩
          rcases List.mem_cons.mp hq with rfl | hq
          · exact ⟨up _ _ (fun q => by rcases List.mem_cons.mp q with q | q; exact hDC q; exact hDw q) (N' _ List.mem_cons_self).1, hDL, hD₀⟩
          rcases List.mem_append.mp hq with hq | hq
          · exact Nown q hq
          · exact ⟨up _ _ (fun z => off' q hq (by rcases List.mem_cons.mp z with z | z; exact z ▸ List.mem_cons_self; exact List.mem_cons_of_mem _ (List.mem_cons_of_mem _ z))) (N' _ (List.mem_cons_of_mem _ hq)).1, (N' _ (List.mem_cons_of_mem _ hq)).2⟩
        have stay : ∀ (h₅ : Heap) (l₅ : List (Addr × Obj)), (∀ b o, h₀.get? b = some o → h₅.get? b = some o) → News h₀ L h₅ ((H2.objs.size, oC) :: (s₂.heap.objs.size, lst ys) :: PyProof.Rows.ownOf h₀ fp h₄ ++ l₅) → ∀ b ∈ fp, ∀ o, h₄.get? b = some o → h₅.get? b = some o := by
          intro h₅ l₅ k₅ N₅ b hb o e
          cases hn : h₀.get? b with
          | some o₀ =>
            have : o₀ = o := by have q := F₄.keep b o₀ hn; rw [e] at q; exact (Option.some.inj q).symm
            exact this ▸ k₅ b o₀ hn
          | none => exact (N₅ _ (List.mem_cons_of_mem _ (List.mem_cons_of_mem _ (List.mem_append_left _ (mem_ownOf hb hn e))))).1
        have next : ∀ (h₅ : Heap) (tk₅ : Nat) (ys₅ : List Value) (l₅ : List (Addr × Obj)), ys₅.length ≤ i + 1 → (∀ b ∈ fp, ∀ o, h₄.get? b = some o → h₅.get? b = some o) → Fr h₀ L h₅ m → h₅.get? H2.objs.size = some oC → News h₀ L h₅ ((s₂.heap.objs.size, lst ys₅) :: l₅) →
            (∀ p ∈ l₅, p.1 ∉ H2.objs.size :: s₂.heap.objs.size :: wr) → J (i + 1) ys₅ l₅ →
            ∃ m', m' < n + 1 - i ∧ ∃ h' tk i ys m'' l', ({ s₂ with heap := h₅, toks := tk₅ } : Shared) = { s₂ with heap := h', toks := tk } ∧ i ≤ n ∧ m' = n + 1 - i ∧ ys.length ≤ i ∧ St i h' ∧ Fr h₀ L h' m ∧ h'.Ns H2.objs.size m'' ∧
              News h₀ L h' ((s₂.heap.objs.size, lst ys) :: l') ∧ (∀ p ∈ l', p.1 ∉ H2.objs.size :: s₂.heap.objs.size :: wr) ∧ J i ys l' :=
          fun h₅ tk₅ ys₅ l₅ hy₅ st₅ F₅ c₅ N₅ o₅ J₅ => ⟨n + 1 - (i + 1), by omega, h₅, tk₅, i + 1, ys₅, m₄, l₅, rfl, hlt, rfl, hy₅, W.frame _ _ _ hst₄ st₅, F₅, hoC.ns c₅, N₅, o₅, J₅⟩
        have T := turn i v ys l' h₄ tk₄ (PyProof.Rows.ownOf h₀ fp h₄) H2.objs.size oC m₄ s₂.heap.objs.size E₁ hlt (fun b hb => let ⟨o, e, z⟩ := itr _ _ hst₄ b hb; ⟨o, mem_ownOf (W.sub _ hb) (hwr b hb) e, z⟩) hBd hJ hyl hoC off' F₄ N₄
        have yes : ∀ y s₅, CEnd h₀ L m { s₂ with heap := h₄, toks := tk₄ } ((H2.objs.size, oC) :: (s₂.heap.objs.size, lst ys) :: PyProof.Rows.ownOf h₀ fp h₄) (H2.objs.size :: s₂.heap.objs.size :: wr) (J (i + 1) (ys ++ [y])) s₅ →
            wpAny (model prog w) A (call (.builtin "list.append") [.ref s₂.heap.objs.size, y]) (fun _ s₅ => ∃ m', m' < n + 1 - i ∧ ∃ h' tk i ys m'' l', s₅ = { s₂ with heap := h', toks := tk } ∧ i ≤ n ∧ m' = n + 1 - i ∧ ys.length ≤ i ∧ St i h' ∧ Fr h₀ L h' m ∧ h'.Ns H2.objs.size m'' ∧
              News h₀ L h' ((s₂.heap.objs.size, lst ys) :: l') ∧ (∀ p ∈ l', p.1 ∉ H2.objs.size :: s₂.heap.objs.size :: wr) ∧ J i ys l') E₁ s₅ := by
          intro y s₅ hI9r1
          refine hideGoal fun hGr1 hEr1 => ?_
          refine hideGoal fun hG3 hE3 => ?_
          obtain ⟨h₅, tk₅, l₅, rfl, F₅, N₅, o₅, J₅⟩ := hI9r1
          refine hE3 ?_
          clear hE3
          refine hEr1 ?_
          clear hEr1
          have zC := (N₅ (H2.objs.size, oC) List.mem_cons_self).1
          have zD := (N₅ (s₂.heap.objs.size, lst ys) (List.mem_cons_of_mem _ List.mem_cons_self)).1
          refine append_at (hsz := by show ys.toArray.size ≤ sizeLine; rw [List.size_toArray]; exact Nat.le_trans hyl (Nat.le_trans hi hn)) zD fun h₆ hs₆ hD₆ => ?_
          refine next h₆ tk₅ (ys ++ [y]) l₅ (by rw [List.length_append, List.length_singleton]; exact Nat.succ_le_succ hyl) (fun b hb o e => hs₆.extBut b o (fun q => hDf (q ▸ hb)) (stay h₅ l₅ F₅.keep N₅ b hb o e)) (F₅.change hs₆ hDL hD₀) (hs₆.extBut _ oC (Ne.symm hDC) zC) (fun q hq => ?_) o₅ J₅
          rcases List.mem_cons.mp hq with rfl | hq
          · exact ⟨hD₆.trans (congrArg some (lst_snoc ys y)), hDL, hD₀⟩
          · have z := N₅ q (List.mem_cons_of_mem _ (List.mem_cons_of_mem _ (List.mem_append_right _ hq)))
            exact ⟨hs₆.extBut _ _ (fun e => o₅ q hq (e ▸ List.mem_cons_of_mem _ List.mem_cons_self)) z.1, z.2⟩
        have no : ∀ s₅, CEnd h₀ L m { s₂ with heap := h₄, toks := tk₄ } ((H2.objs.size, oC) :: (s₂.heap.objs.size, lst ys) :: PyProof.Rows.ownOf h₀ fp h₄) (H2.objs.size :: s₂.heap.objs.size :: wr) (J (i + 1) ys) s₅ →
            ∃ m', m' < n + 1 - i ∧ ∃ h' tk i ys m'' l', s₅ = { s₂ with heap := h', toks := tk } ∧ i ≤ n ∧ m' = n + 1 - i ∧ ys.length ≤ i ∧ St i h' ∧ Fr h₀ L h' m ∧ h'.Ns H2.objs.size m'' ∧
              News h₀ L h' ((s₂.heap.objs.size, lst ys) :: l') ∧ (∀ p ∈ l', p.1 ∉ H2.objs.size :: s₂.heap.objs.size :: wr) ∧ J i ys l' := by
          intro s₅ hI9r2
          refine hideGoal fun hGr2 hEr2 => ?_
          refine hideGoal fun hG4 hE4 => ?_
          obtain ⟨h₅, tk₅, l₅, rfl, F₅, N₅, o₅, J₅⟩ := hI9r2
          refine hE4 ?_
          clear hE4
          refine hEr2 ?_
          clear hEr2
          refine next h₅ tk₅ ys l₅ (Nat.le_succ_of_le hyl) (stay h₅ l₅ F₅.keep N₅) F₅ (N₅ _ List.mem_cons_self).1 (fun q hq => N₅ q ?_) o₅ J₅
          rcases List.mem_cons.mp hq with rfl | hq
          · exact List.mem_cons_of_mem _ List.mem_cons_self
          · exact List.mem_cons_of_mem _ (List.mem_cons_of_mem _ (List.mem_append_right _ hq))
        unfold CTurn at T ⊢
        cases tst with
        | none => exact wpAny_mono T (fun y s₅ h₅ => yes y s₅ h₅) fun _ _ e => e
        | some c =>
          refine wpAny_mono T (fun ok s₅ h₅ => ?_) fun _ _ e => e
          cases ok with
          | true =>
            simp only [if_true] at h₅ ⊢
            exact wpAny_mono h₅ (fun y s₅ h₅ => yes y s₅ h₅) fun _ _ e => e
          | false =>
            simp only [Bool.false_eq_true, if_false] at h₅ ⊢
            exact no s₅ h₅
      · have hin : i = n := Nat.le_antisymm hi (Nat.not_lt.mp hlt)
        subst hin
        refine W.done _ _ _ hst' fun h₂ tk₂ hk₂ => ?_
        refine hRR _ _ h₂ tk₂ m' ys l' hJ hyl ⟨F'.ns.at' fun o e => hk₂ _ o hLw e, fun b o e => hk₂ b o (fun hm => by rw [hwr b hm] at e; cases e) (F'.keep b o e), F'.above⟩ (fun q hq => ?_)
          (fun p hp e => off' p hp (e ▸ List.mem_cons_of_mem _ List.mem_cons_self)) (fun p hp e => off' p hp (e ▸ List.mem_cons_self)) (hn'.at' fun o e => hk₂ _ o hCw e) hC₀ hCL (Ne.symm hDC)
        refine ⟨hk₂ _ _ ?_ (N' q hq).1, (N' q hq).2⟩
        rcases List.mem_cons.mp hq with rfl | hq
        · exact hDw
        · exact fun z => off' q hq (List.mem_cons_of_mem _ (List.mem_cons_of_mem _ z))
    · rcases List.mem_cons.mp hp with rfl | hp
      · exact ⟨hacc, hDL, hD₀⟩
      · exact ⟨old _ _ (N p hp).1, (N p hp).2⟩
  exact codeAny_compStart_list (loop _ rfl) (self _ _ _ hst₁ (loop _ rfl))

theorem comp_rule {elt target iter : PySem.Expr} {tst : Option PySem.Expr} {scope : Scope} {cl : List (Str × Addr)} {pos : Pos} {Q : Value → Shared → Prop}
    (hclos : closureFor scope env = pure cl) (hcell : ∀ y ∈ scope.names, y.2 ≠ .cell) (hkind : scope.kind = .function)
    (hnames : ∀ y ∈ scope.names, y.2 = .local → scope.names.lookup y.1 = some .local)
    (h : wpAny (model prog w) A (eval iter env) (fun xv s₁ => wpAny (model prog w) A (pyIter xv) (fun it s₂ => ∃ I fp wr n P Md Bd St l J, it = .ref I ∧ CAt prog w A h₀ L m env target tst elt scope cl I fp wr n P Md Bd St l J s₂ ∧
      ∀ D h' tk ys l', J n ys l' → ys.length ≤ n → Fr h₀ L h' m → News h₀ L h' ((D, lst ys) :: l') → (∀ p ∈ l', p.1 ≠ D) → Q (.ref D) { s₂ with heap := h', toks := tk }) E s₁) E s)
    (hs : ∀ x, foldedSetIterable iter env x = pure x) :
    wpAny (model prog w) A (eval (.ListComp elt [⟨target, iter, tst.toList, 0⟩] scope pos) env) Q E s := by
  rw [eval_ListComp]
  refine wpAny_comprehension_free (use := none) rfl hs hclos hkind hnames (wpAny_mono h (fun xv s₁ h₁ => wpAny_mono h₁ (fun it s₂ h₂ => ?_) fun _ _ e => e) fun _ _ e => e)
  refine hideGoal fun hG5 hE5 => ?_
  obtain ⟨I, fp, wr, n, P, Md, Bd, St, l, J, rfl, X, done⟩ := h₂
  refine hE5 ?_
  clear hE5
  refine cblock hcell hkind X fun D C h tk m' ys l' hJ hy F N offD offC hn hC₀ hCL hCD => ?_
  refine ⟨m', hn, fun h'' hs'' => done D h'' tk ys l' hJ hy (F.change hs'' hCL hC₀) (fun p hp => ?_) offD⟩
  refine ⟨hs''.extBut _ _ ?_ (N p hp).1, (N p hp).2⟩
  rcases List.mem_cons.mp hp with rfl | hp
  · exact Ne.symm hCD
  · exact offC p hp

theorem assign_comp {elt target iter : PySem.Expr} {tst : Option PySem.Expr} {scope : Scope} {cl : List (Str × Addr)} {pos spos py : Pos} {y : Str} {Q : Flow → Shared → Prop} (hLe : env.locals = L)
    (hsw : swapsWith (.ListComp elt [⟨target, iter, tst.toList, 0⟩] scope pos) (some (.Name y py)) spos.line env = pure true)
    (hclos : closureFor scope env = pure cl) (hcell : ∀ y ∈ scope.names, y.2 ≠ .cell) (hkind : scope.kind = .function)
    (hnames : ∀ y ∈ scope.names, y.2 = .local → scope.names.lookup y.1 = some .local)
    (hy : env.kindOf y = some .local) (hp : (env.scope.kind == .class || (env.scope.kind == .module && env.locals != env.globals)) = false)
    (h : wpAny (model prog w) A (eval iter env) (fun xv s₁ => wpAny (model prog w) A (pyIter xv) (fun it s₂ => ∃ I fp wr n P Md Bd St l J, it = .ref I ∧ CAt prog w A h₀ L m env target tst elt scope cl I fp wr n P Md Bd St l J s₂ ∧
      ∀ D h' tk ys l', J n ys l' → ys.length ≤ n → Fr h₀ L h' (fun z => if z = y then some (.ref D) else m z) → News h₀ L h' ((D, lst ys) :: l') → (∀ p ∈ l', p.1 ≠ D) → Q .next { s₂ with heap := h', toks := tk }) E s₁) E s)
    (hs : ∀ x, foldedSetIterable iter env x = pure x) :
    wpAny (model prog w) A (exec (.Assign [.Name y py] (.ListComp elt [⟨target, iter, tst.toList, 0⟩] scope pos) spos) env) Q E s := by
  subst hLe
  rw [exec_Assign_Name_used _ _ _ _ hsw]
  refine wpAny_bind (wpAny_standAt (wpAny_bind ?_))
  show wpAny _ A (do let _ ← comprehension (.ListComp elt [⟨target, iter, tst.toList, 0⟩] scope pos) scope env _ (newList []) false (eval iter env) (some (assign (.Name y py) env))) _ _ s
  refine wpAny_bind (wpAny_mono (wpAny_comprehension_free (use := some (assign (.Name y py) env)) (Q := fun _ s' => Q .next s') rfl hs hclos hkind hnames
    (wpAny_mono h (fun xv s₁ h₁ => wpAny_mono h₁ (fun it s₂ h₂ => ?_) fun _ _ e => e) fun _ _ e => e)) (fun _ s' hq => wpAny_pure (wpAny_pure hq)) fun _ _ e => e)
  refine hideGoal fun hG6 hE6 => ?_
  obtain ⟨I, fp, wr, n, P, Md, Bd, St, l, J, rfl, X, done⟩ := h₂
  refine hE6 ?_
  clear hE6
  refine cblock hcell hkind X fun D C h tk m' ys l' hJ hyl F N offD offC hn hC₀ hCL hCD => ?_
  show wpAny _ A (assign (.Name y py) env (.ref D)) _ _ _
  refine wpAny_assign_Name (wpAny_storeName_local hy F.ns (fun h₂ hn₂ hs₂ => ?_) hp)
  refine ⟨m', hn.sameBut hs₂ hCL, fun h'' hs'' => ?_⟩
  have hL₀ : h₀.get? env.locals = none := Heap.get?_none_of_le F.above
  have F₂ : Fr h₀ env.locals h₂ (fun z => if z = y then some (.ref D) else m z) := ⟨hn₂, fun b o e => hs₂.extBut b o (fun q => by rw [q, hL₀] at e; cases e) (F.keep b o e), F.above⟩
  refine done D h'' (tk + 1) ys l' hJ hyl (F₂.change hs'' hCL hC₀) (fun p hp => ?_) offD
  have z : h₂.get? p.1 = some p.2 := hs₂.extBut _ _ (N p hp).2.1 (N p hp).1
  refine ⟨hs''.extBut _ _ ?_ z, (N p hp).2⟩
  rcases List.mem_cons.mp hp with rfl | hp
  · exact Ne.symm hCD
  · exact offC p hp
end
end
section
/-- a source of a loop: what its iterator hands out -/
noncomputable def Sr (prog : Program) (w : World) (A : Around) (target : PySem.Expr) (xv : Value) (n : Nat) (P : Nat → Value → Heap → Prop) (srcs : List (Addr × Obj)) (s : Shared) : Prop :=
  ∀ (Q : Value → Shared → Prop) (E : Value → Shared → Prop), (∀ I h' fp Md St, s.heap.get? I = none → (∀ b o, s.heap.get? b = some o → h'.get? b = some o) → KTurns prog w A target I fp [I] n P Md St →
     (∀ b ∈ fp, b = I ∨ b ∈ srcs.map (·.1)) → (∀ i h, St i h → ∃ o, h.get? I = some o ∧ It o = true) → St 0 h' →
     (∀ (s : Shared) (Q : Value → Shared → Prop) (E : Value → Shared → Prop), St 0 s.heap → Q (.ref I) s → wpAny (model prog w) A (pyIter (.ref I)) Q E s) →
     Q (.ref I) { s with heap := h' }) → wpAny (model prog w) A (pyIter xv) Q E s

noncomputable def LStep (h₀ : Heap) (L : Addr) (l₁ : List (Addr × Obj)) (Jn : (Str → Option Value) → List (Addr × Obj) → Prop) (s₁ : Shared) (Qr : Value → Shared → Prop) (Qb : Shared → Prop) (f : Flow) (s₂ : Shared) : Prop :=
  match f with
  | .ret v => Qr v s₂
  | .brk => Qb s₂
  | _ => ∃ h' tk m' l', s₂ = { s₁ with heap := h', toks := tk } ∧ Fr h₀ L h' m' ∧ News h₀ L h' l' ∧ KeepIt l₁ l' ∧ Jn m' l'

structure FAt (prog : Program) (w : World) (A : Around) (h₀ : Heap) (env : Env) (target : PySem.Expr) (body : List Stmt) (Q : Flow → Shared → Prop) (E : Value → Shared → Prop) (xv : Value) (n : Nat) (P : Nat → Value → Heap → Prop) (srcs : List (Addr × Obj)) (m : Str → Option Value) (l : List (Addr × Obj)) (J : Nat → (Str → Option Value) → List (Addr × Obj) → Prop) (s₁ : Shared) : Prop where
  S : Sr prog w A target xv n P srcs s₁
  hL : env.locals ∉ srcs.map (·.1)
  F : Fr h₀ env.locals s₁.heap m
  N : News h₀ env.locals s₁.heap l
  src : ∀ i m l, J i m l → ∀ q ∈ srcs, Kn h₀ l q.1 q.2
  mono : ∀ i m l l', Ev l l' [] → J i m l → J i m l'
  j0 : J 0 m l
  step : ∀ i v m₁ l₁ h₁ tk₁, i < n → P i v h₁ → J i m₁ l₁ → KeepIt l l₁ → Fr h₀ env.locals h₁ m₁ → News h₀ env.locals h₁ l₁ →
    wpAny (model prog w) A (assign target env v) (fun _ s₃ => wpAny (model prog w) A (execs body env) (LStep h₀ env.locals l₁ (J (i + 1)) { s₁ with heap := h₁, toks := tk₁ } (fun v s' => Q (.ret v) s') fun s' => Q .next s') E s₃) E { s₁ with heap := h₁, toks := tk₁ }
  done : ∀ h' tk m' l', Fr h₀ env.locals h' m' → News h₀ env.locals h' l' → KeepIt l l' → J n m' l' → Q .next { s₁ with heap := h', toks := tk }

section
variable {prog : Program} {w : World} {A : Around} {E : Value → Shared → Prop} {s : Shared} {env : Env} {h₀ : Heap} {target : PySem.Expr} {body : List Stmt} {Q : Flow → Shared → Prop}

theorem For_at {iter : PySem.Expr} {pos : Pos} {m : Str → Option Value} (F₀ : Fr h₀ env.locals s.heap m)
    (h : wpAny (model prog w) A (eval iter env) (fun xv s₁ => ∃ n P srcs m l J, FAt prog w A h₀ env target body Q E xv n P srcs m l J s₁) E s)
    (hs : ∀ x, foldedSetIterable iter env x = pure x := by intro _; rfl)
    (hE : PassesOwn (model prog w) A env E := by passes_own) :
    wpAny (model prog w) A (exec (.For target iter body [] pos) env) Q E s := by
  refine For_turns F₀ (wpAny_mono h (fun xv s₁ h₁ => ?_) fun _ _ e => e) hs hE
  obtain ⟨n, P, srcs, m, l, J, X⟩ := h₁
  refine X.S _ _ fun I h' fp Md St hI up W hfp itr hst self => ?_
  have offI : ∀ p ∈ l, p.1 ≠ I := fun p hp e => by have := (X.N p hp).1; rw [e, hI] at this; cases this
  obtain ⟨oL, _, _, hoL, _⟩ := X.F.ns
  have hIL : env.locals ≠ I := fun e => by rw [e, hI] at hoL; cases hoL
  have hI₀ : h₀.get? I = none := by
    cases e : h₀.get? I with
    | none => rfl
    | some o => have := X.F.keep I o e; rw [hI] at this; cases this
  refine ⟨I, fp, [I], n, P, Md, St, m, l, fun i m₁ l₁ => J i m₁ l₁ ∧ KeepIt l l₁, rfl, W, fun hm => ?_, fun b hb => by rw [List.mem_singleton.mp hb]; exact hI₀, fun p hp hm => offI p hp (List.mem_singleton.mp hm), hst, X.F.keeps up, fun p hp => ⟨up _ _ (X.N p hp).1, (X.N p hp).2⟩, ⟨X.j0, .refl⟩, ?_,
    fun h₂ tk m' l' F' N' _ ⟨hJ, hK⟩ => X.done h₂ tk m' l' F' N' hK hJ⟩
  · rcases hfp _ hm with e | e
    · exact hIL e
    · exact X.hL e
  intro i v m₁ news₁ h₁ tk₁ own hi hP ⟨hJ, hK⟩ hnw ho1 ho2 ho3 hst₁ F₁ N₁
  have hIo : ∃ o, (I, o) ∈ own ∧ It o = true := by
    obtain ⟨o, e, z⟩ := itr _ _ hst₁
    exact ⟨o, ho3 I (W.sub I (List.mem_singleton.mpr rfl)) hI₀ o e, z⟩
  have hJ₁ := X.mono i m₁ news₁ (own ++ news₁) (Ev.of fun p hp => List.mem_append_right _ hp) hJ
  refine wpAny_mono (X.step i v m₁ (own ++ news₁) h₁ tk₁ hi hP hJ₁ (hK.trans (KeepIt.of fun p hp => List.mem_append_right _ hp)) F₁ N₁) (fun _ s₃ h₃ => wpAny_mono h₃ (fun f s₄ h₄ => ?_) fun _ _ e => e) fun _ _ e => e
  have key : ∀ f', f' = Flow.next → LStep h₀ env.locals (own ++ news₁) (J (i + 1)) { s₁ with heap := h₁, toks := tk₁ } (fun v s' => Q (.ret v) s') (fun s' => Q .next s') f' s₄ →
      LoopStepU h₀ env.locals [I] own (fun m₁ l₁ => J (i + 1) m₁ l₁ ∧ KeepIt l l₁) { s₁ with heap := h₁, toks := tk₁ } f' s₄ := by
    rintro f' rfl ⟨h₅, tk₅, m₅, l₅, rfl, F₅, N₅, K₅, J₅⟩
    obtain ⟨oI, hoI, zI⟩ := hIo
    have hI5 : (I, oI) ∈ l₅ := K₅ _ (List.mem_append_left _ hoI) zI
    refine LoopStepU.intro (news₂ := l₅.filter fun p => decide (p.1 ≠ I)) F₅ (fun p hp => ?_) (fun p hp hm => ?_) ⟨?_, fun p hp z => ?_⟩
    · rcases List.mem_append.mp hp with hp | hp
      · rcases hfp _ (ho1 p hp) with e | e
        · have : p.2 = oI := by
            have a := ho2 p hp
            have b := ho2 _ hoI
            rw [e] at a
            rw [a] at b
            exact Option.some.inj b
          have hp' : p = (I, oI) := Prod.ext e this
          rw [hp']; exact N₅ _ hI5
        · obtain ⟨q, hq, e⟩ := List.mem_map.mp e
          have a := (X.src _ _ _ hJ₁ q hq).get F₁ N₁
          have b := (X.src _ _ _ J₅ q hq).get F₅ N₅
          have c := ho2 p hp
          rw [← e, a] at c
          have d : q.2 = p.2 := Option.some.inj c
          exact ⟨by rw [← e, ← d]; exact b, (N₁ p (List.mem_append_left _ hp)).2⟩
      · exact N₅ p (List.mem_filter.mp hp).1
    · have := (List.mem_filter.mp hp).2
      simp only [decide_eq_true_eq] at this
      exact this (List.mem_singleton.mp hm)
    · refine X.mono _ _ _ _ (fun p hp _ z => List.mem_filter.mpr ⟨hp, ?_⟩) J₅
      simp only [decide_eq_true_eq]
      intro e
      rw [news_same N₅ hp hI5 e, zI] at z
      cases z
    · refine List.mem_filter.mpr ⟨K₅ p (List.mem_append_right _ (hK p hp z)) z, ?_⟩
      simp only [decide_eq_true_eq]
      exact offI p hp
  cases f with
  | ret v => exact h₄
  | brk => exact h₄
  | next => exact key _ rfl h₄
  | cont => exact key .next rfl h₄

theorem letGo_it {I : Addr} {v : Value} {o : Obj} {Q : Unit → Shared → Prop} (ho : s.heap.get? I = some o) (hi : It o = true) (hQ : Q () s) : wpAny (model prog w) A (letOwnedTupleGo target (.ref I) v) Q E s := by
  have go : ∀ a : Addr, wpAny (model prog w) A (load I >>= fun o => match o.cls, o.data with
      | .type n, .fields vs =>
        if ["enumerate", "zip", "dict_itemiterator", "dict_reverseitemiterator", "odict_iterator", "itertools.zip_longest", "itertools.pairwise"].contains n && vs[0]? == some (rawInt a) then
          rule "for.unpacks-the-owned-tuple" >>= fun _ => updateField I 0 .none
        else pure ()
      | _, _ => pure ()) Q E s := by
    intro a
    refine wpAny_bind (wpAny_load ho ?_)
    unfold It at hi
    split at hi
    · rename_i vs n hd hc
      have hn : ["enumerate", "zip", "dict_itemiterator", "dict_reverseitemiterator", "odict_iterator", "itertools.zip_longest", "itertools.pairwise"].contains n = false := by
        have hm := List.contains_iff_mem.mp hi
        simp only [List.mem_cons, List.not_mem_nil, or_false] at hm
        rcases hm with rfl | rfl | rfl | rfl | rfl <;> decide
      rw [hc, hd]
      simp only [hn, Bool.false_and, Bool.false_eq_true, if_false]
      exact wpAny_pure hQ
    · cases hi
  unfold letOwnedTupleGo
  cases target <;> first
    | exact wpAny_pure hQ
    | (cases v <;> first | exact wpAny_pure hQ | exact go _)

theorem Sr.ofWalks {xv : Value} {n : Nat} {P : Nat → Value → Prop} {srcs : List (Addr × Obj)}
    (h : ∀ (Q : Value → Shared → Prop) (E : Value → Shared → Prop), (∀ I h' fp St, s.heap.get? I = none → (∀ b o, s.heap.get? b = some o → h'.get? b = some o) → Walks prog w A I fp [I] n P St →
     (∀ b ∈ fp, b = I ∨ b ∈ srcs.map (·.1)) → (∀ i h, St i h → ∃ o, h.get? I = some o ∧ It o = true) → St 0 h' → Q (.ref I) { s with heap := h' }) → wpAny (model prog w) A (pyIter xv) Q E s) :
    Sr prog w A target xv n (fun i v _ => P i v) srcs s := fun Q E hQ => h Q E fun I h' fp St hI up W hfp itr st =>
  hQ I h' fp _ St hI up (KTurns.ofWalks W fun i _ _ _ _ st hQ => let ⟨_, ho, hi⟩ := itr i _ st; letGo_it ho hi hQ) hfp itr st fun s Q E st hQ => W.self 0 s Q E st hQ

theorem it_of {o : Obj} {n : String} {vs : Array Value} (hc : o.cls = .type n) (hd : o.data = .fields vs) (hn : ["list_iterator", "range_iterator", "dict_keyiterator", "tuple_iterator", "generator"].contains n = true) : It o = true := by unfold It; rw [hd, hc]; exact hn
theorem size_none {h : Heap} : h.get? h.objs.size = none := by
  cases e : h.get? h.objs.size with
  | none => rfl
  | some o => exact absurd (Heap.lt_size e) (Nat.lt_irrefl _)

theorem Sr.list {a : Addr} {o : Obj} {items : Array Value} {n : Nat} (hh : A.handled = none) (ho : s.heap.get? a = some o) (hc : o.cls = .type "list") (hd : o.data = .seq items n) :
    Sr prog w A target (.ref a) items.size (fun i v _ => items[i]? = some v) [(a, o)] s := Sr.ofWalks fun Q E hQ => by
  have hl : s.heap.IsList a items := ⟨o, ho, hc, n, hd⟩
  refine wpAny_pyIter_list hl (hQ _ _ _ _ size_none (fun b o e => Heap.get?_push_of_some _ e) (Walks.list hh s.heap.objs.size a (Nat.ne_of_lt (Heap.lt_size ho)) items) ?_ ?_ ⟨⟨_, Heap.get?_push_size _ rfl, rfl, rfl⟩, hl.push _⟩)
  · intro b hb; simp at hb ⊢; exact hb
  · rintro i h ⟨⟨o, ho, hc, hd⟩, _⟩; exact ⟨o, ho, it_of hc hd (by decide)⟩

theorem Sr.tup {a : Addr} {o : Obj} {items : Array Value} {n : Nat} (hh : A.handled = none) (ho : s.heap.get? a = some o) (hc : o.cls = .type "tuple") (hd : o.data = .seq items n) :
    Sr prog w A target (.ref a) items.size (fun i v _ => items[i]? = some v) [(a, o)] s := Sr.ofWalks fun Q E hQ => by
  have hl : s.heap.IsTuple a items := ⟨o, ho, hc, n, hd⟩
  refine wpAny_pyIter_tuple hl (hQ _ _ _ _ size_none (fun b o e => Heap.get?_push_of_some _ e) (Walks.tuple hh s.heap.objs.size a (Nat.ne_of_lt (Heap.lt_size ho)) items) ?_ ?_ ⟨⟨_, Heap.get?_push_size _ rfl, rfl, rfl⟩, hl.at fun _ e => Heap.get?_push_of_some _ e⟩)
  · intro b hb; simp at hb ⊢; exact hb
  · rintro i h ⟨⟨o, ho, hc, hd⟩, _⟩; exact ⟨o, ho, it_of hc hd (by decide)⟩

theorem Sr.dict {a : Addr} {o : Obj} {es : Array DictEntry} {ep : Nat} (hh : A.handled = none) (lo : (a == sysModules) = false) (ho : s.heap.get? a = some o) (hc : o.ExactDict) (hd : o.data = .dict es ep) :
    Sr prog w A target (.ref a) es.size (fun i v _ => ∃ e, es[i]? = some e ∧ v = e.key) [(a, o)] s := Sr.ofWalks fun Q E hQ => by
  have hl : RawD s.heap a es ep := ⟨o, ho, hc, hd⟩
  refine iter_raw lo hl (hQ _ _ _ _ size_none (fun b o e => Heap.get?_push_of_some _ e) (walks_raw hh s.heap.objs.size a (Nat.ne_of_lt (Heap.lt_size ho)) es ep) ?_ ?_ ⟨⟨_, Heap.get?_push_size _ rfl, rfl, rfl⟩, hl.at fun _ e => Heap.get?_push_of_some _ e⟩)
  · intro b hb; simp at hb ⊢; exact hb
  · rintro i h ⟨⟨o, ho, hc, hd⟩, _⟩; exact ⟨o, ho, it_of hc hd (by decide)⟩

theorem Sr.range {r : Addr} {a b c : Int} {t u v : Tok} (hh : A.handled = none) (hr : IsRange s.heap r a b c t u v) (hsm : Builtin.Range.small a b c = true) {n : Nat} (hn : Builtin.Range.rangeSize a b c = (n : Int)) :
    Sr prog w A target (.ref r) n (fun i v _ => ∃ t, v = .int (a + i * c) t) [] s := Sr.ofWalks fun Q E hQ => by
  refine wpAny_pyIter_range hr hsm (hQ _ _ _ _ size_none (fun b o e => Heap.get?_push_of_some _ e) (Walks.range hh s.heap.objs.size a c n) ?_ ?_ ?_)
  · intro b hb; simp at hb ⊢; exact hb
  · intro i h hi; exact ⟨_, hi, it_of (n := "range_iterator") rfl rfl (by decide)⟩
  · show Heap.get? _ _ = _
    rw [Heap.get?_push_size _ rfl, hn]
    simp
end
end
section
/-- what a comprehension's turn may use -/
noncomputable def Kx (h₀ : Heap) (l : List (Addr × Obj)) (C D : Addr) (a : Addr) (o : Obj) : Prop := Kn h₀ l a o ∧ a ≠ C ∧ a ≠ D
noncomputable def TEnd (h₀ : Heap) (L : Addr) (m : Str → Option Value) (s₁ : Shared) (l₁ : List (Addr × Obj)) (C D : Addr) (J : (Addr → Obj → Prop) → Prop) (s₃ : Shared) : Prop :=
  ∃ h' tk l₂, s₃ = { s₁ with heap := h', toks := tk } ∧ Fr h₀ L h' m ∧ News h₀ L h' l₂ ∧ (∀ p ∈ l₁, p ∈ l₂) ∧ J (Kx h₀ l₂ C D)

structure CoAt (prog : Program) (w : World) (A : Around) (h₀ : Heap) (L : Addr) (m : Str → Option Value) (env : Env) (target : PySem.Expr) (tst : Option PySem.Expr) (elt : PySem.Expr) (scope : Scope) (cl : List (Str × Addr))
    (xv : Value) (n : Nat) (P : Nat → Value → Heap → Prop) (srcs : List (Addr × Obj)) (Bd : Nat → Value → (Str → Option Value) → Prop) (l : List (Addr × Obj)) (J : Nat → List Value → (Addr → Obj → Prop) → Prop) (s₁ : Shared) : Prop where
  S : Sr prog w A target xv n P srcs s₁
  hn : n ≤ sizeLine
  hL : L ∉ srcs.map (·.1)
  F : Fr h₀ L s₁.heap m
  N : News h₀ L s₁.heap l
  src : ∀ q ∈ srcs, Kn h₀ l q.1 q.2
  mono : ∀ i ys P P', (∀ a o, P a o → P' a o) → J i ys P → J i ys P'
  j0 : J 0 [] (Kn h₀ l)
  asg : ∀ C m₁ i v (s : Shared) (Q : Unit → Shared → Prop) (E : Value → Shared → Prop) l₁, i < n → P i v s.heap → Ev l l₁ [] → News h₀ L s.heap l₁ → (∀ b o, h₀.get? b = some o → s.heap.get? b = some o) → s.heap.Ns C m₁ →
    (∀ h' tk m', Bd i v m' → h'.Ns C m' → (∀ b o, b ≠ C → s.heap.get? b = some o → h'.get? b = some o) → Q () { s with heap := h', toks := tk }) → wpAny (model prog w) A (assign target (compEnvC scope cl C env) v) Q E s
  turn : ∀ i v ys l₁ h₁ tk₁ C oC m₂ D (E' : Value → Shared → Prop), i < n → Bd i v m₂ → J i ys (Kx h₀ ((C, oC) :: (D, lst ys) :: l₁) C D) → Ev l l₁ [] → (∀ p ∈ l, p.1 ≠ C ∧ p.1 ≠ D) → NsObj oC m₂ → Fr h₀ L h₁ m → News h₀ L h₁ ((C, oC) :: (D, lst ys) :: l₁) →
    CTurn prog w A (compEnvC scope cl C env) tst elt (fun y => TEnd h₀ L m { s₁ with heap := h₁, toks := tk₁ } ((C, oC) :: (D, lst ys) :: l₁) C D (J (i + 1) (ys ++ [y])))
      (TEnd h₀ L m { s₁ with heap := h₁, toks := tk₁ } ((C, oC) :: (D, lst ys) :: l₁) C D (J (i + 1) ys)) E' { s₁ with heap := h₁, toks := tk₁ }

section
variable {prog : Program} {w : World} {A : Around} {E : Value → Shared → Prop} {s₁ : Shared} {h₀ : Heap} {L : Addr} {m : Str → Option Value} {env : Env}
theorem CTurn.mono {cenv : Env} {tst : Option PySem.Expr} {elt : PySem.Expr} {yes yes' : Value → Shared → Prop} {no no' : Shared → Prop} {s : Shared} (h : CTurn prog w A cenv tst elt yes no E s) (hy : ∀ v s, yes v s → yes' v s) (hn : ∀ s, no s → no' s) : CTurn prog w A cenv tst elt yes' no' E s := by
  unfold CTurn at h ⊢
  cases tst with
  | none => exact wpAny_mono h (fun v s x => hy v s x) fun _ _ e => e
  | some c =>
    refine wpAny_mono h (fun ok s x => ?_) fun _ _ e => e
    cases ok with
    | true =>
      simp only [if_true] at x ⊢
      exact wpAny_mono x (fun v s x => hy v s x) fun _ _ e => e
    | false =>
      simp only [Bool.false_eq_true, if_false] at x ⊢
      exact hn _ x

theorem CoAt.cat {target : PySem.Expr} {tst : Option PySem.Expr} {elt : PySem.Expr} {scope : Scope} {cl : List (Str × Addr)} {xv : Value} {n : Nat} {P : Nat → Value → Heap → Prop} {srcs : List (Addr × Obj)} {Bd : Nat → Value → (Str → Option Value) → Prop} {l : List (Addr × Obj)} {J : Nat → List Value → (Addr → Obj → Prop) → Prop} {Q : Value → Shared → Prop}
    (X : CoAt prog w A h₀ L m env target tst elt scope cl xv n P srcs Bd l J s₁)
    (hQ : ∀ it s₂, (∃ I fp wr n' P Md Bd St l' J', it = .ref I ∧ CAt prog w A h₀ L m env target tst elt scope cl I fp wr n' P Md Bd St l' J' s₂ ∧ (∃ tk hp, s₂ = { s₁ with heap := hp, toks := tk }) ∧ n' = n ∧ ∀ ys l₂, J' n ys l₂ → J n ys (Kn h₀ l₂) ∧ KeepIt l l₂ ∧ Ev l l₂ []) → Q it s₂) :
    wpAny (model prog w) A (pyIter xv) Q E s₁ := by
  refine X.S _ _ fun I h' fp Md St hI up W hfp itr hst self => hQ _ _ ⟨I, fp, [I], n, P, Md, Bd, St, l, fun i ys l₁ => J i ys (Kn h₀ l₁) ∧ KeepIt l l₁ ∧ Ev l l₁ [], rfl, ?_, ⟨_, _, rfl⟩, rfl, fun _ _ h => h⟩
  have offI : ∀ p ∈ l, p.1 ≠ I := fun p hp e => by have := (X.N p hp).1; rw [e, hI] at this; cases this
  refine hideGoal fun hG1 hE1 => ?_
  obtain ⟨oL, _, _, hoL, _⟩ := X.F.ns
  refine hE1 ?_
  clear hE1
  have hIL : L ≠ I := fun e => by rw [e, hI] at hoL; cases hoL
  have hI₀ : h₀.get? I = none := by
    cases e : h₀.get? I with
    | none => rfl
    | some o => have := X.F.keep I o e; rw [hI] at this; cases this
  refine hideGoal fun hG2 hE2 => ?_
  obtain ⟨oI, hoI, -⟩ := itr _ _ hst
  refine hE2 ?_
  clear hE2
  refine ⟨W, self, X.hn, fun hm => ?_, fun b hb => by rw [List.mem_singleton.mp hb]; exact hI₀, fun p hp hm => offI p hp (List.mem_singleton.mp hm), fun b hb => ?_, hst, X.F.keeps up, fun p hp => ⟨up _ _ (X.N p hp).1, (X.N p hp).2⟩, ⟨X.j0, .refl, .refl⟩, ?_, fun i h st b hb => by rw [List.mem_singleton.mp hb]; exact itr i h st, ?_⟩
  · rcases hfp _ hm with e | e
    · exact hIL e
    · exact X.hL e
  · rcases hfp _ hb with e | e
    · rw [e]; exact Heap.lt_size hoI
    · obtain ⟨q, hq, e⟩ := List.mem_map.mp e
      rw [← e]; exact Heap.lt_size (up _ _ ((X.src q hq).get X.F X.N))
  · exact fun C m₁ i v s Q E ys l₁ hi hP ⟨hJ, hK, hE⟩ N₁ k₁ hn hQ => X.asg C m₁ i v s Q E l₁ hi hP hE N₁ k₁ hn hQ
  · rintro i v ys l₁ h₁ tk₁ own C oC m₂ D E' hi hown hBd ⟨hJ, hK, hE⟩ hy hoC off F₁ N₁
    refine hideGoal fun hG3 hE3 => ?_
    obtain ⟨oI, hIo, zI⟩ := hown I (List.mem_singleton.mpr rfl)
    refine hE3 ?_
    clear hE3
    have offl : ∀ p ∈ l₁, p.1 ≠ C ∧ p.1 ≠ D ∧ p.1 ≠ I := fun p hp => ⟨fun e => off p hp (by simp [e]), fun e => off p hp (by simp [e]), fun e => off p hp (by simp [e])⟩
    have nC : h₀.get? C = none := (N₁ (C, oC) (by simp)).2.2
    have nD : h₀.get? D = none := (N₁ (D, lst ys) (by simp)).2.2
    have cD : D ≠ C ∨ True := .inr trivial
    have conv : ∀ (ys' : List Value) (s₃ : Shared), TEnd h₀ L m { s₁ with heap := h₁, toks := tk₁ } ((C, oC) :: (D, lst ys) :: (own ++ l₁)) C D (J (i + 1) ys') s₃ →
        CEnd h₀ L m { s₁ with heap := h₁, toks := tk₁ } ((C, oC) :: (D, lst ys) :: own) (C :: D :: [I]) (fun l₁ => J (i + 1) ys' (Kn h₀ l₁) ∧ KeepIt l l₁ ∧ Ev l l₁ []) s₃ := by
      intro ys' s₃ hI9r1
      refine hideGoal fun hGr1 hEr1 => ?_
      refine hideGoal fun hG4 hE4 => ?_
      obtain ⟨h₅, tk₅, l₂, rfl, F₅, N₅, sub, J₅⟩ := hI9r1
      refine hE4 ?_
      clear hE4
      refine hEr1 ?_
      clear hEr1
      have hI5 : (I, oI) ∈ l₂ := sub _ (by simp [hIo])
      refine ⟨h₅, tk₅, l₂.filter fun p => decide (p.1 ∉ C :: D :: [I]), rfl, F₅, fun p hp => ?_, fun p hp => by simpa using (List.mem_filter.mp hp).2, X.mono _ _ _ _ (fun a o k => ?_) J₅, fun p hp z => ?_, fun p hp hn z => ?_⟩
      · rcases List.mem_append.mp hp with hp | hp
        · exact N₅ p (sub p (by simp only [List.mem_cons, List.mem_append] at hp ⊢; rcases hp with h | h | h; exact .inl h; exact .inr (.inl h); exact .inr (.inr (.inl h))))
        · exact N₅ p (List.mem_filter.mp hp).1
      · obtain ⟨⟨k, z⟩, k1, k2⟩ := k
        refine ⟨k.imp id fun hm => List.mem_filter.mpr ⟨hm, ?_⟩, z⟩
        have : a ≠ I := by
          rintro rfl
          have e : o = oI := news_same N₅ hm hI5 rfl
          rw [e, zI] at z
          cases z
        simpa using ⟨k1, k2, this⟩
      · have q := hK p hp z
        refine List.mem_filter.mpr ⟨sub _ (by simp [q]), ?_⟩
        simpa using offl p q
      · have q := hE p hp hn z
        refine List.mem_filter.mpr ⟨sub _ (by simp [q]), ?_⟩
        simpa using offl p q
    have offP : ∀ p ∈ l, It p.2 = false ∨ It p.2 = true → p.1 ≠ C ∧ p.1 ≠ D := fun p hp z => by
      have q : p ∈ l₁ := by
        cases e : It p.2 with
        | true => exact hK p hp e
        | false => exact hE p hp (List.not_mem_nil) e
      exact ⟨(offl p q).1, (offl p q).2.1⟩
    refine CTurn.mono (X.turn i v ys (own ++ l₁) h₁ tk₁ C oC m₂ D E' hi hBd (X.mono _ _ _ _ (fun a o k => ⟨⟨k.1.imp id fun hm => by simp [hm], k.2⟩, ?_, ?_⟩) hJ) (hE.trans (Ev.of fun p hp => List.mem_append_right _ hp)) (fun p hp => offP p hp (by cases It p.2 <;> simp)) hoC F₁ (by simpa using N₁)) (fun y s₃ h => conv _ _ h) fun s₃ h => conv _ _ h
    · rcases k.1 with k | k
      · rintro rfl; rw [nC] at k; cases k
      · exact (offl _ k).1
    · rcases k.1 with k | k
      · rintro rfl; rw [nD] at k; cases k
      · exact (offl _ k).2.1

theorem comp_at {s : Shared} {elt target iter : PySem.Expr} {tst : Option PySem.Expr} {scope : Scope} {cl : List (Str × Addr)} {pos : Pos} {Q : Value → Shared → Prop} (_F₀ : Fr h₀ L s.heap m)
    (hclos : closureFor scope env = pure cl) (hcell : ∀ y ∈ scope.names, y.2 ≠ .cell) (hkind : scope.kind = .function)
    (hnames : ∀ y ∈ scope.names, y.2 = .local → scope.names.lookup y.1 = some .local)
    (h : wpAny (model prog w) A (eval iter env) (fun xv s₁ => ∃ n P srcs Bd l J, CoAt prog w A h₀ L m env target tst elt scope cl xv n P srcs Bd l J s₁ ∧
      ∀ D h' tk ys l', J n ys (Kn h₀ l') → ys.length ≤ n → Fr h₀ L h' m → News h₀ L h' ((D, lst ys) :: l') → (∀ p ∈ l', p.1 ≠ D) → KeepIt l l' → Ev l l' [] → Q (.ref D) { s₁ with heap := h', toks := tk }) E s)
    (hs : ∀ x, foldedSetIterable iter env x = pure x) :
    wpAny (model prog w) A (eval (.ListComp elt [⟨target, iter, tst.toList, 0⟩] scope pos) env) Q E s := by
  refine comp_rule (h₀ := h₀) (L := L) (m := m) hclos hcell hkind hnames (wpAny_mono h (fun xv s₁ h₁ => ?_) fun _ _ e => e) hs
  refine hideGoal fun hG5 hE5 => ?_
  obtain ⟨n, P, srcs, Bd, l, J, X, done⟩ := h₁
  refine hE5 ?_
  clear hE5
  refine X.cat ?_
  intro it s₂ hI9r2
  refine hideGoal fun hGr2 hEr2 => ?_
  refine hideGoal fun hG6 hE6 => ?_
  obtain ⟨I, fp, wr, n', P, Md, Bd, St, l', J', rfl, Y, ⟨tk, hp, rfl⟩, rfl, k⟩ := hI9r2
  refine hE6 ?_
  clear hE6
  refine hEr2 ?_
  clear hEr2
  exact ⟨I, fp, wr, _, P, Md, Bd, St, l', J', rfl, Y, fun D h' tk ys l₂ hJ hy F N off => let ⟨a, b, c⟩ := k ys l₂ hJ; done D h' tk ys l₂ a hy F N off b c⟩

theorem assign_comp_at {s : Shared} {elt target iter : PySem.Expr} {tst : Option PySem.Expr} {scope : Scope} {cl : List (Str × Addr)} {pos spos py : Pos} {y : Str} {Q : Flow → Shared → Prop} (_F₀ : Fr h₀ L s.heap m) (hLe : env.locals = L)
    (hsw : swapsWith (.ListComp elt [⟨target, iter, tst.toList, 0⟩] scope pos) (some (.Name y py)) spos.line env = pure true)
    (hclos : closureFor scope env = pure cl) (hcell : ∀ y ∈ scope.names, y.2 ≠ .cell) (hkind : scope.kind = .function)
    (hnames : ∀ y ∈ scope.names, y.2 = .local → scope.names.lookup y.1 = some .local)
    (hy : env.kindOf y = some .local) (hp : (env.scope.kind == .class || (env.scope.kind == .module && env.locals != env.globals)) = false)
    (h : wpAny (model prog w) A (eval iter env) (fun xv s₁ => ∃ n P srcs Bd l J, CoAt prog w A h₀ L m env target tst elt scope cl xv n P srcs Bd l J s₁ ∧
      ∀ D h' tk ys l', J n ys (Kn h₀ l') → ys.length ≤ n → Fr h₀ L h' (fun z => if z = y then some (.ref D) else m z) → News h₀ L h' ((D, lst ys) :: l') → (∀ p ∈ l', p.1 ≠ D) → KeepIt l l' → Ev l l' [] → Q .next { s₁ with heap := h', toks := tk }) E s)
    (hs : ∀ x, foldedSetIterable iter env x = pure x) :
    wpAny (model prog w) A (exec (.Assign [.Name y py] (.ListComp elt [⟨target, iter, tst.toList, 0⟩] scope pos) spos) env) Q E s := by
  refine assign_comp (h₀ := h₀) (L := L) (m := m) hLe hsw hclos hcell hkind hnames hy hp (wpAny_mono h (fun xv s₁ h₁ => ?_) fun _ _ e => e) hs
  refine hideGoal fun hG7 hE7 => ?_
  obtain ⟨n, P, srcs, Bd, l, J, X, done⟩ := h₁
  refine hE7 ?_
  clear hE7
  refine X.cat ?_
  intro it s₂ hI9r3
  refine hideGoal fun hGr3 hEr3 => ?_
  refine hideGoal fun hG8 hE8 => ?_
  obtain ⟨I, fp, wr, n', P, Md, Bd, St, l', J', rfl, Y, ⟨tk, hp, rfl⟩, rfl, k⟩ := hI9r3
  refine hE8 ?_
  clear hE8
  refine hEr3 ?_
  clear hEr3
  exact ⟨I, fp, wr, _, P, Md, Bd, St, l', J', rfl, Y, fun D h' tk ys l₂ hJ hy F N off => let ⟨a, b, c⟩ := k ys l₂ hJ; done D h' tk ys l₂ a hy F N off b c⟩

/-- a name as the target -/
theorem asg_name {x : Str} {px : Pos} {scope : Scope} {cl : List (Str × Addr)} {P : Nat → Value → Heap → Prop} {n : Nat} {l : List (Addr × Obj)} (hx : ∀ C, (compEnvC scope cl C env).kindOf x = some .local) (hk : ∀ C, ((compEnvC scope cl C env).scope.kind == .class || ((compEnvC scope cl C env).scope.kind == .module && (compEnvC scope cl C env).locals != (compEnvC scope cl C env).globals)) = false) :
    ∀ C m₁ i v (s : Shared) (Q : Unit → Shared → Prop) (E : Value → Shared → Prop) l₁, i < n → P i v s.heap → Ev l l₁ [] → News h₀ L s.heap l₁ → (∀ b o, h₀.get? b = some o → s.heap.get? b = some o) → s.heap.Ns C m₁ →
    (∀ h' tk m', (m' x = some v ∧ ∃ hp, P i v hp) → h'.Ns C m' → (∀ b o, b ≠ C → s.heap.get? b = some o → h'.get? b = some o) → Q () { s with heap := h', toks := tk }) → wpAny (model prog w) A (assign (.Name x px) (compEnvC scope cl C env) v) Q E s := by
  intro C m₁ i v s Q E l₁ _ hP _ _ _ hn hQ
  exact wpAny_assign_Name (wpAny_storeName_local (hx C) hn (fun h' hn' hs' => hQ _ _ _ ⟨by simp, _, hP⟩ hn' fun b o hb e => hs'.extBut b o hb e) (hk C))

theorem CoAt.name {x : Str} {px : Pos} {tst : Option PySem.Expr} {elt : PySem.Expr} {scope : Scope} {cl : List (Str × Addr)} {xv : Value} {n : Nat} {P : Nat → Value → Heap → Prop} {srcs : List (Addr × Obj)} {l : List (Addr × Obj)} {J : Nat → List Value → (Addr → Obj → Prop) → Prop}
  (S : Sr prog w A (.Name x px) xv n P srcs s₁) (hn : n ≤ sizeLine) (F : Fr h₀ L s₁.heap m) (N : News h₀ L s₁.heap l)
  (src : ∀ q ∈ srcs, Kn h₀ l q.1 q.2) (mono : ∀ i ys P P', (∀ a o, P a o → P' a o) → J i ys P → J i ys P') (j0 : J 0 [] (Kn h₀ l))
  (turn : ∀ i v ys l₁ h₁ tk₁ C oC m₂ D (E' : Value → Shared → Prop), i < n → m₂ x = some v → (∃ hp, P i v hp) → J i ys (Kx h₀ ((C, oC) :: (D, lst ys) :: l₁) C D) → Ev l l₁ [] → (∀ p ∈ l, p.1 ≠ C ∧ p.1 ≠ D) → NsObj oC m₂ → Fr h₀ L h₁ m → News h₀ L h₁ ((C, oC) :: (D, lst ys) :: l₁) →
    CTurn prog w A (compEnvC scope cl C env) tst elt (fun y => TEnd h₀ L m { s₁ with heap := h₁, toks := tk₁ } ((C, oC) :: (D, lst ys) :: l₁) C D (J (i + 1) (ys ++ [y])))
      (TEnd h₀ L m { s₁ with heap := h₁, toks := tk₁ } ((C, oC) :: (D, lst ys) :: l₁) C D (J (i + 1) ys)) E' { s₁ with heap := h₁, toks := tk₁ })
  (hx : ∀ C, (compEnvC scope cl C env).kindOf x = some .local := by intro _; rfl) (hk : ∀ C, ((compEnvC scope cl C env).scope.kind == .class || ((compEnvC scope cl C env).scope.kind == .module && (compEnvC scope cl C env).locals != (compEnvC scope cl C env).globals)) = false := by intro _; rfl) :
    CoAt prog w A h₀ L m env (.Name x px) tst elt scope cl xv n P srcs (fun i v m' => m' x = some v ∧ ∃ hp, P i v hp) l J s₁ where
  S := S
  hn := hn
  hL := fun hm => by obtain ⟨q, hq, e⟩ := List.mem_map.mp hm; exact (src q hq).neL F N e
  F := F
  N := N
  src := src
  mono := mono
  j0 := j0
  asg := asg_name (P := P) hx hk
  turn := fun i v ys l₁ h₁ tk₁ C oC m₂ D E' hi hb => turn i v ys l₁ h₁ tk₁ C oC m₂ D E' hi hb.1 hb.2
end
end
theorem word5 : True := by
  k_with_none
  trivial
theorem word6 : True := by
  k_with "m.enter" => ((rename Around => A9); cases A9; (have hh9 := Ok.hh (by assumption)); (dsimp only at hh9); subst hh9; (rename _ + _ < recursionLimit => hd9); (dsimp only at hd9); (try ((rename _ + _ < cLine => hu9); (dsimp only at hu9))); refine' enter (by assumption) (by assumption) ?k3 ?k6 ?k7 ?k8 ?k9 ?kB ?_ ?c5 ?c2 ?c3 ?c4; (case k3 => first | assumption | exact Led.nil); (case k6 => k_dflt k_is); (case k7 => k_dflt k_is); (case k8 => dsimp only; omega); (case k9 => exact BindsTo.of_eq rfl); (case c5 => decide); (case kB => exact locs rfl); (case c2 => exact rfl); (case c3 => exact rfl); (case c4 => exact rfl); k_whole; intro _ _ _ _ _ _ _ _ _ _ _ _ _; (have hst9 := Below.stack (by assumption)); (dsimp only at hst9); subst hst9; (try dsimp only); (try k_fold))
  trivial
local macro_rules | `(tactic| k_room) => `(tactic| ((try simp only [depth_mark, depth_under_make, depth_under_kw, depth_in1, depth_deeper, depth_caller]); (try dsimp only); omega))
theorem inst_base {h₀ h : Heap} {L x dx C : Addr} {m : Str → Option Value} {od : Obj} (F : Fr h₀ L h m) (h1 : h₀.get? x = some (instObj C dx)) (h2 : h₀.get? dx = some od) : InstAt h x (instObj C dx) C (some od) := ⟨F.keep _ _ h1, rfl, rfl, F.keep _ _ h2⟩
local macro_rules | `(tactic| k_inst) => `(tactic| exact inst_base (by assumption) (by assumption) (by assumption))

/-- the objects of a frame of one component: its size is twice ac by twice dn -/
noncomputable def FrmP (w : World) (P : Addr → Obj → Prop) (fr : Addr) (ac dn : Int) : Prop := ∃ fd cl co cd, ∃ ts : Nat → Tok, P fr (instObj 177 fd) ∧
   P fd (dictOf [⟨PyData.keyHash w.params (Str.ofString "kind"), .str (Str.ofString "kind") (ts 0), .str (Str.ofString "baseline") (ts 1)⟩,
      ⟨PyData.keyHash w.params (Str.ofString "precision"), .str (Str.ofString "precision") (ts 2), .int 8 (ts 3)⟩,
      ⟨PyData.keyHash w.params (Str.ofString "height"), .str (Str.ofString "height") (ts 4), .int (2 * dn) (ts 5)⟩,
      ⟨PyData.keyHash w.params (Str.ofString "width"), .str (Str.ofString "width") (ts 6), .int (2 * ac) (ts 7)⟩,
      ⟨PyData.keyHash w.params (Str.ofString "components"), .str (Str.ofString "components") (ts 8), .ref cl⟩,
      ⟨PyData.keyHash w.params (Str.ofString "n"), .str (Str.ofString "n") (ts 9), .int 2 (ts 10)⟩] 6) ∧
   P cl (listOf #[.ref co] 0) ∧ P co (instObj 111 cd) ∧
   P cd (dictOf [⟨PyData.keyHash w.params (Str.ofString "ident"), .str (Str.ofString "ident") (ts 11), .int 1 (ts 12)⟩,
      ⟨PyData.keyHash w.params (Str.ofString "across"), .str (Str.ofString "across") (ts 13), .int 1 (ts 14)⟩,
      ⟨PyData.keyHash w.params (Str.ofString "down"), .str (Str.ofString "down") (ts 15), .int 1 (ts 16)⟩,
      ⟨PyData.keyHash w.params (Str.ofString "quant"), .str (Str.ofString "quant") (ts 17), .int 0 (ts 18)⟩] 4)

section
variable {w : World} {A : Around} {s : Shared} {g : Heap} {R : Result → Shared → Prop} {fr : Addr} {ac dn : Int}
theorem most_across_spec (ok : Ok w A g) (hs : Sub g s.heap) (hd : A.depth + 2 < recursionLimit) (hu : A.units + 40 < cLine)
    (hf : FrmP w (fun a o => g.get? a = some o) fr ac dn)
    (hR : ∀ h' tk t1, (∀ b o, g.get? b = some o → h'.get? b = some o) → R (.ok (.ret (.int 1 t1))) {s with heap := h', toks := tk}) :
    codeAny (model prg w) A (.call (.ref 134) ⟨[.ref fr], []⟩) R s := by
  obtain ⟨fd, cl, co, cd, ts, p1, p2, p3, p4, p5⟩ := hf
  walk_at "m.enter"
  repeat' (fail_if_success (with_reducible show wpAny _ _ (eval (PySem.Expr.ListComp ..) _) _ _ _)); walk1
  rename Fr _ _ _ _ => F
  refine comp_at F (tst := none) (cl := []) rfl (by decide) rfl (by decide) ?_ (fun _ => rfl)
  repeat' (fail_if_success (with_reducible show ∃ _, _)); walk1
  refine ⟨_, _, _, _, [], fun i ys _ => ys.length = i ∧ ∀ y ∈ ys, ∃ t, y = Value.int 1 t, CoAt.name (Sr.list (n := 0) rfl (F.keep _ _ p3) rfl rfl) (by show 1 ≤ sizeLine; decide) (by assumption) (by assumption) ?_ ?_ ?_ ?_, ?_⟩
  · intro q hq; rw [List.mem_singleton.mp hq]; exact .base p3 rfl
  · exact fun _ _ _ _ _ h => h
  · exact ⟨rfl, fun _ h => nomatch h⟩
  · intro i v ys l₁ h₁ tk₁ C oC m₂ D E' hi hv hP hJ hev hoff hoC F₁ N₁
    obtain ⟨_, hP⟩ := hP
    obtain rfl : i = 0 := Nat.lt_one_iff.mp hi
    obtain rfl : v = .ref co := (Option.some.inj hP).symm
    show wpAny _ _ _ _ _ _
    k_steps
    refine ⟨_, _, _, rfl, by assumption, by assumption, fun p hp => hp, by simp [hJ.1], ?_⟩
    intro y hy
    rcases List.mem_append.mp hy with hy | hy
    · exact hJ.2 y hy
    · exact ⟨_, List.mem_singleton.mp hy⟩
  · intro D h' tk ys l' hJ hlen F' N' hoff hk hev
    clear F
    obtain ⟨y, rfl⟩ : ∃ y, ys = [y] := by
      obtain ⟨e, -⟩ := hJ
      match ys, e with
      | [y], _ => exact ⟨y, rfl⟩
    obtain ⟨t, rfl⟩ := hJ.2 y (List.mem_singleton.mpr rfl)
    k_steps
    subst_vars
    exact hR _ _ _ (Fr.keep (by assumption))
theorem most_down_spec (ok : Ok w A g) (hs : Sub g s.heap) (hd : A.depth + 2 < recursionLimit) (hu : A.units + 40 < cLine)
    (hf : FrmP w (fun a o => g.get? a = some o) fr ac dn)
    (hR : ∀ h' tk t1, (∀ b o, g.get? b = some o → h'.get? b = some o) → R (.ok (.ret (.int 1 t1))) {s with heap := h', toks := tk}) :
    codeAny (model prg w) A (.call (.ref 139) ⟨[.ref fr], []⟩) R s := by
  obtain ⟨fd, cl, co, cd, ts, p1, p2, p3, p4, p5⟩ := hf
  walk_at "m.enter"
  repeat' (fail_if_success (with_reducible show wpAny _ _ (eval (PySem.Expr.ListComp ..) _) _ _ _)); walk1
  rename Fr _ _ _ _ => F
  refine comp_at F (tst := none) (cl := []) rfl (by decide) rfl (by decide) ?_ (fun _ => rfl)
  repeat' (fail_if_success (with_reducible show ∃ _, _)); walk1
  refine ⟨_, _, _, _, [], fun i ys _ => ys.length = i ∧ ∀ y ∈ ys, ∃ t, y = Value.int 1 t, CoAt.name (Sr.list (n := 0) rfl (F.keep _ _ p3) rfl rfl) (by show 1 ≤ sizeLine; decide) (by assumption) (by assumption) ?_ ?_ ?_ ?_, ?_⟩
  · intro q hq; rw [List.mem_singleton.mp hq]; exact .base p3 rfl
  · exact fun _ _ _ _ _ h => h
  · exact ⟨rfl, fun _ h => nomatch h⟩
  · intro i v ys l₁ h₁ tk₁ C oC m₂ D E' hi hv hP hJ hev hoff hoC F₁ N₁
    obtain ⟨_, hP⟩ := hP
    obtain rfl : i = 0 := Nat.lt_one_iff.mp hi
    obtain rfl : v = .ref co := (Option.some.inj hP).symm
    show wpAny _ _ _ _ _ _
    k_steps
    refine ⟨_, _, _, rfl, by assumption, by assumption, fun p hp => hp, by simp [hJ.1], ?_⟩
    intro y hy
    rcases List.mem_append.mp hy with hy | hy
    · exact hJ.2 y hy
    · exact ⟨_, List.mem_singleton.mp hy⟩
  · intro D h' tk ys l' hJ hlen F' N' hoff hk hev
    clear F
    obtain ⟨y, rfl⟩ : ∃ y, ys = [y] := by
      obtain ⟨e, -⟩ := hJ
      match ys, e with
      | [y], _ => exact ⟨y, rfl⟩
    obtain ⟨t, rfl⟩ := hJ.2 y (List.mem_singleton.mpr rfl)
    k_steps
    subst_vars
    exact hR _ _ _ (Fr.keep (by assumption))
end

theorem FrmP.mono {w : World} {P P' : Addr → Obj → Prop} {fr : Addr} {ac dn : Int} (x : FrmP w P fr ac dn) (h : ∀ a o, It o = false → P a o → P' a o) : FrmP w P' fr ac dn := by
  obtain ⟨fd, cl, co, cd, ts, p1, p2, p3, p4, p5⟩ := x
  exact ⟨fd, cl, co, cd, ts, h _ _ rfl p1, h _ _ rfl p2, h _ _ rfl p3, h _ _ rfl p4, h _ _ rfl p5⟩
section
variable {w : World} {A₀ : Around} {s : Shared} {base h₀ : Heap} {outer : List Env} {L : Addr} {m mg mb : Str → Option Value} {mean : ExcName → Option Value} {env : Env} {l : List (Addr × Obj)} {Q E : Value → Shared → Prop}
/-- a call that changes nothing that is known -/
theorem ro_at {f : Value} {args : List Value} {Post : Value → List (Addr × Obj) → Prop} (B : Below A₀ base outer h₀) (F : Fr h₀ L s.heap m) (X : (hd.heap_1 w.params).In h₀) (T : Top pp (looseW pp []) mean mg mb h₀) (N : News h₀ L s.heap l) (hf : env.frame = some L) (hk : env.scope.kind = .function) (hh : A₀.handled = none)
    (spec : ∀ g, Ok w (A₀.deeper env) g → Sub g s.heap → (∀ a o, h₀.get? a = some o ∨ (a, o) ∈ l → g.get? a = some o) → ∀ R : Result → Shared → Prop,
      (∀ h' tk v ln, (∀ b o, g.get? b = some o → h'.get? b = some o) → Led g h' ln → Post v ln → R (.ok (.ret v)) { s with heap := h', toks := tk }) → codeAny (model prg w) (A₀.deeper env) (.call f ⟨args, []⟩) R s)
    (hQ : ∀ h' tk v ln, Post v ln → Fr h₀ L h' m → News h₀ L h' (ln ++ l) → (∀ p ∈ ln, s.heap.get? p.1 = none) → Q v { s with heap := h', toks := tk }) :
    wpAny (model prg w) (A₀.deeper env) (call f args) Q E s := by
  obtain ⟨g, ok, hs, -, hg, h0, hall, lk, k1, k2, k3⟩ := site B F X T N [] (fun _ h => nomatch h) hf hk hh
  refine wpAny_call (spec g ok hs (fun a o k => k.elim (h0 a o) fun hm => hg _ hm (by simp)) _ fun h' tk v ln keep led post => ?_)
  obtain ⟨F', N'⟩ := k3 h' _ keep led
  refine hQ h' tk v ln post F' (fun p hp => N' p ?_) (fun p hp => ?_)
  · rcases List.mem_append.mp hp with hp | hp
    · exact List.mem_append_left _ hp
    · exact List.mem_append_right _ (k1 p hp (by simp))
  · cases e : s.heap.get? p.1 with
    | none => rfl
    | some o =>
      have := (led p hp).2
      rw [hall _ o e (by simp)] at this
      cases this
end
theorem calm4 : True := by (w_top off); first | walk1 | trivial
section
theorem word7 : True := by
  k_with_none
  trivial
theorem word8 : True := by
  k_with "m.enter" => ((rename Around => A9); cases A9; (have hh9 := Ok.hh (by assumption)); (dsimp only at hh9); subst hh9; (rename _ + _ < recursionLimit => hd9); (dsimp only at hd9); (try ((rename _ + _ < cLine => hu9); (dsimp only at hu9))); refine' enter (by assumption) (by assumption) ?k3 ?k6 ?k7 ?k8 ?k9 ?kB ?_ ?c5 ?c2 ?c3 ?c4; (case k3 => first | assumption | exact Led.nil); (case k6 => k_dflt k_is); (case k7 => k_dflt k_is); (case k8 => dsimp only; omega); (case k9 => exact BindsTo.of_eq rfl); (case c5 => decide); (case kB => exact locs rfl); (case c2 => exact rfl); (case c3 => exact rfl); (case c4 => exact rfl); k_whole; intro _ _ _ _ _ _ _ _ _ _ _ _ _; (have hst9 := Below.stack (by assumption)); (dsimp only at hst9); subst hst9; (try dsimp only); (try k_fold))
  trivial
section
variable {w : World} {A₀ : Around} {s : Shared} {base h₀ : Heap} {outer : List Env} {L : Addr} {m mg mb : Str → Option Value} {mean : ExcName → Option Value} {env : Env} {l : List (Addr × Obj)} {Q E : Value → Shared → Prop} {fr sc : Addr} {ac dn : Int}
theorem most_across_at (B : Below A₀ base outer h₀) (F : Fr h₀ L s.heap m) (X : (hd.heap_1 w.params).In h₀) (T : Top pp (looseW pp []) mean mg mb h₀) (N : News h₀ L s.heap l) (hf : env.frame = some L) (hk : env.scope.kind = .function) (hh : A₀.handled = none) (hd : A₀.depth + 1 + 2 < recursionLimit) (hu : A₀.units + 3 + 40 < cLine) (hfr : FrmP w (fun a o => h₀.get? a = some o) fr ac dn) 
    (hQ : ∀ h' tk t1, Fr h₀ L h' m → News h₀ L h' l → Q (.int (1) t1) { s with heap := h', toks := tk }) :
    wpAny (model prg w) (A₀.deeper env) (call (.ref 134) [.ref fr]) Q E s :=
  ro_at (Post := fun v ln => ∃ t1, v = .int (1) t1 ∧ ln = []) B F X T N hf hk hh (fun g ok hs kn R hR => most_across_spec ok hs hd hu (hfr.mono fun a o _ k => kn a o (.inl k))  fun h' tk t1 keep => hR h' tk _ [] keep Led.nil ⟨t1, rfl, rfl⟩)
   (by rintro h' tk v ln ⟨t1, rfl, rfl⟩ F' N' _; exact hQ h' tk t1 F' N')
end
section
variable {w : World} {A₀ : Around} {s : Shared} {base h₀ : Heap} {outer : List Env} {L : Addr} {m mg mb : Str → Option Value} {mean : ExcName → Option Value} {env : Env} {l : List (Addr × Obj)} {Q E : Value → Shared → Prop} {fr sc : Addr} {ac dn : Int}
theorem most_down_at (B : Below A₀ base outer h₀) (F : Fr h₀ L s.heap m) (X : (hd.heap_1 w.params).In h₀) (T : Top pp (looseW pp []) mean mg mb h₀) (N : News h₀ L s.heap l) (hf : env.frame = some L) (hk : env.scope.kind = .function) (hh : A₀.handled = none) (hd : A₀.depth + 1 + 2 < recursionLimit) (hu : A₀.units + 3 + 40 < cLine) (hfr : FrmP w (fun a o => h₀.get? a = some o) fr ac dn) 
    (hQ : ∀ h' tk t1, Fr h₀ L h' m → News h₀ L h' l → Q (.int (1) t1) { s with heap := h', toks := tk }) :
    wpAny (model prg w) (A₀.deeper env) (call (.ref 139) [.ref fr]) Q E s :=
  ro_at (Post := fun v ln => ∃ t1, v = .int (1) t1 ∧ ln = []) B F X T N hf hk hh (fun g ok hs kn R hR => most_down_spec ok hs hd hu (hfr.mono fun a o _ k => kn a o (.inl k))  fun h' tk t1 keep => hR h' tk _ [] keep Led.nil ⟨t1, rfl, rfl⟩)
   (by rintro h' tk v ln ⟨t1, rfl, rfl⟩ F' N' _; exact hQ h' tk t1 F' N')
end
theorem word9 : True := by
  k_with "call ref" => ((with_reducible show wpAny _ _ (call (Value.ref 134) _) _ _ _); k_dflt (refine' most_across_at ?k1 ?k2 ?k3 ?k4 ?k5 rfl rfl rfl ?kd ?ku ?kf ?_; (case k1 => k_asm); (case k2 => k_asm); (case k3 => k_asm); (case k4 => k_asm); (case k5 => k_asm); (case kd => dsimp only; omega); (case ku => dsimp only; omega); (case kf => k_asm); k_whole; intro _ _ _ _ _; (try dsimp only at N')))
  trivial
theorem word10 : True := by
  k_with "call ref" => ((with_reducible show wpAny _ _ (call (Value.ref 139) _) _ _ _); k_dflt (refine' most_down_at ?k1 ?k2 ?k3 ?k4 ?k5 rfl rfl rfl ?kd ?ku ?kf ?_; (case k1 => k_asm); (case k2 => k_asm); (case k3 => k_asm); (case k4 => k_asm); (case k5 => k_asm); (case kd => dsimp only; omega); (case ku => dsimp only; omega); (case kf => k_asm); k_whole; intro _ _ _ _ _; (try dsimp only at N')))
  trivial
section
variable {w : World} {A : Around} {s : Shared} {g : Heap} {R : Result → Shared → Prop} {fr : Addr} {ac dn : Int}
theorem mcus_across_spec (ok : Ok w A g) (hs : Sub g s.heap) (hd : A.depth + 5 < recursionLimit) (hu : A.units + 100 < cLine) (hf : FrmP w (fun a o => g.get? a = some o) fr ac dn) (h1 : 1 ≤ ac) (h2 : ac ≤ 5) (h3 : 1 ≤ dn) (h4 : dn ≤ 4)
    (hR : ∀ h' tk t1, (∀ b o, g.get? b = some o → h'.get? b = some o) → R (.ok (.ret (.int (ac) t1))) {s with heap := h', toks := tk}) :
    codeAny (model prg w) A (.call (.ref 146) ⟨[.ref fr], []⟩) R s := by
  obtain ⟨fd, cl, co, cd, ts, p1, p2, p3, p4, p5⟩ := id hf
  walk_at "m.enter"
  k_steps
  have e : (2 * ac + 2 * 1 - 1).fdiv (2 * 1) = ac := by
    have : ac = 1 ∨ ac = 2 ∨ ac = 3 ∨ ac = 4 ∨ ac = 5 := by omega
    rcases this with rfl | rfl | rfl | rfl | rfl <;> rfl
  rw [e]
  exact hR _ _ _ (Fr.keep (by assumption))

end
section
variable {w : World} {A : Around} {s : Shared} {g : Heap} {R : Result → Shared → Prop} {fr : Addr} {ac dn : Int}
theorem mcus_down_spec (ok : Ok w A g) (hs : Sub g s.heap) (hd : A.depth + 5 < recursionLimit) (hu : A.units + 100 < cLine) (hf : FrmP w (fun a o => g.get? a = some o) fr ac dn) (h1 : 1 ≤ ac) (h2 : ac ≤ 5) (h3 : 1 ≤ dn) (h4 : dn ≤ 4)
    (hR : ∀ h' tk t1, (∀ b o, g.get? b = some o → h'.get? b = some o) → R (.ok (.ret (.int (dn) t1))) {s with heap := h', toks := tk}) :
    codeAny (model prg w) A (.call (.ref 153) ⟨[.ref fr], []⟩) R s := by
  obtain ⟨fd, cl, co, cd, ts, p1, p2, p3, p4, p5⟩ := id hf
  walk_at "m.enter"
  k_steps
  have e : (2 * dn + 2 * 1 - 1).fdiv (2 * 1) = dn := by
    have : dn = 1 ∨ dn = 2 ∨ dn = 3 ∨ dn = 4 ∨ dn = 5 := by omega
    rcases this with rfl | rfl | rfl | rfl | rfl <;> rfl
  rw [e]
  exact hR _ _ _ (Fr.keep (by assumption))

end
section
variable {w : World} {A₀ : Around} {s : Shared} {base h₀ : Heap} {outer : List Env} {L : Addr} {m mg mb : Str → Option Value} {mean : ExcName → Option Value} {env : Env} {l : List (Addr × Obj)} {Q E : Value → Shared → Prop} {fr sc : Addr} {ac dn : Int}
theorem mcus_across_at (B : Below A₀ base outer h₀) (F : Fr h₀ L s.heap m) (X : (hd.heap_1 w.params).In h₀) (T : Top pp (looseW pp []) mean mg mb h₀) (N : News h₀ L s.heap l) (hf : env.frame = some L) (hk : env.scope.kind = .function) (hh : A₀.handled = none) (hd : A₀.depth + 1 + 5 < recursionLimit) (hu : A₀.units + 3 + 100 < cLine) (hfr : FrmP w (fun a o => h₀.get? a = some o) fr ac dn) (h1 : 1 ≤ ac) (h2 : ac ≤ 5) (h3 : 1 ≤ dn) (h4 : dn ≤ 4)
    (hQ : ∀ h' tk t1, Fr h₀ L h' m → News h₀ L h' l → Q (.int (ac) t1) { s with heap := h', toks := tk }) :
    wpAny (model prg w) (A₀.deeper env) (call (.ref 146) [.ref fr]) Q E s :=
  ro_at (Post := fun v ln => ∃ t1, v = .int (ac) t1 ∧ ln = []) B F X T N hf hk hh (fun g ok hs kn R hR => mcus_across_spec ok hs hd hu (hfr.mono fun a o _ k => kn a o (.inl k)) h1 h2 h3 h4 fun h' tk t1 keep => hR h' tk _ [] keep Led.nil ⟨t1, rfl, rfl⟩)
   (by rintro h' tk v ln ⟨t1, rfl, rfl⟩ F' N' _; exact hQ h' tk t1 F' N')
end
section
variable {w : World} {A₀ : Around} {s : Shared} {base h₀ : Heap} {outer : List Env} {L : Addr} {m mg mb : Str → Option Value} {mean : ExcName → Option Value} {env : Env} {l : List (Addr × Obj)} {Q E : Value → Shared → Prop} {fr sc : Addr} {ac dn : Int}
theorem mcus_down_at (B : Below A₀ base outer h₀) (F : Fr h₀ L s.heap m) (X : (hd.heap_1 w.params).In h₀) (T : Top pp (looseW pp []) mean mg mb h₀) (N : News h₀ L s.heap l) (hf : env.frame = some L) (hk : env.scope.kind = .function) (hh : A₀.handled = none) (hd : A₀.depth + 1 + 5 < recursionLimit) (hu : A₀.units + 3 + 100 < cLine) (hfr : FrmP w (fun a o => h₀.get? a = some o) fr ac dn) (h1 : 1 ≤ ac) (h2 : ac ≤ 5) (h3 : 1 ≤ dn) (h4 : dn ≤ 4)
    (hQ : ∀ h' tk t1, Fr h₀ L h' m → News h₀ L h' l → Q (.int (dn) t1) { s with heap := h', toks := tk }) :
    wpAny (model prg w) (A₀.deeper env) (call (.ref 153) [.ref fr]) Q E s :=
  ro_at (Post := fun v ln => ∃ t1, v = .int (dn) t1 ∧ ln = []) B F X T N hf hk hh (fun g ok hs kn R hR => mcus_down_spec ok hs hd hu (hfr.mono fun a o _ k => kn a o (.inl k)) h1 h2 h3 h4 fun h' tk t1 keep => hR h' tk _ [] keep Led.nil ⟨t1, rfl, rfl⟩)
   (by rintro h' tk v ln ⟨t1, rfl, rfl⟩ F' N' _; exact hQ h' tk t1 F' N')
end
theorem word11 : True := by
  k_with "call ref" => ((with_reducible show wpAny _ _ (call (Value.ref 146) _) _ _ _); k_dflt (refine' mcus_across_at ?k1 ?k2 ?k3 ?k4 ?k5 rfl rfl rfl ?kd ?ku ?kf ?b1 ?b2 ?b3 ?b4 ?_; (case k1 => k_asm); (case k2 => k_asm); (case k3 => k_asm); (case k4 => k_asm); (case k5 => k_asm); (case kd => dsimp only; omega); (case ku => dsimp only; omega); (case kf => k_asm); (case b1 => k_asm); (case b2 => k_asm); (case b3 => k_asm); (case b4 => k_asm); k_whole; intro _ _ _ _ _; (try dsimp only at N')))
  trivial
theorem word12 : True := by
  k_with "call ref" => ((with_reducible show wpAny _ _ (call (Value.ref 153) _) _ _ _); k_dflt (refine' mcus_down_at ?k1 ?k2 ?k3 ?k4 ?k5 rfl rfl rfl ?kd ?ku ?kf ?b1 ?b2 ?b3 ?b4 ?_; (case k1 => k_asm); (case k2 => k_asm); (case k3 => k_asm); (case k4 => k_asm); (case k5 => k_asm); (case kd => dsimp only; omega); (case ku => dsimp only; omega); (case kf => k_asm); (case b1 => k_asm); (case b2 => k_asm); (case b3 => k_asm); (case b4 => k_asm); k_whole; intro _ _ _ _ _; (try dsimp only at N')))
  trivial
/-- a new tuple of two integers -/
noncomputable def Tup2 (T : Addr) (a b : Int) (t1 t2 : Tok) : Addr × Obj := (T, { cls := .type "tuple", data := .seq #[.int a t1, .int b t2] })
theorem sub_base {w : World} {A : Around} {s : Shared} {h₀ : Heap} {L : Addr} {m : Str → Option Value} {Q E : Value → Shared → Prop} {value slice : PySem.Expr} {a : Addr} {n : Nat} {t : Tok} {x : Value} (F : Fr h₀ L s.heap m) (p : h₀.get? a = some (listOf #[x] n)) (h : Q x s)
    (hs : subscripted slice false (.ref a) (.int 0 t) = operate [.ref a, .int 0 t] (getItem (.ref a) (.int 0 t)) := by with_unfolding_all rfl) :
    wpAny (model prg w) A (subscriptTail value slice (.ref a) (.int 0 t)) Q E s :=
  have hl : s.heap.IsList a #[x] := ⟨_, F.keep _ _ p, rfl, n, rfl⟩
  tail_any hl.typeIs slot_list_getitem.lookup (wpAny_getItem_list hl (by decide) (by decide) rfl h) hs
theorem word13 : True := by
  k_with "subscriptTail" => (k_dflt (refine' sub_base ?k1 ?k2 ?_; (case k1 => k_asm); (case k2 => k_asm); k_whole))
  trivial
section
variable {w : World} {A : Around} {s : Shared} {g : Heap} {R : Result → Shared → Prop} {fr : Addr} {ac dn : Int}
theorem padded_spec (ok : Ok w A g) (hs : Sub g s.heap) (hd : A.depth + 7 < recursionLimit) (hu : A.units + 140 < cLine) (hf : FrmP w (fun a o => g.get? a = some o) fr ac dn) {t0 : Tok} (h1 : 1 ≤ ac) (h2 : ac ≤ 5) (h3 : 1 ≤ dn) (h4 : dn ≤ 4)
    (hR : ∀ h' tk T t1 t2, (∀ b o, g.get? b = some o → h'.get? b = some o) → Led g h' [Tup2 T (ac) (dn) t1 t2] → R (.ok (.ret (.ref T))) {s with heap := h', toks := tk}) :
    codeAny (model prg w) A (.call (.ref 174) ⟨[.ref fr, .int 0 t0], []⟩) R s := by
  obtain ⟨fd, cl, co, cd, ts, p1, p2, p3, p4, p5⟩ := id hf
  walk_at "m.enter"
  k_steps
  rename News _ _ _ _ => N
  rw [show ac * 1 = ac by omega, show dn * 1 = dn by omega] at N
  exact hR _ _ _ _ _ (Fr.keep (by assumption)) ((Led.of N).sub fun p hp => by rw [List.mem_singleton.mp hp]; exact List.mem_cons_self)

end
section
variable {w : World} {A : Around} {s : Shared} {g : Heap} {R : Result → Shared → Prop} {fr : Addr} {ac dn : Int}
theorem plane_size_spec (ok : Ok w A g) (hs : Sub g s.heap) (hd : A.depth + 7 < recursionLimit) (hu : A.units + 140 < cLine) (hf : FrmP w (fun a o => g.get? a = some o) fr ac dn) {t0 : Tok} (h1 : 1 ≤ ac) (h2 : ac ≤ 5) (h3 : 1 ≤ dn) (h4 : dn ≤ 4)
    (hR : ∀ h' tk T t1 t2, (∀ b o, g.get? b = some o → h'.get? b = some o) → Led g h' [Tup2 T (2 * ac) (2 * dn) t1 t2] → R (.ok (.ret (.ref T))) {s with heap := h', toks := tk}) :
    codeAny (model prg w) A (.call (.ref 160) ⟨[.ref fr, .int 0 t0], []⟩) R s := by
  obtain ⟨fd, cl, co, cd, ts, p1, p2, p3, p4, p5⟩ := id hf
  walk_at "m.enter"
  k_steps
  rename News _ _ _ _ => N
  rw [show (2 * ac * 1 + 1 - 1).fdiv 1 = 2 * ac by rw [Int.fdiv_one]; omega, show (2 * dn * 1 + 1 - 1).fdiv 1 = 2 * dn by rw [Int.fdiv_one]; omega] at N
  exact hR _ _ _ _ _ (Fr.keep (by assumption)) ((Led.of N).sub fun p hp => by rw [List.mem_singleton.mp hp]; exact List.mem_cons_self)

end
section
variable {w : World} {A₀ : Around} {s : Shared} {base h₀ : Heap} {outer : List Env} {L : Addr} {m mg mb : Str → Option Value} {mean : ExcName → Option Value} {env : Env} {l : List (Addr × Obj)} {Q E : Value → Shared → Prop} {fr sc : Addr} {ac dn : Int}
theorem padded_at (B : Below A₀ base outer h₀) (F : Fr h₀ L s.heap m) (X : (hd.heap_1 w.params).In h₀) (T : Top pp (looseW pp []) mean mg mb h₀) (N : News h₀ L s.heap l) (hf : env.frame = some L) (hk : env.scope.kind = .function) (hh : A₀.handled = none) (hd : A₀.depth + 1 + 7 < recursionLimit) (hu : A₀.units + 3 + 140 < cLine) (hfr : FrmP w (fun a o => h₀.get? a = some o) fr ac dn) {t0 : Tok} (h1 : 1 ≤ ac) (h2 : ac ≤ 5) (h3 : 1 ≤ dn) (h4 : dn ≤ 4)
    (hQ : ∀ h' tk T t1 t2, Fr h₀ L h' m → News h₀ L h' (Tup2 T (ac) (dn) t1 t2 :: l) → s.heap.get? T = none → Q (.ref T) { s with heap := h', toks := tk }) :
    wpAny (model prg w) (A₀.deeper env) (call (.ref 174) [.ref fr, .int 0 t0]) Q E s :=
  ro_at (Post := fun v ln => ∃ T t1 t2, v = .ref T ∧ ln = [Tup2 T (ac) (dn) t1 t2]) B F X T N hf hk hh (fun g ok hs kn R hR => padded_spec ok hs hd hu (hfr.mono fun a o _ k => kn a o (.inl k)) h1 h2 h3 h4 fun h' tk T t1 t2 keep led => hR h' tk _ _ keep led ⟨T, t1, t2, rfl, rfl⟩)
   (by rintro h' tk v ln ⟨T, t1, t2, rfl, rfl⟩ F' N' hn; exact hQ h' tk T t1 t2 F' N' (hn _ (List.mem_singleton.mpr rfl)))
end
section
variable {w : World} {A₀ : Around} {s : Shared} {base h₀ : Heap} {outer : List Env} {L : Addr} {m mg mb : Str → Option Value} {mean : ExcName → Option Value} {env : Env} {l : List (Addr × Obj)} {Q E : Value → Shared → Prop} {fr sc : Addr} {ac dn : Int}
theorem plane_size_at (B : Below A₀ base outer h₀) (F : Fr h₀ L s.heap m) (X : (hd.heap_1 w.params).In h₀) (T : Top pp (looseW pp []) mean mg mb h₀) (N : News h₀ L s.heap l) (hf : env.frame = some L) (hk : env.scope.kind = .function) (hh : A₀.handled = none) (hd : A₀.depth + 1 + 7 < recursionLimit) (hu : A₀.units + 3 + 140 < cLine) (hfr : FrmP w (fun a o => h₀.get? a = some o) fr ac dn) {t0 : Tok} (h1 : 1 ≤ ac) (h2 : ac ≤ 5) (h3 : 1 ≤ dn) (h4 : dn ≤ 4)
    (hQ : ∀ h' tk T t1 t2, Fr h₀ L h' m → News h₀ L h' (Tup2 T (2 * ac) (2 * dn) t1 t2 :: l) → s.heap.get? T = none → Q (.ref T) { s with heap := h', toks := tk }) :
    wpAny (model prg w) (A₀.deeper env) (call (.ref 160) [.ref fr, .int 0 t0]) Q E s :=
  ro_at (Post := fun v ln => ∃ T t1 t2, v = .ref T ∧ ln = [Tup2 T (2 * ac) (2 * dn) t1 t2]) B F X T N hf hk hh (fun g ok hs kn R hR => plane_size_spec ok hs hd hu (hfr.mono fun a o _ k => kn a o (.inl k)) h1 h2 h3 h4 fun h' tk T t1 t2 keep led => hR h' tk _ _ keep led ⟨T, t1, t2, rfl, rfl⟩)
   (by rintro h' tk v ln ⟨T, t1, t2, rfl, rfl⟩ F' N' hn; exact hQ h' tk T t1 t2 F' N' (hn _ (List.mem_singleton.mpr rfl)))
end
theorem word14 : True := by
  k_with "call ref" => ((with_reducible show wpAny _ _ (call (Value.ref 174) _) _ _ _); k_dflt (refine' padded_at ?k1 ?k2 ?k3 ?k4 ?k5 rfl rfl rfl ?kd ?ku ?kf ?b1 ?b2 ?b3 ?b4 ?_; (case k1 => k_asm); (case k2 => k_asm); (case k3 => k_asm); (case k4 => k_asm); (case k5 => k_asm); (case kd => dsimp only; omega); (case ku => dsimp only; omega); (case kf => k_asm); (case b1 => k_asm); (case b2 => k_asm); (case b3 => k_asm); (case b4 => k_asm); k_whole; intro _ _ _ _ _ _ _ _; (try dsimp only [Tup2] at *)))
  trivial
theorem word15 : True := by
  k_with "call ref" => ((with_reducible show wpAny _ _ (call (Value.ref 160) _) _ _ _); k_dflt (refine' plane_size_at ?k1 ?k2 ?k3 ?k4 ?k5 rfl rfl rfl ?kd ?ku ?kf ?b1 ?b2 ?b3 ?b4 ?_; (case k1 => k_asm); (case k2 => k_asm); (case k3 => k_asm); (case k4 => k_asm); (case k5 => k_asm); (case kd => dsimp only; omega); (case ku => dsimp only; omega); (case kf => k_asm); (case b1 => k_asm); (case b2 => k_asm); (case b3 => k_asm); (case b4 => k_asm); k_whole; intro _ _ _ _ _ _ _ _; (try dsimp only [Tup2] at *)))
  trivial
theorem half {a : Int} (h : 1 ≤ a) (h' : a ≤ 5) : (2 * a + 2 - 1).fdiv 2 = a := by
  have : a = 1 ∨ a = 2 ∨ a = 3 ∨ a = 4 ∨ a = 5 := by omega
  rcases this with rfl | rfl | rfl | rfl | rfl <;> rfl
section
variable {w : World} {A : Around} {s : Shared} {g : Heap} {R : Result → Shared → Prop} {fr : Addr} {ac dn : Int}
theorem blocks_spec (ok : Ok w A g) (hs : Sub g s.heap) (hd : A.depth + 9 < recursionLimit) (hu : A.units + 180 < cLine) (hf : FrmP w (fun a o => g.get? a = some o) fr ac dn) {t0 : Tok} (h1 : 1 ≤ ac) (h2 : ac ≤ 5) (h3 : 1 ≤ dn) (h4 : dn ≤ 4)
    (hR : ∀ h' tk T t1 t2, (∀ b o, g.get? b = some o → h'.get? b = some o) → Led g h' [Tup2 T (ac) (dn) t1 t2] → R (.ok (.ret (.ref T))) {s with heap := h', toks := tk}) :
    codeAny (model prg w) A (.call (.ref 167) ⟨[.ref fr, .int 0 t0], []⟩) R s := by
  obtain ⟨fd, cl, co, cd, ts, p1, p2, p3, p4, p5⟩ := id hf
  walk_at "m.enter"
  k_steps
  rename News _ _ _ _ => N
  rw [half h1 h2, half h3 (by omega)] at N
  exact hR _ _ _ _ _ (Fr.keep (by assumption)) ((Led.of N).sub fun p hp => by rw [List.mem_singleton.mp hp]; exact List.mem_cons_self)

end
section
variable {w : World} {A₀ : Around} {s : Shared} {base h₀ : Heap} {outer : List Env} {L : Addr} {m mg mb : Str → Option Value} {mean : ExcName → Option Value} {env : Env} {l : List (Addr × Obj)} {Q E : Value → Shared → Prop} {fr sc : Addr} {ac dn : Int}
theorem blocks_at (B : Below A₀ base outer h₀) (F : Fr h₀ L s.heap m) (X : (hd.heap_1 w.params).In h₀) (T : Top pp (looseW pp []) mean mg mb h₀) (N : News h₀ L s.heap l) (hf : env.frame = some L) (hk : env.scope.kind = .function) (hh : A₀.handled = none) (hd : A₀.depth + 1 + 9 < recursionLimit) (hu : A₀.units + 3 + 180 < cLine) (hfr : FrmP w (fun a o => h₀.get? a = some o) fr ac dn) {t0 : Tok} (h1 : 1 ≤ ac) (h2 : ac ≤ 5) (h3 : 1 ≤ dn) (h4 : dn ≤ 4)
    (hQ : ∀ h' tk T t1 t2, Fr h₀ L h' m → News h₀ L h' (Tup2 T (ac) (dn) t1 t2 :: l) → s.heap.get? T = none → Q (.ref T) { s with heap := h', toks := tk }) :
    wpAny (model prg w) (A₀.deeper env) (call (.ref 167) [.ref fr, .int 0 t0]) Q E s :=
  ro_at (Post := fun v ln => ∃ T t1 t2, v = .ref T ∧ ln = [Tup2 T (ac) (dn) t1 t2]) B F X T N hf hk hh (fun g ok hs kn R hR => blocks_spec ok hs hd hu (hfr.mono fun a o _ k => kn a o (.inl k)) h1 h2 h3 h4 fun h' tk T t1 t2 keep led => hR h' tk _ _ keep led ⟨T, t1, t2, rfl, rfl⟩)
   (by rintro h' tk v ln ⟨T, t1, t2, rfl, rfl⟩ F' N' hn; exact hQ h' tk T t1 t2 F' N' (hn _ (List.mem_singleton.mpr rfl)))
end
theorem word16 : True := by
  k_with "call ref" => ((with_reducible show wpAny _ _ (call (Value.ref 167) _) _ _ _); k_dflt (refine' blocks_at ?k1 ?k2 ?k3 ?k4 ?k5 rfl rfl rfl ?kd ?ku ?kf ?b1 ?b2 ?b3 ?b4 ?_; (case k1 => k_asm); (case k2 => k_asm); (case k3 => k_asm); (case k4 => k_asm); (case k5 => k_asm); (case kd => dsimp only; omega); (case ku => dsimp only; omega); (case kf => k_asm); (case b1 => k_asm); (case b2 => k_asm); (case b3 => k_asm); (case b4 => k_asm); k_whole; intro _ _ _ _ _ _ _ _; (try dsimp only [Tup2] at *)))
  trivial
/-- the objects of a scan of one component -/
noncomputable def ScanP (w : World) (P : Addr → Obj → Prop) (sc : Addr) : Prop := ∃ sd pl dl al, ∃ ts : Nat → Tok, P sc (instObj 245 sd) ∧ P sd (dictOf [⟨PyData.keyHash w.params (Str.ofString "places"), .str (Str.ofString "places") (ts 0), .ref pl⟩, ⟨PyData.keyHash w.params (Str.ofString "dc_slots"), .str (Str.ofString "dc_slots") (ts 1), .ref dl⟩, ⟨PyData.keyHash w.params (Str.ofString "ac_slots"), .str (Str.ofString "ac_slots") (ts 2), .ref al⟩, ⟨PyData.keyHash w.params (Str.ofString "start"), .str (Str.ofString "start") (ts 3), .int 0 (ts 4)⟩, ⟨PyData.keyHash w.params (Str.ofString "end"), .str (Str.ofString "end") (ts 5), .int 3 (ts 6)⟩, ⟨PyData.keyHash w.params (Str.ofString "high"), .str (Str.ofString "high") (ts 7), .int 0 (ts 8)⟩, ⟨PyData.keyHash w.params (Str.ofString "low"), .str (Str.ofString "low") (ts 9), .int 0 (ts 10)⟩] 7) ∧ P pl (listOf #[.int 0 (ts 11)] 0)
theorem ScanP.mono {w : World} {P P' : Addr → Obj → Prop} {sc : Addr} (x : ScanP w P sc) (h : ∀ a o, It o = false → P a o → P' a o) : ScanP w P' sc := by
  obtain ⟨sd, pl, dl, al, ts, p1, p2, p3⟩ := x
  exact ⟨sd, pl, dl, al, ts, h _ _ rfl p1, h _ _ rfl p2, h _ _ rfl p3⟩
end
theorem calm5 : True := by (w_top off); first | walk1 | trivial
section
theorem word17 : True := by
  k_with_none
  trivial
theorem word18 : True := by
  k_with "m.enter" => ((rename Around => A9); cases A9; (have hh9 := Ok.hh (by assumption)); (dsimp only at hh9); subst hh9; (rename _ + _ < recursionLimit => hd9); (dsimp only at hd9); (try ((rename _ + _ < cLine => hu9); (dsimp only at hu9))); refine' enter (by assumption) (by assumption) ?k3 ?k6 ?k7 ?k8 ?k9 ?kB ?_ ?c5 ?c2 ?c3 ?c4; (case k3 => first | assumption | exact Led.nil); (case k6 => k_dflt k_is); (case k7 => k_dflt k_is); (case k8 => dsimp only; omega); (case k9 => exact BindsTo.of_eq rfl); (case c5 => decide); (case kB => exact locs rfl); (case c2 => exact rfl); (case c3 => exact rfl); (case c4 => exact rfl); k_whole; intro _ _ _ _ _ _ _ _ _ _ _ _ _; (have hst9 := Below.stack (by assumption)); (dsimp only at hst9); subst hst9; (try dsimp only); (try k_fold))
  trivial
theorem word19 : True := by
  k_with "call ref" => ((with_reducible show wpAny _ _ (call (Value.ref 134) _) _ _ _); k_dflt (refine' most_across_at ?k1 ?k2 ?k3 ?k4 ?k5 rfl rfl rfl ?kd ?ku ?kf ?_; (case k1 => k_asm); (case k2 => k_asm); (case k3 => k_asm); (case k4 => k_asm); (case k5 => k_asm); (case kd => dsimp only; omega); (case ku => dsimp only; omega); (case kf => k_asm); k_whole; intro _ _ _ _ _; (try dsimp only at N')))
  trivial
theorem word20 : True := by
  k_with "call ref" => ((with_reducible show wpAny _ _ (call (Value.ref 139) _) _ _ _); k_dflt (refine' most_down_at ?k1 ?k2 ?k3 ?k4 ?k5 rfl rfl rfl ?kd ?ku ?kf ?_; (case k1 => k_asm); (case k2 => k_asm); (case k3 => k_asm); (case k4 => k_asm); (case k5 => k_asm); (case kd => dsimp only; omega); (case ku => dsimp only; omega); (case kf => k_asm); k_whole; intro _ _ _ _ _; (try dsimp only at N')))
  trivial
theorem word21 : True := by
  k_with "call ref" => ((with_reducible show wpAny _ _ (call (Value.ref 146) _) _ _ _); k_dflt (refine' mcus_across_at ?k1 ?k2 ?k3 ?k4 ?k5 rfl rfl rfl ?kd ?ku ?kf ?b1 ?b2 ?b3 ?b4 ?_; (case k1 => k_asm); (case k2 => k_asm); (case k3 => k_asm); (case k4 => k_asm); (case k5 => k_asm); (case kd => dsimp only; omega); (case ku => dsimp only; omega); (case kf => k_asm); (case b1 => k_asm); (case b2 => k_asm); (case b3 => k_asm); (case b4 => k_asm); k_whole; intro _ _ _ _ _; (try dsimp only at N')))
  trivial
theorem word22 : True := by
  k_with "call ref" => ((with_reducible show wpAny _ _ (call (Value.ref 153) _) _ _ _); k_dflt (refine' mcus_down_at ?k1 ?k2 ?k3 ?k4 ?k5 rfl rfl rfl ?kd ?ku ?kf ?b1 ?b2 ?b3 ?b4 ?_; (case k1 => k_asm); (case k2 => k_asm); (case k3 => k_asm); (case k4 => k_asm); (case k5 => k_asm); (case kd => dsimp only; omega); (case ku => dsimp only; omega); (case kf => k_asm); (case b1 => k_asm); (case b2 => k_asm); (case b3 => k_asm); (case b4 => k_asm); k_whole; intro _ _ _ _ _; (try dsimp only at N')))
  trivial
theorem word23 : True := by
  k_with "call ref" => ((with_reducible show wpAny _ _ (call (Value.ref 174) _) _ _ _); k_dflt (refine' padded_at ?k1 ?k2 ?k3 ?k4 ?k5 rfl rfl rfl ?kd ?ku ?kf ?b1 ?b2 ?b3 ?b4 ?_; (case k1 => k_asm); (case k2 => k_asm); (case k3 => k_asm); (case k4 => k_asm); (case k5 => k_asm); (case kd => dsimp only; omega); (case ku => dsimp only; omega); (case kf => k_asm); (case b1 => k_asm); (case b2 => k_asm); (case b3 => k_asm); (case b4 => k_asm); k_whole; intro _ _ _ _ _ _ _ _; (try dsimp only [Tup2] at *)))
  trivial
theorem word24 : True := by
  k_with "call ref" => ((with_reducible show wpAny _ _ (call (Value.ref 160) _) _ _ _); k_dflt (refine' plane_size_at ?k1 ?k2 ?k3 ?k4 ?k5 rfl rfl rfl ?kd ?ku ?kf ?b1 ?b2 ?b3 ?b4 ?_; (case k1 => k_asm); (case k2 => k_asm); (case k3 => k_asm); (case k4 => k_asm); (case k5 => k_asm); (case kd => dsimp only; omega); (case ku => dsimp only; omega); (case kf => k_asm); (case b1 => k_asm); (case b2 => k_asm); (case b3 => k_asm); (case b4 => k_asm); k_whole; intro _ _ _ _ _ _ _ _; (try dsimp only [Tup2] at *)))
  trivial
theorem word25 : True := by
  k_with "call ref" => ((with_reducible show wpAny _ _ (call (Value.ref 167) _) _ _ _); k_dflt (refine' blocks_at ?k1 ?k2 ?k3 ?k4 ?k5 rfl rfl rfl ?kd ?ku ?kf ?b1 ?b2 ?b3 ?b4 ?_; (case k1 => k_asm); (case k2 => k_asm); (case k3 => k_asm); (case k4 => k_asm); (case k5 => k_asm); (case kd => dsimp only; omega); (case ku => dsimp only; omega); (case kf => k_asm); (case b1 => k_asm); (case b2 => k_asm); (case b3 => k_asm); (case b4 => k_asm); k_whole; intro _ _ _ _ _ _ _ _; (try dsimp only [Tup2] at *)))
  trivial
theorem word26 : True := by
  k_with "subscriptTail" => (k_dflt (refine' sub_base ?k1 ?k2 ?_; (case k1 => k_asm); (case k2 => k_asm); k_whole))
  trivial
theorem len_base {w : World} {A : Around} {s : Shared} {h₀ : Heap} {L : Addr} {m : Str → Option Value} {Q E : Value → Shared → Prop} {a : Addr} {n : Nat} {x : Value} (F : Fr h₀ L s.heap m) (p : h₀.get? a = some (listOf #[x] n)) (h : ∀ t tk, Q (.int 1 t) { s with toks := tk }) :
    wpAny (model prg w) A (call (.builtin "len") [.ref a]) Q E s :=
  have hl : s.heap.IsList a #[x] := ⟨_, F.keep _ _ p, rfl, n, rfl⟩
  len_list hl (by show ((1 : Nat) : Int) < 2 ^ 63; decide) (h _ _)
theorem word27 : True := by
  k_with "call builtin:len" => (k_dflt (refine' len_base ?k1 ?k2 ?_; (case k1 => k_asm); (case k2 => k_asm); k_whole; intro _ _))
  trivial
section
variable {w : World} {A : Around} {s : Shared} {g : Heap} {R : Result → Shared → Prop} {sc : Addr}
theorem is_alone_spec (ok : Ok w A g) (hs : Sub g s.heap) (hd : A.depth + 5 < recursionLimit) (hu : A.units + 100 < cLine) (hsc : ScanP w (fun a o => g.get? a = some o) sc)
    (hR : ∀ h' tk, (∀ b o, g.get? b = some o → h'.get? b = some o) → R (.ok (.ret (.bool true))) {s with heap := h', toks := tk}) :
    codeAny (model prg w) A (.call (.ref 235) ⟨[.ref sc], []⟩) R s := by
  obtain ⟨sd, pl, dl, al, ts, p1, p2, p3⟩ := id hsc
  walk_at "m.enter"
  k_steps
  exact hR _ _ (Fr.keep (by assumption))
end
section
variable {w : World} {A₀ : Around} {s : Shared} {base h₀ : Heap} {outer : List Env} {L : Addr} {m mg mb : Str → Option Value} {mean : ExcName → Option Value} {env : Env} {l : List (Addr × Obj)} {Q E : Value → Shared → Prop} {fr sc : Addr} {ac dn : Int}
theorem is_alone_at (B : Below A₀ base outer h₀) (F : Fr h₀ L s.heap m) (X : (hd.heap_1 w.params).In h₀) (T : Top pp (looseW pp []) mean mg mb h₀) (N : News h₀ L s.heap l) (hf : env.frame = some L) (hk : env.scope.kind = .function) (hh : A₀.handled = none) (hd : A₀.depth + 1 + 5 < recursionLimit) (hu : A₀.units + 3 + 100 < cLine) (hsc : ScanP w (fun a o => h₀.get? a = some o) sc)
    (hQ : ∀ h' tk, Fr h₀ L h' m → News h₀ L h' l → Q (.bool true) { s with heap := h', toks := tk }) :
    wpAny (model prg w) (A₀.deeper env) (call (.ref 235) [.ref sc]) Q E s :=
  ro_at (Post := fun v ln => v = .bool true ∧ ln = []) B F X T N hf hk hh (fun g ok hs kn R hR => is_alone_spec ok hs hd hu (hsc.mono fun a o _ k => kn a o (.inl k)) fun h' tk keep => hR h' tk _ [] keep Led.nil ⟨rfl, rfl⟩)
   (by rintro h' tk v ln ⟨rfl, rfl⟩ F' N' _; exact hQ h' tk F' N')
end
theorem word28 : True := by
  k_with "call ref" => ((with_reducible show wpAny _ _ (call (Value.ref 235) _) _ _ _); k_dflt (refine' is_alone_at ?k1 ?k2 ?k3 ?k4 ?k5 rfl rfl rfl ?kd ?ku ?kf ?_; (case k1 => k_asm); (case k2 => k_asm); (case k3 => k_asm); (case k4 => k_asm); (case k5 => k_asm); (case kd => dsimp only; omega); (case ku => dsimp only; omega); (case kf => k_asm); k_whole; intro _ _ _ _; (try dsimp only at N')))
  trivial
section
variable {w : World} {A : Around} {s : Shared} {g : Heap} {R : Result → Shared → Prop} {fr sc : Addr} {ac dn : Int}
theorem units_across_spec (ok : Ok w A g) (hs : Sub g s.heap) (hd : A.depth + 11 < recursionLimit) (hu : A.units + 220 < cLine) (hf : FrmP w (fun a o => g.get? a = some o) fr ac dn) (hsc : ScanP w (fun a o => g.get? a = some o) sc) (h1 : 1 ≤ ac) (h2 : ac ≤ 5) (h3 : 1 ≤ dn) (h4 : dn ≤ 4)
    (hR : ∀ h' tk t1, (∀ b o, g.get? b = some o → h'.get? b = some o) → R (.ok (.ret (.int (ac) t1))) {s with heap := h', toks := tk}) :
    codeAny (model prg w) A (.call (.ref 28) ⟨[.ref fr, .ref sc], []⟩) R s := by
  obtain ⟨fd, cl, co, cd, ts', q1, q2, q3, q4, q5⟩ := id hf
  obtain ⟨sd, pl, dl, al, ts, p1, p2, p3⟩ := id hsc
  walk_at "m.enter"
  k_steps
  exact hR _ _ _ (Fr.keep (by assumption))

end
section
variable {w : World} {A₀ : Around} {s : Shared} {base h₀ : Heap} {outer : List Env} {L : Addr} {m mg mb : Str → Option Value} {mean : ExcName → Option Value} {env : Env} {l : List (Addr × Obj)} {Q E : Value → Shared → Prop} {fr sc : Addr} {ac dn : Int}
theorem units_across_at (B : Below A₀ base outer h₀) (F : Fr h₀ L s.heap m) (X : (hd.heap_1 w.params).In h₀) (T : Top pp (looseW pp []) mean mg mb h₀) (N : News h₀ L s.heap l) (hf : env.frame = some L) (hk : env.scope.kind = .function) (hh : A₀.handled = none) (hd : A₀.depth + 1 + 11 < recursionLimit) (hu : A₀.units + 3 + 220 < cLine) (hfr : FrmP w (fun a o => h₀.get? a = some o) fr ac dn) (hsc : ScanP w (fun a o => h₀.get? a = some o) sc) (h1 : 1 ≤ ac) (h2 : ac ≤ 5) (h3 : 1 ≤ dn) (h4 : dn ≤ 4)
    (hQ : ∀ h' tk t1, Fr h₀ L h' m → News h₀ L h' l → Q (.int (ac) t1) { s with heap := h', toks := tk }) :
    wpAny (model prg w) (A₀.deeper env) (call (.ref 28) [.ref fr, .ref sc]) Q E s :=
  ro_at (Post := fun v ln => ∃ t1, v = .int (ac) t1 ∧ ln = []) B F X T N hf hk hh (fun g ok hs kn R hR => units_across_spec ok hs hd hu (hfr.mono fun a o _ k => kn a o (.inl k)) (hsc.mono fun a o _ k => kn a o (.inl k)) h1 h2 h3 h4 fun h' tk t1 keep => hR h' tk _ [] keep Led.nil ⟨t1, rfl, rfl⟩)
   (by rintro h' tk v ln ⟨t1, rfl, rfl⟩ F' N' _; exact hQ h' tk t1 F' N')
end
theorem word29 : True := by
  k_with "call ref" => ((with_reducible show wpAny _ _ (call (Value.ref 28) _) _ _ _); k_dflt (refine' units_across_at ?k1 ?k2 ?k3 ?k4 ?k5 rfl rfl rfl ?kd ?ku ?kf ?kg ?b1 ?b2 ?b3 ?b4 ?_; (case k1 => k_asm); (case k2 => k_asm); (case k3 => k_asm); (case k4 => k_asm); (case k5 => k_asm); (case kd => dsimp only; omega); (case ku => dsimp only; omega); (case kf => k_asm); (case kg => k_asm); (case b1 => k_asm); (case b2 => k_asm); (case b3 => k_asm); (case b4 => k_asm); k_whole; intro _ _ _ _ _; (try dsimp only at N')))
  trivial
/-- the one block of a unit -/
noncomputable def Blk (D T : Addr) (x y : Int) (t1 t2 t3 t4 : Tok) : List (Addr × Obj) := [(D, listOf #[.ref T] 0), (T, { cls := .type "tuple", data := .seq #[.int 0 t1, .int 0 t2, .int x t3, .int y t4] })]
section
variable {w : World} {A : Around} {s : Shared} {g : Heap} {R : Result → Shared → Prop} {fr sc : Addr} {ac dn : Int}
theorem unit_at_spec (ok : Ok w A g) (hs : Sub g s.heap) (hd : A.depth + 9 < recursionLimit) (hu : A.units + 180 < cLine) {x y : Int} {tx ty : Tok} (hsc : ScanP w (fun a o => g.get? a = some o) sc)
    (hR : ∀ h' tk D T t1 t2 t3 t4, (∀ b o, g.get? b = some o → h'.get? b = some o) → Led g h' (Blk D T (x) (y) t1 t2 t3 t4) → R (.ok (.ret (.ref D))) {s with heap := h', toks := tk}) :
    codeAny (model prg w) A (.call (.ref 35) ⟨[.ref fr, .ref sc, .int x tx, .int y ty], []⟩) R s := by
  obtain ⟨sd, pl, dl, al, ts, p1, p2, p3⟩ := id hsc
  walk_at "m.enter"
  k_steps
  rename News _ _ _ _ => N
  exact hR _ _ _ _ _ _ _ _ (Fr.keep (by assumption)) (Led.of N)

end
section
variable {w : World} {A₀ : Around} {s : Shared} {base h₀ : Heap} {outer : List Env} {L : Addr} {m mg mb : Str → Option Value} {mean : ExcName → Option Value} {env : Env} {l : List (Addr × Obj)} {Q E : Value → Shared → Prop} {fr sc : Addr} {ac dn : Int}
theorem unit_at_at (B : Below A₀ base outer h₀) (F : Fr h₀ L s.heap m) (X : (hd.heap_1 w.params).In h₀) (T : Top pp (looseW pp []) mean mg mb h₀) (N : News h₀ L s.heap l) (hf : env.frame = some L) (hk : env.scope.kind = .function) (hh : A₀.handled = none) (hd : A₀.depth + 1 + 9 < recursionLimit) (hu : A₀.units + 3 + 180 < cLine) {x y : Int} {tx ty : Tok} (hsc : ScanP w (fun a o => h₀.get? a = some o) sc) 
    (hQ : ∀ h' tk D T t1 t2 t3 t4, Fr h₀ L h' m → News h₀ L h' (Blk D T (x) (y) t1 t2 t3 t4 ++ l) → (∀ p ∈ Blk D T (x) (y) t1 t2 t3 t4, s.heap.get? p.1 = none) → Q (.ref D) { s with heap := h', toks := tk }) :
    wpAny (model prg w) (A₀.deeper env) (call (.ref 35) [.ref fr, .ref sc, .int x tx, .int y ty]) Q E s :=
  ro_at (Post := fun v ln => ∃ D T t1 t2 t3 t4, v = .ref D ∧ ln = Blk D T (x) (y) t1 t2 t3 t4) B F X T N hf hk hh (fun g ok hs kn R hR => unit_at_spec ok hs hd hu (hsc.mono fun a o _ k => kn a o (.inl k))  fun h' tk D T t1 t2 t3 t4 keep led => hR h' tk _ _ keep led ⟨D, T, t1, t2, t3, t4, rfl, rfl⟩)
   (by rintro h' tk v ln ⟨D, T, t1, t2, t3, t4, rfl, rfl⟩ F' N' hn; exact hQ h' tk D T t1 t2 t3 t4 F' N' hn)
end
theorem word30 : True := by
  k_with "call ref" => ((with_reducible show wpAny _ _ (call (Value.ref 35) _) _ _ _); k_dflt (refine' unit_at_at ?k1 ?k2 ?k3 ?k4 ?k5 rfl rfl rfl ?kd ?ku ?kg ?_; (case k1 => k_asm); (case k2 => k_asm); (case k3 => k_asm); (case k4 => k_asm); (case k5 => k_asm); (case kd => dsimp only; omega); (case ku => dsimp only; omega); (case kg => k_asm); k_whole; intro _ _ _ _ _ _ _ _ _ _ _; (try dsimp only [Blk, List.cons_append, List.nil_append] at N')))
  trivial
section
variable {w : World} {A : Around} {s : Shared} {g : Heap} {R : Result → Shared → Prop} {fr sc : Addr} {ac dn : Int}
theorem unit_numbered_spec (ok : Ok w A g) (hs : Sub g s.heap) (hd : A.depth + 13 < recursionLimit) (hu : A.units + 260 < cLine) {i : Int} {ti : Tok} (hf : FrmP w (fun a o => g.get? a = some o) fr ac dn) (hsc : ScanP w (fun a o => g.get? a = some o) sc) (h1 : 1 ≤ ac) (h2 : ac ≤ 5) (h3 : 1 ≤ dn) (h4 : dn ≤ 4)
    (hR : ∀ h' tk D T t1 t2 t3 t4, (∀ b o, g.get? b = some o → h'.get? b = some o) → Led g h' (Blk D T (i.fmod ac) (i.fdiv ac) t1 t2 t3 t4) → R (.ok (.ret (.ref D))) {s with heap := h', toks := tk}) :
    codeAny (model prg w) A (.call (.ref 42) ⟨[.ref fr, .ref sc, .int i ti], []⟩) R s := by
  have hac : (0 : Int) < ac := by omega
  walk_at "m.enter"
  k_steps
  all_goals trace_state
  rename News _ _ _ _ => N
  exact hR _ _ _ _ _ _ _ _ (Fr.keep (by assumption)) (Led.of N)

end
section
variable {w : World} {A₀ : Around} {s : Shared} {base h₀ : Heap} {outer : List Env} {L : Addr} {m mg mb : Str → Option Value} {mean : ExcName → Option Value} {env : Env} {l : List (Addr × Obj)} {Q E : Value → Shared → Prop} {fr sc : Addr} {ac dn : Int}
theorem unit_numbered_at (B : Below A₀ base outer h₀) (F : Fr h₀ L s.heap m) (X : (hd.heap_1 w.params).In h₀) (T : Top pp (looseW pp []) mean mg mb h₀) (N : News h₀ L s.heap l) (hf : env.frame = some L) (hk : env.scope.kind = .function) (hh : A₀.handled = none) (hd : A₀.depth + 1 + 13 < recursionLimit) (hu : A₀.units + 3 + 260 < cLine) {i : Int} {ti : Tok} (hfr : FrmP w (fun a o => h₀.get? a = some o) fr ac dn) (hsc : ScanP w (fun a o => h₀.get? a = some o) sc)  (h1 : 1 ≤ ac) (h2 : ac ≤ 5) (h3 : 1 ≤ dn) (h4 : dn ≤ 4)
    (hQ : ∀ h' tk D T t1 t2 t3 t4, Fr h₀ L h' m → News h₀ L h' (Blk D T (i.fmod ac) (i.fdiv ac) t1 t2 t3 t4 ++ l) → (∀ p ∈ Blk D T (i.fmod ac) (i.fdiv ac) t1 t2 t3 t4, s.heap.get? p.1 = none) → Q (.ref D) { s with heap := h', toks := tk }) :
    wpAny (model prg w) (A₀.deeper env) (call (.ref 42) [.ref fr, .ref sc, .int i ti]) Q E s :=
  ro_at (Post := fun v ln => ∃ D T t1 t2 t3 t4, v = .ref D ∧ ln = Blk D T (i.fmod ac) (i.fdiv ac) t1 t2 t3 t4) B F X T N hf hk hh (fun g ok hs kn R hR => unit_numbered_spec ok hs hd hu (hfr.mono fun a o _ k => kn a o (.inl k)) (hsc.mono fun a o _ k => kn a o (.inl k))  h1 h2 h3 h4 fun h' tk D T t1 t2 t3 t4 keep led => hR h' tk _ _ keep led ⟨D, T, t1, t2, t3, t4, rfl, rfl⟩)
   (by rintro h' tk v ln ⟨D, T, t1, t2, t3, t4, rfl, rfl⟩ F' N' hn; exact hQ h' tk D T t1 t2 t3 t4 F' N' hn)
end
end
theorem calm6 : True := by (w_top off); first | walk1 | trivial
section
section
variable {prog : Program} {w : World} {P P' : Addr → Obj → Prop} {ks : List Int} {a d : Addr} {xs : List (List Int × Addr × Value)} {vs : List Value}
theorem TupP.monoC (x : TupP prog w P ks a) (h : ∀ a o, o.cls = .type "tuple" → P a o → P' a o) : TupP prog w P' ks a := let ⟨o, i, n, p, r⟩ := x; ⟨o, i, n, h _ _ r.1 p, r⟩
theorem DictP.monoC (x : DictP prog w P d xs) (h : ∀ a o, o.cls = .type "dict" ∨ o.cls = .type "tuple" → P a o → P' a o) : DictP prog w P' d xs := let ⟨o, es, ep, p, a, b, c, t, n⟩ := x; ⟨o, es, ep, h _ _ (.inl a.1) p, a, b, c, fun y hy => (t y hy).monoC fun a o hc => h a o (.inr hc), n⟩
theorem ListP.monoA (x : ListP P a vs) (h : ∀ o, o.cls = .type "list" → P a o → P' a o) : ListP P' a vs := let ⟨o, n, p, r⟩ := x; ⟨o, n, h _ r.1 p, r⟩
theorem tup2 {T : Addr} {a b : Int} {t1 t2 : Tok} (h : P T { cls := .type "tuple", data := .seq #[.int a t1, .int b t2] }) : TupP prog w P [a, b] T := ⟨_, _, _, h, rfl, rfl, .cons (by show (a == a) = true; simp) (.cons (by show (b == b) = true; simp) .nil)⟩
theorem tup3 {T : Addr} {a b c : Int} {t1 t2 t3 : Tok} (h : P T { cls := .type "tuple", data := .seq #[.int a t1, .int b t2, .int c t3] }) : TupP prog w P [a, b, c] T := ⟨_, _, _, h, rfl, rfl, .cons (by show (a == a) = true; simp) (.cons (by show (b == b) = true; simp) (.cons (by show (c == c) = true; simp) .nil))⟩
theorem intKind_is {a : Int} {v : Value} (h : (intKind prog w).is a v = true) : ∃ t, v = .int a t := by
  exact Value.isInt_shape h
theorem TupP.two {a b : Int} {T : Addr} (x : TupP prog w P [a, b] T) : ∃ t1 t2, ValsP P T [.int a t1, .int b t2] := by
  obtain ⟨o, items, n, p, hc, hd, hi⟩ := x
  obtain ⟨ls⟩ := items
  cases hi with | cons k1 hi => cases hi with | cons k2 hi => cases hi with | nil =>
  obtain ⟨t1, rfl⟩ := intKind_is k1
  obtain ⟨t2, rfl⟩ := intKind_is k2
  exact ⟨t1, t2, o, n, p, hc, hd⟩
theorem TupP.three {a b c : Int} {T : Addr} (x : TupP prog w P [a, b, c] T) : ∃ t1 t2 t3, ValsP P T [.int a t1, .int b t2, .int c t3] := by
  obtain ⟨o, items, n, p, hc, hd, hi⟩ := x
  obtain ⟨ls⟩ := items
  cases hi with | cons k1 hi => cases hi with | cons k2 hi => cases hi with | cons k3 hi => cases hi with | nil =>
  obtain ⟨t1, rfl⟩ := intKind_is k1
  obtain ⟨t2, rfl⟩ := intKind_is k2
  obtain ⟨t3, rfl⟩ := intKind_is k3
  exact ⟨t1, t2, t3, o, n, p, hc, hd⟩
end
section
variable {prog : Program} {w : World} {A : Around} {E : Value → Shared → Prop} {s : Shared} {g : Heap} {L : Addr} {m : Str → Option Value} {l l' : List (Addr × Obj)} {ks : List Int} {a d : Addr} {xs : List (List Int × Addr × Value)} {vs : List Value} {o od : Obj}
theorem Kn.evC (k : Kn g l a o) (F : Fr g L s.heap m) (N : News g L s.heap l) (e : Ev l l' [d]) (kd : Kn g l d od) (hc : o.cls ≠ od.cls) : Kn g l' a o := k.ev e (by rw [List.mem_singleton]; exact k.ne F N kd hc)
theorem TupP.ev (x : TupP prog w (Kn g l) ks a) (F : Fr g L s.heap m) (N : News g L s.heap l) (e : Ev l l' [d]) (kd : Kn g l d od) (hc : od.cls ≠ .type "tuple") : TupP prog w (Kn g l') ks a := x.monoC fun _ _ h k => k.evC F N e kd (by rw [h]; exact hc.symm)
theorem DictP.ev (x : DictP prog w (Kn g l) a xs) (F : Fr g L s.heap m) (N : News g L s.heap l) (e : Ev l l' [d]) (kd : Kn g l d od) (hc : od.cls = .type "list") : DictP prog w (Kn g l') a xs := x.monoC fun _ _ h k => k.evC F N e kd (by
  rw [hc]; rcases h with h | h <;> (rw [h]; intro q; injection q with q; exact absurd q (by decide)))
theorem ListP.it (h : o.cls = .type "list") : It o = false := it_no h (by decide)
theorem dict_mapSeq (o : Obj) (f) : (o.mapSeq f).dict = o.dict := by obtain ⟨c, d, dt, sl⟩ := o; cases dt <;> rfl
theorem lappend {v : Value} {Q : Value → Shared → Prop} (F : Fr g L s.heap m) (N : News g L s.heap l) (x : ListP (Kn g l) a vs) (ow : Own l a) (hsz : vs.length ≤ sizeLine)
    (hQ : ∀ h' l', Fr g L h' m → News g L h' l' → ListP (Kn g l') a (vs ++ [v]) → Ev l l' [a] → KeepIt l l' → (∀ x, Own l x → Own l' x) → Q .none { s with heap := h' }) :
    wpAny (model prog w) A (call (.builtin "list.append") [.ref a, v]) Q E s := by
  obtain ⟨o, n, p, hc, hd, hdd⟩ := x
  have ho := p.get F N
  obtain ⟨n', hd'⟩ := Obj.data_mapSeq hd (·.push v)
  refine wpAny_call_entry slot_list_append ⟨o, ho, hc⟩ entry_list_append ?_ (args_list_append _ _)
  show wpAny _ _ (updateSeq a (·.push v) >>= fun _ => ret .none) _ _ s
  have hc' : (o.mapSeq (·.push v)).cls = .type "list" := (Obj.cls_mapSeq ..).trans hc
  obtain ⟨l', F', N', hin, ev, ki, ow', -⟩ := mutL F N ow (Heap.SameBut.update ..) (Heap.get?_update_self _ ho (Obj.isFreed_of_seq hd')) (ListP.it hc')
  refine wpAny_bind (wpAny_updateSeq ho hd (wpAny_pure ⟨.none, rfl, hQ _ l' F' N' ⟨_, n', .in hin (ListP.it hc'), hc', ?_, (dict_mapSeq ..).trans hdd⟩ ev ki ow'⟩) (by rw [List.size_toArray]; exact hsz))
  rw [hd']; simp
theorem lset {v : Value} {k : Int} {t : Tok} {Q : Unit → Shared → Prop} (F : Fr g L s.heap m) (N : News g L s.heap l) (x : ListP (Kn g l) a vs) (ow : Own l a) (h0 : 0 ≤ k) (h1 : k < 2 ^ 63) (hn : k < vs.length)
    (hQ : ∀ h' l', Fr g L h' m → News g L h' l' → ListP (Kn g l') a (vs.set k.toNat v) → Ev l l' [a] → KeepIt l l' → (∀ x, Own l x → Own l' x) → Q () { s with heap := h' }) :
    wpAny (model prog w) A (setItem (.ref a) (.int k t) v) Q E s := by
  have hl := x.at F N
  obtain ⟨o, n, p, hc, hd, hdd⟩ := x
  have ho := p.get F N
  unfold setItem
  try with_reducible refine wpAny_holding ?_
  first | refine wpAny_bind (wpAny_pure ?_) | skip
  refine wpAny_bind (wpAny_sequenceKey hl.typeIs (by decide) ?_)
  refine wpAny_bind (wpAny_callSpecial?_slot (name := Str.ofString "__setitem__") hl.typeIs slot_list_setitem
    (wpAny_call_entry slot_list_setitem hl.typeIs entry_list_setitem ?_ (args_list_setitem _ _ _)))
  show wpAny _ _ (Builtin.List.listSubscript? (.int k t) >>= _) _ _ s
  refine wpAny_bind (wpAny_listSubscript_int (fitsIndex_of h0 h1) ?_)
  clear h1
  obtain ⟨j, rfl⟩ := Int.eq_ofNat_of_zero_le h0
  have hj : j < vs.length := by omega
  have hx' : vs.toArray[j]? = some vs[j] := by rw [List.getElem?_toArray]; exact List.getElem?_eq_getElem hj
  show wpAny _ _ ((seqItemAt a j >>= fun r => pure (r.map (j, ·))) >>= _) _ _ s
  refine wpAny_bind (wpAny_bind (wpAny_seqItemAt ho hd (wpAny_pure ?_)))
  rw [hx']
  show wpAny _ _ (setSeqItemAt a j v >>= _) _ _ s
  obtain ⟨n', hd'⟩ := Obj.data_mapSeq hd (·.setIfInBounds j v)
  have hc' : (o.mapSeq (·.setIfInBounds j v)).cls = .type "list" := (Obj.cls_mapSeq ..).trans hc
  obtain ⟨l', F', N', hin, ev, ki, ow', -⟩ := mutL F N ow (Heap.SameBut.update ..) (Heap.get?_update_self _ ho (Obj.isFreed_of_seq hd')) (ListP.it hc')
  have fin := hQ _ l' F' N' ⟨_, n', .in hin (ListP.it hc'), hc', by rw [hd', List.setIfInBounds_toArray]; rfl, (dict_mapSeq ..).trans hdd⟩ ev ki ow'
  refine wpAny_bind (wpAny_setSeqItemAt ho hd ?_)
  first
    | exact wpAny_bind (wpAny_pure (wpAny_pure ⟨.none, rfl, wpAny_pure fin⟩))
    | exact wpAny_pure ⟨.none, rfl, wpAny_pure fin⟩
theorem lmeth {pl : Sem Bool} {Q : Value × List Value → Shared → Prop} (F : Fr g L s.heap m) (N : News g L s.heap l) (x : ListP (Kn g l) a vs) (h : Q (.builtin "list.append", [.ref a]) s) : wpAny (model prog w) A (getMethod (.ref a) "append" pl) Q E s :=
  let ⟨_, _, p, hc, _, hd⟩ := x; getMethod_list_append (p.get F N) hc hd h
theorem lsub {v : Value} {k : Int} {t : Tok} {Q : Value → Shared → Prop} {value slice : PySem.Expr} (F : Fr g L s.heap m) (N : News g L s.heap l) (x : ListP (Kn g l) a vs) (h0 : 0 ≤ k) (h1 : k < 2 ^ 63) (hx : vs[k.toNat]? = some v) (h : Q v s)
    (hs : subscripted slice false (.ref a) (.int k t) = operate [.ref a, .int k t] (getItem (.ref a) (.int k t)) := by with_unfolding_all rfl) :
    wpAny (model prog w) A (subscriptTail value slice (.ref a) (.int k t)) Q E s :=
  tail_any (x.at F N).typeIs slot_list_getitem.lookup (wpAny_getItem_list (x.at F N) h0 h1 (by rw [List.getElem?_toArray]; exact hx) h) hs
end
end
section
theorem word31 : True := by
  k_with_none
  trivial
theorem word32 : True := by
  k_with "m.enter" => ((rename Around => A9); cases A9; (have hh9 := Ok.hh (by assumption)); (dsimp only at hh9); subst hh9; (rename _ + _ < recursionLimit => hd9); (dsimp only at hd9); (try ((rename _ + _ < cLine => hu9); (dsimp only at hu9))); refine' enter (by assumption) (by assumption) ?k3 ?k6 ?k7 ?k8 ?k9 ?kB ?_ ?c5 ?c2 ?c3 ?c4; (case k3 => first | assumption | exact Led.nil); (case k6 => k_dflt k_is); (case k7 => k_dflt k_is); (case k8 => dsimp only; omega); (case k9 => exact BindsTo.of_eq rfl); (case c5 => decide); (case kB => exact locs rfl); (case c2 => exact rfl); (case c3 => exact rfl); (case c4 => exact rfl); k_whole; intro _ _ _ _ _ _ _ _ _ _ _ _ _; (have hst9 := Below.stack (by assumption)); (dsimp only at hst9); subst hst9; (try dsimp only); (try k_fold))
  trivial
theorem word33 : True := by
  k_with "call ref" => ((with_reducible show wpAny _ _ (call (Value.ref 174) _) _ _ _); k_dflt (refine' padded_at ?k1 ?k2 ?k3 ?k4 ?k5 rfl rfl rfl ?kd ?ku ?kf ?b1 ?b2 ?b3 ?b4 ?_; (case k1 => k_asm); (case k2 => k_asm); (case k3 => k_asm); (case k4 => k_asm); (case k5 => k_asm); (case kd => dsimp only; omega); (case ku => dsimp only; omega); (case kf => k_asm); (case b1 => k_asm); (case b2 => k_asm); (case b3 => k_asm); (case b4 => k_asm); k_whole; intro _ _ _ _ _ _ _ _; (try dsimp only [Tup2] at *)))
  trivial
theorem word34 : True := by
  k_with "m.look" => first | assumption | exact if_pos rfl | (refine Eq.trans (if_neg (by decide)) ?_; walk_at "m.look")
  trivial
theorem word35 : True := by
  k_with "eval Name" => (k_dflt (refine' nameX_L ?xF ?xv ?_ ?xa ?xb; (case xF => k_asm); (case xa => rfl); (case xb => rfl); (case xv => walk_at "m.look"); k_whole))
  trivial
noncomputable def sd (i : Nat) : Int × Int := match i with | 0 => (-1, 0) | 1 => (1, 0) | 2 => (0, -1) | _ => (0, 1)
/-- the sides of a block that lie in the plane and are not gone -/
noncomputable def sidesTo (ac dn : Int) (gk : List (List Int)) (c x y : Int) : Nat → List (List Int)
  | 0 => []
  | i + 1 => sidesTo ac dn gk c x y i ++ if 0 ≤ x + (sd i).1 ∧ x + (sd i).1 < ac ∧ 0 ≤ y + (sd i).2 ∧ y + (sd i).2 < dn ∧ [c, x + (sd i).1, y + (sd i).2] ∉ gk then [[c, x + (sd i).1, y + (sd i).2]] else []
theorem sidesTo_succ {ac dn : Int} {gk : List (List Int)} {c x y : Int} {i : Nat} : sidesTo ac dn gk c x y (i + 1) = sidesTo ac dn gk c x y i ++ if 0 ≤ x + (sd i).1 ∧ x + (sd i).1 < ac ∧ 0 ≤ y + (sd i).2 ∧ y + (sd i).2 < dn ∧ [c, x + (sd i).1, y + (sd i).2] ∉ gk then [[c, x + (sd i).1, y + (sd i).2]] else [] := rfl
theorem sidesTo_len {ac dn : Int} {gk : List (List Int)} {c x y : Int} : ∀ i, (sidesTo ac dn gk c x y i).length ≤ i
  | 0 => Nat.le_refl _
  | i + 1 => by
    rw [sidesTo_succ, List.length_append]
    have := sidesTo_len (ac := ac) (dn := dn) (gk := gk) (c := c) (x := x) (y := y) i
    split <;> simp <;> omega
theorem Own.in_of {g h : Heap} {L a : Addr} {l : List (Addr × Obj)} {o : Obj} (ow : Own l a) (N : News g L h l) (k : Kn g l a o) : (a, o) ∈ l := by
  obtain ⟨o', hm, -⟩ := ow
  rcases k.1 with k | k
  · have := (N _ hm).2.2; rw [k] at this; cases this
  · exact k
theorem sides_heap (w : World) (i : Nat) (hi : i < 4) : ∃ t1 t2, (hd.heap_1 w.params).lookup (50 + i) = some { cls := .type "tuple", data := .seq #[.int (sd i).1 t1, .int (sd i).2 t2] } := by
  have h50 : (hd.heap_1 w.params).lookup 50 = some { cls := .type "tuple", data := .seq #[.int (-1) 247, .int 0 248] } := by k_dflt k_is
  have h51 : (hd.heap_1 w.params).lookup 51 = some { cls := .type "tuple", data := .seq #[.int 1 249, .int 0 250] } := by k_dflt k_is
  have h52 : (hd.heap_1 w.params).lookup 52 = some { cls := .type "tuple", data := .seq #[.int 0 251, .int (-1) 253] } := by k_dflt k_is
  have h53 : (hd.heap_1 w.params).lookup 53 = some { cls := .type "tuple", data := .seq #[.int 0 254, .int 1 255] } := by k_dflt k_is
  match i, hi with
  | 0, _ => exact ⟨_, _, h50⟩
  | 1, _ => exact ⟨_, _, h51⟩
  | 2, _ => exact ⟨_, _, h52⟩
  | 3, _ => exact ⟨_, _, h53⟩
theorem sides_top (w : World) : (hd.heap_1 w.params).lookup 54 = some { cls := .type "tuple", data := .seq #[.ref 50, .ref 51, .ref 52, .ref 53] } := by k_dflt k_is
theorem atKey_isSome (xs : List (List Int × Addr × Value)) (k : List Int) : (atKey xs k).isSome = true ↔ k ∈ xs.map (·.1) := by
  unfold atKey
  rw [Option.isSome_map, List.find?_isSome]
  constructor
  · rintro ⟨x, hx, e⟩
    exact List.mem_map.mpr ⟨x, hx, by simpa using e⟩
  · intro h
    obtain ⟨x, hx, e⟩ := List.mem_map.mp h
    exact ⟨x, hx, by simpa using e⟩
noncomputable def KSJ (w : World) (g : Heap) (D gone : Addr) (ac dn x y : Int) (xs : List (List Int × Addr × Value)) (i : Nat) (m : Str → Option Value) (l : List (Addr × Obj)) : Prop := (∃ t, m (Str.ofString "across") = some (.int ac t)) ∧ (∃ t, m (Str.ofString "down") = some (.int dn t)) ∧ m (Str.ofString "found") = some (.ref D) ∧ m (Str.ofString "gone") = some (.ref gone) ∧ (∃ t, m (Str.ofString "component") = some (.int 0 t)) ∧ (∃ t, m (Str.ofString "x") = some (.int x t)) ∧ (∃ t, m (Str.ofString "y") = some (.int y t)) ∧
     Own l D ∧ ∃ es : List (List Int × Addr), ListP (Kn g l) D (es.map fun e => Value.ref e.2) ∧ (∀ e ∈ es, TupP prg w (fun a o => (a, o) ∈ l) e.1 e.2) ∧ es.map (·.1) = sidesTo ac dn (xs.map (·.1)) 0 x y i
section
variable {w : World} {A : Around} {s : Shared} {g : Heap} {R : Result → Shared → Prop} {fr gone : Addr} {ac dn : Int} {xs : List (List Int × Addr × Value)}
theorem known_sides_spec (ok : Ok w A g) (hs : Sub g s.heap) (hd : A.depth + 9 < recursionLimit) (hu : A.units + 180 < cLine) (hf : FrmP w (fun a o => g.get? a = some o) fr ac dn) (h1 : 1 ≤ ac) (h2 : ac ≤ 5) (h3 : 1 ≤ dn) (h4 : dn ≤ 4)
    (hg : DictP prg w (fun a o => g.get? a = some o) gone xs) (hlo : (gone == sysModules) = false) {x y : Int} {tc tx ty : Tok} (hx : 0 ≤ x) (hx' : x ≤ 100) (hy : 0 ≤ y) (hy' : y ≤ 100)
    (hR : ∀ h' tk D ln (es : List (List Int × Addr)), (∀ b o, g.get? b = some o → h'.get? b = some o) → Led g h' ln → ListP (fun a o => (a, o) ∈ ln) D (es.map fun e => Value.ref e.2) → (∀ e ∈ es, TupP prg w (fun a o => (a, o) ∈ ln) e.1 e.2) → es.map (·.1) = sidesTo ac dn (xs.map (·.1)) 0 x y 4 →
      R (.ok (.ret (.ref D))) {s with heap := h', toks := tk}) :
    codeAny (model prg w) A (.call (.ref 68) ⟨[.ref fr, .ref gone, .int 0 tc, .int x tx, .int y ty], []⟩) R s := by
  obtain ⟨fd, cl, co, cd, ts, p1, p2, p3, p4, p5⟩ := id hf
  walk_at "m.enter"
  have hg' : ∀ l, DictP prg w (Kn g l) gone xs := fun l => hg.mono fun a o i k => .base k i
  repeat' (fail_if_success (with_reducible show wpAny _ _ (exec (PySem.Stmt.For ..) _) _ _ _)); walk1
  rename Fr _ _ _ _ => F
  refine hideQ fun QA1 qA1 => ?_
  refine For_at F ?_
  repeat' (fail_if_success (with_reducible show ∃ _, _)); walk1
  rename News _ _ _ _ => N
  rename Frag.In _ _ => X
  rename_i D _ _ _
  have e54 := X _ _ (sides_top w)
  refine ⟨_, _, _, _, _, KSJ w g D gone ac dn x y xs,
    { S := Sr.tup (n := 0) rfl (F.keep _ _ e54) rfl rfl, hL := ?_, F := F, N := N, src := ?_, mono := ?_, j0 := ?_, step := ?_, done := ?_ }⟩
  · intro hm
    exact Nat.ne_of_lt (Nat.lt_of_lt_of_le (Heap.lt_size e54) F.above) (List.mem_singleton.mp hm).symm
  · intro _ _ _ _ q hq; rw [List.mem_singleton.mp hq]; exact .base e54 rfl
  · rintro i m l l' ev ⟨m1, m2, m3, m4, m5, m6, m7, ow, es, hD, hT, hk⟩
    exact ⟨m1, m2, m3, m4, m5, m6, m7, ow.ev ev, es, hD.mono fun a o _ k => k.sub ev, fun e he => (hT e he).monoC fun a o hc hm => ev _ hm List.not_mem_nil (it_no hc (by decide)), hk⟩
  · exact ⟨⟨_, by first | walk_at "m.look" | rfl⟩, ⟨_, by first | walk_at "m.look" | rfl⟩, by first | walk_at "m.look" | rfl, by first | walk_at "m.look" | rfl, ⟨_, by first | walk_at "m.look" | rfl⟩, ⟨_, by first | walk_at "m.look" | rfl⟩, ⟨_, by first | walk_at "m.look" | rfl⟩, .in (List.mem_cons_self) rfl, [], ⟨_, _, .in (List.mem_cons_self) rfl, rfl, rfl, rfl⟩, fun e he => (nomatch he), rfl⟩
  · intro i v m₁ l₁ h₁ tk₁ hi hP hI9 hK F₁ N₁
    clear qA1
    refine hideGoal fun hGa hEa => ?_
    obtain ⟨⟨ta, m1⟩, ⟨td, m2⟩, m3, m4, ⟨tc', m5⟩, ⟨tx', m6⟩, ⟨ty', m7⟩, ow, es, hD, hT, hk⟩ := hI9
    refine hEa ?_
    clear hEa
    refine hideAE fun PP1 qP1 => ?_
    obtain rfl : v = .ref (50 + i) := by
      rcases i with _ | _ | _ | _ | i
      all_goals first | (exact (Option.some.inj hP).symm) | (simp at hi; omega)
    obtain ⟨t1, t2, e⟩ := sides_heap w i hi
    have hT9 : IsTup h₁ (50 + i) #[.int (sd i).1 t1, .int (sd i).2 t2] := ⟨_, F₁.keep _ _ (X _ _ e), rfl, 0, rfl⟩
    clear F N
    clear e hP
    k_steps
    · rename Fr _ _ _ _ => F9
      rename News _ _ _ _ => N9
      refine dnotin F9 N9 (hg' _) (tup3 (Kn.in List.mem_cons_self rfl)) (by simp only [units_deeper]; omega) hlo fun tk9 => ?_
      by_cases hin : [0, x + (sd i).1, y + (sd i).2] ∈ xs.map (·.1)
      · have e : (atKey xs [0, x + (sd i).1, y + (sd i).2]).isSome = true := (atKey_isSome _ _).mpr hin
        rw [e]
        k_steps
        refine qP1 _ _ ?_
        refine ⟨_, _, _, _, rfl, by assumption, by assumption, KeepIt.of fun p hp => .tail _ hp, ⟨ta, by walk_at "m.look"⟩, ⟨td, by walk_at "m.look"⟩, by walk_at "m.look", by walk_at "m.look", ⟨tc', by walk_at "m.look"⟩, ⟨tx', by walk_at "m.look"⟩, ⟨ty', by walk_at "m.look"⟩, ow.ev (Ev.of fun p hp => .tail _ hp), es, hD.mono fun a o _ k => k.sub (Ev.of fun p hp => .tail _ hp), fun e he => (hT e he).monoC fun a o hc hm => .tail _ hm, ?_⟩
        rw [hk]
        rw [sidesTo_succ, if_neg (by rintro ⟨-, -, -, -, h⟩; exact h hin), List.append_nil]
      · have hlen : es.length ≤ sizeLine := by
          have q := congrArg List.length hk
          rw [List.length_map] at q
          have := sidesTo_len (ac := ac) (dn := dn) (gk := xs.map (·.1)) (c := 0) (x := x) (y := y) i
          have hi4 : i < 4 := hi
          rw [sizeLine_eq]; omega
        have e : (atKey xs [0, x + (sd i).1, y + (sd i).2]).isSome = false := by
          rw [Bool.eq_false_iff]; exact fun q => hin ((atKey_isSome _ _).mp q)
        rw [e]
        k_steps
        rename Fr _ _ _ _ => F8
        rename News _ _ _ _ => N8
        have sb : ∀ q : Addr × Obj, ∀ p ∈ l₁, p ∈ q :: l₁ := fun q p hp => List.mem_cons_of_mem _ hp
        have hD' := fun q => hD.mono fun a o _ k => k.sub (Ev.of (sb q))
        have ow' := fun q => ow.ev (Ev.of (sb q))
        refine lmeth F8 N8 (hD' _) ?_
        k_steps
        refine lappend F8 N8 (hD' _) (ow' _) (by rw [List.length_map]; exact hlen) fun h9 l9 F9 N9 x9 e9 k9 o9 => ?_
        have nD : ∀ (a : Addr) (o : Obj), o.cls = .type "tuple" → (a, o) ∈ _ → a ∉ [D] := fun a o hc hm => by
          obtain ⟨oD, nD, kD, hcD, -⟩ := hD' _
          rw [List.mem_singleton]
          exact Kn.ne F8 N8 (Kn.in hm (it_no hc (by decide))) kD (by rw [hc, hcD]; intro q; injection q with q; exact absurd q (by decide))
        have tT := TupP.monoC (P' := fun a o => (a, o) ∈ l9) (prog := prg) (w := w) (tup3 (P := fun a o => (a, o) ∈ _) List.mem_cons_self) (fun a o hc hm => e9 _ hm (nD _ _ hc hm) (it_no hc (by decide)))
        have tE := fun e he => TupP.monoC (P' := fun a o => (a, o) ∈ l9) (hT e he) (fun a o hc hm => e9 _ (sb _ _ hm) (nD _ _ hc (sb _ _ hm)) (it_no hc (by decide)))
        clear F8
        k_steps
        refine qP1 _ _ ?_
        refine ⟨_, _, _, _, rfl, by assumption, by assumption, (KeepIt.of (sb _)).trans k9, ⟨ta, by walk_at "m.look"⟩, ⟨td, by walk_at "m.look"⟩, by walk_at "m.look", by walk_at "m.look", ⟨tc', by walk_at "m.look"⟩, ⟨tx', by walk_at "m.look"⟩, ⟨ty', by walk_at "m.look"⟩, o9 _ (ow' _), es ++ [([0, x + (sd i).1, y + (sd i).2], _)], by rw [List.map_append]; exact x9, fun e he => ?_, ?_⟩
        · rcases List.mem_append.mp he with he | he
          · exact tE e he
          · rw [List.mem_singleton.mp he]; exact tT
        · rw [List.map_append, hk, sidesTo_succ, if_pos ⟨by assumption, by assumption, by assumption, by assumption, hin⟩]; rfl
    all_goals refine qP1 _ _ ?_
    all_goals refine ⟨_, _, _, _, rfl, by assumption, by assumption, KeepIt.of fun p hp => .tail _ hp, ⟨ta, by walk_at "m.look"⟩, ⟨td, by walk_at "m.look"⟩, by walk_at "m.look", by walk_at "m.look", ⟨tc', by walk_at "m.look"⟩, ⟨tx', by walk_at "m.look"⟩, ⟨ty', by walk_at "m.look"⟩, ow.ev (Ev.of fun p hp => .tail _ hp), es, hD.mono fun a o _ k => k.sub (Ev.of fun p hp => .tail _ hp), fun e he => (hT e he).monoC fun a o hc hm => .tail _ hm, ?_⟩
    all_goals rw [hk, sidesTo_succ, if_neg (by rintro ⟨q1, q2, q3, q4, -⟩; omega), List.append_nil]
  · intro h' tk m' l' F' N' hK hI9
    refine qA1 _ _ ?_
    clear qA1
    obtain ⟨⟨ta, m1⟩, ⟨td, m2⟩, m3, m4, ⟨tc', m5⟩, ⟨tx', m6⟩, ⟨ty', m7⟩, ow, es, hD, hT, hk⟩ := hI9
    clear F N
    k_steps
    exact hR _ _ D l' es F'.keep (Led.of N') (hD.monoA fun o _ k => ow.in_of N' k) hT hk
end
end
theorem calm7 : True := by (w_top off); first | walk1 | trivial
section
theorem word36 : True := by
  k_with_none
  trivial
theorem word37 : True := by
  k_with "m.enter" => ((rename Around => A9); cases A9; (have hh9 := Ok.hh (by assumption)); (dsimp only at hh9); subst hh9; (rename _ + _ < recursionLimit => hd9); (dsimp only at hd9); (try ((rename _ + _ < cLine => hu9); (dsimp only at hu9))); refine' enter (by assumption) (by assumption) ?k3 ?k6 ?k7 ?k8 ?k9 ?kB ?_ ?c5 ?c2 ?c3 ?c4; (case k3 => first | assumption | exact Led.nil); (case k6 => k_dflt k_is); (case k7 => k_dflt k_is); (case k8 => dsimp only; omega); (case k9 => exact BindsTo.of_eq rfl); (case c5 => decide); (case kB => exact locs rfl); (case c2 => exact rfl); (case c3 => exact rfl); (case c4 => exact rfl); k_whole; intro _ _ _ _ _ _ _ _ _ _ _ _ _; (have hst9 := Below.stack (by assumption)); (dsimp only at hst9); subst hst9; (try dsimp only); (try k_fold))
  trivial
section
variable {w : World} {A₀ : Around} {s : Shared} {base h₀ : Heap} {outer : List Env} {L : Addr} {m mg mb : Str → Option Value} {mean : ExcName → Option Value} {env : Env} {l : List (Addr × Obj)} {Q E : Value → Shared → Prop} {fr gone : Addr} {ac dn : Int} {xs : List (List Int × Addr × Value)}
theorem known_sides_at (B : Below A₀ base outer h₀) (F : Fr h₀ L s.heap m) (X : (hd.heap_1 w.params).In h₀) (T : Top pp (looseW pp []) mean mg mb h₀) (N : News h₀ L s.heap l) (hf : env.frame = some L) (hk : env.scope.kind = .function) (hh : A₀.handled = none) (hd : A₀.depth + 1 + 9 < recursionLimit) (hu : A₀.units + 3 + 180 < cLine) (hfr : FrmP w (fun a o => h₀.get? a = some o) fr ac dn)  (h1 : 1 ≤ ac) (h2 : ac ≤ 5) (h3 : 1 ≤ dn) (h4 : dn ≤ 4) (hg : DictP prg w (Kn h₀ l) gone xs) (hlo : (gone == sysModules) = false) {x y : Int} {tc tx ty : Tok} (hx : 0 ≤ x) (hx' : x ≤ 100) (hy : 0 ≤ y) (hy' : y ≤ 100)
    (hQ : ∀ h' tk D ln (es : List (List Int × Addr)), Fr h₀ L h' m → News h₀ L h' (ln ++ l) → (∀ p ∈ ln, s.heap.get? p.1 = none) → ListP (fun a o => (a, o) ∈ ln) D (es.map fun e => Value.ref e.2) → (∀ e ∈ es, TupP prg w (fun a o => (a, o) ∈ ln) e.1 e.2) → es.map (·.1) = sidesTo ac dn (xs.map (·.1)) 0 x y 4 → Q (.ref D) { s with heap := h', toks := tk }) :
    wpAny (model prg w) (A₀.deeper env) (call (.ref 68) [.ref fr, .ref gone, .int 0 tc, .int x tx, .int y ty]) Q E s :=
  ro_at (Post := fun v ln => ∃ D, ∃ es : List (List Int × Addr), v = .ref D ∧ ListP (fun a o => (a, o) ∈ ln) D (es.map fun e => Value.ref e.2) ∧ (∀ e ∈ es, TupP prg w (fun a o => (a, o) ∈ ln) e.1 e.2) ∧ es.map (·.1) = sidesTo ac dn (xs.map (·.1)) 0 x y 4) B F X T N hf hk hh
   (fun g ok hs kn R hR => known_sides_spec ok hs hd hu (hfr.mono fun a o _ k => kn a o (.inl k)) h1 h2 h3 h4 (hg.mono fun a o _ k => kn a o k.1) hlo hx hx' hy hy' fun h' tk D ln es keep led a b c => hR h' tk _ ln keep led ⟨D, es, rfl, a, b, c⟩)
   (by rintro h' tk v ln ⟨D, es, rfl, a, b, c⟩ F' N' hn; exact hQ h' tk D ln es F' N' hn a b c)
end
section
variable {w : World} {A : Around} {s : Shared} {g : Heap} {R : Result → Shared → Prop} {a : Addr} {vs : List Value} {ns : List Int}
theorem rounded_mean_spec (ok : Ok w A g) (hs : Sub g s.heap) (hd : A.depth + 5 < recursionLimit) (hu : A.units + 100 < cLine) (hl : g.IsList a vs.toArray) (hi : IntsAre vs ns) (h0 : 0 < ns.length) (h4 : ns.length ≤ 4) (hb : ∀ n ∈ ns, -100 ≤ n ∧ n ≤ 100)
    (hR : ∀ h' tk t1, (∀ b o, g.get? b = some o → h'.get? b = some o) → R (.ok (.ret (.int (rnd ns.sum ns.length) t1))) {s with heap := h', toks := tk}) :
    codeAny (model prg w) A (.call (.ref 75) ⟨[.ref a], []⟩) R s := by
  walk_at "m.enter"
  have e : (if -ns.sum > ns.sum then -ns.sum else ns.sum) = (if ns.sum < 0 then -ns.sum else ns.sum) := by split <;> split <;> omega
  k_steps
  · have e2 : rnd ns.sum ns.length = ((2 * if -ns.sum > ns.sum then -ns.sum else ns.sum) + (ns.length : Int)).fdiv (2 * (ns.length : Int)) := by
      rw [e]; unfold rnd; exact if_pos (by omega)
    rw [e2] at hR
    exact hR _ _ _ (Fr.keep (by assumption))
  · have e2 : rnd ns.sum ns.length = -((2 * if -ns.sum > ns.sum then -ns.sum else ns.sum) + (ns.length : Int)).fdiv (2 * (ns.length : Int)) := by
      rw [e]; unfold rnd; exact if_neg (by omega)
    rw [e2] at hR
    exact hR _ _ _ (Fr.keep (by assumption))
end
end
theorem calm8 : True := by (w_top off); first | walk1 | trivial
section
theorem word38 : True := by
  k_with_none
  trivial
theorem word39 : True := by
  k_with "m.enter" => ((rename Around => A9); cases A9; (have hh9 := Ok.hh (by assumption)); (dsimp only at hh9); subst hh9; (rename _ + _ < recursionLimit => hd9); (dsimp only at hd9); (try ((rename _ + _ < cLine => hu9); (dsimp only at hu9))); refine' enter (by assumption) (by assumption) ?k3 ?k6 ?k7 ?k8 ?k9 ?kB ?_ ?c5 ?c2 ?c3 ?c4; (case k3 => first | assumption | exact Led.nil); (case k6 => k_dflt k_is); (case k7 => k_dflt k_is); (case k8 => dsimp only; omega); (case k9 => exact BindsTo.of_eq rfl); (case c5 => decide); (case kB => exact locs rfl); (case c2 => exact rfl); (case c3 => exact rfl); (case c4 => exact rfl); k_whole; intro _ _ _ _ _ _ _ _ _ _ _ _ _; (have hst9 := Below.stack (by assumption)); (dsimp only at hst9); subst hst9; (try dsimp only); (try k_fold))
  trivial
noncomputable def CellP (P : Addr → Obj → Prop) (rs : List Addr) (v : Value) : Option (List Int) → Prop
  | none => v = .none
  | some ns => ∃ a vs, v = .ref a ∧ ListP P a vs ∧ IntsAre vs ns ∧ a ∉ rs
/-- a grid of one plane: its top, with the addresses of its rows -/
noncomputable def GridT (w : World) (P : Addr → Obj → Prop) (gr : Addr) (rs : List Addr) : Prop :=
  ∃ gd pl p0, ∃ ts : Nat → Tok, P gr (instObj 210 gd) ∧ P gd (dictOf [⟨PyData.keyHash w.params (Str.ofString "many"), .str (Str.ofString "many") (ts 0), .int 4 (ts 1)⟩, ⟨PyData.keyHash w.params (Str.ofString "planes"), .str (Str.ofString "planes") (ts 2), .ref pl⟩] 2) ∧ ListP P pl [.ref p0] ∧ ListP P p0 (rs.map Value.ref) ∧ pl ∉ rs ∧ p0 ∉ rs
/-- what the cells of its rows hold -/
noncomputable def RowsP (P : Addr → Obj → Prop) (rs : List Addr) (M : List (List (Option (List Int)))) : Prop :=
  rs.Nodup ∧ rs.length = M.length ∧ ∀ (y : Nat) r row, rs[y]? = some r → M[y]? = some row → ∃ cs, ListP P r cs ∧ cs.length = row.length ∧ ∀ (x : Nat) v o, cs[x]? = some v → row[x]? = some o → CellP P rs v o
theorem CellP.mono {P P' : Addr → Obj → Prop} {rs : List Addr} {v : Value} {o : Option (List Int)} (x : CellP P rs v o) (h : ∀ a o, a ∉ rs → o.cls = .type "list" → P a o → P' a o) : CellP P' rs v o := by
  cases o with
  | none => exact x
  | some ns => obtain ⟨a, vs, e, hl, hi, hn⟩ := x; exact ⟨a, vs, e, hl.monoA fun o hc k => h a o hn hc k, hi, hn⟩
theorem GridT.mono {w : World} {P P' : Addr → Obj → Prop} {gr : Addr} {rs : List Addr} (x : GridT w P gr rs) (h : ∀ a o, a ∉ rs ∨ o.cls ≠ .type "list" → It o = false → P a o → P' a o) : GridT w P' gr rs := by
  obtain ⟨gd, pl, p0, ts, a, b, c, d, e, f⟩ := x
  exact ⟨gd, pl, p0, ts, h _ _ (.inr (by intro q; cases q)) rfl a, h _ _ (.inr (by intro q; injection q with q; exact absurd q (by decide))) rfl b, c.monoA fun o hc k => h _ o (.inl e) (ListP.it hc) k, d.monoA fun o hc k => h _ o (.inl f) (ListP.it hc) k, e, f⟩
theorem RowsP.mono {P P' : Addr → Obj → Prop} {rs : List Addr} {M : List (List (Option (List Int)))} (x : RowsP P rs M) (h : ∀ a o, o.cls = .type "list" → P a o → P' a o) : RowsP P' rs M := by
  obtain ⟨n, z, k⟩ := x
  refine ⟨n, z, fun y r row hr hM => ?_⟩
  obtain ⟨cs, hc, hl, hx⟩ := k y r row hr hM
  exact ⟨cs, hc.monoA fun o c k => h _ o c k, hl, fun x v o h1 h2 => (hx x v o h1 h2).mono fun a o _ hc => h a o hc⟩
theorem subB {w : World} {A : Around} {s : Shared} {h₀ : Heap} {L : Addr} {m : Str → Option Value} {Q E : Value → Shared → Prop} {value slice : PySem.Expr} {a : Addr} {vs : List Value} {k : Int} {t : Tok} {v : Value} (F : Fr h₀ L s.heap m) (x : ListP (fun a o => h₀.get? a = some o) a vs) (h0 : 0 ≤ k) (h1 : k < 2 ^ 63) (hx : vs[k.toNat]? = some v) (h : Q v s)
    (hs : subscripted slice false (.ref a) (.int k t) = operate [.ref a, .int k t] (getItem (.ref a) (.int k t)) := by with_unfolding_all rfl) :
    wpAny (model prg w) A (subscriptTail value slice (.ref a) (.int k t)) Q E s := by
  obtain ⟨o, n, p, hc, hd, -⟩ := x
  have hl : s.heap.IsList a vs.toArray := ⟨o, F.keep _ _ p, hc, n, hd⟩
  exact tail_any hl.typeIs slot_list_getitem.lookup (wpAny_getItem_list hl h0 h1 (by rw [List.getElem?_toArray]; exact hx) h) hs
theorem word40 : True := by
  k_with "subscriptTail" => (k_dflt (refine' subB ?k1 ?k2 ?k3 ?k4 ?k5 ?_; (case k1 => k_asm); (case k2 => k_asm); (case k3 => omega); (case k4 => omega); (case k5 => k_asm); k_whole))
  trivial

theorem RowsP.cell {P : Addr → Obj → Prop} {rs : List Addr} {M : List (List (Option (List Int)))} {x y : Nat} {row : List (Option (List Int))} {ns : List Int} (R : RowsP P rs M) (hM : M[y]? = some row) (hr : row[x]? = some (some ns)) :
    ∃ r cs a vs, rs[y]? = some r ∧ ListP P r cs ∧ cs[x]? = some (.ref a) ∧ ListP P a vs ∧ IntsAre vs ns ∧ a ∉ rs := by
  obtain ⟨nd, hlen, k⟩ := R
  have hy0 : y < M.length := by
    rcases Nat.lt_or_ge y M.length with h | h
    · exact h
    · rw [List.getElem?_eq_none h] at hM; cases hM
  obtain ⟨r, hr'⟩ : ∃ r, rs[y]? = some r := ⟨_, List.getElem?_eq_getElem (hlen ▸ hy0)⟩
  obtain ⟨cs, hc, hl, hcell⟩ := k _ r row hr' hM
  have hx0 : x < row.length := by
    rcases Nat.lt_or_ge x row.length with h | h
    · exact h
    · rw [List.getElem?_eq_none h] at hr; cases hr
  obtain ⟨v, hv⟩ : ∃ v, cs[x]? = some v := ⟨_, List.getElem?_eq_getElem (hl ▸ hx0)⟩
  obtain ⟨a, vs, rfl, ha, hi, hn⟩ := hcell _ v _ hv hr
  exact ⟨r, cs, a, vs, hr', hc, hv, ha, hi, hn⟩
section
variable {w : World} {A : Around} {s : Shared} {g : Heap} {R : Result → Shared → Prop} {gr : Addr} {rs : List Addr} {M : List (List (Option (List Int)))}
theorem get_spec (ok : Ok w A g) (hs : Sub g s.heap) (hd : A.depth + 3 < recursionLimit) (hu : A.units + 60 < cLine) (hG : GridT w (fun a o => g.get? a = some o) gr rs) {x y : Int} {t0 tx ty : Tok} (hx : 0 ≤ x) (hx' : x ≤ 100) (hy : 0 ≤ y) (hy' : y ≤ 100)
    {r a : Addr} {cs : List Value} (hr' : rs[y.toNat]? = some r) (hc : ListP (fun a o => g.get? a = some o) r cs) (hv : cs[x.toNat]? = some (.ref a))
    (hR : ∀ h' tk, (∀ b o, g.get? b = some o → h'.get? b = some o) → R (.ok (.ret (.ref a))) {s with heap := h', toks := tk}) :
    codeAny (model prg w) A (.call (.ref 200) ⟨[.ref gr, .int 0 t0, .int x tx, .int y ty], []⟩) R s := by
  obtain ⟨gd, pl, p0, ts, p1, p2, p3, p4, q1, q2⟩ := id hG
  have e1 : [Value.ref p0][(0 : Int).toNat]? = some (.ref p0) := rfl
  have e2 : (rs.map Value.ref)[y.toNat]? = some (.ref r) := by rw [List.getElem?_map, hr']; rfl
  walk_at "m.enter"
  k_steps
  exact hR _ _ (Fr.keep (by assumption))
theorem put_spec (ok : Ok w A g) (hs : Sub g s.heap) (hd : A.depth + 3 < recursionLimit) (hu : A.units + 60 < cLine) (hG : GridT w (fun a o => g.get? a = some o) gr rs) {x y : Int} {t0 tx ty : Tok} (hx : 0 ≤ x) (hx' : x ≤ 100) (hy : 0 ≤ y) (hy' : y ≤ 100)
    {r b : Addr} {o : Obj} {cs ws : List Value} {n : Nat} (hr : rs[y.toNat]? = some r) (hW : Led g s.heap [(r, o)]) (hc : o.cls = .type "list") (hd' : o.data = .seq cs.toArray n) (hdd : o.dict = none) (hxl : x.toNat < cs.length) (hb : ListP (fun a o => g.get? a = some o) b ws) (hwl : ws.length ≤ 100)
    (hR : ∀ h' tk o' a' c', (∀ b o, g.get? b = some o → h'.get? b = some o) → Led g h' [(r, o'), (a', listOf ws.toArray c')] → o'.cls = .type "list" → (∃ n, o'.data = .seq (cs.set x.toNat (.ref a')).toArray n) → o'.dict = none → r ≠ a' → R (.ok (.ret .none)) {s with heap := h', toks := tk}) :
    codeAny (model prg w) A (.call (.ref 207) ⟨[.ref gr, .int 0 t0, .int x tx, .int y ty, .ref b], []⟩) R s := by
  obtain ⟨gd, pl, p0, ts, p1, p2, p3, p4, q1, q2⟩ := id hG
  have e1 : [Value.ref p0][(0 : Int).toNat]? = some (.ref p0) := rfl
  have e2 : (rs.map Value.ref)[y.toNat]? = some (.ref r) := by rw [List.getElem?_map, hr]; rfl
  have hbl : g.IsList b ws.toArray := let ⟨o, n, p, hc, hd, _⟩ := hb; ⟨o, p, hc, n, hd⟩
  walk_at "m.enter"
  k_steps
  rename Fr _ _ _ _ => F8
  rename News _ _ _ _ => N8
  rename r < _ => l1
  have hrin := fun q : Addr × Obj => List.mem_cons_of_mem q (List.mem_cons_self (a := (r, o)) (l := []))
  refine lset F8 N8 ⟨o, n, .in (hrin _) (ListP.it hc), hc, hd', hdd⟩ (.in (hrin _) (ListP.it hc)) hx (by omega) (by omega) fun h9 l9 F9 N9 x9 e9 k9 o9 => ?_
  obtain ⟨o', n', k', hc', hd9, hdd'⟩ := x9
  have i9 := (o9 r (.in (hrin _) (ListP.it hc))).in_of N9 k'
  have j9 := e9 _ List.mem_cons_self (fun q => Nat.ne_of_gt l1 (List.mem_singleton.mp q)) rfl
  clear F8
  k_steps
  have both : ∀ q, q ∈ l9 → ∀ p ∈ [(r, o'), q], p ∈ l9 := fun q hq p hp => by
    rcases List.mem_cons.mp hp with rfl | hp
    · exact i9
    · rw [List.mem_singleton.mp hp]; exact hq
  exact hR _ _ o' _ _ F9.keep (Led.sub (Led.of N9) (both _ j9)) hc' ⟨n', hd9⟩ hdd' (Nat.ne_of_lt l1)
end
section
variable {w : World} {A₀ : Around} {s : Shared} {base h₀ : Heap} {outer : List Env} {L : Addr} {m mg mb : Str → Option Value} {mean : ExcName → Option Value} {env : Env} {l : List (Addr × Obj)} {Q E : Value → Shared → Prop} {gr : Addr} {rs : List Addr}
theorem get_at (B : Below A₀ base outer h₀) (F : Fr h₀ L s.heap m) (X : (hd.heap_1 w.params).In h₀) (T : Top pp (looseW pp []) mean mg mb h₀) (N : News h₀ L s.heap l) (hf : env.frame = some L) (hk : env.scope.kind = .function) (hh : A₀.handled = none) (hd : A₀.depth + 1 + 3 < recursionLimit) (hu : A₀.units + 3 + 60 < cLine) (hG : GridT w (Kn h₀ l) gr rs) {x y : Int} {t0 tx ty : Tok} (hx : 0 ≤ x) (hx' : x ≤ 100) (hy : 0 ≤ y) (hy' : y ≤ 100)
    {r a : Addr} {cs : List Value} (hr' : rs[y.toNat]? = some r) (hc : ListP (Kn h₀ l) r cs) (hv : cs[x.toNat]? = some (.ref a))
    (hQ : ∀ h' tk, Fr h₀ L h' m → News h₀ L h' l → Q (.ref a) { s with heap := h', toks := tk }) :
    wpAny (model prg w) (A₀.deeper env) (call (.ref 200) [.ref gr, .int 0 t0, .int x tx, .int y ty]) Q E s :=
  ro_at (Post := fun v ln => v = .ref a ∧ ln = []) B F X T N hf hk hh (fun g ok hs kn R hR => get_spec ok hs hd hu (hG.mono fun a o _ _ k => kn a o k.1) hx hx' hy hy' hr' (hc.mono fun a o _ k => kn a o k.1) hv fun h' tk keep => hR h' tk _ [] keep Led.nil ⟨rfl, rfl⟩)
   (by rintro h' tk v ln ⟨rfl, rfl⟩ F' N' _; exact hQ h' tk F' N')
theorem put_at (B : Below A₀ base outer h₀) (F : Fr h₀ L s.heap m) (X : (hd.heap_1 w.params).In h₀) (T : Top pp (looseW pp []) mean mg mb h₀) (N : News h₀ L s.heap l) (hf : env.frame = some L) (hk : env.scope.kind = .function) (hh : A₀.handled = none) (hd : A₀.depth + 1 + 3 < recursionLimit) (hu : A₀.units + 3 + 60 < cLine) (hG : GridT w (Kn h₀ l) gr rs) {x y : Int} {t0 tx ty : Tok} (hx : 0 ≤ x) (hx' : x ≤ 100) (hy : 0 ≤ y) (hy' : y ≤ 100)
    {r b : Addr} {cs ws : List Value} (hr : rs[y.toNat]? = some r) (hc : ListP (Kn h₀ l) r cs) (ow : Own l r) (hxl : x.toNat < cs.length) (hb : ListP (Kn h₀ l) b ws) (hbr : b ∉ rs) (hwl : ws.length ≤ 100)
    (hQ : ∀ h' tk a' l', Fr h₀ L h' m → News h₀ L h' l' → ListP (Kn h₀ l') r (cs.set x.toNat (.ref a')) → ListP (Kn h₀ l') a' ws → s.heap.get? a' = none → Ev l l' [r] → KeepIt l l' → (∀ x, Own l x → Own l' x) → Q .none { s with heap := h', toks := tk }) :
    wpAny (model prg w) (A₀.deeper env) (call (.ref 207) [.ref gr, .int 0 t0, .int x tx, .int y ty, .ref b]) Q E s := by
  obtain ⟨o, n, ko, oc, od, odd⟩ := hc
  have hro := ow.in_of N ko
  have rin : r ∈ rs := List.mem_of_getElem? hr
  obtain ⟨g, ok, hs, hW, hg, h0, hall, lk, k1, k2, k3⟩ := site B F X T N [(r, o)] (by intro p hp; rw [List.mem_singleton.mp hp]; exact hro) hf hk hh
  have kn : ∀ a o, a ≠ r → Kn h₀ l a o → g.get? a = some o := fun a o hn k => k.1.elim (h0 a o) fun hm => hg _ hm (by simpa using hn)
  refine wpAny_call (put_spec ok hs hd hu (hG.mono fun a o h _ k => kn a o ?_ k) hx hx' hy hy' hr hW oc od odd hxl (hb.monoA fun o _ k => kn _ _ (fun q => hbr (q ▸ rin)) k) hwl fun h' tk o' a' c' keep led oc' od' odd' hne => ?_)
  · rcases h with h | h
    · rintro rfl; exact h rin
    · exact k.ne F N ko (by rw [oc]; exact h)
  obtain ⟨F', N'⟩ := k3 h' _ keep led
  obtain ⟨n', od'⟩ := od'
  have fresh : s.heap.get? a' = none := by
    cases e : s.heap.get? a' with
    | none => rfl
    | some o =>
      have := (led (a', listOf ws.toArray c') (by simp)).2
      rw [hall _ o e (by simpa using hne.symm)] at this
      cases this
  refine hQ h' tk a' _ F' N' ⟨o', n', .in (by simp) (ListP.it oc'), oc', od', odd'⟩ ⟨listOf ws.toArray c', c', .in (by simp) rfl, rfl, rfl, rfl⟩ fresh (fun p hp hn i => List.mem_append_right _ (k1 p hp (by simpa using hn))) (fun p hp i => List.mem_append_right _ (k1 p hp ?_)) (fun x k => ?_)
  · intro hm
    have e : p.1 = r := by simpa using hm
    have : p.2 = o := news_same N hp hro e
    rw [this, ListP.it oc] at i; cases i
  · obtain ⟨ox, hm, i⟩ := k
    by_cases e : x = r
    · exact ⟨o', by simp [e], ListP.it oc'⟩
    · exact ⟨ox, List.mem_append_right _ (k1 _ hm (by simpa using e)), i⟩
end
end
theorem calm9 : True := by (w_top off); first | walk1 | trivial
section
section
variable {w : World} {A : Around} {s : Shared} {g : Heap} {R : Result → Shared → Prop} {name qual : Str} {params : Arguments} {body : List Stmt} {scope : Scope} {dV kV doc pm cdv ct oc : Value} {an od : Option Addr} {osl : Array (Option Value)} {f : Addr} {args : Args} {binds : List (Str × Value)} {news : List (Addr × Obj)}
theorem enterC (ok : Ok w A g) (hs : Sub g s.heap) (hl : Led g s.heap news)
    (ho : (hd.heap_1 w.params).lookup f = some ⟨oc, od, .func (fnOf name qual params body scope dV kV doc pm an cdv ct), osl⟩)
    (hcd : codeIn (hd.heap_1 w.params) cdv qual = true) (hroom : A.depth < recursionLimit)
    (hbind : BindsTo s (fnOf name qual params body scope dV kV doc pm an cdv ct) args binds) (hkind : (binds.all fun y => scope.names.lookup y.1 == some .local || scope.names.lookup y.1 == some .cell) = true)
    (hnd : ((cellsFrom 0 scope.names []).map (·.1)).Nodup)
    (h : ∀ base outer mean mg mb L h₁ tk cells, Below A base outer g → (hd.heap_1 w.params).In g → Top pp (looseW pp []) mean mg mb g → Fr g L h₁ (bindL (envOfC qual scope L f cdv).kindOf binds fun _ => none) → News g L h₁ (cells ++ news) →
      CellsAre (bindC (envOfC qual scope L f cdv).kindOf binds fun _ => none) (cellsFrom (L + 1) scope.names []) cells → (∀ p ∈ news, p.1 < L) →
      wpAny (model prg w) (A.deeper (envOfC qual scope L f cdv)) (execs body (envOfC qual scope L f cdv))
        (fun fl s' => R (.ok (.ret (match fl with | .ret v => v | _ => .none))) s') (fun _ _ => False) { s with heap := h₁, toks := tk })
    (hco : scope.isCoroutine = false) (hgen : scope.isGenerator = false) (hk : scope.kind = .function) :
    codeAny (model prg w) A (.call (.ref f) args) R s := by
  obtain ⟨base, outer, B⟩ := ok.B
  obtain ⟨mean, mg, mb, T⟩ := ok.T
  refine codeAny_call_function hroom (hs.1 _ _ (ok.X _ _ ho)) rfl hco hgen rfl (codeRec_of (ok.X.keeps hs.1) hcd) (hbind _ _ _ _ ?_)
  refine wpAny_newFunctionEnv_cells hk (kindsX hkind _) fun env' he s' x => ?_
  subst he
  refine ⟨(T.nolimit.keeps hs.1).keeps x.toInCall.keep, codeAny_func ?_⟩
  obtain ⟨h₁, tk, rfl, _⟩ := x.done
  have hk₁ := x.toInCall.keep
  obtain ⟨cells, NC, Y⟩ := Cl.news (h₀ := s.heap) (Nat.le_refl _) fun n c hm => ⟨x.cell n c (lookup_of_mem_nodup (cellsFrom_names scope.names 0 (s.heap.objs.size + 1) [] [] rfl ▸ hnd) hm), x.above n c hm⟩
  refine wpAny_mono (h base outer mean mg mb s.heap.objs.size h₁ tk cells B ok.X T ⟨x.toInCall.ns, fun b o e => hk₁ b o (hs.1 b o e), hs.2⟩ (fun p hp => ?_) Y (fun p hp => Heap.lt_size (hl p hp).1)) (fun _ _ x => x) (fun _ _ x => x.elim)
  rcases List.mem_append.mp hp with hp | hp
  · refine ⟨(NC p hp).1, (NC p hp).2.1, ?_⟩
    cases q : g.get? p.1 with
    | none => rfl
    | some o => have := hs.1 _ _ q; rw [(NC p hp).2.2] at this; cases this
  · exact ⟨hk₁ _ _ (hl p hp).1, Nat.ne_of_lt (Heap.lt_size (hl p hp).1), (hl p hp).2⟩
end
end
section
/-- behind a loop within a generator -/
noncomputable def ownK (env : Env) (K : Flow → Sem Fin) (H : Value → Sem Fin) (gd : Bool → Bool) (lv : List Value → List Value) : Result → Sem Fin := fun r => ((match r with | .ok f => (.pure f : Sem Flow) | .error e => .raise e).onRaise fun (x : Value) => do
        if (← field x 1) == Value.none then unsupported "frame.own-activation:exception-without-traceback"
        setFlight x env.frame).wrap K H gd lv
theorem ownK_ok {env : Env} {K : Flow → Sem Fin} {H : Value → Sem Fin} {gd : Bool → Bool} {lv : List Value → List Value} {f : Flow} : ownK env K H gd lv (.ok f) = K f := rfl
/-- behind a turn -/
noncomputable def turnK (target : PySem.Expr) (it : Value) (body : List Stmt) (env : Env) : Flow → Sem Fin := fun f => match f with
  | .next | .cont => .pure (.again (.forLoop target it body [] env))
  | .brk => .pure (.done .next)
  | .ret v => .pure (.done (.ret v))
noncomputable def turnH (env : Env) : Value → Sem Fin := fun e => (do noteFrame e env; theTreesLotGoes e : Sem Unit).wrap (fun _ => .raise e) .raise id id

theorem over_func {A : Around} {body : List Stmt} {env : Env} : A.over (.func body env) [] = A.deeper env := by
  obtain ⟨a, b, c, d, e⟩ := A
  cases d <;> rfl
theorem over_for {A : Around} {t : PySem.Expr} {it : Value} {b o : List Stmt} {env : Env} {k : Result → Sem Fin} {g : Bool} {l : List Value} {c : Code} {p : Pos} {fs : List Frame} :
    A.over (.forLoop t it b o env) (.ret k none g l c p [] :: fs) = A.over c fs := by
  have w0 : (Code.forLoop t it b o env).weight = 0 := rfl
  have g0 : (Code.forLoop t it b o env).guards = [] := rfl
  have e0 : (Code.forLoop t it b o env).envs = [] := rfl
  have u0 : (Code.forLoop t it b o env).cUnits = 0 := rfl
  unfold Around.over
  rw [w0, g0, e0, u0]
  simp only [List.map_cons, Frame.where_, frameCount_cons, envsOf_cons, guardsOf_cons, unitsOf_cons, pushEnvs_eq, pushGuards_eq]
  congr 1
  · omega
  · cases A.frames <;> simp [List.append_assoc]
  · cases A.guards <;> simp [List.append_assoc]
  · omega

section
variable {M : Model} {A : Around} {R : GenEnd} {Y : Protocol} {n : Nat} {s₀ : Shared} {c : Code} {fs : List Frame} {s : Shared} {env : Env}
  {K : Flow → Sem Fin} {H : Value → Sem Fin} {gd : Bool → Bool} {lv : List Value → List Value}
theorem seg_For {target iter : PySem.Expr} {body orelse : List Stmt} {pos : Pos}
    (h : wpAny M (A.over c fs) (eval iter env) (fun x s₁ => wpAny M (A.over c fs) (pyIter x) (fun it s₂ => ∀ p, Seg M A R Y n s₀ (.forLoop target it body orelse env) (M.den (.forLoop target it body orelse env))
      (.ret (ownK env K H gd lv) none (gd false) (lv []) c p [] :: fs) s₂) (fun x s' => Seg M A R Y n s₀ c (H x) fs s') s₁) (fun x s' => Seg M A R Y n s₀ c (H x) fs s') s)
    (hs : ∀ x, foldedSetIterable iter env x = pure x := by intro _; rfl) :
    Seg M A R Y n s₀ c ((exec (.For target iter body orelse pos) env).wrap K H gd lv) fs s := by
  rw [exec_For]
  refine seg_bind_wrap (wpAny_standAt ?_)
  refine seg_bind_wrap (wpAny_mono h (fun x s₁ h₁ => ?_) fun _ _ e => e)
  refine seg_bind_wrap (wpAny_of_eq (hs x) ?_)
  refine seg_bind_wrap (wpAny_standAt ?_)
  refine seg_bind_wrap (wpAny_holding (wpAny_mono h₁ (fun it s₂ h₂ => ?_) fun _ _ e => e))
  exact seg_call h₂
end
section
variable {prog : Program} {w : World} {A : Around} {R : GenEnd} {Y : Protocol} {n : Nat} {s₀ : Shared} {fs : List Frame} {s : Shared} {env : Env}
theorem seg_forLoop {target : PySem.Expr} {it : Value} {body : List Stmt}
    (h : ∀ E : Value → Shared → Prop, wpAny (model prog w) (A.over (.forLoop target it body [] env) fs) (pyNext it) (fun r s₁ => match r with
      | none => Seg (model prog w) A R Y n s₀ (.block [] env) (leafOf (.ok .next)) fs s₁
      | some v => ∀ E : Value → Shared → Prop, wpAny (model prog w) (A.over (.forLoop target it body [] env) fs) (letOwnedTupleGo target it v) (fun _ s₂ => ∀ E : Value → Shared → Prop, wpAny (model prog w) (A.over (.forLoop target it body [] env) fs) (assign target env v) (fun _ s₃ =>
           Seg (model prog w) A R Y n s₀ (.forLoop target it body [] env) ((execs body env).wrap (turnK target it body env) (turnH env) id id) fs s₃) E s₂) E s₁) E s) :
    Seg (model prog w) A R Y n s₀ (.forLoop target it body [] env) ((model prog w).den (.forLoop target it body [] env)) fs s := by
  show Seg _ A R Y n s₀ _ ((forTurn target it body [] env).onRaise (fun x => do noteFrame x env; theTreesLotGoes x)) fs s
  unfold forTurn
  rw [Sem.onRaise_eq_wrap]
  refine seg_bind_wrap (wpAny_standAt ?_)
  refine seg_bind_wrap (wpAny_onRaise (wpAny_mono (h _) (fun r s₁ h₁ => ?_) fun _ _ e => wpAny_standAt e))
  cases r with
  | none =>
    refine seg_again rfl ?_
    exact h₁
  | some v =>
    refine seg_bind_wrap (wpAny_mono (h₁ _) (fun _ s₂ h₂ => ?_) fun _ _ e => e)
    refine seg_bind_wrap (wpAny_mono (h₂ _) (fun _ s₃ h₃ => ?_) fun _ _ e => e)
    rw [Sem.bind_eq_wrap', Sem.wrap_wrap]
    rw [Sem.wrap_congr (execs body env) _ _ (K' := turnK target it body env) (H' := turnH env) (fun f => by cases f <;> rfl) (fun e => by first | rfl | exact Sem.bind_eq_wrap _ _ | (show (do noteFrame e env; theTreesLotGoes e : Sem Unit).bind (fun _ => .raise e) = _; rw [Sem.bind_eq_wrap]; rfl))]
    exact h₃
end
end
section
theorem word41 : True := by
  k_with_none
  trivial
theorem word42 : True := by
  k_with "m.enter" => ((rename Around => A9); cases A9; (have hh9 := Ok.hh (by assumption)); (dsimp only at hh9); subst hh9; (rename _ + _ < recursionLimit => hd9); (dsimp only at hd9); (try ((rename _ + _ < cLine => hu9); (dsimp only at hu9))); refine' enter (by assumption) (by assumption) ?k3 ?k6 ?k7 ?k8 ?k9 ?kB ?_ ?c5 ?c2 ?c3 ?c4; (case k3 => first | assumption | exact Led.nil); (case k6 => k_dflt k_is); (case k7 => k_dflt k_is); (case k8 => dsimp only; omega); (case k9 => exact BindsTo.of_eq rfl); (case c5 => decide); (case kB => exact locs rfl); (case c2 => exact rfl); (case c3 => exact rfl); (case c4 => exact rfl); k_whole; intro _ _ _ _ _ _ _ _ _ _ _ _ _; (have hst9 := Below.stack (by assumption)); (dsimp only at hst9); subst hst9; (try dsimp only); (try k_fold))
  trivial
theorem word43 : True := by
  k_with "m.look" => first | assumption | exact if_pos rfl | (refine Eq.trans (if_neg (by decide)) ?_; walk_at "m.look")
  trivial
theorem word44 : True := by
  k_with "eval Name" => (k_dflt (refine' nameX_L ?xF ?xv ?_ ?xa ?xb; (case xF => k_asm); (case xa => rfl); (case xb => rfl); (case xv => walk_at "m.look"); k_whole))
  trivial
theorem word45 : True := by
  k_with "call ref" => ((with_reducible show wpAny _ _ (call (Value.ref 42) _) _ _ _); k_dflt (refine' unit_numbered_at ?k1 ?k2 ?k3 ?k4 ?k5 rfl rfl rfl ?kd ?ku ?kf ?kg ?b1 ?b2 ?b3 ?b4 ?_; (case k1 => k_asm); (case k2 => k_asm); (case k3 => k_asm); (case k4 => k_asm); (case k5 => k_asm); (case kd => dsimp only; omega); (case ku => dsimp only; omega); (case kf => k_asm); (case kg => k_asm); (case b1 => k_asm); (case b2 => k_asm); (case b3 => k_asm); (case b4 => k_asm); k_whole; intro _ _ _ _ _ _ _ _ _ _ _))
  trivial
abbrev spanScope : Scope := { kind := .function, names := [(Str.ofString "frame", .local), (Str.ofString "scan", .local), (Str.ofString "first", .local), (Str.ofString "many", .local), (Str.ofString "index", .local), (Str.ofString "block", .local), (Str.ofString "range", .globalImplicit), (Str.ofString "unit_numbered", .globalImplicit)], isGenerator := true, isCoroutine := false, more := [] }
section
variable {w : World} {A : Around} {s : Shared} {base h₀ : Heap} {outer : List Env} {L : Addr} {m mg mb : Str → Option Value} {mean : ExcName → Option Value} {nm : Str} {f : Addr} {cd : Value} {l : List (Addr × Obj)} {Q E : Value → Shared → Prop} {fr sc : Addr} {ac dn : Int} {p1 p2 p3 p4 p5 p6 : Pos}
theorem span_range (hh : A.handled = none) (B : Below A base outer h₀) (F : Fr h₀ L s.heap m) (X : (hd.heap_1 w.params).In h₀) (T : Top pp (looseW pp []) mean mg mb h₀) {a b : Int} {ta tb : Tok} (ha : m (Str.ofString "first") = some (.int a ta)) (hb : m (Str.ofString "many") = some (.int b tb)) (a0 : 0 ≤ a) (a1 : a ≤ 100) (b0 : 0 ≤ b) (b1 : b ≤ 100)
    (hQ : ∀ h' tk r t u v, s.heap.get? r = none → IsRange h' r a (a + b) 1 t u v → Fr h₀ L h' m → (∀ b o, s.heap.get? b = some o → h'.get? b = some o) → Q (.ref r) { s with heap := h', toks := tk }) :
    wpAny (model prg w) (A.deeper (envOf nm spanScope L f cd)) (eval (.Call (.Name (Str.ofString "range") p1) [.Name (Str.ofString "first") p2, .BinOp (.Name (Str.ofString "first") p3) .Add (.Name (Str.ofString "many") p4) p5] [] p6) (envOf nm spanScope L f cd)) Q E s := by
  have N : News h₀ L s.heap [] := fun _ h => nomatch h
  obtain ⟨hd0, d0, f0, g0, u0⟩ := A
  dsimp only at hh
  subst hh
  have hst9 := Below.stack B
  dsimp only at hst9
  subst hst9
  repeat' walk1
  exact hQ _ _ _ _ _ _ size_none (by assumption) (by assumption) (by assumption)
theorem span_unit (hh : A.handled = none) (B : Below A base outer h₀) (F : Fr h₀ L s.heap m) (X : (hd.heap_1 w.params).In h₀) (T : Top pp (looseW pp []) mean mg mb h₀) (N : News h₀ L s.heap l) {i : Int} {ti : Tok} (hi : m (Str.ofString "index") = some (.int i ti)) (hf : m (Str.ofString "frame") = some (.ref fr)) (hs : m (Str.ofString "scan") = some (.ref sc))
    (hfr : FrmP w (fun a o => h₀.get? a = some o) fr ac dn) (hsc : ScanP w (fun a o => h₀.get? a = some o) sc) (h1 : 1 ≤ ac) (h2 : ac ≤ 5) (h3 : 1 ≤ dn) (h4 : dn ≤ 4) (hd : A.depth + 15 < recursionLimit) (hu : A.units + 300 < cLine)
    (hQ : ∀ h' tk D T t1 t2 t3 t4, Fr h₀ L h' m → News h₀ L h' (Blk D T (i.fmod ac) (i.fdiv ac) t1 t2 t3 t4 ++ l) → (∀ p ∈ Blk D T (i.fmod ac) (i.fdiv ac) t1 t2 t3 t4, s.heap.get? p.1 = none) → Q (.ref D) { s with heap := h', toks := tk }) :
    wpAny (model prg w) (A.deeper (envOf nm spanScope L f cd)) (eval (.Call (.Name (Str.ofString "unit_numbered") p1) [.Name (Str.ofString "frame") p2, .Name (Str.ofString "scan") p3, .Name (Str.ofString "index") p4] [] p5) (envOf nm spanScope L f cd)) Q E s := by
  obtain ⟨hd0, d0, f0, g0, u0⟩ := A
  dsimp only at hh hd hu
  subst hh
  have hst9 := Below.stack B
  dsimp only at hst9
  subst hst9
  repeat' walk1
  exact hQ _ _ _ _ _ _ _ _ (by assumption) (by assumption) (by assumption)
end
/-- all stands but the generator's own -/
noncomputable def Keep (Hd : Addr → Prop) (C : Addr) (h h' : Heap) : Prop := ∀ b o, h.get? b = some o → (Hd b ∨ It o = false) → b ≠ C → h'.get? b = some o
noncomputable def Since (Hd : Addr → Prop) (C : Addr) (s₀ s : Shared) : Prop := ∃ h tk, s = { s₀ with heap := h, toks := tk } ∧ Keep Hd C s₀.heap h
theorem Keep.refl {Hd : Addr → Prop} {C : Addr} {h : Heap} : Keep Hd C h h := fun _ _ e _ _ => e
theorem Keep.trans {Hd : Addr → Prop} {C : Addr} {h h' h₂ : Heap} (x : Keep Hd C h h') (y : Keep Hd C h' h₂) : Keep Hd C h h₂ := fun b o e q n => y b o (x b o e q n) q n
theorem Since.refl {Hd : Addr → Prop} {C : Addr} {s : Shared} : Since Hd C s s := ⟨s.heap, s.toks, rfl, Keep.refl⟩
theorem Since.step {Hd : Addr → Prop} {C : Addr} {s₀ s : Shared} {h : Heap} {tk : Nat} (x : Since Hd C s₀ s) (k : Keep Hd C s.heap h) : Since Hd C s₀ { s with heap := h, toks := tk } := by
  obtain ⟨h₁, tk₁, rfl, k₁⟩ := x
  exact ⟨h, tk, rfl, k₁.trans k⟩
structure GB (w : World) (A : Around) (g : Heap) (fr sc : Addr) (ac dn : Int) (Hd : Addr → Prop) (C : Addr) : Prop where
  ok : Ok w A g
  sz : g.objs.size ≤ C
  fr : FrmP w (fun a o => g.get? a = some o) fr ac dn
  sc : ScanP w (fun a o => g.get? a = some o) sc
  dom : ∀ b o, g.get? b = some o → Hd b
noncomputable def blkT (x y : Int) (t1 t2 t3 t4 : Tok) : Obj := { cls := .type "tuple", data := .seq #[.int 0 t1, .int 0 t2, .int x t3, .int y t4] }
noncomputable def spanY (w : World) (A : Around) (fr sc : Addr) (ac dn : Int) (Hd : Addr → Prop) (C : Addr) (first : Int) (n : Nat) : Protocol := fun m s₀ v s kap =>
  (∃ T t1 t2 t3 t4, v = .ref T ∧ Since Hd C s₀ s ∧ ¬ Hd T ∧ s.heap.get? T = some (blkT ((first + (n - 1 - m : Nat)).fmod ac) ((first + (n - 1 - m : Nat)).fdiv ac) t1 t2 t3 t4)) ∧
  (∃ mC, s.heap.Ns C mC) ∧ ∃ fp : List Addr, (∀ b ∈ fp, ¬ Hd b) ∧ ∀ s'' : Shared, (∀ b ∈ fp, ∀ o, s.heap.get? b = some o → s''.heap.get? b = some o) → (∃ g, GB w A g fr sc ac dn Hd C ∧ Sub g s''.heap) → (∀ b, Hd b → ∃ o, s''.heap.get? b = some o) → kap (.send .none) s''
noncomputable def spanR (Hd : Addr → Prop) (C : Addr) : GenEnd := fun n s₀ r s₁ => r = .ok (.ret .none) ∧ (n = 0 ∧ Since Hd C s₀ s₁)
section
variable {w : World} {A : Around} {Hd : Addr → Prop} {C I f : Addr} {nm : Str} {cd : Value} {fr sc : Addr} {ac dn first : Int} {n : Nat} {q1 q2 q3 q4 q5 q6 q7 q8 q9 q10 q11 : Pos}
theorem Keep.iter {h h' : Heap} {J : Addr} (hJ : ¬ Hd J) (x : ∃ o, h.get? J = some o ∧ It o = true) (hk : ∀ b o, b ∉ [J] → h.get? b = some o → h'.get? b = some o) : Keep Hd C h h' := by
  obtain ⟨oJ, eJ, iJ⟩ := x
  intro b o e q hb
  refine hk b o (fun hm => ?_) e
  obtain rfl := List.mem_singleton.mp hm
  rw [eJ] at e
  obtain rfl := Option.some.inj e
  rcases q with q | q
  · exact hJ q
  · rw [iJ] at q; cases q
theorem Keep.name {h h' : Heap} (hs : Heap.SameBut C h h') : Keep Hd C h h' := fun b o e _ hb => hs.extBut b o hb e
theorem Keep.all {h h' : Heap} (hs : ∀ b o, b ≠ C → h.get? b = some o → h'.get? b = some o) : Keep Hd C h h' := fun b o e _ hb => hs b o hb e
theorem Keep.sub {g h h' : Heap} {m : Str → Option Value} (hC : ¬ Hd C) (G : GB w A g fr sc ac dn Hd C) (hs : Sub g h) (hk : Keep Hd C h h') (hn : h'.Ns C m) : Sub g h' :=
  ⟨fun b o e => hk b o (hs.1 b o e) (.inl (G.dom b o e)) (fun q => hC (q ▸ G.dom b o e)), Nat.le_trans G.sz (Nat.le_of_lt hn.lt)⟩
theorem Keep.old {h h' : Heap} (hC : ¬ Hd C) (hk : Keep Hd C h h') (x : ∀ b, Hd b → ∃ o, h.get? b = some o) : ∀ b, Hd b → ∃ o, h'.get? b = some o := fun b hb =>
  let ⟨o, e⟩ := x b hb; ⟨o, hk b o e (.inl hb) fun q => hC (q ▸ hb)⟩
theorem nin_all {g h h' : Heap} {l : List (Addr × Obj)} {m m' : Str → Option Value} (F : Fr g C h m) (F' : Fr g C h' m') (N : News g C h' (l ++ PyProof.Rows.ownOf g ((List.range h.objs.size).filter (· ≠ C)) h)) : ∀ b o, b ≠ C → h.get? b = some o → h'.get? b = some o := fun b o hb e => by
  cases q : g.get? b with
  | some o' =>
    have := F.keep b o' q
    rw [e] at this
    rw [Option.some.inj this]
    exact F'.keep b o' q
  | none => exact (N _ (List.mem_append_right _ (mem_ownOf (List.mem_filter.mpr ⟨List.mem_range.mpr (Heap.lt_size e), by simpa using hb⟩) q e))).1
theorem news_allOf {g h : Heap} : News g C h (PyProof.Rows.ownOf g ((List.range h.objs.size).filter (· ≠ C)) h) := news_ownOf fun hm => by simpa using (List.mem_filter.mp hm).2
theorem span_loop (hh : A.handled = none) (h1 : 1 ≤ ac) (h2 : ac ≤ 5) (h3 : 1 ≤ dn) (h4 : dn ≤ 4) (hd : A.depth + 15 < recursionLimit) (hu : A.units + 300 < cLine) (hC : ¬ Hd C)
    (c : Code) (hc : A.over c [] = A.deeper (envOf nm spanScope C f cd)) (kk : Result → Sem PySem.Fin) (p : Pos)
    (hend : ∀ s₀ s₁, Since Hd C s₀ s₁ → Seg (model prg w) A (spanR Hd C) (spanY w A fr sc ac dn Hd C first n) 0 s₀ c (kk (.ok .next)) [] s₁)
    {fpI : List Addr} {P Md : Nat → Value → Heap → Prop} {St : Nat → Heap → Prop} (W : KTurns prg w (A.deeper (envOf nm spanScope C f cd)) (.Name (Str.ofString "index") q1) I fpI [I] n P Md St)
    (hfp : ∀ b ∈ fpI, b = I) (itr : ∀ i h, St i h → ∃ o, h.get? I = some o ∧ It o = true) (hP : ∀ i v h, P i v h → ∃ t, v = .int (first + i) t) (hI : ¬ Hd I) (hCI : C ≠ I) :
    ∀ k i s₀ s g m, i + k = n → GB w A g fr sc ac dn Hd C → Sub g s.heap → (∀ b, Hd b → ∃ o, s.heap.get? b = some o) → s.heap.Ns C m → m (Str.ofString "frame") = some (.ref fr) → m (Str.ofString "scan") = some (.ref sc) → St i s.heap → Since Hd C s₀ s →
      Seg (model prg w) A (spanR Hd C) (spanY w A fr sc ac dn Hd C first n) k s₀
        (.forLoop (.Name (Str.ofString "index") q1) (.ref I) [.For (.Name (Str.ofString "block") q2) (.Call (.Name (Str.ofString "unit_numbered") q3) [.Name (Str.ofString "frame") q4, .Name (Str.ofString "scan") q5, .Name (Str.ofString "index") q6] [] q7) [.Expr (.Yield (some (.Name (Str.ofString "block") q8)) q9) q10] [] q11] [] (envOf nm spanScope C f cd))
        ((model prg w).den (.forLoop (.Name (Str.ofString "index") q1) (.ref I) [.For (.Name (Str.ofString "block") q2) (.Call (.Name (Str.ofString "unit_numbered") q3) [.Name (Str.ofString "frame") q4, .Name (Str.ofString "scan") q5, .Name (Str.ofString "index") q6] [] q7) [.Expr (.Yield (some (.Name (Str.ofString "block") q8)) q9) q10] [] q11] [] (envOf nm spanScope C f cd)))
        [.ret kk none false [] c p []] s := by
  have hCI' : C ∉ [I] := fun hm => hCI (List.mem_singleton.mp hm)
  have hfI : ∀ b ∈ fpI, b ≠ C := fun b hb q => hCI (q.symm.trans (hfp b hb))
  intro k
  induction k with
  | zero =>
    intro i s₀ s g m hi G hs old hn mf ms st si
    obtain rfl : i = n := by omega
    refine seg_forLoop fun E => ?_
    rw [over_for, hc]
    refine W.done _ _ _ st fun h' tk hk => ?_
    exact seg_leaf (.ok .next) (hend _ _ (si.step (Keep.iter hI (itr _ _ st) hk)))
  | succ k ih =>
    intro i s₀ s g m hi G hs old hn mf ms st si
    refine seg_forLoop fun E => ?_
    rw [over_for, hc]
    obtain ⟨base, outer, B⟩ := G.ok.B
    obtain ⟨mean, mg, mb, T⟩ := G.ok.T
    have X := G.ok.X
    have eS := itr _ _ st
    refine W.item i _ _ _ (by omega) st fun v h₁ tk₁ md k₁ => ?_
    intro E
    refine W.go i v _ _ _ md fun h₂ hPv st₂ k₂ => ?_
    intro E
    have k₁₂ : ∀ b o, b ∉ [I] → s.heap.get? b = some o → h₂.get? b = some o := fun b o hb e => k₂ b o hb (k₁ b o hb e)
    have K₂ : Keep Hd C s.heap h₂ := Keep.iter hI eS k₁₂
    obtain ⟨t, rfl⟩ := hP _ _ _ hPv
    refine wpAny_assign_Name (wpAny_storeName_local rfl (hn.at' fun o e => k₁₂ _ o hCI' e) (fun h₃ hn₃ hs₃ => ?_) rfl)
    dsimp only at hs₃ ⊢
    have K₃ : Keep Hd C s.heap h₃ := K₂.trans (Keep.name hs₃)
    have S₃ := Keep.sub hC G hs K₃ hn₃
    have F₃ : Fr g C h₃ _ := ⟨hn₃, S₃.1, G.sz⟩
    have st₃ : St (i + 1) h₃ := W.frame _ _ _ st₂ fun b hb o e => hs₃.extBut b o (hfI b hb) e
    refine seg_execs_cons (seg_For ?_)
    rw [over_for, hc]
    refine span_unit hh B F₃ X T news_allOf (i := first + i) (ti := t) (if_pos rfl) ((if_neg (by decide)).trans mf) ((if_neg (by decide)).trans ms) G.fr G.sc h1 h2 h3 h4 hd hu fun h₄ tk₄ D TT t1 t2 t3 t4 F₄ N₄ hn₄ => ?_
    have k₄ := nin_all F₃ F₄ N₄
    have eD : h₄.get? D = some (listOf #[.ref TT] 0) := (N₄ _ (List.mem_cons_self)).1
    have eT : h₄.get? TT = some (blkT ((first + i).fmod ac) ((first + i).fdiv ac) t1 t2 t3 t4) := (N₄ _ (List.mem_cons_of_mem _ (List.mem_cons_self))).1
    have old₃ := Keep.old hC K₃ old
    have nD : ¬ Hd D := fun q => by obtain ⟨o, e⟩ := old₃ D q; rw [hn₄ _ List.mem_cons_self] at e; cases e
    have nT : ¬ Hd TT := fun q => by obtain ⟨o, e⟩ := old₃ TT q; rw [hn₄ _ (List.mem_cons_of_mem _ List.mem_cons_self)] at e; cases e
    have neC : ∀ {a : Addr}, h₃.get? a = none → a ≠ C := fun {a} q e => by obtain ⟨o, _, _, eo, _⟩ := hn₃; have eo : h₃.get? C = some o := eo; rw [e, eo] at q; cases q
    have DC : D ≠ C := neC (hn₄ _ List.mem_cons_self)
    have TC : TT ≠ C := neC (hn₄ _ (List.mem_cons_of_mem _ List.mem_cons_self))
    have K₄ : Keep Hd C s.heap h₄ := K₃.trans (Keep.all k₄)
    have st₄ : St (i + 1) h₄ := W.frame _ _ _ st₃ fun b hb o e => k₄ b o (hfI b hb) e
    refine Sr.list (target := .Name (Str.ofString "block") q2) (o := listOf #[.ref TT] 0) (items := #[.ref TT]) (n := 0) (A := A.deeper (envOf nm spanScope C f cd)) (a := D) (s := { s with heap := h₄, toks := tk₄ }) hh eD rfl rfl _ _ fun I2 h₅ fp2 Md2 St2 hI2 up5 W2 hfp2 itr2 st5 self2 => ?_
    intro p2
    have K₅ : Keep Hd C s.heap h₅ := K₄.trans (Keep.all fun b o _ e => up5 b o e)
    have nI2 : ¬ Hd I2 := fun q => by obtain ⟨o, e⟩ := Keep.old hC K₄ old I2 q; dsimp only at hI2; rw [hI2] at e; cases e
    have CI2 : C ≠ I2 := fun e => by obtain ⟨o, _, _, eo, _⟩ := F₄.ns; have eo : h₄.get? C = some o := eo; dsimp only at hI2; rw [e, hI2] at eo; cases eo
    have CI2' : C ∉ [I2] := fun hm => CI2 (List.mem_singleton.mp hm)
    have hf2 : ∀ b ∈ fp2, b ≠ C := fun b hb q => by
      rcases hfp2 b hb with e | e
      · exact CI2 (q.symm.trans e)
      · exact DC ((List.mem_singleton.mp e).symm.trans q)
    have nII2 : I ≠ I2 := fun e => by obtain ⟨o, eo, _⟩ := itr _ _ st₄; dsimp only at hI2; rw [e, hI2] at eo; cases eo
    have nTI2 : TT ≠ I2 := fun e => by dsimp only at hI2; rw [e, hI2] at eT; cases eT
    refine seg_forLoop fun E => ?_
    rw [over_for, over_for, hc]
    refine W2.item 0 _ _ _ Nat.zero_lt_one st5 fun v2 h₆ tk₆ md2 k₆ => ?_
    intro E
    refine W2.go 0 v2 _ _ _ md2 fun h₇ hP2 st₇ k₇ => ?_
    intro E
    obtain rfl : v2 = .ref TT := (Option.some.inj hP2).symm
    have k₆₇ : ∀ b o, b ∉ [I2] → h₅.get? b = some o → h₇.get? b = some o := fun b o hb e => k₇ b o hb (k₆ b o hb e)
    have K₇ : Keep Hd C s.heap h₇ := K₅.trans (Keep.iter nI2 (itr2 _ _ st5) k₆₇)
    have ns₅ : h₅.Ns C _ := F₄.ns.at' fun o e => up5 _ o e
    refine wpAny_assign_Name (wpAny_storeName_local rfl (ns₅.at' fun o e => k₆₇ _ o CI2' e) (fun h₈ hn₈ hs₈ => ?_) rfl)
    dsimp only at hs₈
    have K₈ : Keep Hd C s.heap h₈ := K₇.trans (Keep.name hs₈)
    have S₈ := Keep.sub hC G hs K₈ hn₈
    have F₈ : Fr g C h₈ _ := ⟨hn₈, S₈.1, G.sz⟩
    have st₈ : St2 1 h₈ := W2.frame _ _ _ st₇ fun b hb o e => hs₈.extBut b o (hf2 b hb) e
    have up₈ : ∀ b o, b ≠ C → b ≠ I2 → h₄.get? b = some o → h₈.get? b = some o := fun b o hb hb2 e => hs₈.extBut b o hb (k₆₇ b o (fun hm => hb2 (List.mem_singleton.mp hm)) (up5 b o e))
    have sI₈ : St (i + 1) h₈ := W.frame _ _ _ st₄ fun b hb o e => up₈ b o (hfI b hb) (fun q => nII2 ((hfp b hb).symm.trans q)) e
    refine seg_execs_cons (seg_Expr_Yield rfl rfl rfl ?_)
    rw [over_for, over_for, hc]
    refine nameX_L F₈ (if_pos rfl) ?_ rfl rfl
    intro kap hkap
    have eidx : n - 1 - k = i := by omega
    refine ⟨⟨TT, t1, t2, t3, t4, rfl, si.step K₈, nT, by rw [eidx]; exact up₈ _ _ TC nTI2 eT⟩, ⟨_, hn₈⟩, C :: (fpI ++ fp2), ?_, fun s'' own ⟨g', G', S'⟩ old' => hkap .none s'' ?_⟩
    · intro b hb
      rcases List.mem_cons.mp hb with rfl | hb
      · exact hC
      rcases List.mem_append.mp hb with hb | hb
      · rw [hfp b hb]; exact hI
      · rcases hfp2 b hb with e | e
        · rw [e]; exact nI2
        · rw [List.mem_singleton.mp e]; exact nD
    · have st'' : St2 1 s''.heap := W2.frame _ _ _ st₈ fun b hb o e => own b (List.mem_cons_of_mem _ (List.mem_append_right _ hb)) o e
      have sI'' : St (i + 1) s''.heap := W.frame _ _ _ sI₈ fun b hb o e => own b (List.mem_cons_of_mem _ (List.mem_append_left _ hb)) o e
      have hn'' : s''.heap.Ns C _ := hn₈.at' fun o e => own C List.mem_cons_self o e
      show Seg _ A _ _ k s'' _ (.pure (.again (.forLoop _ _ _ _ _))) _ s''
      refine seg_again rfl (seg_forLoop fun E => ?_)
      rw [over_for, over_for, hc]
      have eI2 := itr2 _ _ st''
      refine W2.done _ _ _ st'' fun h₉ tk₉ k₉ => ?_
      refine seg_leaf (.ok .next) ?_
      show Seg _ A _ _ k s'' _ (.pure (.again (.forLoop _ _ _ _ _))) _ _
      have K₉ : Keep Hd C s''.heap h₉ := Keep.iter nI2 eI2 k₉
      refine seg_again rfl (ih (i + 1) s'' _ g' _ (by omega) G' (Keep.sub hC G' S' K₉ (hn''.at' fun o e => k₉ _ o CI2' e)) (Keep.old hC K₉ old') (hn''.at' fun o e => k₉ _ o CI2' e) ?_ ?_ (W.frame _ _ _ sI'' fun b hb o e => k₉ b o (fun hm => nII2 ((hfp b hb).symm.trans (List.mem_singleton.mp hm))) e) (Since.refl.step K₉))
      · exact (if_neg (by decide)).trans ((if_neg (by decide)).trans mf)
      · exact (if_neg (by decide)).trans ((if_neg (by decide)).trans ms)
end
end
theorem calm10 : True := by (w_top off); first | walk1 | trivial
section
section
variable {w : World} {A : Around} {Hd : Addr → Prop} {C f : Addr} {nm : Str} {cd : Value} {fr sc : Addr} {ac dn first : Int} {n : Nat} {q1 q2 q3 q4 q5 q6 q7 q8 q9 q10 q11 q12 q13 q14 q15 q16 q17 q18 : Pos} {s : Shared} {g : Heap} {m : Str → Option Value}
theorem span_seg (hh : A.handled = none) (h1 : 1 ≤ ac) (h2 : ac ≤ 5) (h3 : 1 ≤ dn) (h4 : dn ≤ 4) (hd : A.depth + 15 < recursionLimit) (hu : A.units + 300 < cLine) (hC : ¬ Hd C)
    {b : Int} {ta tb : Tok} (a0 : 0 ≤ first) (a1 : first ≤ 100) (b0 : 0 ≤ b) (b1 : b ≤ 100) (hn : n = b.toNat) (G : GB w A g fr sc ac dn Hd C) (hs : Sub g s.heap) (old : ∀ b, Hd b → ∃ o, s.heap.get? b = some o) (ns : s.heap.Ns C m)
    (mf : m (Str.ofString "frame") = some (.ref fr)) (ms : m (Str.ofString "scan") = some (.ref sc)) (m1 : m (Str.ofString "first") = some (.int first ta)) (m2 : m (Str.ofString "many") = some (.int b tb)) :
    Seg (model prg w) A (spanR Hd C) (spanY w A fr sc ac dn Hd C first n) n s
      (.func [.For (.Name (Str.ofString "index") q1) (.Call (.Name (Str.ofString "range") q12) [.Name (Str.ofString "first") q13, .BinOp (.Name (Str.ofString "first") q14) .Add (.Name (Str.ofString "many") q15) q16] [] q17) [.For (.Name (Str.ofString "block") q2) (.Call (.Name (Str.ofString "unit_numbered") q3) [.Name (Str.ofString "frame") q4, .Name (Str.ofString "scan") q5, .Name (Str.ofString "index") q6] [] q7) [.Expr (.Yield (some (.Name (Str.ofString "block") q8)) q9) q10] [] q11] [] q18] (envOf nm spanScope C f cd))
      ((model prg w).den (.func [.For (.Name (Str.ofString "index") q1) (.Call (.Name (Str.ofString "range") q12) [.Name (Str.ofString "first") q13, .BinOp (.Name (Str.ofString "first") q14) .Add (.Name (Str.ofString "many") q15) q16] [] q17) [.For (.Name (Str.ofString "block") q2) (.Call (.Name (Str.ofString "unit_numbered") q3) [.Name (Str.ofString "frame") q4, .Name (Str.ofString "scan") q5, .Name (Str.ofString "index") q6] [] q7) [.Expr (.Yield (some (.Name (Str.ofString "block") q8)) q9) q10] [] q11] [] q18] (envOf nm spanScope C f cd))) [] s := by
  refine seg_func (seg_execs_cons (seg_For ?_))
  rw [over_func]
  obtain ⟨base, outer, B⟩ := G.ok.B
  obtain ⟨mean, mg, mb, T⟩ := G.ok.T
  have F : Fr g C s.heap m := ⟨ns, hs.1, G.sz⟩
  refine span_range hh B F G.ok.X T m1 m2 a0 a1 b0 b1 fun h' tk r t u v nr hr F' up => ?_
  have hsz : Builtin.Range.rangeSize first (first + b) 1 = (n : Int) := by rw [rangeSize_one, hn]; split <;> omega
  refine Sr.range (A := A.deeper (envOf nm spanScope C f cd)) (s := { s with heap := h', toks := tk }) (target := .Name (Str.ofString "index") q1) hh hr (small_one (by omega) (by omega) (by omega) (by omega)) (n := n) hsz _ _ fun I h₂ fpI Md St hI up2 W hfp itr st self => ?_
  intro p
  have hk : ∀ b o, s.heap.get? b = some o → h₂.get? b = some o := fun b o e => up2 b o (up b o e)
  have K : Keep Hd C s.heap h₂ := Keep.all fun b o _ e => hk b o e
  have hI' : h'.get? I = none := hI
  refine span_loop (f := f) (nm := nm) (cd := cd) hh h1 h2 h3 h4 hd hu hC _ over_func _ p (fun s₀ s₁ hsi => ?_) W (fun b hb => (hfp b hb).resolve_right fun e => nomatch e) itr (fun i v h ⟨t, e⟩ => ⟨t, by rw [e, Int.mul_one]⟩) (fun q => ?_) (fun e => ?_) n 0 s _ g m (by omega) G (Keep.sub hC G hs K (F'.ns.keeps up2)) (Keep.old hC K old) (F'.ns.keeps up2) mf ms st ⟨h₂, tk, rfl, K⟩
  · exact seg_end (.ok (.ret .none)) ⟨rfl, rfl, hsi⟩
  · obtain ⟨o, e⟩ := old I q
    rw [up I o e] at hI'
    cases hI'
  · obtain ⟨o, _, _, eo, _⟩ := F'.ns
    rw [e, hI'] at eo
    cases eo
end
end
section
noncomputable def trunc (h : Heap) (C : Nat) : Heap := ⟨h.objs.extract 0 C, h.life⟩
theorem trunc_size {h : Heap} {C : Nat} : (trunc h C).objs.size ≤ C := by
  show (h.objs.extract 0 C).size ≤ C
  simp; omega
theorem trunc_lt {h : Heap} {C b : Nat} (hb : b < C) : (trunc h C).get? b = h.get? b := by
  unfold Heap.get? trunc
  have : (h.objs.extract 0 C)[b]? = h.objs[b]? := by
    rw [Array.getElem?_extract]
    split
    · simp
    · rw [Array.getElem?_eq_none]; simp at *; omega
  simp only [this]
theorem trunc_some {h : Heap} {C b : Nat} {o : Obj} (e : (trunc h C).get? b = some o) : b < C ∧ h.get? b = some o := by
  have hb : b < C := Nat.lt_of_lt_of_le (Heap.lt_size e) trunc_size
  exact ⟨hb, trunc_lt hb ▸ e⟩
/-- what a sleeping generator leans on -/
noncomputable def HdOf (h₀ : Heap) (L : Addr) (H0 : List Addr) : Addr → Prop := fun b => (∃ o, h₀.get? b = some o) ∨ b = L ∨ b ∈ H0
open Classical in
noncomputable def restr (h : Heap) (C : Nat) (Hd : Addr → Prop) : Heap := hideAll (trunc h C) ((List.range C).filter fun b => decide (¬ Hd b))
theorem restr_get {h : Heap} {C : Nat} {Hd : Addr → Prop} {b : Addr} {o : Obj} (hb : b < C) (hd : Hd b) (e : h.get? b = some o) : (restr h C Hd).get? b = some o := by
  unfold restr
  exact hideAll_get _ ((trunc_lt hb).trans e) fun hm => by simpa [hd] using (List.mem_filter.mp hm).2
theorem restr_some {h : Heap} {C : Nat} {Hd : Addr → Prop} {b : Addr} {o : Obj} (e : (restr h C Hd).get? b = some o) : h.get? b = some o ∧ Hd b := by
  unfold restr at e
  have e' := of_hideAll _ e
  obtain ⟨hb, e''⟩ := trunc_some e'
  refine ⟨e'', Classical.byContradiction fun hn => ?_⟩
  rw [hideAll_none _ (List.mem_filter.mpr ⟨List.mem_range.mpr hb, by simpa using hn⟩)] at e
  cases e
theorem restr_size {h : Heap} {C : Nat} {Hd : Addr → Prop} : (restr h C Hd).objs.size ≤ C := by
  unfold restr; rw [hideAll_size]; exact trunc_size

section
variable {w : World} {A₀ : Around} {base h₀ h : Heap} {outer : List Env} {L C : Addr} {m mg mb : Str → Option Value} {mean : ExcName → Option Value} {env : Env} {fr sc : Addr} {ac dn : Int} {H0 : List Addr}
theorem mkGB (B : Below A₀ base outer h₀) (F : Fr h₀ L h m) (X : (hd.heap_1 w.params).In h₀) (T : Top pp (looseW pp []) mean mg mb h₀) (hf : env.frame = some L) (hk : env.scope.kind = .function) (hh : A₀.handled = none)
    (hfr : FrmP w (fun a o => h₀.get? a = some o) fr ac dn) (hsc : ScanP w (fun a o => h₀.get? a = some o) sc) (hLC : L < C) :
    ∃ g, GB w (A₀.deeper env).in1 g fr sc ac dn (HdOf h₀ L H0) C ∧ (C ≤ h.objs.size → Sub g h) := by
  have st : ∀ b o, h₀.get? b = some o → (restr h C (HdOf h₀ L H0)).get? b = some o := fun b o e =>
    restr_get (Nat.lt_trans (Nat.lt_of_lt_of_le (Heap.lt_size e) F.above) hLC) (.inl ⟨o, e⟩) (F.keep b o e)
  have Fg : Fr h₀ L (restr h C (HdOf h₀ L H0)) m := ⟨F.ns.at' fun o e => restr_get hLC (.inr (.inl rfl)) e, st, F.above⟩
  have B' := pushX B Fg hf hk
  exact ⟨_, ⟨⟨⟨base, _, ⟨B'.stack, B'.stays, B'.frames⟩⟩, X.keeps st, ⟨mean, mg, mb, T.keeps st⟩, hh⟩, restr_size, hfr.mono fun a o _ e => st a o e, hsc.mono fun a o _ e => st a o e, fun b o e => (restr_some e).2⟩,
    fun hs => ⟨fun b o e => (restr_some e).1, Nat.le_trans restr_size hs⟩⟩
end

noncomputable def Asleep (w : World) (A : Around) (fr sc : Addr) (ac dn : Int) (Hd : Addr → Prop) (C : Addr) (first : Int) (n : Nat) (gs : GenState) (k : Nat) (h : Heap) : Prop :=
  ∃ fp : List Addr, (∀ b ∈ fp, ¬ Hd b) ∧ ∀ s'' : Shared, (∀ b ∈ C :: fp, ∀ o, h.get? b = some o → s''.heap.get? b = some o) → (∃ g, GB w A g fr sc ac dn Hd C ∧ Sub g s''.heap) → (∀ b, Hd b → ∃ o, s''.heap.get? b = some o) →
    gs.Goes (model prg w) A (spanR Hd C) (spanY w A fr sc ac dn Hd C first n) k (.send .none) s''

theorem allBare_fin {G0 gens : Array GenState} {x : GenState} (a : AllBare G0) (hx : GenOnly G0.size (G0.push x) gens) (s : Shared) (hs : s.gens = gens) : AllBare (s.setGen G0.size .finished).gens := by
  subst hs
  intro y hy
  obtain ⟨i, hi, rfl⟩ := Array.mem_iff_getElem.mp hy
  have h2 := GenOnly.setGen s G0.size .finished
  by_cases e : i = G0.size
  · subst e
    simp [Shared.setGen] at hi ⊢
    rfl
  · have h1 := h2.2 i e
    rw [hx.2 i e, Array.getElem?_eq_getElem hi, Array.getElem?_push] at h1
    rw [if_neg e] at h1
    obtain ⟨hi', e'⟩ := Array.getElem?_eq_some_iff.mp h1.symm
    rw [← e']
    exact a _ (Array.getElem_mem hi')
end
section
structure GAt (w : World) (A₀ : Around) (h₀ : Heap) (env : Env) (target : PySem.Expr) (body : List Stmt) (Q : Flow → Shared → Prop) (fr sc : Addr) (ac dn first : Int) (n : Nat) (fd : Addr) (m : Str → Option Value) (l : List (Addr × Obj)) (J : Nat → (Str → Option Value) → List (Addr × Obj) → Prop) (G0 : Array GenState) (gs : GenState) (C Gn : Addr) (s₁ : Shared) : Prop where
  F : Fr h₀ env.locals s₁.heap m
  N : News h₀ env.locals s₁.heap l
  lC : ∀ p ∈ l, p.1 < C
  LC : env.locals < C
  gen : s₁.heap.IsGen Gn G0.size
  gens : s₁.gens = G0.push gs
  bare : AllBare G0
  nGn : Gn ≠ C ∧ Gn ≠ env.locals
  nsC : ∃ mC, s₁.heap.Ns C mC
  sleep : Asleep w (A₀.deeper env).in1 fr sc ac dn (HdOf h₀ env.locals (Gn :: l.map (·.1))) C first n gs n s₁.heap
  own : Own l fd
  j0 : J 0 m l
  mono : ∀ j m l₁ l', (∀ p ∈ l₁, It p.2 = false → (HdOf h₀ env.locals (Gn :: l.map (·.1)) p.1 ∨ ∀ es ep, p.2.data ≠ .dict es ep) → p ∈ l') → J j m l₁ → J j m l'
  step : ∀ j T t1 t2 t3 t4 m₁ l₁ h₁ tk₁ gens₁ (E' : Value → Shared → Prop), j < n → J j m₁ l₁ → Own l₁ fd → (T, blkT ((first + (j : Nat)).fmod ac) ((first + (j : Nat)).fdiv ac) t1 t2 t3 t4) ∈ l₁ → Fr h₀ env.locals h₁ m₁ → News h₀ env.locals h₁ l₁ →
    wpAny (model prg w) (A₀.deeper env) (assign target env (.ref T)) (fun _ s₃ => wpAny (model prg w) (A₀.deeper env) (execs body env) (fun f s₄ => f = .next ∧
      ∃ h' tk m' l', s₄ = { s₁ with heap := h', toks := tk, gens := gens₁ } ∧ Fr h₀ env.locals h' m' ∧ News h₀ env.locals h' l' ∧ Ev l₁ l' [fd] ∧ KeepIt l₁ l' ∧ Own l' fd ∧ J (j + 1) m' l') E' s₃) E' { s₁ with heap := h₁, toks := tk₁, gens := gens₁ }
  done : ∀ h' tk gens' m' l', Fr h₀ env.locals h' m' → News h₀ env.locals h' l' → J n m' l' → AllBare gens' → Ev l l' [fd] → KeepIt l l' → Own l' fd → Q .next { s₁ with heap := h', toks := tk, gens := gens' }

section
variable {w : World} {A₀ : Around} {s : Shared} {base h₀ : Heap} {outer : List Env} {mg mb : Str → Option Value} {mean : ExcName → Option Value} {env : Env} {target iter : PySem.Expr} {body : List Stmt} {pos : Pos} {Q : Flow → Shared → Prop} {E : Value → Shared → Prop} {fr sc : Addr} {ac dn : Int}
theorem For_gen (B : Below A₀ base outer h₀) (X : (hd.heap_1 w.params).In h₀) (T : Top pp (looseW pp []) mean mg mb h₀) (hf : env.frame = some env.locals) (hk : env.scope.kind = .function) (hh : A₀.handled = none)
    (hfr : FrmP w (fun a o => h₀.get? a = some o) fr ac dn) (hsc : ScanP w (fun a o => h₀.get? a = some o) sc) (hroom : (A₀.deeper env).depth < recursionLimit)
    (h : wpAny (model prg w) (A₀.deeper env) (eval iter env) (fun xv s₁ => ∃ first n fd m l J G0 gs C Gn, xv = .ref Gn ∧ GAt w A₀ h₀ env target body Q fr sc ac dn first n fd m l J G0 gs C Gn s₁) E s)
    (hs : ∀ x, foldedSetIterable iter env x = pure x := by intro _; rfl) :
    wpAny (model prg w) (A₀.deeper env) (exec (.For target iter body [] pos) env) Q E s := by
  refine wpAny_For (wpAny_mono h (fun xv s₁ h₁ => ?_) fun _ _ e => e) hs
  refine hideGoal fun hG1 hE1 => ?_
  obtain ⟨first, n, fd, m, l, J, G0, gs, C, Gn, rfl, G⟩ := h₁
  refine hE1 ?_
  clear hE1
  refine wpAny_pyIter_gen G.gen ?_
  have hL0 : ∀ b o, h₀.get? b = some o → b < env.locals := fun b o e => Nat.lt_of_lt_of_le (Heap.lt_size e) G.F.above
  have hC : ¬ HdOf h₀ env.locals (Gn :: l.map (·.1)) C := by
    rintro (⟨o, e⟩ | e | e)
    · exact absurd (Nat.lt_trans (hL0 _ _ e) G.LC) (Nat.lt_irrefl _)
    · exact absurd (e ▸ G.LC) (Nat.lt_irrefl _)
    · rcases List.mem_cons.mp e with e | e
      · exact G.nGn.1 e.symm
      obtain ⟨p, hp, e⟩ := List.mem_map.mp e
      exact absurd (e ▸ G.lC p hp) (Nat.lt_irrefl _)
  generalize hHd : HdOf h₀ env.locals (Gn :: l.map (·.1)) = Hd at *
  have hd0 : ∀ b o, h₀.get? b = some o → Hd b := fun b o e => hHd ▸ .inl ⟨o, e⟩
  have hdL : Hd env.locals := hHd ▸ .inr (.inl rfl)
  have hdl : ∀ p ∈ l, Hd p.1 := fun p hp => hHd ▸ .inr (.inr (List.mem_cons_of_mem _ (List.mem_map_of_mem hp)))
  have hdG : Hd Gn := hHd ▸ .inr (.inr List.mem_cons_self)
  have old : ∀ {h' : Heap} {m' : Str → Option Value} {l' : List (Addr × Obj)}, Fr h₀ env.locals h' m' → News h₀ env.locals h' l' → Ev l l' [fd] → KeepIt l l' → Own l' fd → h'.IsGen Gn G0.size → ∀ b, Hd b → ∃ o, h'.get? b = some o := by
    intro h' m' l' F' N' ev ki ow hG b hb
    rw [← hHd] at hb
    rcases hb with ⟨o, e⟩ | e | e
    · exact ⟨o, F'.keep b o e⟩
    · obtain ⟨o, _, _, eo, _⟩ := F'.ns
      exact ⟨o, e ▸ eo⟩
    · rcases List.mem_cons.mp e with rfl | e
      · obtain ⟨o, _, _, eo, _⟩ := hG
        exact ⟨o, eo⟩
      refine hideGoal fun hG2 hE2 => ?_
      obtain ⟨p, hp, rfl⟩ := List.mem_map.mp e
      refine hE2 ?_
      clear hE2
      by_cases q : p.1 = fd
      · obtain ⟨o, ho, _⟩ := ow
        exact ⟨o, q ▸ (N' _ ho).1⟩
      · cases i : It p.2 with
        | true => exact ⟨_, (N' _ (ki p hp i)).1⟩
        | false => exact ⟨_, (N' _ (ev p hp (fun hm => q (List.mem_singleton.mp hm)) i)).1⟩
  refine codeAny_forLoop_any
    (fun k s' => ∃ h' tk gens' m' l' j gs', s' = { s₁ with heap := h', toks := tk, gens := gens' } ∧ j ≤ n ∧ k = n + 1 - j ∧ Fr h₀ env.locals h' m' ∧ News h₀ env.locals h' l' ∧ (∀ p ∈ l', p.1 ≠ C ∧ (Hd p.1 ∨ It p.2 = false)) ∧ Ev l l' [fd] ∧ KeepIt l l' ∧ Own l' fd ∧ J j m' l' ∧
      h'.IsGen Gn G0.size ∧ gens'[G0.size]? = some gs' ∧ GenOnly G0.size (G0.push gs) gens' ∧ Asleep w (A₀.deeper env).in1 fr sc ac dn Hd C first n gs' (n - j) h' ∧ ∃ mC, h'.Ns C mC) ?_ (n + 1)
    ⟨s₁.heap, s₁.toks, s₁.gens, m, l, 0, gs, rfl, Nat.zero_le _, rfl, G.F, G.N, fun p hp => ⟨Nat.ne_of_lt (G.lC p hp), .inl (hdl p hp)⟩, Ev.refl, KeepIt.refl, G.own, G.j0, G.gen, by rw [G.gens]; simp, by rw [G.gens]; exact ⟨rfl, fun _ _ => rfl⟩, by rw [← hHd]; exact G.sleep, G.nsC⟩
  intro k s' hI9r1
  refine hideGoal fun hGr1 hEr1 => ?_
  refine hideGoal fun hG3 hE3 => ?_
  obtain ⟨h', tk, gens', m', l', j, gs', rfl, hj, rfl, F', N', lOk, ev, ki, ow, hJ, hG, hgs, hgo, ⟨fp, hfp, sl⟩, ⟨mC, hnC⟩⟩ := hI9r1
  refine hE3 ?_
  clear hE3
  refine hEr1 ?_
  clear hEr1
  have gb : ∀ {h₂ : Heap} {m₂ : Str → Option Value}, Fr h₀ env.locals h₂ m₂ → C ≤ h₂.objs.size → ∃ g, GB w (A₀.deeper env).in1 g fr sc ac dn Hd C ∧ Sub g h₂ := fun F₂ hz => by
    obtain ⟨g, a, b⟩ := mkGB (H0 := Gn :: l.map (·.1)) B F₂ X T hf hk hh hfr hsc G.LC
    exact ⟨g, hHd ▸ a, b hz⟩
  -- what a turn of the generator leaves
  have after : ∀ {h₂ : Heap}, Keep Hd C h' h₂ → Fr h₀ env.locals h₂ m' ∧ News h₀ env.locals h₂ l' ∧ h₂.IsGen Gn G0.size := by
    intro h₂ hK
    refine ⟨⟨F'.ns.at' fun o e => hK _ o e (.inl hdL) (Nat.ne_of_lt G.LC), fun b o e => hK b o (F'.keep b o e) (.inl (hd0 b o e)) (Nat.ne_of_lt (Nat.lt_trans (hL0 b o e) G.LC)), F'.above⟩, fun p hp => ⟨hK _ _ (N' p hp).1 (lOk p hp).2 (lOk p hp).1, (N' p hp).2⟩, ?_⟩
    obtain ⟨o, a, b, eo, c, d, e⟩ := hG
    exact ⟨o, a, b, hK _ o eo (.inl hdG) G.nGn.1, c, d, e⟩
  have fdl : Hd fd := let ⟨_, ho, _⟩ := G.own; hdl _ ho
  have GnFd : Gn ≠ fd := by
    rintro rfl
    obtain ⟨o, ho, io⟩ := G.own
    obtain ⟨oG, _, _, eG, cG, dG, _⟩ := G.gen
    rw [(G.N _ ho).1] at eG
    obtain rfl := Option.some.inj eG
    rw [it_of cG dG (by decide)] at io
    cases io
  have hCsz : C ≤ h'.objs.size := Nat.le_of_lt hnC.lt
  have goes : gs'.Goes (model prg w) (A₀.deeper env).in1 (spanR Hd C) (spanY w (A₀.deeper env).in1 fr sc ac dn Hd C first n) (n - j) (.send .none) (Shared.setGen { s₁ with heap := h', toks := tk, gens := gens' } G0.size .running) :=
    sl _ (fun _ _ _ e => e) (gb F' hCsz) (old F' N' ev ki ow hG)
  refine wpAny_pyNext_gen (P := fun n s₀ s₁ => n = 0 ∧ Since Hd C s₀ s₁) (n := n - j) (gs := gs') hh (T.nolimit.keeps F'.keep) hroom hG hgs goes (fun v s₂ gs₂ hv => ?_) (fun s₂ hp h₃ up => ?_)
  · obtain ⟨⟨TT, t1, t2, t3, t4, rfl, hsi, nT, eT⟩, ⟨mC', nC'⟩, fp', hfp', kap⟩ := hv
    refine hideGoal fun hG4 hE4 => ?_
    obtain ⟨h₂, tk₂, rfl, hK⟩ : Since Hd C { s₁ with heap := h', toks := tk, gens := Array.setIfInBounds gens' G0.size .running } s₂ := hsi
    refine hE4 ?_
    clear hE4
    dsimp only at hK eT nC' kap
    refine hideGoal fun hG5 hE5 => ?_
    obtain ⟨F₂, N₂, G₂⟩ := after hK
    refine hE5 ?_
    clear hE5
    have hlt : j < n := by
      rcases Nat.lt_or_ge j n with q | q
      · exact q
      · have e0 : n - j = 0 := Nat.sub_eq_zero_of_le q
        rw [e0] at kap
        exact (kap { s₁ with heap := h₂, toks := tk₂, gens := Array.setIfInBounds gens' G0.size .running } (fun _ _ _ e => e) (gb F₂ (Nat.le_of_lt nC'.lt)) (old F₂ N₂ ev ki ow G₂)).elim
    obtain ⟨mm, hmm⟩ : ∃ mm, n - j = mm + 1 := ⟨n - j - 1, by omega⟩
    rw [hmm] at kap eT
    have ej : n - 1 - (mm + 1 - 1) = j := by omega
    rw [ej] at eT
    refine hideGoal fun hG6 hE6 => ?_
    obtain ⟨oG, aG, bG, eG, cG, dG, slG⟩ := id G₂
    refine hE6 ?_
    clear hE6
    refine letGo_it (s := Shared.setGen { s₁ with heap := h₂, toks := tk₂, gens := Array.setIfInBounds gens' G0.size .running } G0.size gs₂) eG (it_of cG dG (by decide)) ?_
    have offL : env.locals ∉ Gn :: C :: fp' := fun hm => by
      rcases List.mem_cons.mp hm with e | hm
      · exact G.nGn.2 e.symm
      rcases List.mem_cons.mp hm with e | hm
      · exact Nat.ne_of_lt G.LC e
      · exact hfp' _ hm hdL
    have offF : ∀ b ∈ Gn :: C :: fp', b ≠ fd := fun b hm q => by
      rcases List.mem_cons.mp hm with e | hm
      · exact GnFd (e.symm.trans q)
      rcases List.mem_cons.mp hm with e | hm
      · exact hC (e ▸ q ▸ fdl)
      · exact hfp' _ hm (q ▸ fdl)
    have No : News h₀ env.locals h₂ (PyProof.Rows.ownOf h₀ (Gn :: C :: fp') h₂) := news_ownOf offL
    have sub : ∀ p ∈ l', p ∈ (TT, blkT ((first + (j : Nat)).fmod ac) ((first + (j : Nat)).fdiv ac) t1 t2 t3 t4) :: (PyProof.Rows.ownOf h₀ (Gn :: C :: fp') h₂ ++ l') := fun p hp => List.mem_cons_of_mem _ (List.mem_append_right _ hp)
    have N₁ : News h₀ env.locals h₂ ((TT, blkT ((first + (j : Nat)).fmod ac) ((first + (j : Nat)).fdiv ac) t1 t2 t3 t4) :: (PyProof.Rows.ownOf h₀ (Gn :: C :: fp') h₂ ++ l')) := fun p hp => by
      rcases List.mem_cons.mp hp with rfl | hp
      · refine ⟨eT, fun (e : TT = env.locals) => nT (e ▸ hdL), ?_⟩
        cases q : h₀.get? TT with
        | none => rfl
        | some o => exact absurd (hd0 _ _ q) nT
      · rcases List.mem_append.mp hp with hp | hp
        · exact No p hp
        · exact N₂ p hp
    refine wpAny_mono (G.step j TT t1 t2 t3 t4 m' _ h₂ tk₂ ((gens'.setIfInBounds G0.size .running).setIfInBounds G0.size gs₂) _ hlt (G.mono _ _ _ _ (fun p hp _ _ => sub p hp) hJ) (ow.ev (Ev.of sub)) List.mem_cons_self F₂ N₁) (fun _ s₃ h₃ => wpAny_mono h₃ (fun f s₄ h₄ => ?_) fun _ _ e => e) fun _ _ e => e
    refine hideGoal fun hG7 hE7 => ?_
    obtain ⟨rfl, h₉, tk₉, m₉, l₉, rfl, F₉, N₉, ev₉, ki₉, ow₉, J₉⟩ := h₄
    refine hE7 ?_
    clear hE7
    have inn : ∀ b ∈ Gn :: C :: fp', ∀ o, h₀.get? b = none → h₂.get? b = some o → (b, o) ∈ l₉ := fun b hb o hn e => by
      have hm := List.mem_cons_of_mem (TT, blkT ((first + (j : Nat)).fmod ac) ((first + (j : Nat)).fdiv ac) t1 t2 t3 t4) (List.mem_append_left l' (mem_ownOf hb hn e))
      cases i : It o with
      | true => exact ki₉ _ hm i
      | false => exact ev₉ _ hm (fun q => offF b hb (List.mem_singleton.mp q)) i
    have kept : ∀ b ∈ Gn :: C :: fp', ∀ o, h₂.get? b = some o → h₉.get? b = some o := fun b hb o e => by
      cases q : h₀.get? b with
      | some o' =>
        have := F₂.keep b o' q
        rw [e] at this
        rw [Option.some.inj this]
        exact F₉.keep b o' q
      | none => exact (N₉ _ (inn b hb o q e)).1
    have fdC : fd ≠ C := fun e => hC (e ▸ fdl)
    classical
    refine ⟨n + 1 - (j + 1), by omega, h₉, tk₉, _, m₉, l₉.filter (fun p => decide (p.1 ≠ C ∧ (Hd p.1 ∨ It p.2 = false))), j + 1, gs₂, rfl, hlt, rfl, F₉, fun p hp => N₉ p (List.mem_filter.mp hp).1, fun p hp => by simpa using (List.mem_filter.mp hp).2, ?_, ?_, ?_, ?_, ?_, ?_, ?_, ?_, ?_⟩
    · intro p hp hn i
      exact List.mem_filter.mpr ⟨ev₉ _ (sub _ (ev p hp hn i)) hn i, by simpa using ⟨Nat.ne_of_lt (G.lC p hp), Or.inl (hdl p hp)⟩⟩
    · intro p hp i
      exact List.mem_filter.mpr ⟨ki₉ _ (sub _ (ki p hp i)) i, by simpa using ⟨Nat.ne_of_lt (G.lC p hp), Or.inl (hdl p hp)⟩⟩
    · obtain ⟨o, ho, io⟩ := ow₉
      exact ⟨o, List.mem_filter.mpr ⟨ho, by simpa using ⟨fdC, Or.inl fdl⟩⟩, io⟩
    · refine G.mono _ _ _ _ (fun p hp i q => List.mem_filter.mpr ⟨hp, ?_⟩) J₉
      rw [hHd] at q
      have hpC : p.1 ≠ C := fun e => by
        rcases q with q | q
        · exact hC (e ▸ q)
        · obtain ⟨oC, es, ep, eC, dC, _⟩ := nC'
          have h1 := kept C (List.mem_cons_of_mem _ List.mem_cons_self) oC eC
          rw [← e, (N₉ p hp).1] at h1
          exact q es ep (by rw [Option.some.inj h1]; exact dC)
      simpa using ⟨hpC, Or.inr i⟩
    · exact ⟨oG, aG, bG, kept Gn List.mem_cons_self oG eG, cG, dG, slG⟩
    · exact setGen_self (s := { s₁ with heap := h₂, toks := tk₂, gens := Array.setIfInBounds gens' G0.size .running }) (gs := .running) (setGen_self (s := { s₁ with heap := h₂, toks := tk₂, gens := gens' }) hgs)
    · exact hgo.trans ((GenOnly.setGen { s₁ with heap := h₂, toks := tk₂, gens := gens' } G0.size .running).trans (GenOnly.setGen { s₁ with heap := h₂, toks := tk₂, gens := Array.setIfInBounds gens' G0.size .running } G0.size gs₂))
    · have emm : n - (j + 1) = mm := by omega
      rw [emm]
      refine ⟨fp', hfp', fun s'' hs'' hg'' ho'' => kap s'' (fun b hb o e => hs'' b (List.mem_cons_of_mem _ hb) o (kept b (List.mem_cons_of_mem _ (List.mem_cons_of_mem _ hb)) o e)) hg'' ho''⟩
    · exact ⟨mC', nC'.at' fun o e => kept C (List.mem_cons_of_mem _ List.mem_cons_self) o e⟩
  · obtain ⟨e0, hsi⟩ := hp
    obtain rfl : j = n := by omega
    refine hideGoal fun hG8 hE8 => ?_
    obtain ⟨h₂, tk₂, rfl, hK⟩ : Since Hd C { s₁ with heap := h', toks := tk, gens := Array.setIfInBounds gens' G0.size .running } s₂ := hsi
    refine hE8 ?_
    clear hE8
    dsimp only at hK up
    refine hideGoal fun hG9 hE9 => ?_
    obtain ⟨F₂, N₂, G₂⟩ := after hK
    refine hE9 ?_
    clear hE9
    refine wpAny_execs_nil ?_
    refine G.done h₃ tk₂ _ m' l' (F₂.keeps up) (fun p hp => ⟨up _ _ (N₂ p hp).1, (N₂ p hp).2⟩) hJ ?_ ev ki ow
    exact allBare_fin G.bare (hgo.trans (GenOnly.setGen { s₁ with heap := h₂, toks := tk₂, gens := gens' } G0.size .running)) { s₁ with heap := h₂, toks := tk₂, gens := Array.setIfInBounds gens' G0.size .running } rfl
end
end
section
theorem word46 : True := by
  k_with_none
  trivial
theorem word47 : True := by
  k_with "m.enter" => ((rename Around => A9); cases A9; (have hh9 := Ok.hh (by assumption)); (dsimp only at hh9); subst hh9; (rename _ + _ < recursionLimit => hd9); (dsimp only at hd9); (try ((rename _ + _ < cLine => hu9); (dsimp only at hu9))); refine' enter (by assumption) (by assumption) ?k3 ?k6 ?k7 ?k8 ?k9 ?kB ?_ ?c5 ?c2 ?c3 ?c4; (case k3 => first | assumption | exact Led.nil); (case k6 => k_dflt k_is); (case k7 => k_dflt k_is); (case k8 => dsimp only; omega); (case k9 => exact BindsTo.of_eq rfl); (case c5 => decide); (case kB => exact locs rfl); (case c2 => exact rfl); (case c3 => exact rfl); (case c4 => exact rfl); k_whole; intro _ _ _ _ _ _ _ _ _ _ _ _ _; (have hst9 := Below.stack (by assumption)); (dsimp only at hst9); subst hst9; (try dsimp only); (try k_fold))
  trivial
theorem word48 : True := by
  k_with "m.look" => first | assumption | exact if_pos rfl | (refine Eq.trans (if_neg (by decide)) ?_; walk_at "m.look")
  trivial
theorem word49 : True := by
  k_with "eval Name" => (k_dflt (refine' nameX_L ?xF ?xv ?_ ?xa ?xb; (case xF => k_asm); (case xa => rfl); (case xb => rfl); (case xv => walk_at "m.look"); k_whole))
  trivial
section
variable {w : World} {A : Around} {s : Shared} {g : Heap} {R : Result → Shared → Prop} {name qual : Str} {params : Arguments} {body : List Stmt} {scope : Scope} {dV kV doc pm cdv ct oc : Value} {an od : Option Addr} {osl : Array (Option Value)} {f : Addr} {args : Args} {binds : List (Str × Value)}
theorem enterG (ok : Ok w A g) (hs : Sub g s.heap)
    (ho : (hd.heap_1 w.params).lookup f = some ⟨oc, od, .func (fnOf name qual params body scope dV kV doc pm an cdv ct), osl⟩)
    (hcd : codeIn (hd.heap_1 w.params) cdv qual = true) (hroom : A.depth < recursionLimit)
    (hbind : BindsTo s (fnOf name qual params body scope dV kV doc pm an cdv ct) args binds) (hloc : ∀ y ∈ binds, scope.names.lookup y.1 = some .local)
    (hcell : ∀ x ∈ scope.names, x.2 ≠ .cell) (hco : scope.isCoroutine = false) (hgen : scope.isGenerator = true) (hk : scope.kind = .function)
    (h : ∀ h₁ tk Gn, h₁.Ns s.heap.objs.size (fun y => binds.reverse.lookup y) → (∀ b o, s.heap.get? b = some o → h₁.get? b = some o) → h₁.IsGen Gn s.gens.size → s.heap.objs.size < Gn →
      R (.ok (.ret (.ref Gn))) { s with gens := s.gens.push (.fresh (.func body (envOf qual scope s.heap.objs.size f cdv))), toks := tk, heap := h₁ }) :
    codeAny (model prg w) A (.call (.ref f) args) R s := by
  obtain ⟨mean, mg, mb, T⟩ := ok.T
  refine codeAny_call_generator (fd := fnOf name qual params body scope dV kV doc pm an cdv ct) (body := body) hroom (hs.1 _ _ (ok.X _ _ ho)) rfl hco hgen rfl (codeRec_of (ok.X.keeps hs.1) hcd) (hbind _ _ _ _ ?_)
  refine wpAny_newFunctionEnv hcell hloc (fun h₁ hns hsb => ?_) hk
  have up : ∀ b o, s.heap.get? b = some o → h₁.get? b = some o := fun b o e => hsb.extBut b o (Nat.ne_of_lt (Heap.lt_size e)) (Heap.get?_push_of_some _ e)
  refine ⟨(T.nolimit.keeps hs.1).keeps up, ?_⟩
  refine h _ _ h₁.objs.size (hns.push _) (fun b o e => Heap.get?_push_of_some _ (up b o e)) ⟨_, _, _, Heap.get?_push_size _ rfl, rfl, rfl, rfl⟩ hns.lt
end
section
variable {w : World} {A₀ : Around} {s : Shared} {base h₀ : Heap} {outer : List Env} {L : Addr} {m mg mb : Str → Option Value} {mean : ExcName → Option Value} {env : Env} {l : List (Addr × Obj)} {Q E : Value → Shared → Prop} {fr sc : Addr} {ac dn : Int}
theorem span_at (B : Below A₀ base outer h₀) (F : Fr h₀ L s.heap m) (X : (hd.heap_1 w.params).In h₀) (T : Top pp (looseW pp []) mean mg mb h₀) (N : News h₀ L s.heap l) (hf : env.frame = some L) (hk : env.scope.kind = .function) (hh : A₀.handled = none) (hd : A₀.depth + 20 < recursionLimit) (hu : A₀.units + 400 < cLine) (_hfr : FrmP w (fun a o => h₀.get? a = some o) fr ac dn)
    {a b : Int} {ta tb : Tok} (a0 : 0 ≤ a) (a1 : a ≤ 100) (b0 : 0 ≤ b) (b1 : b ≤ 100) (h1 : 1 ≤ ac) (h2 : ac ≤ 5) (h3 : 1 ≤ dn) (h4 : dn ≤ 4)
    (hQ : ∀ h' tk C Gn gs, Fr h₀ L h' m → News h₀ L h' l → (∀ p ∈ l, p.1 < C) → L < C → h'.IsGen Gn s.gens.size → Gn ≠ C → Gn ≠ L → (∃ mC, h'.Ns C mC) →
      Asleep w (A₀.deeper env).in1 fr sc ac dn (HdOf h₀ L (Gn :: l.map (·.1))) C a b.toNat gs b.toNat h' → Q (.ref Gn) { s with gens := s.gens.push gs, heap := h', toks := tk }) :
    wpAny (model prg w) (A₀.deeper env) (call (.ref 49) [.ref fr, .ref sc, .int a ta, .int b tb]) Q E s := by
  obtain ⟨g, ok, hs, -, -, h0, -, lk, k1, k2, k3⟩ := site B F X T N [] (fun _ h => nomatch h) hf hk hh
  refine' wpAny_call (enterG ok hs ?k6 ?k7 ?k8 ?k9 ?kB ?c5 ?c2 ?c3 ?c4 ?_)
  case k6 => k_dflt k_is
  case k7 => k_dflt k_is
  case k8 => show A₀.depth + 1 < recursionLimit; omega
  case k9 => exact BindsTo.of_eq rfl
  case kB => exact locs rfl
  case c5 => decide
  case c2 => exact rfl
  case c3 => exact rfl
  case c4 => exact rfl
  intro h₁ tk Gn hns up hG hlt
  have LC : L < s.heap.objs.size := F.ns.lt
  refine hQ _ _ s.heap.objs.size Gn _ (F.keeps up) (fun p hp => ⟨up _ _ (N p hp).1, (N p hp).2⟩) (fun p hp => Heap.lt_size (N p hp).1) LC hG (Nat.ne_of_gt hlt) (Nat.ne_of_gt (Nat.lt_trans LC hlt)) ⟨_, hns⟩ ⟨[], (fun _ h => nomatch h), fun s'' own ⟨g', G', S'⟩ old => ⟨rfl, ?_⟩⟩
  have hC : ¬ HdOf h₀ L (Gn :: l.map (·.1)) s.heap.objs.size := by
    rintro (⟨o, e⟩ | e | e)
    · exact absurd (Nat.lt_of_lt_of_le (Heap.lt_size e) (Nat.le_trans F.above (Nat.le_of_lt LC))) (Nat.lt_irrefl _)
    · exact absurd LC (e ▸ Nat.lt_irrefl _)
    · rcases List.mem_cons.mp e with e | e
      · exact absurd hlt (e ▸ Nat.lt_irrefl _)
      obtain ⟨p, hp, e⟩ := List.mem_map.mp e
      exact absurd (Heap.lt_size (N p hp).1) (e ▸ Nat.lt_irrefl _)
  have hd' : (A₀.deeper env).in1.depth + 15 < recursionLimit := by show A₀.depth + 1 + 15 < _; omega
  have hu' : (A₀.deeper env).in1.units + 300 < cLine := by show A₀.units + 3 + 1 + 300 < _; omega
  exact span_seg hh h1 h2 h3 h4 hd' hu' hC a0 a1 b0 b1 rfl G' S' old (hns.at' fun o e => own _ List.mem_cons_self o e) rfl rfl rfl rfl
end
end
theorem calm11 : True := by (w_top off); first | walk1 | trivial
section
noncomputable def LStepG (h₀ : Heap) (L : Addr) (l₁ : List (Addr × Obj)) (Jn : (Str → Option Value) → List (Addr × Obj) → Prop) (G : Array GenState → Prop) (s₁ : Shared) (Qr : Value → Shared → Prop) (Qb : Shared → Prop) (f : Flow) (s₂ : Shared) : Prop :=
  match f with
  | .ret v => Qr v s₂
  | .brk => Qb s₂
  | _ => ∃ h' tk gs m' l', s₂ = { s₁ with heap := h', toks := tk, gens := gs } ∧ G gs ∧ Fr h₀ L h' m' ∧ News h₀ L h' l' ∧ KeepIt l₁ l' ∧ Jn m' l'

structure FAtG (prog : Program) (w : World) (A : Around) (h₀ : Heap) (env : Env) (target : PySem.Expr) (body : List Stmt) (Q : Flow → Shared → Prop) (E : Value → Shared → Prop) (xv : Value) (n : Nat) (P : Nat → Value → Heap → Prop) (srcs : List (Addr × Obj)) (m : Str → Option Value) (l : List (Addr × Obj)) (J : Nat → (Str → Option Value) → List (Addr × Obj) → Prop) (G : Array GenState → Prop) (s₁ : Shared) : Prop where
  S : Sr prog w A target xv n P srcs s₁
  hL : env.locals ∉ srcs.map (·.1)
  F : Fr h₀ env.locals s₁.heap m
  N : News h₀ env.locals s₁.heap l
  src : ∀ i m l, J i m l → ∀ q ∈ srcs, Kn h₀ l q.1 q.2
  mono : ∀ i m l l', Ev l l' [] → J i m l → J i m l'
  j0 : J 0 m l
  g0 : G s₁.gens
  step : ∀ i v m₁ l₁ h₁ tk₁ gs₁, i < n → P i v h₁ → J i m₁ l₁ → KeepIt l l₁ → G gs₁ → Fr h₀ env.locals h₁ m₁ → News h₀ env.locals h₁ l₁ →
    wpAny (model prog w) A (assign target env v) (fun _ s₃ => wpAny (model prog w) A (execs body env) (LStepG h₀ env.locals l₁ (J (i + 1)) G s₁ (fun v s' => Q (.ret v) s') fun s' => Q .next s') E s₃) E { s₁ with heap := h₁, toks := tk₁, gens := gs₁ }
  done : ∀ h' tk gs m' l', G gs → Fr h₀ env.locals h' m' → News h₀ env.locals h' l' → KeepIt l l' → J n m' l' → Q .next { s₁ with heap := h', toks := tk, gens := gs }

section
variable {prog : Program} {w : World} {A : Around} {E : Value → Shared → Prop} {s : Shared} {env : Env} {h₀ : Heap} {target : PySem.Expr} {body : List Stmt} {Q : Flow → Shared → Prop}
theorem For_atG {iter : PySem.Expr} {pos : Pos} {m : Str → Option Value} (_F₀ : Fr h₀ env.locals s.heap m)
    (h : wpAny (model prog w) A (eval iter env) (fun xv s₁ => ∃ n P srcs m l J G, FAtG prog w A h₀ env target body Q E xv n P srcs m l J G s₁) E s)
    (hs : ∀ x, foldedSetIterable iter env x = pure x := by intro _; rfl)
    (hE : PassesOwn (model prog w) A env E := by passes_own) :
    wpAny (model prog w) A (exec (.For target iter body [] pos) env) Q E s := by
  refine wpAny_For (wpAny_mono h (fun xv s₁ h₁ => ?_) fun _ _ e => e) hs
  refine hideGoal fun hG1 hE1 => ?_
  obtain ⟨n, P, srcs, m, l, J, G, X⟩ := h₁
  refine hE1 ?_
  clear hE1
  refine X.S _ _ fun I h' fp Md St hI up W hfp itr hst self => ?_
  have offI : ∀ p ∈ l, p.1 ≠ I := fun p hp e => by have := (X.N p hp).1; rw [e, hI] at this; cases this
  refine hideGoal fun hG2 hE2 => ?_
  obtain ⟨oL, _, _, hoL, _⟩ := X.F.ns
  refine hE2 ?_
  clear hE2
  have hIL : env.locals ≠ I := fun e => by rw [e, hI] at hoL; cases hoL
  have hI₀ : h₀.get? I = none := by
    cases e : h₀.get? I with
    | none => rfl
    | some o => have := X.F.keep I o e; rw [hI] at this; cases this
  have n1 : ∀ {b : Addr}, b ≠ I → b ∉ [I] := fun hb hm => hb (List.mem_singleton.mp hm)
  have old : ∀ {b : Addr} {o : Obj}, h₀.get? b = some o → b ∉ [I] := fun e => n1 fun q => by rw [q, hI₀] at e; cases e
  refine codeAny_forLoop_any (R := fun r s' => match r with | .ok f => Q f s' | .error e => cameBackBy (model prog w) A env E e s')
    (fun k s' => ∃ h' tk gs m' l' i, s' = { s₁ with heap := h', toks := tk, gens := gs } ∧ i ≤ n ∧ k = n + 1 - i ∧ St i h' ∧ Fr h₀ env.locals h' m' ∧ News h₀ env.locals h' l' ∧ (∀ p ∈ l', p.1 ≠ I) ∧ KeepIt l l' ∧ G gs ∧ J i m' l') ?_ (n + 1)
    ⟨h', s₁.toks, s₁.gens, m, l, 0, rfl, Nat.zero_le _, rfl, hst, X.F.keeps up, fun p hp => ⟨up _ _ (X.N p hp).1, (X.N p hp).2⟩, offI, .refl, X.g0, X.j0⟩
  intro k s' hI9r1
  refine hideGoal fun hGr1 hEr1 => ?_
  refine hideGoal fun hG3 hE3 => ?_
  obtain ⟨h₁, tk₁, gs, m₁, l₁, i, rfl, hi, rfl, st₁, F₁, N₁, off₁, K₁, hG, J₁⟩ := hI9r1
  refine hE3 ?_
  clear hE3
  refine hEr1 ?_
  clear hEr1
  have next : ∀ h₂ : Heap, (∀ b o, b ∉ [I] → h₁.get? b = some o → h₂.get? b = some o) → Fr h₀ env.locals h₂ m₁ ∧ News h₀ env.locals h₂ l₁ := fun h₂ hk =>
    ⟨⟨F₁.ns.at' fun o e => hk _ o (n1 hIL) e, fun b o e => hk b o (old e) (F₁.keep b o e), F₁.above⟩, fun p hp => ⟨hk _ _ (n1 (off₁ p hp)) (N₁ p hp).1, (N₁ p hp).2⟩⟩
  by_cases hlt : i < n
  · refine W.item i _ _ _ hlt st₁ fun v h₂ tk₂ hMd hk₂ => ?_
    refine W.go i v _ _ _ hMd fun h₃ hP st₃ hk₃ => ?_
    refine hideGoal fun hG4 hE4 => ?_
    obtain ⟨F₃, N₃⟩ := next h₃ fun b o hb x => hk₃ b o hb (hk₂ b o hb x)
    obtain ⟨oI, eI, zI⟩ := itr _ _ st₃
    refine hE4 ?_
    clear hE4
    have N₃' : News h₀ env.locals h₃ ((I, oI) :: l₁) := fun p hp => by
      rcases List.mem_cons.mp hp with rfl | hp
      · exact ⟨eI, Ne.symm hIL, hI₀⟩
      · exact N₃ p hp
    have J₃ := X.mono _ _ _ _ (Ev.of fun p hp => List.mem_cons_of_mem (I, oI) hp) J₁
    refine wpAny_mono (X.step i v m₁ _ h₃ tk₂ gs hlt hP J₃ (K₁.trans (KeepIt.of fun p hp => List.mem_cons_of_mem _ hp)) hG F₃ N₃') (fun _ s₄ h₄ => wpAny_mono (wpAny_passesOwn hE h₄) (fun f s₅ h₅ => ?_) fun _ _ e => e) hE
    have key : ∀ f', f' = Flow.next → LStepG h₀ env.locals ((I, oI) :: l₁) (J (i + 1)) G s₁ (fun v s' => Q (.ret v) s') (fun s' => Q .next s') f' s₅ →
        ∃ m, m < n + 1 - i ∧ ∃ h' tk gs m' l' i, s₅ = { s₁ with heap := h', toks := tk, gens := gs } ∧ i ≤ n ∧ m = n + 1 - i ∧ St i h' ∧ Fr h₀ env.locals h' m' ∧ News h₀ env.locals h' l' ∧ (∀ p ∈ l', p.1 ≠ I) ∧ KeepIt l l' ∧ G gs ∧ J i m' l' := by
      intro f' rfl hI9r2
      refine hideGoal fun hGr2 hEr2 => ?_
      refine hideGoal fun hG5 hE5 => ?_
      obtain ⟨h₆, tk₆, gs₆, m₆, l₆, rfl, G₆, F₆, N₆, K₆, J₆⟩ := hI9r2
      refine hE5 ?_
      clear hE5
      refine hEr2 ?_
      clear hEr2
      have hI6 : (I, oI) ∈ l₆ := K₆ _ List.mem_cons_self zI
      refine ⟨n + 1 - (i + 1), by omega, h₆, tk₆, gs₆, m₆, l₆.filter (fun p => decide (p.1 ≠ I)), i + 1, rfl, hlt, rfl, W.frame _ _ _ st₃ fun b hb o e => ?_, F₆, fun p hp => N₆ p (List.mem_filter.mp hp).1, fun p hp => by simpa using (List.mem_filter.mp hp).2, fun p hp z => List.mem_filter.mpr ⟨K₆ _ (List.mem_cons_of_mem _ (K₁ p hp z)) z, ?_⟩, G₆, X.mono _ _ _ _ (fun p hp _ z => List.mem_filter.mpr ⟨hp, ?_⟩) J₆⟩
      · rcases hfp _ hb with q | q
        · rw [q] at e ⊢
          rw [eI] at e
          rw [← Option.some.inj e]
          exact (N₆ _ hI6).1
        · obtain ⟨q', hq', q⟩ := List.mem_map.mp q
          have a := (X.src _ _ _ J₃ q' hq').get F₃ N₃'
          have b' := (X.src _ _ _ J₆ q' hq').get F₆ N₆
          rw [← q] at e ⊢
          rw [a] at e
          rw [← Option.some.inj e]
          exact b'
      · simpa using offI p hp
      · simp only [decide_eq_true_eq]
        intro e
        rw [news_same N₆ hp hI6 e, zI] at z
        cases z
    cases f with
    | ret v => exact h₅
    | brk => exact h₅
    | next => exact key _ rfl h₅
    | cont => exact key .next rfl h₅
  · have hin : i = n := Nat.le_antisymm hi (Nat.not_lt.mp hlt)
    subst hin
    refine W.done _ _ _ st₁ fun h₂ tk₂ hk₂ => wpAny_execs_nil ?_
    obtain ⟨F₂, N₂⟩ := next h₂ hk₂
    exact X.done h₂ tk₂ gs m₁ l₁ hG F₂ N₂ K₁ J₁
end
end
section
theorem word50 : True := by
  k_with_none
  trivial
theorem word51 : True := by
  k_with "m.enter" => ((rename Around => A9); cases A9; (have hh9 := Ok.hh (by assumption)); (dsimp only at hh9); subst hh9; (rename _ + _ < recursionLimit => hd9); (dsimp only at hd9); (try ((rename _ + _ < cLine => hu9); (dsimp only at hu9))); refine' enter (by assumption) (by assumption) ?k3 ?k6 ?k7 ?k8 ?k9 ?kB ?_ ?c5 ?c2 ?c3 ?c4; (case k3 => first | assumption | exact Led.nil); (case k6 => k_dflt k_is); (case k7 => k_dflt k_is); (case k8 => dsimp only; omega); (case k9 => exact BindsTo.of_eq rfl); (case c5 => decide); (case kB => exact locs rfl); (case c2 => exact rfl); (case c3 => exact rfl); (case c4 => exact rfl); k_whole; intro _ _ _ _ _ _ _ _ _ _ _ _ _; (have hst9 := Below.stack (by assumption)); (dsimp only at hst9); subst hst9; (try dsimp only); (try k_fold))
  trivial
theorem word52 : True := by
  k_with "m.look" => first | assumption | exact if_pos rfl | (refine Eq.trans (if_neg (by decide)) ?_; walk_at "m.look")
  trivial
theorem word53 : True := by
  k_with "eval Name" => (k_dflt (refine' nameX_L ?xF ?xv ?_ ?xa ?xb; (case xF => k_asm); (case xa => rfl); (case xb => rfl); (case xv => walk_at "m.look"); k_whole))
  trivial
theorem word54 : True := by
  k_with "call ref" => ((with_reducible show wpAny _ _ (call (Value.ref 49) _) _ _ _); k_dflt (refine' span_at ?k1 ?k2 ?k3 ?k4 ?k5 rfl rfl rfl ?kd ?ku ?kf ?a0 ?a1 ?a2 ?a3 ?b1 ?b2 ?b3 ?b4 ?_; (case k1 => k_asm); (case k2 => k_asm); (case k3 => k_asm); (case k4 => k_asm); (case k5 => k_asm); (case kd => dsimp only; omega); (case ku => dsimp only; omega); (case kf => k_asm); (case a0 => k_asm); (case a1 => k_asm); (case a2 => k_asm); (case a3 => k_asm); (case b1 => k_asm); (case b2 => k_asm); (case b3 => k_asm); (case b4 => k_asm); k_whole; intro _ _ _ _ _ _ _ _ _ _ _ _ _ _))
  trivial

/-- a list of tuples of integers -/
noncomputable def TupL (w : World) (P : Addr → Obj → Prop) (D : Addr) (ks : List (List Int)) : Prop := ∃ es : List (List Int × Addr), ListP P D (es.map fun e => Value.ref e.2) ∧ (∀ e ∈ es, TupP prg w P e.1 e.2) ∧ es.map (·.1) = ks
theorem DictP.monoD {prog : Program} {w : World} {P P' : Addr → Obj → Prop} {d : Addr} {xs : List (List Int × Addr × Value)} (x : DictP prog w P d xs) (h : ∀ a o, (a = d ∨ ∀ es ep, o.data ≠ .dict es ep) → It o = false → P a o → P' a o) : DictP prog w P' d xs := by
  obtain ⟨o, es, ep, p, a, b, c, t, n⟩ := x
  exact ⟨o, es, ep, h _ _ (.inl rfl) (it_dict a.1) p, a, b, c, fun y hy => (let ⟨o, i, n, p, r1, r2, r3⟩ := t y hy; ⟨o, i, n, h _ _ (.inr fun es ep q => by rw [r2] at q; cases q) (it_no r1 (by decide)) p, r1, r2, r3⟩), n⟩
theorem DictP.inL {prog : Program} {w : World} {g h : Heap} {L d : Addr} {l : List (Addr × Obj)} {xs : List (List Int × Addr × Value)} (x : DictP prog w (Kn g l) d xs) (N : News g L h l) (ow : Own l d) (t : ∀ x ∈ xs, TupP prog w (fun a o => (a, o) ∈ l) x.1 x.2.1) : DictP prog w (fun a o => (a, o) ∈ l) d xs := by
  obtain ⟨o, es, ep, p, a, b, c, -, n⟩ := x
  exact ⟨o, es, ep, ow.in_of N p, a, b, c, t, n⟩
noncomputable def addKey (ks : List (List Int)) (k : List Int) : List (List Int) := if k ∈ ks then ks else ks ++ [k]
noncomputable def blkKeys (ac a : Int) (ks : List (List Int)) : Nat → List (List Int)
  | 0 => ks
  | j + 1 => addKey (blkKeys ac a ks j) [0, (a + (j : Nat)).fmod ac, (a + (j : Nat)).fdiv ac]
noncomputable def lostKeys (ac : Int) (ps : List (Int × Int)) : List (List Int) := ps.foldl (fun ks p => blkKeys ac p.1 ks p.2.toNat) []
theorem map_storedH {xs : List (List Int × Addr × Value)} {k : List Int} {a : Addr} {v : Value} : (storedH xs k a v).map (·.1) = addKey (xs.map (·.1)) k := by
  unfold addKey
  by_cases h : k ∈ xs.map (·.1)
  · rw [if_pos h]
    have e := (atKey_isSome xs k).mpr h
    unfold storedH
    rw [if_pos e, List.map_map]
    refine List.map_congr_left fun x _ => ?_
    simp only [Function.comp, putAt]
    split <;> rfl
  · rw [if_neg h]
    have e : ¬ (atKey xs k).isSome = true := fun q => h ((atKey_isSome xs k).mp q)
    unfold storedH
    rw [if_neg e, List.map_append]
    rfl
theorem addKey_len {ks : List (List Int)} {k : List Int} : (addKey ks k).length ≤ ks.length + 1 := by
  unfold addKey; split <;> simp
theorem blkKeys_len {ac a : Int} {ks : List (List Int)} : ∀ j, (blkKeys ac a ks j).length ≤ ks.length + j
  | 0 => Nat.le_refl _
  | j + 1 => Nat.le_trans addKey_len (by have := blkKeys_len (ac := ac) (a := a) (ks := ks) j; omega)
theorem lostKeys_snoc {ac : Int} {ps : List (Int × Int)} {p : Int × Int} : lostKeys ac (ps ++ [p]) = blkKeys ac p.1 (lostKeys ac ps) p.2.toNat := by
  unfold lostKeys; rw [List.foldl_append]; rfl
theorem lostKeys_len {ac : Int} (ps : List (Int × Int)) (h : ∀ p ∈ ps, p.2 ≤ 100) (i : Nat) : (lostKeys ac (ps.take i)).length ≤ 100 * i := by
  induction i with
  | zero => simp [lostKeys]
  | succ i ih =>
    by_cases hi : i < ps.length
    · rw [List.take_succ_eq_append_getElem hi, lostKeys_snoc]
      refine Nat.le_trans (blkKeys_len _) ?_
      have := h _ (List.getElem_mem hi)
      omega
    · rw [List.take_of_length_le (by omega)]
      rw [List.take_of_length_le (by omega)] at ih
      omega
theorem dictP_nil {w : World} {P : Addr → Obj → Prop} {d : Addr} {o : Obj} (h : Obj.IsDictOf (intKind prg w) o []) (p : P d o) : DictP prg w P d [] := by
  obtain ⟨es, ep, a, b, _, c, _⟩ := h
  refine ⟨o, es, ep, p, a, b, ?_, (fun _ h => nomatch h), List.nodup_nil⟩
  cases e : es.toList with
  | nil => rfl
  | cons x r => rw [e] at c; cases c
noncomputable def LJ1 (w : World) (g : Heap) (fr sc D : Addr) (ac : Int) (ps : List (Int × Int)) (i : Nat) (m : Str → Option Value) (l : List (Addr × Obj)) : Prop := m (Str.ofString "frame") = some (.ref fr) ∧ m (Str.ofString "scan") = some (.ref sc) ∧ m (Str.ofString "found") = some (.ref D) ∧ Own l D ∧ ∃ xs, DictP prg w (Kn g l) D xs ∧ (∀ x ∈ xs, TupP prg w (fun a o => (a, o) ∈ l) x.1 x.2.1) ∧ xs.map (·.1) = lostKeys ac (ps.take i)
noncomputable def LJ2 (w : World) (g : Heap) (fr sc D : Addr) (ac a : Int) (xs : List (List Int × Addr × Value)) (j : Nat) (m : Str → Option Value) (l : List (Addr × Obj)) : Prop := m (Str.ofString "frame") = some (.ref fr) ∧ m (Str.ofString "scan") = some (.ref sc) ∧ m (Str.ofString "found") = some (.ref D) ∧ ∃ xs', DictP prg w (Kn g l) D xs' ∧ (∀ x ∈ xs', TupP prg w (fun a o => (a, o) ∈ l) x.1 x.2.1) ∧ xs'.map (·.1) = blkKeys ac a (xs.map (·.1)) j
section
variable {w : World} {A : Around} {s : Shared} {g : Heap} {R : Result → Shared → Prop} {fr sc lo : Addr} {ac dn : Int}
theorem lost_spec (ok : Ok w A g) (hs : Sub g s.heap) (hd : A.depth + 24 < recursionLimit) (hu : A.units + 500 < cLine) (hf : FrmP w (fun a o => g.get? a = some o) fr ac dn) (hsc : ScanP w (fun a o => g.get? a = some o) sc) (h1 : 1 ≤ ac) (h2 : ac ≤ 5) (h3 : 1 ≤ dn) (h4 : dn ≤ 4)
    {ps : List (Int × Int)} (hl : TupL w (fun a o => g.get? a = some o) lo (ps.map fun p => [p.1, p.2])) (hps : ∀ p ∈ ps, 0 ≤ p.1 ∧ p.1 ≤ 100 ∧ 0 ≤ p.2 ∧ p.2 ≤ 100) (hpl : ps.length ≤ 100) (bare : AllBare s.gens)
    (hR : ∀ h' tk gs D ln xs, (∀ b o, g.get? b = some o → h'.get? b = some o) → Led g h' ln → AllBare gs → DictP prg w (fun a o => (a, o) ∈ ln) D xs → (D == sysModules) = false → xs.map (·.1) = lostKeys ac ps → R (.ok (.ret (.ref D))) { s with heap := h', toks := tk, gens := gs }) :
    codeAny (model prg w) A (.call (.ref 61) ⟨[.ref fr, .ref sc, .ref lo], []⟩) R s := by
  obtain ⟨les, ⟨oL, nL, pL, cL, dL, ddL⟩, hT, hk⟩ := hl
  walk_at "m.enter"
  repeat' (fail_if_success (with_reducible show wpAny _ _ (exec (PySem.Stmt.For ..) _) _ _ _)); walk1
  rename Fr _ _ _ _ => F
  refine hideQ fun QA1 qA1 => ?_
  refine For_atG F ?_
  repeat' (fail_if_success (with_reducible show ∃ _, _)); walk1
  rename News _ _ _ _ => N
  rename Frag.In _ _ => X
  rename Obj.IsDictOf (intKind prg w) _ _ => iD
  rename (_ == sysModules) = false => lD
  rename_i D _ _ _ _ _ _ _
  have hlen : les.length = ps.length := by have := congrArg List.length hk; simpa using this
  refine ⟨_, _, _, _, _, LJ1 w g fr sc D ac ps, AllBare,
    { S := Sr.list (n := nL) rfl (F.keep _ _ pL) cL dL, hL := ?_, F := F, N := N, src := ?_, mono := ?_, j0 := ?_, g0 := bare, step := ?_, done := ?_ }⟩
  · intro hm
    exact Nat.ne_of_lt (Nat.lt_of_lt_of_le (Heap.lt_size pL) F.above) (List.mem_singleton.mp hm).symm
  · intro _ _ _ _ q hq; rw [List.mem_singleton.mp hq]; exact .base pL (ListP.it cL)
  · rintro i m l l' ev ⟨m1, m2, m3, ow, xs, hD, hT, hx⟩
    exact ⟨m1, m2, m3, ow.ev ev, xs, hD.mono fun a o _ k => k.sub ev, fun x hx => (hT x hx).mono fun a o i hm => ev _ hm List.not_mem_nil i, hx⟩
  · refine ⟨by first | walk_at "m.look" | rfl, by first | walk_at "m.look" | rfl, by first | walk_at "m.look" | rfl, .in List.mem_cons_self (it_dict (let ⟨_, _, h, _⟩ := iD; h.1)), [], dictP_nil iD (.in List.mem_cons_self (it_dict (let ⟨_, _, h, _⟩ := iD; h.1))), (fun _ h => nomatch h), by simp [lostKeys]⟩
  · intro i v m₁ l₁ h₁ tk₁ gs₁ hi hP hI9 hK bare₁ F₁ N₁
    clear qA1
    refine hideGoal fun hGa hEa => ?_
    obtain ⟨m1, m2, m3, ow, xs, hD, hTD, hx⟩ := hI9
    refine hEa ?_
    clear hEa
    have hi' : i < ps.length := by rw [← hlen]; simpa using hi
    have hie : i < les.length := by rw [hlen]; exact hi'
    obtain rfl : v = .ref les[i].2 := by
      have : (les.map fun e => Value.ref e.2).toArray[i]? = some (.ref les[i].2) := by simp [hie]
      rw [this] at hP
      exact (Option.some.inj hP).symm
    have hTi := hT _ (List.getElem_mem hie)
    have hki : les[i].1 = [ps[i].1, ps[i].2] := by
      have := congrArg (fun l => l[i]?) hk
      simpa [hie, hi'] using this
    rw [hki] at hTi
    obtain ⟨t1, t2, oT, nT, pT, cT, dT⟩ := hTi.two
    have hT9 : IsTup h₁ les[i].2 #[.int ps[i].1 t1, .int ps[i].2 t2] := ⟨oT, F₁.keep _ _ pT, cT, nT, dT⟩
    obtain ⟨b1, b2, b3, b4⟩ := hps _ (List.getElem_mem hi')
    clear F N pT dT hki
    generalize hpa : ps[i].1 = a at *
    generalize hpb : ps[i].2 = b at *
    repeat' (fail_if_success (with_reducible show wpAny _ _ (exec (PySem.Stmt.For ..) _) _ _ _)); walk1
    rename Top _ _ _ _ _ _ => T
    rename Below _ _ _ _ => B
    refine For_gen B X T rfl rfl rfl hf hsc (by dsimp only [Around.deeper]; omega) ?_
    repeat' (fail_if_success (with_reducible show ∃ _, _)); walk1
    refine ⟨a, b.toNat, D, _, _, LJ2 w g fr sc D ac a xs, _, _, _, _, rfl,
      { F := by assumption, N := by assumption, lC := by assumption, LC := by assumption, gen := by assumption, gens := rfl, bare := bare₁, nGn := ⟨by assumption, by assumption⟩, nsC := by assumption, sleep := by assumption, own := ow, j0 := ?_, mono := ?_, step := ?_, done := ?_ }⟩
    · exact ⟨by walk_at "m.look", by walk_at "m.look", by walk_at "m.look", xs, hD, hTD, rfl⟩
    · rintro j m l₂ l' hsub ⟨m1, m2, m3, xs', hD', hTD', hx'⟩
      refine ⟨m1, m2, m3, xs', hD'.monoD fun a o q i k => ⟨k.1.imp id fun hm => hsub _ hm i (q.imp (fun e => ?_) id), k.2⟩, fun x hx => ?_, hx'⟩
      · obtain ⟨oD, hoD, -⟩ := ow
        exact .inr (.inr (List.mem_cons_of_mem _ (List.mem_map.mpr ⟨_, hoD, e.symm⟩)))
      · obtain ⟨o, it, n, p, c, d, i⟩ := hTD' x hx
        exact ⟨o, it, n, hsub _ p (it_no c (by decide)) (.inr fun es ep q => by rw [d] at q; cases q), c, d, i⟩
    · intro j T' t1' t2' t3' t4' m₂ l₂ h₂ tk₂ gs₂ E' hj hI9 ow₂ hTm F₂ N₂
      refine hideGoal fun hGb hEb => ?_
      obtain ⟨m1', m2', m3', xs', hD', hTD', hx'⟩ := hI9
      refine hEb ?_
      clear hEb
      have hT9 : IsTup h₂ T' #[.int 0 t1', .int 0 t2', .int _ t3', .int _ t4'] := ⟨_, (N₂ _ hTm).1, rfl, 0, rfl⟩
      have hle : xs'.length ≤ sizeLine := by
        have e1 := congrArg List.length hx'
        have e2 := blkKeys_len (ac := ac) (a := a) (ks := xs.map (·.1)) j
        have e3 := lostKeys_len (ac := ac) ps (fun p hp => (hps p hp).2.2.2) i
        rw [← hx] at e3
        rw [← e1] at e2
        simp only [List.length_map] at e2 e3
        rw [sizeLine_eq]; omega
      repeat' walk1
      rename Fr _ _ _ _ => F8
      rename News _ _ _ _ => N8
      have sb : ∀ q : Addr × Obj, ∀ p ∈ l₂, p ∈ q :: l₂ := fun q p hp => List.mem_cons_of_mem _ hp
      refine dset F8 N8 (hD'.mono fun a o _ k => k.sub (Ev.of (sb _))) (ow₂.ev (Ev.of (sb _))) (tup3 (Kn.in List.mem_cons_self rfl)) (by simp only [units_deeper]; omega) hle fun h9 tk9 l9 F9 N9 x9 e9 k9 o9 => ?_
      have tne : ∀ (a : Addr) (o : Obj), o.cls = .type "tuple" → (a, o) ∈ _ → a ∉ [D] := fun a o hc hm => by
        obtain ⟨oD, _, _, kD, hcD, -⟩ := hD'.mono fun a o _ k => k.sub (Ev.of (sb _))
        rw [List.mem_singleton]
        exact Kn.ne F8 N8 (Kn.in hm (it_no hc (by decide))) kD (by rw [hc, hcD.1]; intro q; injection q with q; exact absurd q (by decide))
      have tT := TupP.monoC (P' := fun a o => (a, o) ∈ l9) (prog := prg) (w := w) (tup3 (P := fun a o => (a, o) ∈ _) List.mem_cons_self) (fun a o hc hm => e9 _ hm (tne _ _ hc hm) (it_no hc (by decide)))
      have tE := fun e he => TupP.monoC (P' := fun a o => (a, o) ∈ l9) (hTD' e he) (fun a o hc hm => e9 _ (sb _ _ hm) (tne _ _ hc (sb _ _ hm)) (it_no hc (by decide)))
      clear F8
      refine wpAny_execs_nil ⟨rfl, _, _, _, _, rfl, F9, N9, fun p hp hn i => e9 p (sb _ p hp) hn i, (KeepIt.of (sb _)).trans k9, o9 _ (ow₂.ev (Ev.of (sb _))), by walk_at "m.look", by walk_at "m.look", by walk_at "m.look", _, x9, fun x hx => ?_, ?_⟩
      · rcases mem_storedH hx with ⟨z, hz, e1, e2⟩ | ⟨e1, e2⟩
        · rw [e1, e2]; exact tE z hz
        · rw [e1, e2]; exact tT
      · rw [map_storedH, hx']; rfl
    · intro h' tk gens' m' l' F' N' ⟨m1', m2', m3', xs', hD', hTD', hx'⟩ bare' ev ki ow'
      refine wpAny_execs_nil ⟨_, _, _, _, _, rfl, bare', F', N', ki, m1', m2', m3', ow', xs', hD', hTD', ?_⟩
      rw [hx', List.take_succ_eq_append_getElem hi', lostKeys_snoc, ← hx, hpa, hpb]
  · intro h' tk gs m' l' bare' F' N' hK hI9
    refine qA1 _ _ ?_
    clear qA1
    obtain ⟨m1, m2, m3, ow, xs, hD, hTD, hx⟩ := hI9
    clear F N
    k_steps
    refine hR _ _ _ D l' xs F'.keep (Led.of N') bare' (hD.inL N' ow hTD) lD ?_
    rw [hx, show (List.map (fun e => Value.ref e.2) les).toArray.size = ps.length by simp [hlen], List.take_length]
end
theorem TupL.mono {w : World} {P P' : Addr → Obj → Prop} {D : Addr} {ks : List (List Int)} (x : TupL w P D ks) (h : ∀ a o, It o = false → P a o → P' a o) : TupL w P' D ks := by
  obtain ⟨es, a, b, c⟩ := x
  exact ⟨es, a.mono h, fun e he => (b e he).mono h, c⟩
section
variable {w : World} {A₀ : Around} {s : Shared} {base h₀ : Heap} {outer : List Env} {L : Addr} {m mg mb : Str → Option Value} {mean : ExcName → Option Value} {env : Env} {l : List (Addr × Obj)} {Q E : Value → Shared → Prop} {fr sc lo : Addr} {ac dn : Int}
theorem lost_at (B : Below A₀ base outer h₀) (F : Fr h₀ L s.heap m) (X : (hd.heap_1 w.params).In h₀) (T : Top pp (looseW pp []) mean mg mb h₀) (N : News h₀ L s.heap l) (hf : env.frame = some L) (hk : env.scope.kind = .function) (hh : A₀.handled = none) (hd : A₀.depth + 1 + 24 < recursionLimit) (hu : A₀.units + 3 + 500 < cLine) (hfr : FrmP w (fun a o => h₀.get? a = some o) fr ac dn) (hsc : ScanP w (fun a o => h₀.get? a = some o) sc) (h1 : 1 ≤ ac) (h2 : ac ≤ 5) (h3 : 1 ≤ dn) (h4 : dn ≤ 4)
    {ps : List (Int × Int)} (hl : TupL w (Kn h₀ l) lo (ps.map fun p => [p.1, p.2])) (hps : ∀ p ∈ ps, 0 ≤ p.1 ∧ p.1 ≤ 100 ∧ 0 ≤ p.2 ∧ p.2 ≤ 100) (hpl : ps.length ≤ 100) (bare : AllBare s.gens)
    (hQ : ∀ h' tk gs D ln xs, Fr h₀ L h' m → News h₀ L h' (ln ++ l) → AllBare gs → DictP prg w (fun a o => (a, o) ∈ ln) D xs → (D == sysModules) = false → xs.map (·.1) = lostKeys ac ps → Q (.ref D) { s with heap := h', toks := tk, gens := gs }) :
    wpAny (model prg w) (A₀.deeper env) (call (.ref 61) [.ref fr, .ref sc, .ref lo]) Q E s := by
  obtain ⟨g, ok, hs, -, hg, h0, hall, lk, k1, k2, k3⟩ := site B F X T N [] (fun _ h => nomatch h) hf hk hh
  refine wpAny_call (lost_spec ok hs hd hu (hfr.mono fun a o _ k => h0 a o k) (hsc.mono fun a o _ k => h0 a o k) h1 h2 h3 h4 (hl.mono fun a o _ k => k.1.elim (h0 a o) fun hm => hg _ hm (by simp)) hps hpl bare fun h' tk gs D ln xs keep led bg hD lD hx => ?_)
  obtain ⟨F', N'⟩ := k3 h' _ keep led
  refine hQ h' tk gs D ln xs F' (fun p hp => N' p ?_) bg hD lD hx
  rcases List.mem_append.mp hp with hp | hp
  · exact List.mem_append_left _ hp
  · exact List.mem_append_right _ (k1 p hp (by simp))
end
end
theorem calm12 : True := by (w_top off); first | walk1 | trivial
section
theorem word55 : True := by
  k_with_none
  trivial
theorem word56 : True := by
  k_with "m.enter" => ((rename Around => A9); cases A9; (have hh9 := Ok.hh (by assumption)); (dsimp only at hh9); subst hh9; (rename _ + _ < recursionLimit => hd9); (dsimp only at hd9); (try ((rename _ + _ < cLine => hu9); (dsimp only at hu9))); refine' enter (by assumption) (by assumption) ?k3 ?k6 ?k7 ?k8 ?k9 ?kB ?_ ?c5 ?c2 ?c3 ?c4; (case k3 => first | assumption | exact Led.nil); (case k6 => k_dflt k_is); (case k7 => k_dflt k_is); (case k8 => dsimp only; omega); (case k9 => exact BindsTo.of_eq rfl); (case c5 => decide); (case kB => exact locs rfl); (case c2 => exact rfl); (case c3 => exact rfl); (case c4 => exact rfl); k_whole; intro _ _ _ _ _ _ _ _ _ _ _ _ _; (have hst9 := Below.stack (by assumption)); (dsimp only at hst9); subst hst9; (try dsimp only); (try k_fold))
  trivial
theorem word57 : True := by
  k_with "m.look" => first | assumption | exact if_pos rfl | (refine Eq.trans (if_neg (by decide)) ?_; walk_at "m.look")
  trivial
theorem word58 : True := by
  k_with "eval Name" => (k_dflt (refine' nameX_L ?xF ?xv ?_ ?xa ?xb; (case xF => k_asm); (case xa => rfl); (case xb => rfl); (case xv => walk_at "m.look"); k_whole))
  trivial
theorem word59 : True := by
  k_with "m.enterC" => ((rename Around => A9); cases A9; (have hh9 := Ok.hh (by assumption)); (dsimp only at hh9); subst hh9; (rename _ + _ < recursionLimit => hd9); (dsimp only at hd9); (try ((rename _ + _ < cLine => hu9); (dsimp only at hu9))); refine' enterC (by assumption) (by assumption) ?k3 ?k6 ?k7 ?k8 ?k9 ?kB ?kN ?_ ?c2 ?c3 ?c4; (case k3 => first | assumption | exact Led.nil); (case k6 => k_dflt k_is); (case k7 => k_dflt k_is); (case k8 => dsimp only; omega); (case k9 => exact BindsTo.of_eq rfl); (case kB => exact rfl); (case kN => decide); (case c2 => exact rfl); (case c3 => exact rfl); (case c4 => exact rfl); k_whole; intro _ _ _ _ _ _ _ _ _ _ _ _ _ _ _ _; (have hst9 := Below.stack (by assumption)); (dsimp only at hst9); subst hst9; (try dsimp only); (try k_fold))
  trivial
/-- what the cells of its rows hold, each by its place -/
noncomputable def RowsF (P : Addr → Obj → Prop) (rs : List Addr) (ac dn : Int) (f : Nat → Nat → Option (List Int)) : Prop :=
  rs.Nodup ∧ (rs.length : Int) = dn ∧ ∀ (y : Nat) r, rs[y]? = some r → ∃ cs, ListP P r cs ∧ (cs.length : Int) = ac ∧ ∀ (x : Nat) v, cs[x]? = some v → CellP P rs v (f x y)
theorem RowsF.cell {P : Addr → Obj → Prop} {rs : List Addr} {ac dn : Int} {f : Nat → Nat → Option (List Int)} {x y : Nat} {ns : List Int} (R : RowsF P rs ac dn f) (hy : (y : Int) < dn) (hx : (x : Int) < ac) (hf : f x y = some ns) :
    ∃ r cs a vs, rs[y]? = some r ∧ ListP P r cs ∧ cs[x]? = some (.ref a) ∧ ListP P a vs ∧ IntsAre vs ns ∧ a ∉ rs := by
  obtain ⟨nd, hlen, k⟩ := R
  have hy0 : y < rs.length := by omega
  obtain ⟨cs, hc, hl, hcell⟩ := k y rs[y] (List.getElem?_eq_getElem hy0)
  have hx0 : x < cs.length := by omega
  have := hcell x cs[x] (List.getElem?_eq_getElem hx0)
  rw [hf] at this
  obtain ⟨a, vs, e, ha, hi, hn⟩ := this
  exact ⟨rs[y], cs, a, vs, List.getElem?_eq_getElem hy0, hc, by rw [List.getElem?_eq_getElem hx0, e], ha, hi, hn⟩
theorem RowsF.mono {P P' : Addr → Obj → Prop} {rs : List Addr} {ac dn : Int} {f : Nat → Nat → Option (List Int)} (x : RowsF P rs ac dn f) (h : ∀ a o, o.cls = .type "list" → P a o → P' a o) : RowsF P' rs ac dn f := by
  obtain ⟨n, z, k⟩ := x
  refine ⟨n, z, fun y r hr => ?_⟩
  obtain ⟨cs, hc, hl, hx⟩ := k y r hr
  exact ⟨cs, hc.monoA fun o c k => h _ o c k, hl, fun x v h1 => (hx x v h1).mono fun a o _ hc => h a o hc⟩
section
variable {w : World} {A₀ : Around} {s : Shared} {base h₀ : Heap} {outer : List Env} {L : Addr} {m mg mb : Str → Option Value} {mean : ExcName → Option Value} {env : Env} {l : List (Addr × Obj)} {Q E : Value → Shared → Prop}
theorem rounded_mean_at (B : Below A₀ base outer h₀) (F : Fr h₀ L s.heap m) (X : (hd.heap_1 w.params).In h₀) (T : Top pp (looseW pp []) mean mg mb h₀) (N : News h₀ L s.heap l) (hf : env.frame = some L) (hk : env.scope.kind = .function) (hh : A₀.handled = none) (hd : A₀.depth + 1 + 5 < recursionLimit) (hu : A₀.units + 3 + 100 < cLine)
    {a : Addr} {vs : List Value} {ns : List Int} (hl : ListP (Kn h₀ l) a vs) (hi : IntsAre vs ns) (h0 : 0 < ns.length) (h4 : ns.length ≤ 4) (hb : ∀ n ∈ ns, -100 ≤ n ∧ n ≤ 100)
    (hQ : ∀ h' tk t1, Fr h₀ L h' m → News h₀ L h' l → Q (.int (rnd ns.sum ns.length) t1) { s with heap := h', toks := tk }) :
    wpAny (model prg w) (A₀.deeper env) (call (.ref 75) [.ref a]) Q E s :=
  ro_at (Post := fun v ln => ∃ t1, v = .int (rnd ns.sum ns.length) t1 ∧ ln = []) B F X T N hf hk hh (fun g ok hs kn R hR => rounded_mean_spec ok hs hd hu (let ⟨o, n, k, hc, hd, _⟩ := hl; ⟨o, kn _ _ k.1, hc, n, hd⟩) hi h0 h4 hb fun h' tk t1 keep => hR h' tk _ [] keep Led.nil ⟨t1, rfl, rfl⟩)
   (by rintro h' tk v ln ⟨t1, rfl, rfl⟩ F' N' _; exact hQ h' tk t1 F' N')
end
section
variable {prog : Program} {w : World} {A : Around} {E : Value → Shared → Prop} {s s₁ : Shared} {h₀ : Heap} {L : Addr} {m : Str → Option Value} {env : Env}
theorem nameCE {M : Model} {scope : Scope} {cl : List (Str × Addr)} {C c : Addr} {o : Obj} {x : Str} {pos : Pos} {v : Value} {news : List (Addr × Obj)} {Q : Value → Shared → Prop} (N : News h₀ L s.heap news) (hm : (c, o) ∈ news) (hd : o.data = .cell (some v)) (h : Q v s)
    (hk : (compEnvC scope cl C env).scope.kind = .function) (hx : (compEnvC scope cl C env).kindOf x = some .cell) (hc : cl.lookup x = some c) (hb : (x == ("__debug__" : Str)) = false := by decide) :
    wpAny M A (eval (.Name x pos) (compEnvC scope cl C env)) Q E s := wpAny_Name (wpAny_loadName_cell hk hx hc ⟨o, N.get hm, hd⟩ h) hb
theorem CoAt.tup3 {x y z : Str} {px py pz pt : Pos} {kk : Nat} {tst : Option PySem.Expr} {elt : PySem.Expr} {scope : Scope} {cl : List (Str × Addr)} {xv : Value} {n : Nat} {P : Nat → Value → Heap → Prop} {srcs : List (Addr × Obj)} {l : List (Addr × Obj)} {J : Nat → List Value → (Addr → Obj → Prop) → Prop} {vx vy vz : Nat → Value → Prop}
  (hh : A.handled = none) (hxy : x ≠ y) (hxz : x ≠ z) (hyz : y ≠ z)
  (S : Sr prog w A (.Tuple [.Name x px, .Name y py, .Name z pz] kk pt) xv n P srcs s₁) (hn : n ≤ sizeLine) (F : Fr h₀ L s₁.heap m) (N : News h₀ L s₁.heap l)
  (tup : ∀ i v h, i < n → P i v h → ∃ T a b c, v = .ref T ∧ IsTup h₀ T #[a, b, c] ∧ vx i a ∧ vy i b ∧ vz i c)
  (src : ∀ q ∈ srcs, Kn h₀ l q.1 q.2) (mono : ∀ i ys P P', (∀ a o, P a o → P' a o) → J i ys P → J i ys P') (j0 : J 0 [] (Kn h₀ l))
  (turn : ∀ i a b c ys l₁ h₁ tk₁ C oC m₂ D (E' : Value → Shared → Prop), i < n → vx i a → vy i b → vz i c → m₂ x = some a → m₂ y = some b → m₂ z = some c → J i ys (Kx h₀ ((C, oC) :: (D, lst ys) :: l₁) C D) → Ev l l₁ [] → (∀ p ∈ l, p.1 ≠ C ∧ p.1 ≠ D) → NsObj oC m₂ → Fr h₀ L h₁ m → News h₀ L h₁ ((C, oC) :: (D, lst ys) :: l₁) →
    CTurn prog w A (compEnvC scope cl C env) tst elt (fun y => TEnd h₀ L m { s₁ with heap := h₁, toks := tk₁ } ((C, oC) :: (D, lst ys) :: l₁) C D (J (i + 1) (ys ++ [y])))
      (TEnd h₀ L m { s₁ with heap := h₁, toks := tk₁ } ((C, oC) :: (D, lst ys) :: l₁) C D (J (i + 1) ys)) E' { s₁ with heap := h₁, toks := tk₁ })
  (kx : ∀ C, (compEnvC scope cl C env).kindOf x = some .local := by intro _; rfl) (ky : ∀ C, (compEnvC scope cl C env).kindOf y = some .local := by intro _; rfl) (kz : ∀ C, (compEnvC scope cl C env).kindOf z = some .local := by intro _; rfl) (hk : ∀ C, ((compEnvC scope cl C env).scope.kind == .class || ((compEnvC scope cl C env).scope.kind == .module && (compEnvC scope cl C env).locals != (compEnvC scope cl C env).globals)) = false := by intro _; rfl) :
    CoAt prog w A h₀ L m env (.Tuple [.Name x px, .Name y py, .Name z pz] kk pt) tst elt scope cl xv n P srcs (fun i v m' => ∃ a b c, vx i a ∧ vy i b ∧ vz i c ∧ m' x = some a ∧ m' y = some b ∧ m' z = some c) l J s₁ where
  S := S
  hn := hn
  hL := fun hm => by obtain ⟨q, hq, e⟩ := List.mem_map.mp hm; exact (src q hq).neL F N e
  F := F
  N := N
  src := src
  mono := mono
  j0 := j0
  asg := by
    intro C m₁ i v s Q E l₁ hi hP _ _ hsub hns hQ
    obtain ⟨T, a, b, c, rfl, ⟨o, ho, hc, k, hd⟩, h1, h2, h3⟩ := tup i v _ hi hP
    have ht : s.heap.IsTuple T #[a, b, c] := ⟨o, hsub _ _ ho, hc, k, hd⟩
    refine wpAny_assign_Tuple hh ht rfl rfl fun h' ext => ?_
    have hC : C ≠ s.heap.objs.size := Nat.ne_of_lt hns.lt
    have up : ∀ b o, b ≠ C → s.heap.get? b = some o → h'.get? b = some o := fun b o _ e => ext b o (Nat.ne_of_lt (Heap.lt_size e)) e
    refine wpAny_assignInOrder_more (wpAny_assign_Name (wpAny_storeName_local (kx C) (hns.at' fun o e => ext _ o hC e) (fun h₂ n₂ s₂ => ?_) (hk C)))
    refine wpAny_assignInOrder_more (wpAny_assign_Name (wpAny_storeName_local (ky C) n₂ (fun h₃ n₃ s₃ => ?_) (hk C)))
    refine wpAny_assignInOrder_more (wpAny_assign_Name (wpAny_storeName_local (kz C) n₃ (fun h₄ n₄ s₄ => ?_) (hk C)))
    refine wpAny_assignInOrder_none (hQ h₄ _ _ ⟨a, b, c, h1, h2, h3, ?_, ?_, ?_⟩ n₄ fun b o hb e => s₄.extBut b o hb (s₃.extBut b o hb (s₂.extBut b o hb (up b o hb e))))
    · exact (if_neg hxz).trans ((if_neg hxy).trans (if_pos rfl))
    · exact (if_neg hyz).trans (if_pos rfl)
    · exact if_pos rfl
  turn := fun i v ys l₁ h₁ tk₁ C oC m₂ D E' hi ⟨a, b, c, h1, h2, h3, e1, e2, e3⟩ => turn i a b c ys l₁ h₁ tk₁ C oC m₂ D E' hi h1 h2 h3 e1 e2 e3
end
theorem word60 : True := by
  k_with "eval Name" => (k_dflt (refine' nameCE ?N ?hm ?hd ?_ ?a ?b ?c; (case a => rfl); (case b => rfl); (case c => rfl); (case N => k_asm); (case hm => (repeat (first | assumption | apply List.mem_cons_of_mem))); (case hd => assumption); k_whole))
  trivial
theorem word61 : True := by
  k_with "subscriptTail" => (k_dflt (refine' subB ?k1 ?k2 ?k3 ?k4 ?k5 ?_; (case k1 => k_asm); (case k2 => k_asm); (case k3 => omega); (case k4 => omega); (case k5 => k_asm); k_whole))
  trivial
theorem word62 : True := by
  k_with "call ref" => ((with_reducible show wpAny _ _ (call (Value.ref 75) _) _ _ _); k_dflt (refine' rounded_mean_at ?k1 ?k2 ?k3 ?k4 ?k5 rfl rfl rfl ?kd ?ku ?ka ?kb ?kc ?ke ?kf ?_; (case k1 => k_asm); (case k2 => k_asm); (case k3 => k_asm); (case k4 => k_asm); (case k5 => k_asm); (case kd => dsimp only; omega); (case ku => dsimp only; omega); (case ka => k_asm); (case kb => k_asm); (case kc => k_asm); (case ke => k_asm); (case kf => k_asm); k_whole; intro _ _ _ _ _))
  trivial
section
variable {w : World} {A : Around} {s : Shared} {g : Heap} {R : Result → Shared → Prop} {gr sd : Addr} {rs : List Addr} {ac dn : Int} {f : Nat → Nat → Option (List Int)}
theorem smooth_row_spec (ok : Ok w A g) (hs : Sub g s.heap) (hd : A.depth + 7 < recursionLimit) (hu : A.units + 140 < cLine) (hG : GridT w (fun a o => g.get? a = some o) gr rs) (hRw : RowsF (fun a o => g.get? a = some o) rs ac dn f) (h2 : ac ≤ 5) (h4 : dn ≤ 4)
    {ps : List (Nat × Nat)} (hsd : TupL w (fun a o => g.get? a = some o) sd (ps.map fun p => [0, (p.1 : Int), (p.2 : Int)])) {dv : Nat → Nat → Int} (hps : ∀ p ∈ ps, (p.1 : Int) < ac ∧ (p.2 : Int) < dn ∧ -100 ≤ dv p.1 p.2 ∧ dv p.1 p.2 ≤ 100 ∧ ∃ r, f p.1 p.2 = some (dv p.1 p.2 :: r)) (h0 : 0 < ps.length) (hp4 : ps.length ≤ 4) {t1 : Tok}
    (hR : ∀ h' tk D vs ln, (∀ b o, g.get? b = some o → h'.get? b = some o) → Led g h' ln → ListP (fun a o => (a, o) ∈ ln) D vs → IntsAre vs [rnd (ps.map fun p => dv p.1 p.2).sum ps.length, 0, 0, 0] → R (.ok (.ret (.ref D))) {s with heap := h', toks := tk}) :
    codeAny (model prg w) A (.call (.ref 80) ⟨[.ref gr, .ref sd, .int 4 t1], []⟩) R s := by
  refine hideGoal fun hG1 hE1 => ?_
  obtain ⟨es, hD, hT, hk⟩ := hsd
  refine hE1 ?_
  clear hE1
  walk_at "m.enterC"
  rename Fr _ _ _ _ => F
  rename CellsAre _ _ _ => Y
  rename News _ _ _ _ => N
  obtain ⟨cO, eC, dC⟩ := PyProof.Rows.CellsAre.one (n := Str.ofString "grid") Y
  subst eC
  have dC : cO.data = .cell (some (.ref gr)) := dC
  have F0 : Fr g _ _ (fun y => if y = Str.ofString "many" then some (.int 4 t1) else if y = Str.ofString "sides" then some (.ref sd) else none) := F
  clear F Y
  repeat' (fail_if_success (with_reducible show wpAny _ _ (eval (PySem.Expr.ListComp ..) _) _ _ _)); walk1
  rename Fr _ _ _ _ => F
  rename News _ _ _ _ => N
  refine hideGoal fun hG2 hE2 => ?_
  obtain ⟨oD, nD, pD, cD, dD, ddD⟩ := hD
  refine hE2 ?_
  clear hE2
  have hlen : es.length = ps.length := by have := congrArg List.length hk; simpa using this
  refine hideQ fun QB1 qB1 => ?_
  refine comp_at F (tst := none) (cl := [(Str.ofString "grid", _)]) rfl (by decide) rfl (by decide) ?_ (fun _ => rfl)
  repeat' (fail_if_success (with_reducible show ∃ _, _)); walk1
  refine ⟨_, _, _, _, _, fun i ys _ => IntsAre ys ((ps.take i).map fun p => dv p.1 p.2), CoAt.tup3 (vx := fun _ v => ∃ t, v = .int 0 t) (vy := fun i v => ∃ p t, ps[i]? = some p ∧ v = .int (p.1 : Int) t) (vz := fun i v => ∃ p t, ps[i]? = some p ∧ v = .int (p.2 : Int) t) rfl (by decide) (by decide) (by decide) (Sr.list (n := nD) rfl (F.keep _ _ pD) cD dD) (by simp only [List.size_toArray, List.length_map]; rw [hlen, sizeLine_eq]; omega) F N ?_ ?_ ?_ ?_ ?_, ?_⟩
  · intro i v h hi hP
    have hi' : i < es.length := by simpa using hi
    have hip : i < ps.length := hlen ▸ hi'
    have ev : (es.map fun e => Value.ref e.2).toArray[i]? = some (.ref es[i].2) := by simp [hi']
    rw [ev] at hP
    have hki : es[i].1 = [0, (ps[i].1 : Int), (ps[i].2 : Int)] := by
      have := congrArg (fun l => l[i]?) hk
      simpa [hi', hip] using this
    have hTi := hT _ (List.getElem_mem hi')
    rw [hki] at hTi
    obtain ⟨u1, u2, u3, o, n, p, c, d⟩ := hTi.three
    exact ⟨_, _, _, _, (Option.some.inj hP).symm, ⟨o, p, c, n, d⟩, ⟨_, rfl⟩, ⟨_, _, List.getElem?_eq_getElem hip, rfl⟩, ⟨_, _, List.getElem?_eq_getElem hip, rfl⟩⟩
  · intro q hq; rw [List.mem_singleton.mp hq]; exact .base pD (ListP.it cD)
  · exact fun _ _ _ _ _ h => h
  · exact .nil
  · intro i a b c ys l₁ h₁ tk₁ C oC m₂ D E' hi hvx hvy hvz hma hmb hmc hJ hev hoff hoC F₁ N₁
    show wpAny _ _ _ _ _ _
    obtain ⟨ta, rfl⟩ := hvx
    obtain ⟨p, tb, hp, rfl⟩ := hvy
    obtain ⟨p', tc, hp', rfl⟩ := hvz
    rw [hp] at hp'
    obtain rfl := Option.some.inj hp'
    refine hideGoal fun hG3 hE3 => ?_
    obtain ⟨b1, b2, b3, b4, rr, hf⟩ := hps p (List.mem_of_getElem? hp)
    obtain ⟨r, cs, a, vs, hr, hc, hv, ha, hi, hn⟩ := hRw.cell (x := p.1) (y := p.2) b2 b1 hf
    obtain ⟨td, vs', rfl, hi'⟩ := hi.cons_inv
    obtain ⟨gd, pl, p0, ts, p1, p2, p3, p4, q1, q2⟩ := id hG
    refine hE3 ?_
    clear hE3
    have hcl : (_, cO) ∈ l₁ := hev _ List.mem_cons_self List.not_mem_nil (it_cell dC)
    clear F N
    repeat' (fail_if_success (with_reducible show wpAny _ _ (call (Value.ref 200) _) _ _ _)); walk1
    refine get_at (by k_asm) (by k_asm) (by k_asm) (by k_asm) (by k_asm) rfl rfl rfl (by dsimp only; omega) (by dsimp only; omega) (hG.mono fun a o _ i k => Kn.base k i) (by omega) (by omega) (by omega) (by omega) (r := r) (a := a) (cs := cs) (by simpa using hr) (hc.mono fun a o i k => Kn.base k i) (by simpa using hv) fun h' tk' F' N' => ?_
    have e0 : (Value.int (dv p.1 p.2) td :: vs')[(0 : Int).toNat]? = some (Value.int (dv p.1 p.2) td) := rfl
    clear F₁ N₁
    k_steps
    have hip : i < ps.length := by
      rcases Nat.lt_or_ge i ps.length with q | q
      · exact q
      · rw [List.getElem?_eq_none q] at hp; cases hp
    have hpe : ps[i] = p := by rw [List.getElem?_eq_getElem hip] at hp; exact Option.some.inj hp
    refine ⟨_, _, _, rfl, by assumption, by assumption, fun p hp => hp, ?_⟩
    rw [List.take_succ_eq_append_getElem hip, List.map_append, hpe]
    exact hJ.append (.cons _ _ .nil)
  · intro D h' tk ys l' hJ hlen' F' N' hoff hk hev
    refine qB1 _ _ ?_
    clear qB1
    rw [show (List.map (fun e => Value.ref e.2) es).toArray.size = ps.length by simp [hlen], List.take_length] at hJ
    have hys : ListP (Kn g ((D, lst ys) :: l')) D ys := ⟨lst ys, _, .in List.mem_cons_self rfl, rfl, rfl, rfl⟩
    have hpos : 0 < (ps.map fun p => dv p.1 p.2).length := by simpa using h0
    have hle4 : (ps.map fun p => dv p.1 p.2).length ≤ 4 := by simpa using hp4
    have hbd : ∀ n ∈ ps.map (fun p => dv p.1 p.2), -100 ≤ n ∧ n ≤ 100 := by
      intro n hn
      obtain ⟨p, hp, rfl⟩ := List.mem_map.mp hn
      exact ⟨(hps p hp).2.2.1, (hps p hp).2.2.2.1⟩
    clear F N
    repeat' walk1
    rename News _ _ _ _ => N9
    refine hR _ _ _ [_, _, _, _] _ (Fr.keep (by assumption)) (Led.of N9) ⟨_, 0, List.mem_cons_self, rfl, rfl, rfl⟩ ?_
    rw [List.length_map]
    exact .cons _ _ (.cons _ _ (.cons _ _ (.cons _ _ .nil)))
end
section
variable {w : World} {A₀ : Around} {s : Shared} {base h₀ : Heap} {outer : List Env} {L : Addr} {m mg mb : Str → Option Value} {mean : ExcName → Option Value} {env : Env} {l : List (Addr × Obj)} {Q E : Value → Shared → Prop} {gr sd : Addr} {rs : List Addr} {ac dn : Int} {f : Nat → Nat → Option (List Int)}
theorem smooth_row_at (B : Below A₀ base outer h₀) (F : Fr h₀ L s.heap m) (X : (hd.heap_1 w.params).In h₀) (T : Top pp (looseW pp []) mean mg mb h₀) (N : News h₀ L s.heap l) (hf : env.frame = some L) (hk : env.scope.kind = .function) (hh : A₀.handled = none) (hd : A₀.depth + 1 + 7 < recursionLimit) (hu : A₀.units + 3 + 140 < cLine)
    (hG : GridT w (Kn h₀ l) gr rs) (hRw : RowsF (Kn h₀ l) rs ac dn f) (h2 : ac ≤ 5) (h4 : dn ≤ 4)
    {ps : List (Nat × Nat)} (hsd : TupL w (Kn h₀ l) sd (ps.map fun p => [0, (p.1 : Int), (p.2 : Int)])) {dv : Nat → Nat → Int} (hps : ∀ p ∈ ps, (p.1 : Int) < ac ∧ (p.2 : Int) < dn ∧ -100 ≤ dv p.1 p.2 ∧ dv p.1 p.2 ≤ 100 ∧ ∃ r, f p.1 p.2 = some (dv p.1 p.2 :: r)) (h0 : 0 < ps.length) (hp4 : ps.length ≤ 4) {t1 : Tok}
    (hQ : ∀ h' tk D vs ln, ListP (fun a o => (a, o) ∈ ln) D vs → IntsAre vs [rnd (ps.map fun p => dv p.1 p.2).sum ps.length, 0, 0, 0] → Fr h₀ L h' m → News h₀ L h' (ln ++ l) → (∀ p ∈ ln, s.heap.get? p.1 = none) → Q (.ref D) { s with heap := h', toks := tk }) :
    wpAny (model prg w) (A₀.deeper env) (call (.ref 80) [.ref gr, .ref sd, .int 4 t1]) Q E s :=
  ro_at (Post := fun v ln => ∃ D vs, v = .ref D ∧ ListP (fun a o => (a, o) ∈ ln) D vs ∧ IntsAre vs [rnd (ps.map fun p => dv p.1 p.2).sum ps.length, 0, 0, 0]) B F X T N hf hk hh
   (fun g ok hs kn R hR => smooth_row_spec ok hs hd hu (hG.mono fun a o _ _ k => kn a o k.1) (hRw.mono fun a o _ k => kn a o k.1) h2 h4 (hsd.mono fun a o _ k => kn a o k.1) hps h0 hp4 fun h' tk D vs ln keep led a b => hR h' tk _ ln keep led ⟨D, vs, rfl, a, b⟩)
   (by rintro h' tk v ln ⟨D, vs, rfl, a, b⟩ F' N' hn; exact hQ h' tk D vs ln a b F' N' hn)
end
end
theorem calm13 : True := by (w_top off); first | walk1 | trivial
section
/-- all ends of a tree of questions, the questions about places below n -/
noncomputable def AllT {α : Type} (n : Nat) (P : α → Prop) : KasT α → Prop
  | .ret a => P a
  | .ask i j k => i < n ∧ j < n ∧ ∀ b, AllT n P (k b)
theorem AllT.bind {α β : Type} {n : Nat} {P : α → Prop} {Q : β → Prop} {f : α → KasT β} (hf : ∀ a, P a → AllT n Q (f a)) : ∀ t : KasT α, AllT n P t → AllT n Q (t.bind f)
  | .ret a, h => hf a h
  | .ask _ _ k, h => ⟨h.1, h.2.1, fun b => AllT.bind hf (k b) (h.2.2 b)⟩
theorem AllT.wp {α : Type} {n : Nat} {P : α → Prop} {cmp : Nat → Nat → (Bool → Shared → Prop) → Shared → Prop} {s : Shared} {Q : α → Shared → Prop} (hc : ∀ i j (C : Bool → Shared → Prop), i < n → j < n → (∀ b, C b s) → cmp i j C s) (hQ : ∀ a, P a → Q a s) :
    ∀ t : KasT α, AllT n P t → t.kasWp cmp Q s
  | .ret a, h => hQ a h
  | .ask i j k, h => hc i j _ h.1 h.2.1 fun b => AllT.wp hc hQ (k b) (h.2.2 b)
noncomputable def PermN (n : Nat) (p : Array Nat) : Prop := p.toList.Perm (List.range n)
theorem PermN.lt {n : Nat} {p : Array Nat} (hp : PermN n p) (hn : 0 < n) (i : Nat) : p.getD i 0 < n := by
  by_cases h : i < p.size
  · have e : p.getD i 0 = p[i] := by simp [Array.getD, h]
    rw [e]
    have : p[i] ∈ p.toList := by simp
    exact List.mem_range.mp (hp.mem_iff.mp this)
  · have e : p.getD i 0 = 0 := by simp [Array.getD, h]
    rw [e]; exact hn
theorem PermN.rev {n : Nat} {p : Array Nat} (hp : PermN n p) (i j : Nat) : PermN n (kas_rev p i j) := (Array.perm_iff_toList_perm.mp (mirror_perm p i j ((j - i) / 2))).trans hp
theorem PermN.bub {n : Nat} {p : Array Nat} (hp : PermN n p) (i j : Nat) : PermN n (bubble p i j) := (Array.perm_iff_toList_perm.mp (bubble_perm p i j)).trans hp
section
variable {n : Nat} (hn : 0 < n)
include hn
theorem all_asc {p : Array Nat} (hp : PermN n p) : ∀ f k, AllT n (fun _ : Nat => True) (kas_asc p f k)
  | 0, _ => trivial
  | f + 1, k => ⟨hp.lt hn _, hp.lt hn _, fun b => by
      cases b
      · exact all_asc hp f (k + 1)
      · trivial⟩
theorem all_desc : ∀ f (p : Array Nat) k q, PermN n p → AllT n (fun r : Array Nat × Nat × Nat => PermN n r.1) (kas_desc f p k q)
  | 0, _, _, _, hp => hp
  | f + 1, p, k, q, hp => ⟨hp.lt hn _, hp.lt hn _, fun b => by
      cases b
      · refine ⟨hp.lt hn _, hp.lt hn _, fun d => ?_⟩
        cases d
        · exact all_desc f p (k + 1) (q + 1) hp
        · exact hp
      · dsimp only
        rw [if_pos rfl]
        split
        · exact all_desc f _ (k + 1) 0 (hp.rev _ _)
        · exact all_desc f p (k + 1) 0 hp⟩
theorem all_tail3 {p : Array Nat} (hp : PermN n p) (a b : Nat) : AllT n (fun r : Nat × Array Nat => PermN n r.2) (kas_tail3 a b p) := by
  unfold kas_tail3
  refine AllT.bind (P := fun _ : Nat => True) ?_ _ (all_asc hn (hp.rev _ _) _ _)
  intro m _
  exact (hp.rev _ _ : PermN n (kas_rev p 0 a))
theorem all_descPart {p : Array Nat} (hp : PermN n p) (a b : Nat) : AllT n (fun r : Nat × Array Nat => PermN n r.2) (kas_descPart a b p) :=
  AllT.bind (fun r hr => by
    split
    · exact all_tail3 hn (hr.rev _ _) _ _
    · exact all_tail3 hn hr _ _) _ (all_desc hn _ _ _ _ hp)
theorem all_count {p : Array Nat} (hp : PermN n p) (a : Nat) : AllT n (fun r : Nat × Array Nat => PermN n r.2) (kas_count a p) :=
  AllT.bind (fun r _ => by
    split
    · exact hp
    · split
      · refine ⟨hp.lt hn _, hp.lt hn _, fun b => ?_⟩
        cases b
        · exact all_descPart hn (hp.rev _ _) _ _
        · exact hp
      · exact all_descPart hn hp _ _) _ (all_asc hn hp _ _)
theorem all_place {p : Array Nat} (hp : PermN n p) (k : Nat) : ∀ f l r, AllT n (fun _ : Nat => True) (kas_place p k f l r)
  | 0, _, _ => trivial
  | f + 1, l, r => by
    unfold kas_place
    split
    · trivial
    · refine ⟨hp.lt hn _, hp.lt hn _, fun b => ?_⟩
      cases b
      · exact all_place hp k f _ _
      · exact all_place hp k f _ _
theorem all_bin : ∀ f (p : Array Nat) k, PermN n p → AllT n (fun r : Array Nat => PermN n r) (kas_bin f p k)
  | 0, _, _, hp => hp
  | f + 1, p, k, hp => AllT.bind (fun l _ => all_bin f _ (k + 1) (hp.bub _ _)) _ (all_place hn hp _ _ _ _)
theorem all_sort : AllT n (fun r : Array Nat => PermN n r) (kas_sort n) :=
  AllT.bind (fun r hr => by
    split
    · exact all_bin hn _ _ _ hr
    · exact hr) _ (all_count hn (List.Perm.refl _) _)
end
theorem PermN.map {n : Nat} {p : Array Nat} (hp : PermN n p) {vs : List Value} (hv : vs.length = n) : (p.toList.map fun i => vs.getD i Value.none).Perm vs := by
  have e : (List.range n).map (fun i => vs.getD i Value.none) = vs := by
    apply List.ext_getElem?
    intro i
    by_cases h : i < n
    · have h' : i < vs.length := hv ▸ h
      simp [h, h']
    · rw [List.getElem?_eq_none (by simpa using Nat.le_of_not_lt h), List.getElem?_eq_none (by rw [hv]; exact Nat.le_of_not_lt h)]
  have := List.Perm.map (fun i => vs.getD i Value.none) hp
  rw [e] at this
  exact this

/-- the empty list behind a list's update, while it is sorted -/
theorem sort_small {prog : Program} {w : World} {A : Around} {E : Value → Shared → Prop} {s : Shared} {h₀ : Heap} {L D : Addr} {m : Str → Option Value} {news : List (Addr × Obj)} {vs : List Value} {n : Nat} {Q : Value → Shared → Prop} (F : Fr h₀ L s.heap m) (N : News h₀ L s.heap ((D, listOf vs.toArray n) :: news)) (hna : ∀ p ∈ news, p.1 ≠ D) (h2 : vs.length < 2)
    (hQ : ∀ h' tk c, Fr h₀ L h' m → News h₀ L h' ((D, listOf vs.toArray c) :: news) → Q .none { s with heap := h', toks := tk }) :
    wpAny (model prog w) A (call (.builtin "list.sort") [.ref D]) Q E s := by
  have nz := N (D, listOf vs.toArray n) List.mem_cons_self
  have ho : s.heap.get? D = some (seqObj "list" vs.toArray n) := nz.1
  have ha : D < s.heap.objs.size := Heap.lt_size ho
  refine wpAny_call_entry slot_list_sort ⟨_, nz.1, rfl⟩ entry_list_sort ?_ (args_list_sort _)
  rw [list_sort_plain]
  have hsz : vs.toArray.size = vs.length := by simp
  refine wpAny_bind (listItems_at ho rfl ?_)
  refine wpAny_bind (listUpdate_at ho rfl ?_ (by rw [List.size_toArray, sizeLine_eq]; omega) (Nat.zero_le _))
  obtain ⟨e1, ho1⟩ : ∃ e1, (s.heap.update D (Obj.mapSeq fun _ => #[])).get? D = some (seqObj "list" #[] e1) := ⟨_, get?_update_seq ho (fun _ => #[])⟩
  refine wpAny_bind (seqEpoch_at ho1 rfl ?_)
  refine wpAny_bind (wpAny_newTuple ?_ (by show vs.length ≤ _; rw [sizeLine_eq]; omega))
  refine wpAny_bind (wpAny_newList ?_ (Nat.zero_le _))
  refine wpAny_holding ?_
  have ho6 : (((s.heap.update D (Obj.mapSeq fun _ => #[])).push (seqObj "tuple" vs.toArray 0)).push (seqObj "list" #[] 0)).get? D = some (seqObj "list" #[] e1) := by
    rw [Heap.get?_push_ne _ _ _ (by rw [size_push', Heap.size_update]; exact Nat.ne_of_lt (Nat.lt_succ_of_lt ha)), Heap.get?_push_ne _ _ _ (by rw [Heap.size_update]; exact Nat.ne_of_lt ha)]
    exact ho1
  show wpAny (model prog w) _ _ _ E { s with heap := ((s.heap.update D (Obj.mapSeq fun _ => #[])).push (seqObj "tuple" vs.toArray 0)).push (seqObj "list" #[] 0) }
  dsimp only
  rw [if_pos (by rw [hsz]; exact h2), if_pos (by rw [hsz]; exact h2)]
  refine wpAny_bind (wpAny_pure ?_)
  rw [StateT.run_pure]
  refine wpAny_bind (wpAny_pure ?_)
  dsimp only
  refine wpAny_bind (seqEpoch_at ho6 rfl ?_)
  have hout : (arrOf (SortSt.mk' general' (vs.toArray.zip vs.toArray) #[] 7 none)).map (·.2) = vs.toArray := by
    show (vs.toArray.zip vs.toArray).map (·.2) = vs.toArray
    apply Array.toList_inj.mp
    simp only [Array.toList_map, Array.toList_zip]
    exact List.map_snd_zip (Nat.le_refl _)
  rw [hout]
  refine wpAny_bind (listUpdate_at ho6 rfl ?_ (Nat.zero_le _) (by rw [hsz, sizeLine_eq]; omega))
  have hb : (e1 != e1) = false := by simp
  rw [hb, if_neg Bool.false_ne_true]
  have s1 := Heap.SameBut.update s.heap D (Obj.mapSeq fun _ => (#[] : Array Value))
  have s2 := Heap.SameBut.update (((s.heap.update D (Obj.mapSeq fun _ => #[])).push (seqObj "tuple" vs.toArray 0)).push (seqObj "list" #[] 0)) D (Obj.mapSeq fun _ => vs.toArray)
  obtain ⟨c2, hc2⟩ : ∃ c2, ((((s.heap.update D (Obj.mapSeq fun _ => #[])).push (seqObj "tuple" vs.toArray 0)).push (seqObj "list" #[] 0)).update D (Obj.mapSeq fun _ => vs.toArray)).get? D = some (seqObj "list" vs.toArray c2) := ⟨_, get?_update_seq ho6 fun _ => vs.toArray⟩
  have keep : ∀ b o, b ≠ D → s.heap.get? b = some o → ((((s.heap.update D (Obj.mapSeq fun _ => #[])).push (seqObj "tuple" vs.toArray 0)).push (seqObj "list" #[] 0)).update D (Obj.mapSeq fun _ => vs.toArray)).get? b = some o := fun b o hb e =>
    s2.extBut b o hb (Heap.get?_push_of_some _ (Heap.get?_push_of_some _ (s1.extBut b o hb e)))
  refine wpAny_pure ⟨.none, rfl, hQ _ _ c2 ⟨F.ns.at' fun o e => keep _ o nz.2.1.symm e, fun b o e => keep b o (fun q => by rw [q, nz.2.2] at e; cases e) (F.keep b o e), F.above⟩ fun p hp => ?_⟩
  rcases List.mem_cons.mp hp with rfl | hp
  · exact ⟨hc2, nz.2⟩
  · exact ⟨keep _ _ (hna p hp) (N p (List.mem_cons_of_mem _ hp)).1, (N p (List.mem_cons_of_mem _ hp)).2⟩

section
variable {prog : Program} {w : World} {A : Around} {E : Value → Shared → Prop} {s : Shared} {g : Heap} {L d : Addr} {m : Str → Option Value} {l : List (Addr × Obj)} {xs : List (List Int × Addr × Value)} {Q : Value → Shared → Prop}
theorem lex_ints {b fin : Bool} {Q : Bool → Shared → Prop} (hQ : ∀ c, Q c s) : ∀ (xs ys : List Value) (a c : List Int) (i : Nat), ItemsAre (intKind prog w) a xs → ItemsAre (intKind prog w) c ys → (i = 0 → b = true) → KatLex prog w A b fin Q (xs.zip ys) i s
  | [], _, _, _, _, _, _, _ => kat_nil (hQ _)
  | _ :: _, [], _, _, _, _, _, _ => kat_nil (hQ _)
  | x :: xs, y :: ys, a, c, i, hx, hy, hb => by
    cases hx with | cons kx hx => cases hy with | cons ky hy =>
    obtain ⟨t1, rfl⟩ := intKind_is kx
    obtain ⟨t2, rfl⟩ := intKind_is ky
    refine kat_cons (wpAny_eqBool_int ?_)
    refine kat_go (fun _ => kat_yes (lex_ints hQ xs ys _ _ (i + 1) hx hy (by omega))) (fun _ => kat_no ?_)
    by_cases h0 : i = 0
    · subst h0
      rw [hb rfl]
      exact oneLt_int (hQ _)
    · have e : (b && i == 0) = false := by simp [h0]
      rw [e]
      exact kat_one _ _ (lt_int (hQ _))
theorem keys_lt {ks ks' : List Int} {a a' : Addr} {Q : Bool → Shared → Prop} (F : Fr g L s.heap m) (N : News g L s.heap l) (x : TupP prog w (Kn g l) ks a) (y : TupP prog w (Kn g l) ks' a') (hQ : ∀ c, Q c s) :
    wpAny (model prog w) A (keyLt' (tuples' true) (.ref a) (.ref a')) Q E s := by
  obtain ⟨o, it, n, p, c, d, hi⟩ := x
  obtain ⟨o', it', n', p', c', d', hi'⟩ := y
  exact kat_lt (p.get F N) d (p'.get F N) d' (lex_ints hQ _ _ _ _ 0 hi hi' fun _ => rfl)
theorem keys_kind {Q : SortKind → Shared → Prop} (F : Fr g L s.heap m) (N : News g L s.heap l) (hT : ∀ x ∈ xs, TupP prog w (Kn g l) x.1 x.2.1 ∧ x.1 ≠ []) (hne : xs ≠ []) (h : Q (tuples' true) s) :
    wpAny (model prog w) A (keyKind' (xs.map fun x => Value.ref x.2.1).toArray) Q E s := by
  have build : ∀ ys : List (List Int × Addr × Value), (∀ x ∈ ys, TupP prog w (Kn g l) x.1 x.2.1 ∧ x.1 ≠ []) → ∃ fs : List Value, fs.length = ys.length ∧ KatTups s.heap (ys.map fun x => Value.ref x.2.1) fs ∧ ∀ v ∈ fs, ∃ i t, v = .int i t := by
    intro ys
    induction ys with
    | nil => exact fun _ => ⟨[], rfl, .nil, fun _ h => nomatch h⟩
    | cons y r ih =>
      intro hy
      obtain ⟨fs, e, t, hv⟩ := ih fun x hx => hy x (List.mem_cons_of_mem _ hx)
      obtain ⟨⟨o, it, n, p, c, dt, hi⟩, hn⟩ := hy y List.mem_cons_self
      obtain ⟨its⟩ := it
      dsimp only at hi
      obtain ⟨f, r', e'⟩ : ∃ f r', its = f :: r' := by
        generalize y.1 = k at hi hn
        cases hi with
        | nil => exact absurd rfl hn
        | cons => exact ⟨_, _, rfl⟩
      subst e'
      obtain ⟨i, t', rfl⟩ : ∃ i t, f = .int i t := by
        generalize y.1 = k at hi hn
        cases hi with
        | cons k1 _ => obtain ⟨t, e⟩ := intKind_is k1; exact ⟨_, t, e⟩
      exact ⟨.int i t' :: fs, by simp [e], .cons (p.get F N) c dt rfl t, fun v hv' => by
        rcases List.mem_cons.mp hv' with rfl | hv'
        · exact ⟨_, _, rfl⟩
        · exact hv v hv'⟩
  obtain ⟨fs, e, t, hv⟩ := build xs hT
  refine kat_kind (T := .type "int") t (by rw [e]; exact List.length_pos_iff.mpr hne) (fun v hv' => ?_) rfl h
  obtain ⟨i, u, rfl⟩ := hv v hv'
  exact .now
end
end
section
section
variable {prog : Program} {w : World} {A : Around} {E : Value → Shared → Prop} {s : Shared} {g : Heap} {L d : Addr} {m : Str → Option Value} {l : List (Addr × Obj)} {xs : List (List Int × Addr × Value)} {Q : Value → Shared → Prop}
theorem perm_out {α : Type} {f : α → Value} {zs : List α} {n : Nat} {p : Array Nat} (hp : PermN n p) (hn : zs.length = n) : ∃ ys : List α, (p.toList.map fun i => (zs.map f).getD i Value.none) = ys.map f ∧ ys.Perm zs := by
  have go : ∀ ks : List Nat, (∀ k ∈ ks, k < n) → (ks.map fun i => (zs.map f).getD i Value.none) = (ks.filterMap fun i => zs[i]?).map f := by
    intro ks
    induction ks with
    | nil => intro _; rfl
    | cons k r ih =>
      intro hk
      have h1 : k < zs.length := hn ▸ hk k List.mem_cons_self
      rw [List.map_cons, ih fun x hx => hk x (List.mem_cons_of_mem _ hx), List.filterMap_cons, List.getElem?_eq_getElem h1]
      simp [h1]
  refine ⟨p.toList.filterMap fun i => zs[i]?, go _ fun k hk => List.mem_range.mp (hp.mem_iff.mp hk), ?_⟩
  have h2 := List.Perm.filterMap (fun i => zs[i]?) hp
  have h3 : (List.range n).filterMap (fun i => zs[i]?) = zs := by
    subst hn
    clear hp go h2
    induction zs with
    | nil => rfl
    | cons z r ih =>
      rw [List.length_cons, List.range_succ_eq_map, List.filterMap_cons]
      simp only [List.getElem?_cons_zero, List.filterMap_map]
      congr 1
  rw [h3] at h2
  exact h2
theorem sorted_keys (hh : A.handled = none) (F : Fr g L s.heap m) (N : News g L s.heap l) (x : DictP prog w (Kn g l) d xs) (lo : (d == sysModules) = false) (hk : ∀ x ∈ xs, x.1 ≠ []) (h64 : xs.length < 64)
    (hQ : ∀ h' tk D c (ys : List (List Int × Addr × Value)), Fr g L h' m → News g L h' ((D, listOf (ys.map fun x => Value.ref x.2.1).toArray c) :: l) → (∀ q ∈ l, q.1 ≠ D) → ys.Perm xs → Q (.ref D) { s with heap := h', toks := tk }) :
    wpAny (model prog w) A (call (.builtin "sorted") [.ref d]) Q E s := by
  obtain ⟨o, es, ep, p, ex, hd, he, ht, hn⟩ := x
  have raw : RawD s.heap d es ep := ⟨o, p.get F N, ex, hd⟩
  have hsz : es.size = xs.length := by rw [← Array.length_toList, he, List.length_map]
  refine kdu_sorted (src_raw lo) hh F N raw (by rw [hsz, sizeLine_eq]; omega) fun D h' tk vs F' N' hlt hvl hvs => ?_
  obtain rfl : vs = xs.map fun x => Value.ref x.2.1 := by
    apply List.ext_getElem?
    intro i
    by_cases hi : i < es.size
    · have h1 : i < vs.length := hvl ▸ hi
      obtain ⟨e, he1, he2⟩ := hvs i vs[i] (List.getElem?_eq_getElem h1)
      have h2 : (xs.map (entryOfKey (tupleKind (intKind prog w))))[i]? = some e := by rw [← he, Array.getElem?_toList]; exact he1
      rw [List.getElem?_map] at h2
      rw [List.getElem?_map, List.getElem?_eq_getElem h1, he2]
      cases q : xs[i]? with
      | none => rw [q] at h2; cases h2
      | some y => rw [q] at h2; rw [← Option.some.inj h2]; rfl
    · rw [List.getElem?_eq_none (by omega), List.getElem?_eq_none (by rw [List.length_map]; omega)]
  have hDl : ∀ q ∈ l, q.1 ≠ D := fun q hq => Nat.ne_of_lt (hlt q hq)
  by_cases h2 : (xs.map fun x => Value.ref x.2.1).length < 2
  · exact sort_small F' N' hDl h2 fun h₂ tk₂ c F₂ N₂ => hQ h₂ tk₂ D c xs F₂ N₂ hDl (List.Perm.refl _)
  · have h2' : 2 ≤ (xs.map fun x => Value.ref x.2.1).length := Nat.not_lt.mp h2
    have hl : (xs.map fun x => Value.ref x.2.1).length = xs.length := List.length_map ..
    refine kat_lsort F' N' (.head hDl) rfl h2' (by rw [hl]; exact h64) fun e1 h₂ F₂ N₂ => ?_
    have kn : ∀ {l₂ : List (Addr × Obj)}, (∀ p ∈ l, p ∈ l₂) → ∀ x ∈ xs, TupP prog w (Kn g l₂) x.1 x.2.1 ∧ x.1 ≠ [] := fun hs x hx => ⟨(ht x hx).mono fun a o _ k => k.sub (Ev.of hs), hk x hx⟩
    have hne : xs ≠ [] := fun e => by rw [e] at h2'; simp at h2'
    refine keys_kind F₂ N₂ (kn fun p hp => List.mem_cons_of_mem _ hp) hne ?_
    rw [hl]
    have geti : ∀ i (h : i < xs.length), (xs.map fun x => Value.ref x.2.1).getD i Value.none = .ref xs[i].2.1 := fun i h => by simp [h]
    refine AllT.wp (n := xs.length) (P := PermN xs.length) (fun i j C hi hj hC => ?_) (fun p hp => ?_) _ (all_sort (List.length_pos_iff.mpr hne))
    · unfold kas_ask
      simp only [geti i hi, geti j hj]
      exact keys_lt F₂ N₂ (kn (fun p hp => List.mem_cons_of_mem _ hp) _ (List.getElem_mem hi)).1 (kn (fun p hp => List.mem_cons_of_mem _ hp) _ (List.getElem_mem hj)).1 hC
    · obtain ⟨ys, e, hp'⟩ := perm_out (f := fun x : List Int × Addr × Value => Value.ref x.2.1) hp rfl
      refine KasFin.intro F₂ N₂ (.head hDl) fun h₃ c F₃ N₃ => ?_
      dsimp only at N₃ e
      rw [e] at N₃
      exact hQ h₃ _ D c ys F₃ N₃ hDl hp'
end
end
section
open PySem PySem.W PyProof.Rows PySem.Calls PySem.Spec PyProof.Rows.LCg PySem.SeqAt
section
variable {prog : Program} {w : World} {A : Around} {E : Value → Shared → Prop} {s : Shared} {a b d : Addr} {items : Array Value}
theorem ne_nil {Q : Value → Shared → Prop} (ha : s.heap.IsList a items) (hb : s.heap.IsList b #[]) (hu : A.units < cLine) (h : Q (.bool (decide (items.size ≠ 0))) s) : wpAny (model prog w) A (compareOp .NotEq (.ref a) (.ref b)) Q E s := by
  by_cases hz : items.size = 0
  · obtain rfl : items = #[] := Array.eq_empty_of_size_eq_zero hz
    exact RcNeAt.lists (e := fun _ => true) ha hb rfl hu (fun j h1 => absurd h1 (Nat.not_lt_zero _)) prog w E Q h
  · have e : decide (items.size ≠ 0) = true := by simpa using hz
    rw [e] at h
    exact RcNeAt.lists_lengths ha hb (by simpa using hz) hu prog w E Q h
theorem eq_nil {Q : Value → Shared → Prop} (ha : s.heap.IsList a items) (hb : s.heap.IsList b #[]) (hu : A.units < cLine) (h : Q (.bool (decide (items.size = 0))) s) : wpAny (model prog w) A (compareOp .Eq (.ref a) (.ref b)) Q E s := by
  by_cases hz : items.size = 0
  · obtain rfl : items = #[] := Array.eq_empty_of_size_eq_zero hz
    exact RcAt.lists (e := fun _ => true) ha hb rfl hu (fun j h1 => absurd h1 (Nat.not_lt_zero _)) prog w E Q h
  · have e : decide (items.size = 0) = false := by simpa using hz
    rw [e] at h
    exact RcAt.lists_lengths ha hb (by simpa using hz) hu prog w E Q h
theorem len_raw {es : Array DictEntry} {ep : Nat} {Q : Value → Shared → Prop} (hd : (d == sysModules) = false) (hm : RawD s.heap d es ep) (hfit : es.size < 1000000)
    (h : ∀ t tk, Q (.int es.size t) { s with toks := tk }) : wpAny (model prog w) A (Builtin.«len» ⟨[.ref d], []⟩) (fun fin s' => ∃ r, fin = .done (.ret r) ∧ Q r s') E s := by
  obtain ⟨o, ho, hc, hdat⟩ := id hm
  unfold Builtin.«len»
  refine wpAny_bind (m := oneArg "len" _) (wpAny_pure ?_)
  refine wpAny_bind (m := callSpecial? (.ref d) (Str.ofString "__len__")) (wpAny_callSpecial?_slot (name := Str.ofString "__len__") hm.typeIs F.slot_dict_len
    (wpAny_call_entry F.slot_dict_len hm.typeIs F.entry_dict_len ?_ (F.args_dict_len_1 _)))
  show wpAny _ _ (dictSize d >>= _) _ _ s
  unfold dictSize
  refine wpAny_bind (wpAny_bind (wpAny_dictEntries ho hdat (wpAny_pure ?_)))
  show wpAny _ _ (Builtin.Dict.pendingCount d >>= _) _ _ s
  refine wpAny_bind (wpAny_pendingCount_other hd ?_)
  refine wpAny_bind (wpAny_mkInt (wpAny_pure ⟨_, rfl, ?_⟩))
  rw [Nat.add_zero]
  show wpAny _ _ _ _ _ { s with toks := s.toks + 1 }
  refine wpAny_bind (wpAny_holding (wpAny_pure ?_))
  refine wpAny_bind (wpAny_letGo ?_)
  show wpAny _ _ (if ((es.size : Nat) : Int) < 0 then _ else _) _ _ _
  rw [if_neg (by omega)]
  show wpAny _ _ (if ((es.size : Nat) : Int) ≥ 2 ^ 63 then _ else _) _ _ _
  rw [if_neg (by omega)]
  exact wpAny_bind (wpAny_mkInt (wpAny_pure ⟨_, rfl, h _ _⟩))
theorem call_len_raw {es : Array DictEntry} {ep : Nat} {Q : Value → Shared → Prop} (hd : (d == sysModules) = false) (hm : RawD s.heap d es ep) (hfit : es.size < 1000000)
    (h : ∀ t tk, Q (.int es.size t) { s with toks := tk }) : wpAny (model prog w) A (call (.builtin "len") [.ref d]) Q E s :=
  Calls.call_function_entry kind_len plain_len entry_len (args_len1 _) (len_raw hd hm hfit h)
theorem truthy_raw {es : Array DictEntry} {ep : Nat} {Q : Bool → Shared → Prop} (hd : (d == sysModules) = false) (hm : RawD s.heap d es ep) (hfit : es.size < 1000000)
    (h : ∀ tk, Q (decide (es.size ≠ 0)) { s with toks := tk }) : wpAny (model prog w) A (truthy (.ref d)) Q E s := by
  have hne : ((es.size : Int) != 0) = decide (es.size ≠ 0) := by
    by_cases z : es.size = 0
    · simp [z]
    · have : ((es.size : Int)) ≠ 0 := by omega
      simp [z]
  have key : wpAny (model prog w) A (runValue (.builtin "len" ⟨[.ref d], []⟩)) (fun r s' => ∃ t, r = .int es.size t ∧ Q (decide (es.size ≠ 0)) s') E s := by
    refine wpAny_runValue (codeAny_builtin entry_len ?_)
    rw [Around.under_plainId plain_len _]
    exact wpAny_mono (len_raw (Q := fun r s' => ∃ t, r = .int es.size t ∧ Q (decide (es.size ≠ 0)) s') hd hm hfit fun t tk => ⟨t, rfl, h tk⟩)
      (fun fin s' h' => by obtain ⟨r, rfl, hq⟩ := h'; exact hq) fun _ _ e => e
  unfold truthy
  first
    | refine wpAny_bind (wpAny_callSpecial?_none (name := Str.ofString "__bool__") hm.typeIs noBool_dict ?_)
    | refine wpAny_bind (wpAny_pure (wpAny_bind (wpAny_callSpecial?_none (name := Str.ofString "__bool__") hm.typeIs noBool_dict ?_)))
  first
    | refine wpAny_bind (wpAny_specialOf (name := Str.ofString "__len__") hm.typeIs F.slot_dict_len.lookup ?_)
    | refine wpAny_bind (wpAny_pure (wpAny_bind (wpAny_specialOf (name := Str.ofString "__len__") hm.typeIs F.slot_dict_len.lookup ?_)))
  first
    | exact wpAny_bind (wpAny_mono key (fun r s' h' => by obtain ⟨t, rfl, hq⟩ := h'; exact wpAny_pure (hne ▸ hq)) fun _ _ e => e)
    | exact wpAny_bind (wpAny_pure (wpAny_bind (wpAny_mono key (fun r s' h' => by obtain ⟨t, rfl, hq⟩ := h'; exact wpAny_pure (hne ▸ hq)) fun _ _ e => e)))
end
section
variable {prog : Program} {w : World} {A : Around} {E : Value → Shared → Prop} {s : Shared} {g : Heap} {L d a b : Addr} {m : Str → Option Value} {l : List (Addr × Obj)} {xs : List (List Int × Addr × Value)} {vs : List Value}
theorem DictP.raw (x : DictP prog w (Kn g l) d xs) (F : Fr g L s.heap m) (N : News g L s.heap l) : ∃ es ep, RawD s.heap d es ep ∧ es.size = xs.length := by
  obtain ⟨o, es, ep, p, ex, hd, he, _⟩ := x
  exact ⟨es, ep, ⟨o, p.get F N, ex, hd⟩, by rw [← Array.length_toList, he, List.length_map]⟩
theorem dtruthy {Q : Bool → Shared → Prop} (F : Fr g L s.heap m) (N : News g L s.heap l) (x : DictP prog w (Kn g l) d xs) (lo : (d == sysModules) = false) (hf : xs.length < 1000000) (h : ∀ tk, Q (decide (xs.length ≠ 0)) { s with toks := tk }) :
    wpAny (model prog w) A (truthy (.ref d)) Q E s := by
  obtain ⟨es, ep, r, e⟩ := x.raw F N
  rw [← e] at hf h
  exact truthy_raw lo r hf h
theorem dlen {Q : Value → Shared → Prop} (F : Fr g L s.heap m) (N : News g L s.heap l) (x : DictP prog w (Kn g l) d xs) (lo : (d == sysModules) = false) (hf : xs.length < 1000000) (h : ∀ t tk, Q (.int xs.length t) { s with toks := tk }) :
    wpAny (model prog w) A (call (.builtin "len") [.ref d]) Q E s := by
  obtain ⟨es, ep, r, e⟩ := x.raw F N
  rw [← e] at hf h
  exact call_len_raw lo r hf h
theorem lne_nil {Q : Value → Shared → Prop} (F : Fr g L s.heap m) (N : News g L s.heap l) (x : ListP (Kn g l) a vs) (y : ListP (Kn g l) b []) (hu : A.units < cLine) (h : Q (.bool (decide (vs ≠ []))) s) : wpAny (model prog w) A (compareOp .NotEq (.ref a) (.ref b)) Q E s := by
  refine ne_nil (x.at F N) (y.at F N) hu ?_
  have : (vs.toArray.size ≠ 0) = (vs ≠ []) := by rw [List.size_toArray]; simp
  simp only [this]
  exact h
theorem leq_nil {Q : Value → Shared → Prop} (F : Fr g L s.heap m) (N : News g L s.heap l) (x : ListP (Kn g l) a vs) (y : ListP (Kn g l) b []) (hu : A.units < cLine) (h : Q (.bool (decide (vs = []))) s) : wpAny (model prog w) A (compareOp .Eq (.ref a) (.ref b)) Q E s := by
  refine eq_nil (x.at F N) (y.at F N) hu ?_
  have : (vs.toArray.size = 0) = (vs = []) := by rw [List.size_toArray]; simp
  simp only [this]
  exact h
/-- a tuple of integers is equal to another or not -/
theorem tup_eqAt {ks ks' : List Int} {a b : Addr} (F : Fr g L s.heap m) (N : News g L s.heap l) (x : TupP prog w (Kn g l) ks a) (y : TupP prog w (Kn g l) ks' b) (hu : A.units < cLine) : EqAt A s (.ref a) (.ref b) (decide (ks = ks')) := by
  obtain ⟨o, i, n, p, c, d, hi⟩ := x
  obtain ⟨o', i', n', p', c', d', hi'⟩ := y
  have go : ∀ (prog : Program) (w : World), ItemsAre (intKind prog w) ks i.toList → ItemsAre (intKind prog w) ks' i'.toList → ∀ (E : Value → Shared → Prop) (Q : Bool → Shared → Prop), Q (decide (ks = ks')) s → wpAny (model prog w) A (eqBool (.ref a) (.ref b)) Q E s :=
    fun prog w h1 h2 E Q hq => wpAny_eqBool_tuple hu ⟨o, i, n, p.get F N, c, d, h1⟩ ⟨o', i', n', p'.get F N, c', d', h2⟩ hq
  have conv : ∀ (prog' : Program) (w' : World) {ks : List Int} {vs : List Value}, ItemsAre (intKind prog w) ks vs → ItemsAre (intKind prog' w') ks vs := by
    intro prog' w' ks vs h
    induction h with
    | nil => exact .nil
    | cons k _ ih => exact .cons k ih
  exact fun prog w E Q hq => go prog w (conv _ _ hi) (conv _ _ hi') E Q hq
theorem TupP.inj {P : Addr → Obj → Prop} {ks ks' : List Int} {a : Addr} (u : ∀ o o', P a o → P a o' → o = o') (x : TupP prog w P ks a) (y : TupP prog w P ks' a) : ks = ks' := by
  obtain ⟨o, i, n, p, c, d, hi⟩ := x
  obtain ⟨o', i', n', p', c', d', hi'⟩ := y
  obtain rfl := u _ _ p p'
  rw [d] at d'
  injection d' with d' _
  rw [d'] at hi
  exact hi.inj hi'
theorem Kn.uniq (F : Fr g L s.heap m) (N : News g L s.heap l) : ∀ o o', Kn g l a o → Kn g l a o' → o = o' := fun o o' h h' => by
  have := h.get F N
  rw [h'.get F N] at this
  exact (Option.some.inj this).symm
open Classical in
theorem lin_any (F : Fr g L s.heap m) (N : News g L s.heap l) {es : List (List Int × Addr)} {k : List Int} {t : Addr} (hT : ∀ e ∈ es, TupP prog w (Kn g l) e.1 e.2) (ht : TupP prog w (Kn g l) k t) (hu : A.units + 1 < cLine) :
    ∃ e : Value → Bool, (∀ y, y ∈ (es.map fun x => Value.ref x.2).toArray → EqAt A.in1 s y (.ref t) (e y)) ∧ (es.map fun x => Value.ref x.2).toArray.any e = decide (k ∈ es.map (·.1)) := by
  refine ⟨fun v => decide (∃ x ∈ es, v = .ref x.2 ∧ x.1 = k), fun y hy => ?_, ?_⟩
  · obtain ⟨x, hx, rfl⟩ := List.mem_map.mp (List.mem_toArray.mp hy)
    have e : decide (∃ x' ∈ es, Value.ref x.2 = .ref x'.2 ∧ x'.1 = k) = decide (x.1 = k) := by
      congr 1
      apply propext
      constructor
      · rintro ⟨x', hx', e1, e2⟩
        injection e1 with e1
        have h1 := hT x hx
        rw [e1] at h1
        rw [TupP.inj (Kn.uniq F N) h1 (hT x' hx'), e2]
      · exact fun e => ⟨x, hx, rfl, e⟩
    simp only [e]
    exact tup_eqAt F N (hT x hx) ht hu
  · rw [List.any_toArray, Bool.eq_iff_iff, List.any_eq_true, decide_eq_true_eq]
    constructor
    · rintro ⟨v, hv, e⟩
      obtain ⟨x, hx, -, e⟩ := of_decide_eq_true e
      exact List.mem_map.mpr ⟨x, hx, e⟩
    · intro h
      obtain ⟨x, hx, e⟩ := List.mem_map.mp h
      exact ⟨_, List.mem_map.mpr ⟨x, hx, rfl⟩, decide_eq_true ⟨x, hx, rfl, e⟩⟩
theorem lin {es : List (List Int × Addr)} {k : List Int} {t : Addr} {Q : Value → Shared → Prop} (F : Fr g L s.heap m) (N : News g L s.heap l) (x : ListP (Kn g l) a (es.map fun x => Value.ref x.2)) (hT : ∀ e ∈ es, TupP prog w (Kn g l) e.1 e.2) (ht : TupP prog w (Kn g l) k t) (hu : A.units + 1 < cLine)
    (h : Q (.bool (decide (k ∈ es.map (·.1)))) s) : wpAny (model prog w) A (compareOp .In (.ref t) (.ref a)) Q E s := by
  obtain ⟨e, h1, h2⟩ := lin_any (A := A) F N hT ht hu
  exact in_listAt e (x.at F N) h1 (by rw [h2]; exact h)
theorem lnotin {es : List (List Int × Addr)} {k : List Int} {t : Addr} {Q : Value → Shared → Prop} (F : Fr g L s.heap m) (N : News g L s.heap l) (x : ListP (Kn g l) a (es.map fun x => Value.ref x.2)) (hT : ∀ e ∈ es, TupP prog w (Kn g l) e.1 e.2) (ht : TupP prog w (Kn g l) k t) (hu : A.units + 1 < cLine)
    (h : Q (.bool !(decide (k ∈ es.map (·.1)))) s) : wpAny (model prog w) A (compareOp .NotIn (.ref t) (.ref a)) Q E s := by
  obtain ⟨e, h1, h2⟩ := lin_any (A := A) F N hT ht hu
  exact notIn_listAt e (x.at F N) h1 (by rw [h2]; exact h)
end
end
section
abbrev Spot := Nat × Nat
noncomputable def key (p : Spot) : List Int := [0, (p.1 : Int), (p.2 : Int)]
theorem key_inj {p q : Spot} (h : key p = key q) : p = q := by
  unfold key at h
  simp only [List.cons.injEq, and_true, true_and] at h
  obtain ⟨a, b⟩ := p; obtain ⟨c, d⟩ := q
  simp only at h
  exact Prod.ext (by simp; omega) (by simp; omega)
theorem mem_key {p : Spot} {gone : List Spot} : key p ∈ gone.map key ↔ p ∈ gone := by
  constructor
  · intro h
    obtain ⟨q, hq, e⟩ := List.mem_map.mp h
    rw [← key_inj e]; exact hq
  · exact fun h => List.mem_map_of_mem h
noncomputable def nbs (p : Spot) : List (Int × Int) := [((p.1 : Int) - 1, (p.2 : Int)), ((p.1 : Int) + 1, (p.2 : Int)), ((p.1 : Int), (p.2 : Int) - 1), ((p.1 : Int), (p.2 : Int) + 1)]
noncomputable def sideOf (ac dn : Int) (gone : List Spot) (q : Int × Int) : Option Spot := if 0 ≤ q.1 ∧ q.1 < ac ∧ 0 ≤ q.2 ∧ q.2 < dn ∧ (q.1.toNat, q.2.toNat) ∉ gone then some (q.1.toNat, q.2.toNat) else none
/-- the known sides of a block -/
noncomputable def sidesS (ac dn : Int) (gone : List Spot) (p : Spot) : List Spot := (nbs p).filterMap (sideOf ac dn gone)
theorem side_key {ac dn x y : Int} {gone : List Spot} : (if 0 ≤ x ∧ x < ac ∧ 0 ≤ y ∧ y < dn ∧ [0, x, y] ∉ gone.map key then [[0, x, y]] else []) = (sideOf ac dn gone (x, y)).toList.map key := by
  unfold sideOf
  by_cases h : 0 ≤ x ∧ x < ac ∧ 0 ≤ y ∧ y < dn
  · obtain ⟨h1, h2, h3, h4⟩ := h
    have e : [0, x, y] = key (x.toNat, y.toNat) := by
      unfold key; simp only [Int.toNat_of_nonneg h1, Int.toNat_of_nonneg h3]
    rw [e]
    simp only [mem_key, h1, h2, h3, h4, true_and]
    split <;> rfl
  · rw [if_neg (fun q => h ⟨q.1, q.2.1, q.2.2.1, q.2.2.2.1⟩), if_neg (fun q => h ⟨q.1, q.2.1, q.2.2.1, q.2.2.2.1⟩)]
    rfl
theorem sidesTo_eq {ac dn : Int} {gone : List Spot} {p : Spot} : sidesTo ac dn (gone.map key) 0 p.1 p.2 4 = (sidesS ac dn gone p).map key := by
  simp only [sidesTo_succ, sidesTo, sd, List.nil_append, Int.add_zero, side_key]
  unfold sidesS nbs
  simp only [List.filterMap_cons, List.filterMap_nil]
  have e1 : (p.1 : Int) + -1 = (p.1 : Int) - 1 := by omega
  have e2 : (p.2 : Int) + -1 = (p.2 : Int) - 1 := by omega
  rw [e1, e2]
  cases sideOf ac dn gone ((p.1 : Int) - 1, (p.2 : Int)) <;> cases sideOf ac dn gone ((p.1 : Int) + 1, (p.2 : Int)) <;> cases sideOf ac dn gone ((p.1 : Int), (p.2 : Int) - 1) <;> cases sideOf ac dn gone ((p.1 : Int), (p.2 : Int) + 1) <;> rfl
theorem sidesS_len {ac dn : Int} {gone : List Spot} {p : Spot} : (sidesS ac dn gone p).length ≤ 4 := List.length_filterMap_le _ _
theorem sidesS_in {ac dn : Int} {gone : List Spot} {p q : Spot} (h : q ∈ sidesS ac dn gone p) : (q.1 : Int) < ac ∧ (q.2 : Int) < dn ∧ q ∉ gone := by
  refine hideGoal fun hG1 hE1 => ?_
  obtain ⟨z, _, e⟩ := List.mem_filterMap.mp h
  refine hE1 ?_
  clear hE1
  unfold sideOf at e
  split at e
  · rename_i c
    obtain rfl := Option.some.inj e
    exact ⟨by simp only; omega, by simp only; omega, c.2.2.2.2⟩
  · cases e
noncomputable def In (ac dn : Int) (p : Spot) : Prop := (p.1 : Int) < ac ∧ (p.2 : Int) < dn
noncomputable def hdv (F : Spot → List Int) (p : Spot) : Int := (F p).headD 0
/-- the row of a block that is concealed -/
noncomputable def newRow (ac dn : Int) (F : Spot → List Int) (gone : List Spot) (p : Spot) : List Int := [rnd ((sidesS ac dn gone p).map (hdv F)).sum (sidesS ac dn gone p).length, 0, 0, 0]
noncomputable def stepF (ac dn : Int) (S : (Spot → List Int) × List Spot) : Spot → List Int := fun p => if p ∈ S.2 ∧ sidesS ac dn S.2 p ≠ [] then newRow ac dn S.1 S.2 p else S.1 p
noncomputable def stepG (ac dn : Int) (gone : List Spot) : List Spot := gone.filter fun p => decide (sidesS ac dn gone p = [])
noncomputable def stepS (ac dn : Int) (S : (Spot → List Int) × List Spot) : (Spot → List Int) × List Spot := (stepF ac dn S, stepG ac dn S.2)
noncomputable def iterS (ac dn : Int) : Nat → (Spot → List Int) × List Spot → (Spot → List Int) × List Spot
  | 0, S => S
  | k + 1, S => stepS ac dn (iterS ac dn k S)
/-- what holds of the rounds -/
structure Good (ac dn : Int) (S : (Spot → List Int) × List Spot) : Prop where
  inn : ∀ p ∈ S.2, In ac dn p
  nodup : S.2.Nodup
  len : S.2.length < 64
  rows : ∀ p, In ac dn p → ∃ d r, S.1 p = d :: r ∧ -100 ≤ d ∧ d ≤ 100
theorem sum_bound {l : List Int} (h : ∀ n ∈ l, -100 ≤ n ∧ n ≤ 100) : -(100 * (l.length : Int)) ≤ l.sum ∧ l.sum ≤ 100 * (l.length : Int) := by
  induction l with
  | nil => simp
  | cons a r ih =>
    have h1 := h a List.mem_cons_self
    have h2 := ih fun n hn => h n (List.mem_cons_of_mem _ hn)
    simp only [List.sum_cons, List.length_cons]
    omega
theorem rnd_bound {t n : Int} (hn : 0 < n) (h1 : -(100 * n) ≤ t) (h2 : t ≤ 100 * n) : -100 ≤ rnd t n ∧ rnd t n ≤ 100 := by
  have key : ∀ u : Int, 0 ≤ u → u ≤ 100 * n → 0 ≤ (2 * u + n).fdiv (2 * n) ∧ (2 * u + n).fdiv (2 * n) ≤ 100 := by
    intro u h0 h3
    rw [Int.fdiv_eq_ediv_of_nonneg _ (by omega)]
    constructor
    · exact Int.ediv_nonneg (by omega) (by omega)
    · have : (2 * u + n) / (2 * n) < 101 := Int.ediv_lt_of_lt_mul (by omega) (by omega)
      omega
  unfold rnd
  split
  · have := key (if t < 0 then -t else t) (by split <;> omega) (by split <;> omega)
    omega
  · have := key (if t < 0 then -t else t) (by split <;> omega) (by split <;> omega)
    omega
theorem Good.hdv {ac dn : Int} {S : (Spot → List Int) × List Spot} (G : Good ac dn S) {p : Spot} (h : In ac dn p) : -100 ≤ hdv S.1 p ∧ hdv S.1 p ≤ 100 ∧ ∃ r, S.1 p = hdv S.1 p :: r := by
  refine hideGoal fun hG2 hE2 => ?_
  obtain ⟨d, r, e, h1, h2⟩ := G.rows p h
  refine hE2 ?_
  clear hE2
  unfold Mine.hdv
  rw [e]
  exact ⟨h1, h2, r, rfl⟩
theorem Good.step {ac dn : Int} {S : (Spot → List Int) × List Spot} (G : Good ac dn S) : Good ac dn (stepS ac dn S) where
  inn := fun p hp => G.inn p (List.mem_filter.mp hp).1
  nodup := List.filter_sublist.nodup G.nodup
  len := Nat.lt_of_le_of_lt (List.length_filter_le _ _) G.len
  rows := fun p hp => by
    show ∃ d r, stepF ac dn S p = d :: r ∧ _
    unfold stepF
    split
    · rename_i c
      refine ⟨_, _, rfl, ?_⟩
      have hpos : 0 < (sidesS ac dn S.2 p).length := List.length_pos_iff.mpr c.2
      have hb := sum_bound (l := (sidesS ac dn S.2 p).map (Mine.hdv S.1)) fun n hn => by
        refine hideGoal fun hG3 hE3 => ?_
        obtain ⟨q, hq, rfl⟩ := List.mem_map.mp hn
        refine hE3 ?_
        clear hE3
        have := sidesS_in hq
        have := G.hdv (p := q) ⟨this.1, this.2.1⟩
        exact ⟨this.1, this.2.1⟩
      rw [List.length_map] at hb
      exact rnd_bound (by omega) hb.1 hb.2
    · exact G.rows p hp
theorem Good.iter {ac dn : Int} {S : (Spot → List Int) × List Spot} (G : Good ac dn S) : ∀ k, Good ac dn (iterS ac dn k S)
  | 0 => G
  | k + 1 => (G.iter k).step
section
variable {prog : Program} {w : World} {A : Around} {E : Value → Shared → Prop} {Q : Flow → Shared → Prop} {s : Shared} {env : Env} {h₀ : Heap} {L : Addr}
noncomputable def WStep (h₀ : Heap) (L : Addr) (s : Shared) (J : Nat → (Str → Option Value) → List (Addr × Obj) → Prop) (Q : Flow → Shared → Prop) (n : Nat) (f : Flow) (s₃ : Shared) : Prop :=
  match f with
  | .ret v => Q (.ret v) s₃
  | .brk => Q .next s₃
  | _ => ∃ h' tk m₂ news₂ n', s₃ = { s with heap := h', toks := tk } ∧ Fr h₀ L h' m₂ ∧ News h₀ L h' news₂ ∧ n' < n ∧ J n' m₂ news₂
theorem While_ret {test : PySem.Expr} {body : List Stmt} {pos : Pos} {m : Str → Option Value} {news : List (Addr × Obj)} (J : Nat → (Str → Option Value) → List (Addr × Obj) → Prop) {n₀ : Nat}
    (F : Fr h₀ L s.heap m) (N : News h₀ L s.heap news) (hJ : J n₀ m news)
    (turn : ∀ n m₁ news₁ h₁ tk₁, Fr h₀ L h₁ m₁ → News h₀ L h₁ news₁ → J n m₁ news₁ →
      wpAny (model prog w) A (isTrue test env (eval test env)) (fun b s₂ =>
        if b = true then wpAny (model prog w) A (execs body env) (WStep h₀ L s J Q n) E s₂ else Q .next s₂) E { s with heap := h₁, toks := tk₁ })
    (hE : PassesOwn (model prog w) A env E := by passes_own) :
    wpAny (model prog w) A (exec (.While test body [] pos) env) Q E s := by
  refine wpAny_While (codeAny_whileLoop (fun n s' => ∃ h₁ tk₁ m₁ news₁, s' = { s with heap := h₁, toks := tk₁ } ∧ Fr h₀ L h₁ m₁ ∧ News h₀ L h₁ news₁ ∧ J n m₁ news₁) ?_ n₀ ⟨s.heap, s.toks, m, news, rfl, F, N, hJ⟩)
  intro n s' hI9r1
  refine hideGoal fun hGr1 hEr1 => ?_
  refine hideGoal fun hG4 hE4 => ?_
  obtain ⟨h₁, tk₁, m₁, news₁, rfl, F₁, N₁, J₁⟩ := hI9r1
  refine hE4 ?_
  clear hE4
  refine hEr1 ?_
  clear hEr1
  refine wpAny_mono (turn n m₁ news₁ h₁ tk₁ F₁ N₁ J₁) (fun b s₂ h₂ => ?_) hE
  cases b with
  | false =>
    simp only [Bool.false_eq_true, if_false] at h₂ ⊢
    exact wpAny_execs_nil h₂
  | true =>
    simp only [if_true] at h₂ ⊢
    refine wpAny_mono h₂ (fun f s₃ h₃ => ?_) hE
    have key : ∀ f', f' = Flow.next → WStep h₀ L s J Q n f' s₃ → ∃ m, m < n ∧ ∃ h₁ tk₁ m₁ news₁, s₃ = { s with heap := h₁, toks := tk₁ } ∧ Fr h₀ L h₁ m₁ ∧ News h₀ L h₁ news₁ ∧ J m m₁ news₁ := by
      intro f' rfl hI9r2
      refine hideGoal fun hGr2 hEr2 => ?_
      refine hideGoal fun hG5 hE5 => ?_
      obtain ⟨h', tk, m₂, news₂, n', rfl, F₂, N₂, hn, J₂⟩ := hI9r2
      refine hE5 ?_
      clear hE5
      refine hEr2 ?_
      clear hEr2
      exact ⟨n', hn, h', tk, m₂, news₂, rfl, F₂, N₂, J₂⟩
    cases f with
    | ret v => exact h₃
    | brk => exact h₃
    | next => exact key _ rfl h₃
    | cont => exact key .next rfl h₃
end
end
section
noncomputable def newRows (ac dn : Int) (F : Spot → List Int) (gone : List Spot) (l : List Spot) : List (Spot × List Int) := l.filterMap fun p => if sidesS ac dn gone p = [] then none else some (p, newRow ac dn F gone p)
noncomputable def updF (F : Spot → List Int) : List (Spot × List Int) → Spot → List Int
  | [] => F
  | e :: r => updF (fun p => if p = e.1 then e.2 else F p) r
theorem updF_snoc {F : Spot → List Int} {l : List (Spot × List Int)} {e : Spot × List Int} : updF F (l ++ [e]) = fun p => if p = e.1 then e.2 else updF F l p := by
  induction l generalizing F with
  | nil => rfl
  | cons a r ih => exact ih
theorem updF_eq {F N : Spot → List Int} {l : List (Spot × List Int)} (h : ∀ e ∈ l, e.2 = N e.1) (p : Spot) : updF F l p = if p ∈ l.map (·.1) then N p else F p := by
  induction l generalizing F with
  | nil => simp [updF]
  | cons e r ih =>
    rw [updF, ih fun x hx => h x (List.mem_cons_of_mem _ hx)]
    by_cases h1 : p ∈ r.map (·.1)
    · rw [if_pos h1, if_pos (by rw [List.map_cons]; exact List.mem_cons_of_mem _ h1)]
    · rw [if_neg h1]
      by_cases h2 : p = e.1
      · rw [if_pos h2, if_pos (by rw [List.map_cons, h2]; exact List.mem_cons_self), h e List.mem_cons_self, h2]
      · rw [if_neg h2, if_neg (by rw [List.map_cons]; exact fun q => (List.mem_cons.mp q).elim h2 h1)]
theorem newRows_mem {ac dn : Int} {F : Spot → List Int} {gone l : List Spot} {p : Spot} : p ∈ (newRows ac dn F gone l).map (·.1) ↔ p ∈ l ∧ sidesS ac dn gone p ≠ [] := by
  unfold newRows
  constructor
  · intro h
    obtain ⟨e, he, rfl⟩ := List.mem_map.mp h
    obtain ⟨q, hq, e'⟩ := List.mem_filterMap.mp he
    split at e'
    · cases e'
    · rename_i c
      obtain rfl := Option.some.inj e'
      exact ⟨hq, c⟩
  · rintro ⟨hp, hs⟩
    exact List.mem_map.mpr ⟨(p, newRow ac dn F gone p), List.mem_filterMap.mpr ⟨p, hp, by rw [if_neg hs]⟩, rfl⟩
theorem newRows_val {ac dn : Int} {F : Spot → List Int} {gone l : List Spot} : ∀ e ∈ newRows ac dn F gone l, e.2 = newRow ac dn F gone e.1 := by
  intro e he
  obtain ⟨q, hq, e'⟩ := List.mem_filterMap.mp he
  split at e'
  · cases e'
  · obtain rfl := Option.some.inj e'
    rfl
theorem round_F {ac dn : Int} {S : (Spot → List Int) × List Spot} {ord : List Spot} (hp : ord.Perm S.2) : updF S.1 (newRows ac dn S.1 S.2 ord) = stepF ac dn S := by
  funext p
  rw [updF_eq newRows_val]
  unfold stepF
  by_cases h : p ∈ S.2 ∧ sidesS ac dn S.2 p ≠ []
  · rw [if_pos h, if_pos (newRows_mem.mpr ⟨hp.mem_iff.mpr h.1, h.2⟩)]
  · rw [if_neg h, if_neg fun q => h ⟨hp.mem_iff.mp (newRows_mem.mp q).1, (newRows_mem.mp q).2⟩]
noncomputable def dropG (gone : List Spot) (l : List (Spot × List Int)) : List Spot := gone.filter fun q => decide (q ∉ l.map (·.1))
theorem dropG_snoc {gone : List Spot} {l : List (Spot × List Int)} {e : Spot × List Int} : dropG gone (l ++ [e]) = (dropG gone l).filter fun q => decide (q ≠ e.1) := by
  unfold dropG
  rw [List.filter_filter]
  refine List.filter_congr fun q _ => ?_
  simp only [List.map_append, List.map_cons, List.map_nil, List.mem_append, List.mem_singleton, ← Bool.decide_and]
  congr 1
  apply propext
  constructor
  · exact fun h => ⟨fun q => h (.inr q), fun q => h (.inl q)⟩
  · rintro ⟨a, b⟩ (q | q)
    · exact b q
    · exact a q
theorem round_G {ac dn : Int} {F : Spot → List Int} {gone ord : List Spot} (hp : ord.Perm gone) : dropG gone (newRows ac dn F gone ord) = stepG ac dn gone := by
  unfold dropG stepG
  refine List.filter_congr fun q hq => ?_
  congr 1
  apply propext
  rw [newRows_mem]
  constructor
  · exact fun h => Classical.byContradiction fun c => h ⟨hp.mem_iff.mpr hq, c⟩
  · exact fun h c => c.2 h
theorem newRows_nil {ac dn : Int} {F : Spot → List Int} {gone ord : List Spot} (h : newRows ac dn F gone ord = []) : ∀ p ∈ ord, sidesS ac dn gone p = [] := by
  intro p hp
  refine Classical.byContradiction fun c => ?_
  have := newRows_mem (F := F) |>.mpr ⟨hp, c⟩
  rw [h] at this
  cases this
theorem stepG_lt {ac dn : Int} {F : Spot → List Int} {gone ord : List Spot} (hp : ord.Perm gone) (h : newRows ac dn F gone ord ≠ []) : (stepG ac dn gone).length < gone.length := by
  unfold stepG
  refine Nat.lt_of_le_of_ne (List.length_filter_le _ _) fun e => ?_
  have e' := List.length_filter_eq_length_iff.mp e
  refine h ?_
  unfold newRows
  rw [List.filterMap_eq_nil_iff]
  intro p hpo
  have := e' p (hp.mem_iff.mp hpo)
  rw [if_pos (of_decide_eq_true this)]
theorem newRows_nodup {ac dn : Int} {F : Spot → List Int} {gone ord : List Spot} (h : ord.Nodup) : ((newRows ac dn F gone ord).map (·.1)).Nodup := by
  induction ord with
  | nil => exact List.nodup_nil
  | cons p r ih =>
    rw [List.nodup_cons] at h
    have e : newRows ac dn F gone (p :: r) = (if sidesS ac dn gone p = [] then [] else [(p, newRow ac dn F gone p)]) ++ newRows ac dn F gone r := by
      unfold newRows
      rw [List.filterMap_cons]
      split <;> rename_i c
      · split at c
        · rw [if_pos (by assumption)]; rfl
        · cases c
      · split at c
        · cases c
        · obtain rfl := Option.some.inj c
          rw [if_neg (by assumption)]; rfl
    rw [e]
    split
    · exact ih h.2
    · rw [List.singleton_append, List.map_cons, List.nodup_cons]
      exact ⟨fun q => h.1 (newRows_mem.mp q).1, ih h.2⟩
theorem drop_mem {gone : List Spot} {l : List (Spot × List Int)} {i : Nat} (hi : i < l.length) (hn : (l.map (·.1)).Nodup) (hg : l[i].1 ∈ gone) : l[i].1 ∈ dropG gone (l.take i) := by
  refine List.mem_filter.mpr ⟨hg, ?_⟩
  simp only [decide_eq_true_eq]
  intro h
  obtain ⟨j, hj, e⟩ := List.mem_iff_getElem.mp h
  simp only [List.length_map, List.length_take] at hj
  simp only [List.getElem_map, List.getElem_take] at e
  have h1 : j < (l.map (·.1)).length := by rw [List.length_map]; omega
  have h2 : i < (l.map (·.1)).length := by rw [List.length_map]; exact hi
  have := (List.getElem_inj hn (i := j) (j := i) (h₀ := h1) (h₁ := h2)).mp (by simpa using e)
  omega
theorem drop_key {xs : List (List Int × Addr × Value)} {gone : List Spot} {p : Spot} (h : xs.map (·.1) = gone.map key) : (dropKey xs (key p)).map (·.1) = (gone.filter fun q => decide (q ≠ p)).map key := by
  unfold dropKey
  have e1 : (xs.filter fun x => decide (x.1 ≠ key p)).map (·.1) = (xs.map (·.1)).filter fun k => decide (k ≠ key p) := by
    rw [List.filter_map]; rfl
  rw [e1, h, List.filter_map]
  congr 1
  refine List.filter_congr fun q _ => ?_
  simp only [Function.comp]
  congr 1
  apply propext
  exact ⟨fun a b => a (by rw [b]), fun a b => a (key_inj b)⟩

/-- a store into a row of the grid -/
theorem RowsF.put {g h : Heap} {L : Addr} {m : Str → Option Value} {l l' : List (Addr × Obj)} {rs : List Addr} {ac dn : Int} {f : Nat → Nat → Option (List Int)} {r a' : Addr} {cs ws : List Value} {x y : Nat} {ns : List Int} (R : RowsF (Kn g l) rs ac dn f) (F : Fr g L h m) (N : News g L h l)
    (hr : rs[y]? = some r) (hc : ListP (Kn g l) r cs) (ev : Ev l l' [r]) (hc' : ListP (Kn g l') r (cs.set x (.ref a'))) (ha : ListP (Kn g l') a' ws) (hi : IntsAre ws ns) (han : a' ∉ rs) :
    RowsF (Kn g l') rs ac dn (fun x' y' => if x' = x ∧ y' = y then some ns else f x' y') := by
  obtain ⟨nd, hl, k⟩ := R
  refine ⟨nd, hl, fun y' r' hr' => ?_⟩
  obtain ⟨cs', hcs', hlen, hcell⟩ := k y' r' hr'
  have rin : r ∈ rs := List.mem_of_getElem? hr
  have cellUp : ∀ {v : Value} {o : Option (List Int)}, CellP (Kn g l) rs v o → CellP (Kn g l') rs v o := fun c => c.mono fun a o hn hc k => k.ev ev (fun hm => hn (List.mem_singleton.mp hm ▸ rin))
  by_cases hy : y' = y
  · subst hy
    obtain rfl : r' = r := by rw [hr] at hr'; exact (Option.some.inj hr').symm
    obtain rfl : cs' = cs := by
      obtain ⟨o1, n1, k1, _, d1, _⟩ := hcs'
      obtain ⟨o2, n2, k2, _, d2, _⟩ := hc
      have e : o1 = o2 := by
        have e1 := k1.get F N
        rw [k2.get F N] at e1
        exact (Option.some.inj e1).symm
      rw [e, d2] at d1
      have := congrArg (fun d => match d with | Data.seq x _ => x.toList | _ => []) d1
      simpa using this.symm
    refine ⟨_, hc', by rw [List.length_set]; exact hlen, fun x' v hv => ?_⟩
    by_cases hx : x' = x
    · subst hx
      dsimp only
      rw [if_pos ⟨rfl, rfl⟩]
      have hx' : x' < cs'.length := by
        rcases Nat.lt_or_ge x' cs'.length with q | q
        · exact q
        · rw [List.getElem?_eq_none (by rw [List.length_set]; exact q)] at hv; cases hv
      rw [List.getElem?_set_self hx'] at hv
      exact ⟨a', ws, (Option.some.inj hv).symm, ha, hi, han⟩
    · dsimp only
      rw [if_neg fun q => hx q.1]
      rw [List.getElem?_set_ne (Ne.symm hx)] at hv
      exact cellUp (hcell x' v hv)
  · have hrr : r' ≠ r := fun e => by
      subst e
      obtain ⟨h1, e1⟩ := List.getElem?_eq_some_iff.mp hr
      obtain ⟨h2, e2⟩ := List.getElem?_eq_some_iff.mp hr'
      exact hy ((List.getElem_inj nd).mp (e2.trans e1.symm))
    refine ⟨cs', hcs'.monoA fun o _ k => k.ev ev (fun hm => hrr (List.mem_singleton.mp hm)), hlen, fun x' v hv => ?_⟩
    dsimp only
    rw [if_neg fun q => hy q.2]
    exact cellUp (hcell x' v hv)
section
variable {prog : Program} {w : World} {A : Around} {E : Value → Shared → Prop} {s : Shared} {g : Heap} {L d : Addr} {m : Str → Option Value} {l : List (Addr × Obj)} {xs : List (List Int × Addr × Value)}
theorem dmeth {pl : Sem Bool} {Q : Value × List Value → Shared → Prop} (F : Fr g L s.heap m) (N : News g L s.heap l) (x : DictP prog w (Kn g l) d xs) (h : Q (.builtin "dict.pop", [.ref d]) s) : wpAny (model prog w) A (getMethod (.ref d) "pop" pl) Q E s := by
  obtain ⟨o, _, _, p, c, _⟩ := x
  exact getMethod_builtin ⟨o, p.get F N, c.1⟩ PySem.F.plainAttrs_dict PySem.F.slot_dict_pop PySem.F.type_dict_pop (fun a e => by cases e; exact ⟨o, p.get F N, c.2.1⟩) h
end
end
section
theorem word63 : True := by
  k_with_none
  trivial
theorem word64 : True := by
  k_with "m.enter" => ((rename Around => A9); cases A9; (have hh9 := Ok.hh (by assumption)); (dsimp only at hh9); subst hh9; (rename _ + _ < recursionLimit => hd9); (dsimp only at hd9); (try ((rename _ + _ < cLine => hu9); (dsimp only at hu9))); refine' enter (by assumption) (by assumption) ?k3 ?k6 ?k7 ?k8 ?k9 ?kB ?_ ?c5 ?c2 ?c3 ?c4; (case k3 => first | assumption | exact Led.nil); (case k6 => k_dflt k_is); (case k7 => k_dflt k_is); (case k8 => dsimp only; omega); (case k9 => exact BindsTo.of_eq rfl); (case c5 => decide); (case kB => exact locs rfl); (case c2 => exact rfl); (case c3 => exact rfl); (case c4 => exact rfl); k_whole; intro _ _ _ _ _ _ _ _ _ _ _ _ _; (have hst9 := Below.stack (by assumption)); (dsimp only at hst9); subst hst9; (try dsimp only); (try k_fold))
  trivial
theorem word65 : True := by
  k_with "m.look" => first | assumption | exact if_pos rfl | (refine Eq.trans (if_neg (by decide)) ?_; walk_at "m.look")
  trivial
theorem word66 : True := by
  k_with "eval Name" => (k_dflt (refine' nameX_L ?xF ?xv ?_ ?xa ?xb; (case xF => k_asm); (case xa => rfl); (case xb => rfl); (case xv => walk_at "m.look"); k_whole))
  trivial
theorem word67 : True := by
  k_with "call ref" => ((with_reducible show wpAny _ _ (call (Value.ref 61) _) _ _ _); k_dflt (refine' lost_at ?k1 ?k2 ?k3 ?k4 ?k5 rfl rfl rfl ?kd ?ku ?kf ?kg ?b1 ?b2 ?b3 ?b4 ?c1 ?c2 ?c3 ?c4 ?_; (case k1 => k_asm); (case k2 => k_asm); (case k3 => k_asm); (case k4 => k_asm); (case k5 => k_asm); (case kd => dsimp only; omega); (case ku => dsimp only; omega); (case kf => k_asm); (case kg => k_asm); (case b1 => k_asm); (case b2 => k_asm); (case b3 => k_asm); (case b4 => k_asm); (case c1 => exact TupL.mono (by assumption) (fun _ _ i k => Kn.base k i)); (case c2 => k_asm); (case c3 => k_asm); (case c4 => k_asm); k_whole; intro _ _ _ _ _ _ _ _ _ _ _ _))
  trivial
/-- a tuple of a place and its new row -/
noncomputable def RowT (P : Addr → Obj → Prop) (rs : List Addr) (T : Addr) (p : Spot) (ns : List Int) : Prop := ∃ t0 t1 t2 b vs, ValsP P T [.int 0 t0, .int (p.1 : Int) t1, .int (p.2 : Int) t2, .ref b] ∧ ListP P b vs ∧ IntsAre vs ns ∧ b ∉ rs
noncomputable def unkey (k : List Int) : Spot := ((k.getD 1 0).toNat, (k.getD 2 0).toNat)
theorem unkey_key (p : Spot) : unkey (key p) = p := rfl
theorem keys_perm {ks : List (List Int)} {gone : List Spot} (h : ks.Perm (gone.map key)) : ∃ ord : List Spot, ks = ord.map key ∧ ord.Perm gone := by
  refine ⟨ks.map unkey, ?_, ?_⟩
  · rw [List.map_map]
    refine ((List.map_congr_left fun k hk => ?_).trans (List.map_id ks)).symm
    obtain ⟨p, _, rfl⟩ := List.mem_map.mp (h.mem_iff.mp hk)
    rfl
  · have := h.map unkey
    rw [List.map_map] at this
    refine this.trans (List.Perm.of_eq ?_)
    exact (List.map_congr_left fun p _ => rfl).trans (List.map_id gone)
/-- what stands between the turns of a round -/
structure CJ (w : World) (g : Heap) (rs : List Addr) (ac dn : Int) (fr gr D Rw : Addr) (F : Spot → List Int) (xs : List (List Int × Addr × Value)) (m : Str → Option Value) (l : List (Addr × Obj)) : Prop where
  m1 : m (Str.ofString "frame") = some (.ref fr)
  m2 : m (Str.ofString "grid") = some (.ref gr)
  m3 : m (Str.ofString "gone") = some (.ref D)
  m4 : m (Str.ofString "rows") = some (.ref Rw)
  dD : DictP prg w (Kn g l) D xs
  ow : Own l D
  rw : RowsF (fun a o => Kn g l a o ∧ a ≠ Rw) rs ac dn (fun x y => some (F (x, y)))
  ows : ∀ r ∈ rs, Own l r
  owR : Own l Rw
theorem CJ.mono {w : World} {g : Heap} {rs : List Addr} {ac dn : Int} {fr gr D Rw : Addr} {F : Spot → List Int} {xs : List (List Int × Addr × Value)} {m : Str → Option Value} {l l' : List (Addr × Obj)} (x : CJ w g rs ac dn fr gr D Rw F xs m l) (ev : Ev l l' []) : CJ w g rs ac dn fr gr D Rw F xs m l' :=
  ⟨x.m1, x.m2, x.m3, x.m4, x.dD.mono fun a o _ k => k.sub ev, x.ow.ev ev, x.rw.mono fun a o _ k => ⟨k.1.sub ev, k.2⟩, fun r hr => (x.ows r hr).ev ev, x.owR.ev ev⟩
theorem DictP.evH {prog : Program} {w : World} {g h : Heap} {L a d : Addr} {m : Str → Option Value} {l l' : List (Addr × Obj)} {od : Obj} {xs : List (List Int × Addr × Value)} (x : DictP prog w (Kn g l) a xs) (F : Fr g L h m) (N : News g L h l) (e : Ev l l' [d]) (kd : Kn g l d od) (hc : od.cls = .type "list") : DictP prog w (Kn g l') a xs := x.monoC fun _ _ hh k => k.ev e (by
  rw [List.mem_singleton]
  exact k.ne F N kd (by rw [hc]; rcases hh with h | h <;> (rw [h]; intro q; injection q with q; exact absurd q (by decide))))
theorem Kn.evCH {g h : Heap} {L a d : Addr} {m : Str → Option Value} {l l' : List (Addr × Obj)} {o od : Obj} (k : Kn g l a o) (F : Fr g L h m) (N : News g L h l) (e : Ev l l' [d]) (kd : Kn g l d od) (hc : o.cls ≠ od.cls) : Kn g l' a o := k.ev e (by rw [List.mem_singleton]; exact k.ne F N kd hc)
theorem RowT.to {P P' : Addr → Obj → Prop} {rs : List Addr} {T : Addr} {p : Spot} {ns : List Int} (x : RowT P rs T p ns) (h : ∀ a o, It o = false → (o.cls = .type "tuple" ∨ (a ∉ rs ∧ o.cls = .type "list")) → P a o → P' a o) : RowT P' rs T p ns := by
  obtain ⟨t0, t1, t2, b, vs, ⟨o, n, q, c, d⟩, y, hi, z⟩ := x
  exact ⟨t0, t1, t2, b, vs, ⟨o, n, h _ _ (it_no c (by decide)) (.inl c) q, c, d⟩, y.monoA fun o hc k => h _ _ (ListP.it hc) (.inr ⟨z, hc⟩) k, hi, z⟩
theorem split_news {g h : Heap} {L : Addr} {q r : Addr × Obj} {ln l2 : List (Addr × Obj)} (N : News g L h (q :: (ln ++ r :: l2))) : ∃ lE, News g L h lE ∧ q ∈ lE ∧ (∀ p ∈ ln, p ∈ lE) ∧ (∀ p ∈ l2, p ∈ lE) :=
  ⟨_, N, List.mem_cons_self, fun _ hp => List.mem_cons_of_mem _ (List.mem_append_left _ hp), fun _ hp => List.mem_cons_of_mem _ (List.mem_append_right _ (List.mem_cons_of_mem _ hp))⟩
theorem CJ.to {w : World} {g : Heap} {rs : List Addr} {ac dn : Int} {fr gr D Rw : Addr} {F : Spot → List Int} {xs : List (List Int × Addr × Value)} {m m' : Str → Option Value} {l l' : List (Addr × Obj)} (x : CJ w g rs ac dn fr gr D Rw F xs m l) (ev : Ev l l' []) (m1 : m' (Str.ofString "frame") = some (.ref fr)) (m2 : m' (Str.ofString "grid") = some (.ref gr)) (m3 : m' (Str.ofString "gone") = some (.ref D)) (m4 : m' (Str.ofString "rows") = some (.ref Rw)) : CJ w g rs ac dn fr gr D Rw F xs m' l' :=
  let y := x.mono ev; ⟨m1, m2, m3, m4, y.dD, y.ow, y.rw, y.ows, y.owR⟩
theorem RowT.mono {P P' : Addr → Obj → Prop} {rs : List Addr} {T : Addr} {p : Spot} {ns : List Int} (x : RowT P rs T p ns) (h : ∀ a o, It o = false → P a o → P' a o) : RowT P' rs T p ns := by
  obtain ⟨t0, t1, t2, b, vs, ⟨o, n, q, c, d⟩, y, z⟩ := x
  exact ⟨t0, t1, t2, b, vs, ⟨o, n, h _ _ (it_no c (by decide)) q, c, d⟩, y.mono h, z⟩
noncomputable def CW (w : World) (g : Heap) (fr gr D : Addr) (rs : List Addr) (ac dn : Int) (S₀ : ((Spot → List Int) × List Spot)) (n : Nat) (m : Str → Option Value) (l : List (Addr × Obj)) : Prop := ∃ k xs, n = (iterS ac dn k S₀).2.length ∧ m (Str.ofString "frame") = some (.ref fr) ∧ m (Str.ofString "grid") = some (.ref gr) ∧ m (Str.ofString "gone") = some (.ref D) ∧ DictP prg w (Kn g l) D xs ∧ Own l D ∧ xs.map (·.1) = (iterS ac dn k S₀).2.map key ∧
     RowsF (Kn g l) rs ac dn (fun x y => some ((iterS ac dn k S₀).1 (x, y))) ∧ (∀ r ∈ rs, Own l r)
noncomputable def CI1 (w : World) (g : Heap) (fr gr D Rw Ds : Addr) (rs : List Addr) (ac dn : Int) (S : ((Spot → List Int) × List Spot)) (xs ys : List (List Int × Addr × Value)) (ord : List Spot) (cc : Nat) (i : Nat) (m : Str → Option Value) (l : List (Addr × Obj)) : Prop := CJ w g rs ac dn fr gr D Rw S.1 xs m l ∧ Kn g l Ds (listOf (ys.map fun x => Value.ref x.2.1).toArray cc) ∧ ∃ es : List (Spot × List Int × Addr), ListP (Kn g l) Rw (es.map fun e => Value.ref e.2.2) ∧ (∀ e ∈ es, RowT (fun a o => Kn g l a o ∧ a ≠ Rw) rs e.2.2 e.1 e.2.1) ∧ es.map (fun e => (e.1, e.2.1)) = newRows ac dn S.1 S.2 (ord.take i)
noncomputable def CI2 (w : World) (g : Heap) (fr gr D Rw : Addr) (oR : Obj) (rs : List Addr) (ac dn : Int) (S : ((Spot → List Int) × List Spot)) (nr : List (Spot × List Int)) (es : List (Spot × List Int × Addr)) (i : Nat) (m : Str → Option Value) (l : List (Addr × Obj)) : Prop := m (Str.ofString "frame") = some (.ref fr) ∧ m (Str.ofString "grid") = some (.ref gr) ∧ m (Str.ofString "gone") = some (.ref D) ∧ (∃ xs', DictP prg w (Kn g l) D xs' ∧ xs'.map (·.1) = (dropG S.2 (nr.take i)).map key) ∧ Own l D ∧ RowsF (Kn g l) rs ac dn (fun x y => some (updF S.1 (nr.take i) (x, y))) ∧ (∀ r ∈ rs, Own l r) ∧ Kn g l Rw oR ∧ ∀ e ∈ es, RowT (Kn g l) rs e.2.2 e.1 e.2.1
section
variable {w : World} {A : Around} {s : Shared} {g : Heap} {R : Result → Shared → Prop} {fr sc lo gr : Addr} {ac dn : Int} {rs : List Addr}
theorem conceal_spec (ok : Ok w A g) (hs : Sub g s.heap) (hd : A.depth + 30 < recursionLimit) (hu : A.units + 700 < cLine) (hf : FrmP w (fun a o => g.get? a = some o) fr ac dn) (hsc : ScanP w (fun a o => g.get? a = some o) sc) (h1 : 1 ≤ ac) (h2 : ac ≤ 5) (h3 : 1 ≤ dn) (h4 : dn ≤ 4)
    {ps : List (Int × Int)} (hl : TupL w (fun a o => g.get? a = some o) lo (ps.map fun p => [p.1, p.2])) (hps : ∀ p ∈ ps, 0 ≤ p.1 ∧ p.1 ≤ 100 ∧ 0 ≤ p.2 ∧ p.2 ≤ 100) (hpl : ps.length ≤ 100) (bare : AllBare s.gens)
    {W : List (Addr × Obj)} (hW : Led g s.heap W) (hG : GridT w (fun a o => g.get? a = some o) gr rs) {S₀ : (Spot → List Int) × List Spot} (hRw : RowsF (Kn g W) rs ac dn (fun x y => some (S₀.1 (x, y)))) (hOw : ∀ r ∈ rs, Own W r) (hGo : Good ac dn S₀) (hgk : lostKeys ac ps = S₀.2.map key)
    (hR : ∀ h' tk gs W' k, (∀ b o, g.get? b = some o → h'.get? b = some o) → Led g h' W' → AllBare gs → RowsF (Kn g W') rs ac dn (fun x y => some ((iterS ac dn k S₀).1 (x, y))) → (∀ r ∈ rs, Own W' r) → (∀ p ∈ (iterS ac dn k S₀).2, sidesS ac dn (iterS ac dn k S₀).2 p = []) → R (.ok (.ret .none)) { s with heap := h', toks := tk, gens := gs }) :
    codeAny (model prg w) A (.call (.ref 87) ⟨[.ref fr, .ref gr, .ref sc, .ref lo], []⟩) R s := by
  walk_at "m.enter"
  repeat' (fail_if_success (with_reducible show wpAny _ _ (exec (PySem.Stmt.While ..) _) _ _ _)); walk1
  rename Fr _ _ _ _ => F
  rename News _ _ _ _ => N
  rename DictP _ _ _ _ _ => hD
  rename (_ == sysModules) = false => lD
  rename AllBare _ => bg
  rename List.map _ _ = lostKeys _ _ => hx
  rename Frag.In _ _ => X
  rename Top _ _ _ _ _ _ => T
  rename Below _ _ _ _ => B
  rename_i D ln xs _
  refine hideGoal fun hG1 hE1 => ?_
  obtain ⟨fd, cl, co, cd, ts, p1, p2, p3, p4, p5⟩ := id hf
  obtain ⟨gd, pl, p0, gts, q1, q2, q3, q4, q5, q6⟩ := id hG
  refine hE1 ?_
  clear hE1
  have hD0 := hD
  refine hideGoal fun hG2 hE2 => ?_
  obtain ⟨oD, _, _, pD, cD, -⟩ := hD0
  refine hE2 ?_
  clear hE2
  refine While_ret (CW w g fr gr D rs ac dn S₀) F N
    ⟨0, xs, rfl, by first | walk_at "m.look" | rfl, by first | walk_at "m.look" | rfl, by first | walk_at "m.look" | rfl, hD.mono fun a o i hm => .in (List.mem_append_left _ hm) i, .in (List.mem_append_left _ pD) (it_dict cD.1), by rw [hx]; exact hgk, hRw.mono fun a o hc k => k.sub (Ev.of fun p hp => List.mem_append_right _ hp), fun r hr => (hOw r hr).ev (Ev.of fun p hp => List.mem_append_right _ hp)⟩ ?_
  clear F N hD pD
  intro n m l h₁ tk₁ F N hI9
  refine hideGoal fun hG3 hE3 => ?_
  obtain ⟨k, xs, rfl, m1, m2, m3, hD, ow, hx, hRw, hOw⟩ := hI9
  refine hE3 ?_
  clear hE3
  have hGo := hGo.iter k
  generalize hSk : iterS ac dn k S₀ = S at *
  have hxl : xs.length = S.2.length := by have := congrArg List.length hx; simpa using this
  repeat' walk1
  refine dtruthy F N hD lD (by have := hGo.len; omega) fun tk₂ => ?_
  by_cases he : xs.length = 0
  · rw [show decide (xs.length ≠ 0) = false by simp [he]]
    simp only [Bool.false_eq_true, if_false]
    k_steps
    refine hR _ _ _ l k F.keep (Led.of N) bg (by rw [hSk]; exact hRw) hOw ?_
    rw [hSk, List.eq_nil_of_length_eq_zero (show S.2.length = 0 by omega)]
    exact fun _ h => nomatch h
  · rw [show decide (xs.length ≠ 0) = true by simp [he]]
    simp only [if_true]
    repeat' (fail_if_success (with_reducible show wpAny _ _ (exec (PySem.Stmt.For ..) _) _ _ _)); walk1
    rename Fr _ _ _ _ => F8
    rename News _ _ _ _ => N8
    rename_i Rw h8a hlt8 h8
    have sub8 : ∀ q : Addr × Obj, ∀ p ∈ l, p ∈ q :: l := fun q p hp => List.mem_cons_of_mem _ hp
    have hRwn : Rw ∉ rs := fun hm => by
      obtain ⟨o, ho, _⟩ := hOw _ hm
      exact absurd (hlt8 _ ho) (Nat.lt_irrefl _)
    have hD8 := hD.mono (P' := Kn g ((Rw, listOf #[] 0) :: l)) fun a o _ k => k.sub (Ev.of (sub8 _))
    refine hideQ fun QA1 qA1 => ?_
    refine For_at F8 ?_
    repeat' (fail_if_success (with_reducible show wpAny _ _ (call (Value.builtin "sorted") _) _ _ _)); walk1
    refine sorted_keys rfl F8 N8 hD8 lD (fun x hxm => ?_) (by have := hGo.len; omega) fun h9 tk9 Ds cc ys F9 N9 hDs hperm => ?_
    · have : x.1 ∈ S.2.map key := hx ▸ List.mem_map_of_mem hxm
      obtain ⟨p, _, e⟩ := List.mem_map.mp this
      rw [← e]; unfold key; simp
    have hperm' : (ys.map (·.1)).Perm (S.2.map key) := by rw [← hx]; exact hperm.map _
    refine hideGoal fun hG4 hE4 => ?_
    obtain ⟨ord, hord, hop⟩ := keys_perm hperm'
    refine hE4 ?_
    clear hE4
    have hyl : ys.length = ord.length := by have := congrArg List.length hord; simpa using this
    have neR : ∀ a o, Kn g l a o → a ≠ Rw := fun a o k e => by
      rcases k.1 with q | q
      · have := (N8 _ List.mem_cons_self).2.2; rw [← e, q] at this; cases this
      · exact absurd (hlt8 _ q) (e ▸ Nat.lt_irrefl _)
    have sub9 : ∀ q r : Addr × Obj, ∀ p ∈ l, p ∈ q :: r :: l := fun q r p hp => List.mem_cons_of_mem _ (List.mem_cons_of_mem _ hp)
    refine ⟨_, _, _, _, _, CI1 w g fr gr D Rw Ds rs ac dn S xs ys ord cc,
      { S := Sr.list (n := cc) rfl ((N9 _ List.mem_cons_self).1) rfl rfl, hL := ?_, F := F9, N := N9, src := ?_, mono := ?_, j0 := ?_, step := ?_, done := ?_ }⟩
    · exact fun hm => (N9 _ List.mem_cons_self).2.1 (List.mem_singleton.mp hm).symm
    · rintro _ _ _ ⟨_, k, _⟩ q hq; rw [List.mem_singleton.mp hq]; exact k
    · rintro i m l l' ev ⟨C, k, es, a, b, c⟩
      exact ⟨C.mono ev, k.sub ev, es, a.mono fun a o _ k => k.sub ev, fun e he => (b e he).mono fun a o _ k => ⟨k.1.sub ev, k.2⟩, c⟩
    · refine ⟨⟨by first | walk_at "m.look" | rfl, by first | walk_at "m.look" | rfl, by first | walk_at "m.look" | rfl, by first | walk_at "m.look" | rfl, hD.mono fun a o _ k => k.sub (Ev.of (sub9 _ _)), ow.ev (Ev.of (sub9 _ _)), hRw.mono fun a o _ k => ⟨k.sub (Ev.of (sub9 _ _)), neR a o k⟩, fun r hr => (hOw r hr).ev (Ev.of (sub9 _ _)), .in (List.mem_cons_of_mem _ List.mem_cons_self) rfl⟩, .in List.mem_cons_self rfl, [], ⟨_, _, .in (List.mem_cons_of_mem _ List.mem_cons_self) rfl, rfl, rfl, rfl⟩, (fun _ h => nomatch h), rfl⟩
    · intro i v m₁ l₁ h₁ tk₁ hi hP hI9 hK F₁ N₁
      clear qA1
      refine hideGoal fun hG5 hE5 => ?_
      obtain ⟨C, kDs, es, hR1, hT1, he1⟩ := hI9
      refine hE5 ?_
      clear hE5
      refine hideAE fun PP1 qP1 => ?_
      have hiy : i < ys.length := by simpa using hi
      have hio : i < ord.length := hyl ▸ hiy
      obtain rfl : v = .ref ys[i].2.1 := by
        have : (ys.map fun x => Value.ref x.2.1).toArray[i]? = some (.ref ys[i].2.1) := by simp [hiy]
        rw [this] at hP
        exact (Option.some.inj hP).symm
      have hki : ys[i].1 = key ord[i] := by
        have := congrArg (fun l => l[i]?) hord
        simpa [hiy, hio] using this
      have hTi : TupP prg w (Kn g l₁) (key ord[i]) ys[i].2.1 := by
        have hm : ys[i] ∈ xs := hperm.mem_iff.mp (List.getElem_mem hiy)
        obtain ⟨_, _, _, _, _, _, _, ht, _⟩ := C.dD
        rw [← hki]; exact ht _ hm
      have hpin := hGo.inn _ (hop.mem_iff.mp (List.getElem_mem hio))
      have htake := List.take_succ_eq_append_getElem hio
      generalize hpo : ord[i] = p at *
      refine hideGoal fun hG6 hE6 => ?_
      obtain ⟨t0, t1, t2, hTv⟩ := hTi.three
      refine hE6 ?_
      clear hE6
      have hT9 : IsTup h₁ ys[i].2.1 #[.int 0 t0, .int (p.1 : Int) t1, .int (p.2 : Int) t2] := (let ⟨o, n, q, c, d⟩ := hTv; ⟨o, q.get F₁ N₁, c, n, d⟩)
      refine hideGoal fun hG7 hE7 => ?_
      obtain ⟨c1, c2', c3, c4, cD, cow, crw, cows, cowR⟩ := id C
      obtain ⟨b1, b2⟩ : (p.1 : Int) < ac ∧ (p.2 : Int) < dn := hpin
      refine hE7 ?_
      clear hE7
      clear F8 N8 F9 N9
      repeat' (fail_if_success (with_reducible show wpAny _ _ (call (Value.ref 68) _) _ _ _)); walk1
      rename Fr _ _ _ _ => F8
      rename News _ _ _ _ => N8
      refine known_sides_at B F8 X T N8 rfl rfl rfl (by first | exact room2 (by assumption) (by decide) | exact room1 (by assumption) (by decide) | (dsimp only; omega)) (by first | exact room2 (by assumption) (by decide) | exact room1 (by assumption) (by decide) | (dsimp only; omega)) hf h1 h2 h3 h4 cD lD (Int.natCast_nonneg _) (by omega) (Int.natCast_nonneg _) (by omega) fun h2' tk2 Sd ln2 es2 F2 N2 hn2 a2 b2 c2 => ?_
      rw [hx, sidesTo_eq] at c2
      have hl2 : es2.length = (sidesS ac dn S.2 p).length := by have := congrArg List.length c2; simpa using this
      clear F8
      repeat' (fail_if_success (with_reducible show wpAny _ _ (compareOp _ _ _) _ _ _)); walk1
      rename Fr _ _ _ _ => F8
      rename News _ _ _ _ => N9
      have in2 : ∀ q : Addr × Obj, ∀ p ∈ ln2, p ∈ q :: (ln2 ++ l₁) := fun q p hp => List.mem_cons_of_mem _ (List.mem_append_left _ hp)
      have in1 : ∀ q : Addr × Obj, ∀ p ∈ l₁, p ∈ q :: (ln2 ++ l₁) := fun q p hp => List.mem_cons_of_mem _ (List.mem_append_right _ hp)
      refine lne_nil F8 N9 (a2.mono fun a o i hm => Kn.in (in2 _ _ hm) i) ⟨_, _, .in List.mem_cons_self rfl, rfl, rfl, rfl⟩ (by first | exact roomU (by assumption) (by decide) | (simp only [units_deeper]; omega)) ?_
      by_cases hsd : sidesS ac dn S.2 p = []
      · have e0 : es2 = [] := List.eq_nil_of_length_eq_zero (by rw [hl2, hsd]; rfl)
        rw [show decide (es2.map (fun e => Value.ref e.2) ≠ []) = false by simp [e0]]
        k_steps
        refine qP1 _ _ ?_
        refine ⟨_, _, _, _, rfl, by assumption, by assumption, KeepIt.of (in1 _), C.to (Ev.of (in1 _)) (by walk_at "m.look") (by walk_at "m.look") (by walk_at "m.look") (by walk_at "m.look"), kDs.sub (Ev.of (in1 _)), es, hR1.mono fun a o _ k => k.sub (Ev.of (in1 _)), fun e he => (hT1 e he).mono fun a o _ k => ⟨k.1.sub (Ev.of (in1 _)), k.2⟩, ?_⟩
        rw [htake]
        unfold newRows
        rw [List.filterMap_append, he1]
        simp [newRows, hsd]
      · have e0 : es2 ≠ [] := fun e => hsd (List.eq_nil_of_length_eq_zero (by rw [← hl2, e]; rfl))
        rw [show decide (es2.map (fun e => Value.ref e.2) ≠ []) = true by simp [e0]]
        repeat' (fail_if_success (with_reducible show wpAny _ _ (getMethod _ _ _) _ _ _)); walk1
        refine lmeth F8 N9 (hR1.mono fun a o _ k => k.sub (Ev.of (in1 _))) ?_
        repeat' (fail_if_success (with_reducible show wpAny _ _ (call (Value.ref 80) _) _ _ _)); walk1
        refine smooth_row_at B F8 X T N9 rfl rfl rfl (by first | exact room2 (by assumption) (by decide) | exact room1 (by assumption) (by decide) | (dsimp only; omega)) (by first | exact room2 (by assumption) (by decide) | exact room1 (by assumption) (by decide) | (dsimp only; omega)) (hG.mono fun a o _ i k => Kn.base k i) (crw.mono fun a o _ k => k.1.sub (Ev.of (in1 _))) h2 h4 (ps := sidesS ac dn S.2 p) (dv := fun x y => hdv S.1 (x, y)) ⟨es2, a2.mono fun a o i hm => Kn.in (in2 _ _ hm) i, fun e he => (b2 e he).mono fun a o i hm => Kn.in (in2 _ _ hm) i, c2⟩ (fun q hq => ?_) (List.length_pos_iff.mpr hsd) sidesS_len fun h3' tk3 Rr vr ln3 a3 b3 F3 N3 hn3 => ?_
        · have hq' := sidesS_in hq
          have hv := hGo.hdv (p := q) ⟨hq'.1, hq'.2.1⟩
          exact ⟨hq'.1, hq'.2.1, hv.1, hv.2.1, hv.2.2.imp fun r e => congrArg some e⟩
        have b3 : IntsAre vr (newRow ac dn S.1 S.2 p) := b3
        have hrsR : Rr ∉ rs := fun hm => by
          refine hideGoal fun hG8 hE8 => ?_
          obtain ⟨o, ho, _⟩ := cows _ hm
          obtain ⟨_, _, k3, _⟩ := a3
          refine hE8 ?_
          clear hE8
          have := hn3 _ k3
          rw [(N9 _ (in1 _ _ ho)).1] at this
          cases this
        have hRrw : Rr ≠ Rw := fun e => by
          refine hideGoal fun hG9 hE9 => ?_
          obtain ⟨o, ho, _⟩ := cowR
          obtain ⟨_, _, k3, _⟩ := a3
          refine hE9 ?_
          clear hE9
          have := hn3 _ k3
          rw [e, (N9 _ (in1 _ _ ho)).1] at this
          cases this
        clear F8
        repeat' (fail_if_success (with_reducible show wpAny _ _ (call (Value.builtin "list.append") _) _ _ _)); walk1
        rename Fr _ _ _ _ => F8
        rename News _ _ _ _ => N8
        refine hideGoal fun hG10 hE10 => ?_
        obtain ⟨lE, NE, eT, in3b, in2b⟩ := split_news N8
        refine hE10 ?_
        clear hE10
        have in1b : ∀ p ∈ l₁, p ∈ lE := fun p hp => in2b p (List.mem_append_right _ hp)
        clear N8
        have hlen : (es.map fun e => Value.ref e.2.2).length ≤ sizeLine := by
          have e1 := congrArg List.length he1
          have e2 : (newRows ac dn S.1 S.2 (ord.take i)).length ≤ (ord.take i).length := List.length_filterMap_le _ _
          have e3 := hop.length_eq
          have e4 := hGo.len
          rw [List.length_map] at e1 ⊢
          rw [List.length_take] at e2
          rw [sizeLine_eq]
          omega
        refine hideGoal fun hG11 hE11 => ?_
        obtain ⟨oR, nR, kR, cR, dR, ddR⟩ := hR1.mono (P' := Kn g lE) fun a o _ k => k.sub (Ev.of in1b)
        refine hE11 ?_
        clear hE11
        refine lappend F8 NE ⟨oR, nR, kR, cR, dR, ddR⟩ (cowR.ev (Ev.of in1b)) hlen fun h9' l9 F9 N9' x9 e9 k9 o9 => ?_
        have ne1 : ∀ {a : Addr}, a ≠ Rw → a ∉ [Rw] := fun h hm => h (List.mem_singleton.mp hm)
        have up : ∀ a o, (Kn g l₁ a o ∧ a ≠ Rw) → (Kn g l9 a o ∧ a ≠ Rw) := fun a o k => ⟨(k.1.sub (Ev.of in1b)).ev e9 (ne1 k.2), k.2⟩
        have neT : ∀ (a : Addr) (o : Obj), o.cls = .type "tuple" → (a, o) ∈ lE → a ≠ Rw := fun a o hc hm =>
          Kn.ne F8 NE (Kn.in hm (it_no hc (by decide))) kR (by rw [hc, cR]; intro q; injection q with q; exact absurd q (by decide))
        have C9 : CJ w g rs ac dn fr gr D Rw S.1 xs m₁ l9 := ⟨c1, c2', c3, c4, (cD.mono (P' := Kn g lE) fun a o _ k => k.sub (Ev.of in1b)).evH F8 NE e9 kR cR, o9 _ (cow.ev (Ev.of in1b)), crw.mono fun a o _ k => up a o k, fun r hr => o9 _ ((cows r hr).ev (Ev.of in1b)), o9 _ (cowR.ev (Ev.of in1b))⟩
        have tT := neT _ _ rfl eT
        have T9 := e9 _ eT (ne1 tT) rfl
        clear F8
        k_steps
        refine qP1 _ _ ?_
        refine ⟨_, _, _, _, rfl, by assumption, by assumption, (KeepIt.of in1b).trans k9, C9.to Ev.refl (by walk_at "m.look") (by walk_at "m.look") (by walk_at "m.look") (by walk_at "m.look"), (kDs.sub (Ev.of in1b)).ev e9 (ne1 (hDs _ List.mem_cons_self).symm), es ++ [(p, newRow ac dn S.1 S.2 p, _)], by rw [List.map_append]; exact x9, fun e he => ?_, ?_⟩
        · rcases List.mem_append.mp he with he | he
          · exact (hT1 e he).mono fun a o _ k => up a o k
          · rw [List.mem_singleton.mp he]
            refine ⟨t0, t1, t2, Rr, vr, ⟨_, _, ⟨.in T9 rfl, tT⟩, rfl, rfl⟩, ?_, b3, hrsR⟩
            obtain ⟨o3, n3, k3, q3⟩ := a3
            exact ⟨o3, n3, ⟨.in (e9 _ (in3b _ k3) (ne1 hRrw) (ListP.it q3.1)) (ListP.it q3.1), hRrw⟩, q3⟩
        · rw [htake, List.map_append, he1]
          unfold newRows
          rw [List.filterMap_append]
          simp [hsd]
    · intro h' tk m' l' F' N' hK hI9
      refine qA1 _ _ ?_
      clear qA1
      obtain ⟨C, kDs, es, hR1, hT1, he1⟩ := hI9
      rw [show (ys.map fun x => Value.ref x.2.1).toArray.size = ord.length by simp [hyl], List.take_length] at he1
      refine hideGoal fun hG12 hE12 => ?_
      obtain ⟨c1, c2', c3, c4, cD, cow, crw, cows, cowR⟩ := id C
      refine hE12 ?_
      clear hE12
      clear F8 N8 F9 N9
      repeat' (fail_if_success (with_reducible show wpAny _ _ (compareOp _ _ _) _ _ _)); walk1
      rename Fr _ _ _ _ => F8
      rename News _ _ _ _ => N8
      have in1 : ∀ q : Addr × Obj, ∀ p ∈ l', p ∈ q :: l' := fun q p hp => List.mem_cons_of_mem _ hp
      refine leq_nil F8 N8 (hR1.mono fun a o i k => k.sub (Ev.of (in1 _))) ⟨_, _, .in List.mem_cons_self rfl, rfl, rfl, rfl⟩ (by first | exact roomU (by assumption) (by decide) | (simp only [units_deeper]; omega)) ?_
      by_cases hn : newRows ac dn S.1 S.2 ord = []
      · have e0 : es = [] := by rw [hn] at he1; exact List.map_eq_nil_iff.mp he1
        rw [show decide (es.map (fun e => Value.ref e.2.2) = []) = true by simp [e0]]
        k_steps
        refine hR _ _ _ _ k (Fr.keep (by assumption)) (Led.of N8) bg (by rw [hSk]; exact crw.mono fun a o _ k => k.1.sub (Ev.of (in1 _))) (fun r hr => (cows r hr).ev (Ev.of (in1 _))) ?_
        rw [hSk]
        exact fun p hp => newRows_nil hn p (hop.mem_iff.mpr hp)
      · have e0 : es ≠ [] := fun e => hn (by rw [← he1, e]; rfl)
        rw [show decide (es.map (fun e => Value.ref e.2.2) = []) = false by simp [e0]]
        repeat' (fail_if_success (with_reducible show wpAny _ _ (exec (PySem.Stmt.For ..) _) _ _ _)); walk1
        rename Fr _ _ _ _ => F9
        rename News _ _ _ _ => N9
        refine hideGoal fun hG13 hE13 => ?_
        obtain ⟨oR, nR, kR, cR, dR, ddR⟩ := hR1
        refine hE13 ?_
        clear hE13
        have hnd := newRows_nodup (ac := ac) (dn := dn) (F := S.1) (gone := S.2) (hop.nodup_iff.mpr hGo.nodup)
        have hsub : ∀ p ∈ (newRows ac dn S.1 S.2 ord).map (·.1), p ∈ S.2 := fun p hp => hop.mem_iff.mp (newRows_mem.mp hp).1
        have hround := round_F (ac := ac) (dn := dn) hop
        have hroundG := round_G (ac := ac) (dn := dn) (F := S.1) hop
        have hlt := stepG_lt hop hn
        have hval := newRows_val (ac := ac) (dn := dn) (F := S.1) (gone := S.2) (l := ord)
        generalize hnr : newRows ac dn S.1 S.2 ord = nr at *
        have hnl : nr.length = es.length := by rw [← he1, List.length_map]
        refine hideQ fun QA2 qA2 => ?_
        refine For_at F9 ?_
        repeat' (fail_if_success (with_reducible show ∃ _, _)); walk1
        refine ⟨_, _, _, _, _, CI2 w g fr gr D Rw oR rs ac dn S nr es,
          { S := Sr.list (n := nR) rfl ((kR.sub (Ev.of (in1 _))).get F9 N9) cR dR, hL := ?_, F := F9, N := N9, src := ?_, mono := ?_, j0 := ?_, step := ?_, done := ?_ }⟩
        · exact fun hm => (kR.sub (Ev.of (in1 _))).neL F9 N9 (List.mem_singleton.mp hm).symm
        · rintro _ _ _ ⟨_, _, _, _, _, _, _, kk, _⟩ q hq; rw [List.mem_singleton.mp hq]; exact kk
        · rintro i m l l' ev ⟨a1, a2, a3, ⟨xs', a4, a5⟩, a6, a7, a8, a9, a10⟩
          exact ⟨a1, a2, a3, ⟨xs', a4.mono fun a o _ k => k.sub ev, a5⟩, a6.ev ev, a7.mono fun a o _ k => k.sub ev, fun r hr => (a8 r hr).ev ev, a9.sub ev, fun e he => (a10 e he).mono fun a o _ k => k.sub ev⟩
        · refine ⟨by first | walk_at "m.look" | rfl, by first | walk_at "m.look" | rfl, by first | walk_at "m.look" | rfl, ⟨xs, cD.mono fun a o _ k => k.sub (Ev.of (in1 _)), ?_⟩, cow.ev (Ev.of (in1 _)), crw.mono fun a o _ k => k.1.sub (Ev.of (in1 _)), fun r hr => (cows r hr).ev (Ev.of (in1 _)), kR.sub (Ev.of (in1 _)), fun e he => (hT1 e he).mono fun a o _ k => k.1.sub (Ev.of (in1 _))⟩
          rw [hx]
          congr 1
          exact (List.filter_eq_self.mpr fun q _ => by simp).symm
        · intro i v m₁ l₁ h₁ tk₁ hi hP hI9 hK₁ F₁ N₁
          clear qA2
          refine hideGoal fun hG14 hE14 => ?_
          obtain ⟨a1, a2, a3, ⟨xs', dD', hx'⟩, ow', rw', ows', kR', hT'⟩ := hI9
          refine hE14 ?_
          clear hE14
          refine hideAE fun PP2 qP2 => ?_
          have hie : i < es.length := by simpa using hi
          have hin : i < nr.length := hnl ▸ hie
          obtain rfl : v = .ref es[i].2.2 := by
            have : (es.map fun e => Value.ref e.2.2).toArray[i]? = some (.ref es[i].2.2) := by simp [hie]
            rw [this] at hP
            exact (Option.some.inj hP).symm
          have hni : nr[i] = (es[i].1, es[i].2.1) := by
            have := congrArg (fun l => l[i]?) he1
            simpa [hie, hin] using this.symm
          have hrt := hT' _ (List.getElem_mem hie)
          have hdm := drop_mem hin hnd (hsub _ (List.mem_map_of_mem (List.getElem_mem hin)))
          have hpin := hGo.inn _ (hsub _ (List.mem_map_of_mem (List.getElem_mem hin)))
          have hv := hval _ (List.getElem_mem hin)
          have htake := List.take_succ_eq_append_getElem hin
          rw [hni] at hdm hpin hv htake
          generalize es[i].1 = p at *
          generalize es[i].2.1 = ns at *
          generalize es[i].2.2 = TT at *
          refine hideGoal fun hG15 hE15 => ?_
          obtain ⟨t0, t1, t2, b, vs, hTv, hb, hbi, hbn⟩ := hrt
          refine hE15 ?_
          clear hE15
          have hT9 : IsTup h₁ TT #[.int 0 t0, .int (p.1 : Int) t1, .int (p.2 : Int) t2, .ref b] := (let ⟨o, n, q, c, d⟩ := hTv; ⟨o, q.get F₁ N₁, c, n, d⟩)
          refine hideGoal fun hG16 hE16 => ?_
          obtain ⟨b1, b2⟩ : (p.1 : Int) < ac ∧ (p.2 : Int) < dn := hpin
          refine hE16 ?_
          clear hE16
          have hvl : vs.length ≤ 100 := by rw [hbi.length, show ns = newRow ac dn S.1 S.2 p from hv]; simp [newRow]
          obtain ⟨r, cs, hr, hcs, hcl⟩ : ∃ r cs, rs[p.2]? = some r ∧ ListP (Kn g l₁) r cs ∧ (cs.length : Int) = ac := by
            refine hideGoal fun hG17 hE17 => ?_
            obtain ⟨_, hl, kk⟩ := rw'
            refine hE17 ?_
            clear hE17
            have hy : p.2 < rs.length := by omega
            obtain ⟨cs, x1, x2, _⟩ := kk p.2 rs[p.2] (List.getElem?_eq_getElem hy)
            exact ⟨_, cs, List.getElem?_eq_getElem hy, x1, x2⟩
          have hrin : r ∈ rs := List.mem_of_getElem? hr
          clear F9 N9
          repeat' (fail_if_success (with_reducible show wpAny _ _ (call (Value.ref 207) _) _ _ _)); walk1
          rename Fr _ _ _ _ => F8
          rename News _ _ _ _ => N8
          refine hideGoal fun hG18 hE18 => ?_
          obtain ⟨oRr, nRr, kRr, cRr, dRr, ddRr⟩ := id hcs
          refine hE18 ?_
          clear hE18
          have hRr : Rw ≠ r := fun e => hRwn (e ▸ hrin)
          refine put_at B F8 X T N8 rfl rfl rfl (by first | exact room2 (by assumption) (by decide) | exact room1 (by assumption) (by decide) | (dsimp only; omega)) (by first | exact room2 (by assumption) (by decide) | exact room1 (by assumption) (by decide) | (dsimp only; omega)) (hG.mono fun a o _ i k => Kn.base k i) (Int.natCast_nonneg _) (by omega) (Int.natCast_nonneg _) (by omega) (r := r) (b := b) (cs := cs) (ws := vs) (by simpa using hr) hcs (ows' r hrin) (by simp only [Int.toNat_natCast]; omega) hb hbn hvl fun h3' tk3 a' l3 F3 N3 x3 y3 hfr ev3 ki3 ow3 => ?_
          have han : a' ∉ rs := fun hm => by
            obtain ⟨o, ho, _⟩ := ows' _ hm
            rw [(N8 _ ho).1] at hfr
            cases hfr
          simp only [Int.toNat_natCast] at x3
          have rw3 := rw'.put F8 N8 hr hcs ev3 x3 y3 hbi han
          have dD3 := dD'.evH F8 N8 ev3 kRr cRr
          have kR3 : Kn g l3 Rw oR := kR'.ev ev3 (fun hm => hRr (List.mem_singleton.mp hm))
          have hT3 : ∀ e ∈ es, RowT (Kn g l3) rs e.2.2 e.1 e.2.1 := fun e he => (hT' e he).to fun a o _ q k => by
            rcases q with q | ⟨q, _⟩
            · exact k.evCH F8 N8 ev3 kRr (by rw [q, cRr]; intro z; injection z with z; exact absurd z (by decide))
            · exact k.ev ev3 (fun hm => q (List.mem_singleton.mp hm ▸ hrin))
          have ows3 : ∀ r ∈ rs, Own l3 r := fun r hr => ow3 _ (ows' r hr)
          have owD3 := ow3 _ ow'
          clear F8
          repeat' (fail_if_success (with_reducible show wpAny _ _ (getMethod (Value.ref D) _ _) _ _ _)); walk1
          rename Fr _ _ _ _ => F4
          refine dmeth F4 N3 dD3 ?_
          repeat' (fail_if_success (with_reducible show wpAny _ _ (call (Value.builtin "dict.pop") _) _ _ _)); walk1
          rename Fr _ _ _ _ => F5
          rename News _ _ _ _ => N5
          have in5 : ∀ q : Addr × Obj, ∀ p ∈ l3, p ∈ q :: l3 := fun q p hp => List.mem_cons_of_mem _ hp
          obtain ⟨pv, hpv⟩ : ∃ pv, atKey xs' (key p) = some pv := by
            have : (atKey xs' (key p)).isSome = true := (atKey_isSome _ _).mpr (by rw [hx']; exact List.mem_map_of_mem hdm)
            exact Option.isSome_iff_exists.mp this
          have hxl' : xs'.length ≤ sizeLine := by
            have e1 := congrArg List.length hx'
            have e2 : (dropG S.2 (nr.take i)).length ≤ S.2.length := List.length_filter_le _ _
            have e3 := hGo.len
            simp only [List.length_map] at e1
            rw [sizeLine_eq]; omega
          have dD5 := fun q => dD3.mono (P' := Kn g (q :: l3)) fun a o _ k => k.sub (Ev.of (in5 q))
          refine dpop F5 N5 (ks := key p) (dD5 _) (owD3.ev (Ev.of (in5 _))) (tup3 (Kn.in List.mem_cons_self rfl)) (by first | exact roomU (by assumption) (by decide) | (simp only [units_deeper]; omega)) hpv hxl' fun h6 tk6 l6 F6 N6 x6 e6 k6 o6 => ?_
          obtain ⟨oDD, _, _, kDD, cDD, -⟩ := dD5 _
          have up6 : ∀ {a : Addr} {o : Obj}, o.cls ≠ .type "dict" → Kn g l3 a o → Kn g l6 a o := fun hc k => (k.sub (Ev.of (in5 _))).evCH F5 N5 e6 kDD (by rw [cDD.1]; exact hc)
          have cl : ∀ {o : Obj} {t : String}, o.cls = .type t → (t == "dict") = false → o.cls ≠ .type "dict" := fun h1 h2 q => by
            rw [h1] at q
            injection q with q
            rw [q] at h2
            exact absurd h2 (by decide)
          clear F5
          k_steps
          refine qP2 _ _ ?_
          refine ⟨_, _, _, _, rfl, by assumption, by assumption, ki3.trans ((KeepIt.of (in5 _)).trans k6), by walk_at "m.look", by walk_at "m.look", by walk_at "m.look", ⟨_, x6, ?_⟩, o6 _ (owD3.ev (Ev.of (in5 _))), ?_, fun r hr => o6 _ ((ows3 r hr).ev (Ev.of (in5 _))), up6 (cl cR (by decide)) kR3, fun e he => (hT3 e he).to fun a o _ q k => up6 (q.elim (fun q => cl q (by decide)) fun q => cl q.2 (by decide)) k⟩
          · rw [drop_key hx', htake, dropG_snoc]
          · have e7 : (fun x y => some (updF S.1 (nr.take (i + 1)) (x, y))) = fun x' y' => if x' = p.1 ∧ y' = p.2 then some ns else some (updF S.1 (nr.take i) (x', y')) := by
              funext x y
              rw [htake, updF_snoc]
              dsimp only
              by_cases h : x = p.1 ∧ y = p.2
              · rw [if_pos h, if_pos (Prod.ext h.1 h.2)]
              · rw [if_neg h, if_neg fun (q : (x, y) = p) => h ⟨congrArg Prod.fst q, congrArg Prod.snd q⟩]
            rw [e7]
            exact rw3.mono fun a o hc k => up6 (cl hc (by decide)) k
        · intro h2' tk2 m2 l2 F2 N2 hK2 hI9
          refine qA2 _ _ ?_
          clear qA2
          obtain ⟨a1, a2, a3, ⟨xs', dD', hx'⟩, ow', rw', ows', kR', hT'⟩ := hI9
          rw [show (es.map fun e => Value.ref e.2.2).toArray.size = nr.length by simp [hnl], List.take_length] at hx' rw'
          rw [hround] at rw'
          rw [hroundG] at hx'
          refine wpAny_execs_nil ⟨_, _, _, _, (stepG ac dn S.2).length, rfl, F2, N2, hlt, k + 1, xs', ?_⟩
          show (stepG ac dn S.2).length = (stepS ac dn (iterS ac dn k S₀)).2.length ∧ _ ∧ _ ∧ _ ∧ _ ∧ _ ∧ xs'.map (·.1) = (stepS ac dn (iterS ac dn k S₀)).2.map key ∧ RowsF (Kn g l2) rs ac dn (fun x y => some ((stepS ac dn (iterS ac dn k S₀)).1 (x, y))) ∧ _
          rw [hSk]
          exact ⟨rfl, a1, a2, a3, dD', ow', hx', rw', ows'⟩
end
end
theorem calm14 : True := by (w_top off); first | walk1 | trivial
section
theorem ListP.monoD {P P' : Addr → Obj → Prop} {a : Addr} {vs : List Value} (x : ListP P a vs) (h : ∀ o ws n, o.cls = .type "list" → o.data = .seq ws n → P a o → P' a o) : ListP P' a vs := let ⟨o, n, p, r⟩ := x; ⟨o, n, h _ _ _ r.1 r.2.1 p, r⟩
theorem RowsF.monoD {P P' : Addr → Obj → Prop} {rs : List Addr} {ac dn : Int} {f : Nat → Nat → Option (List Int)} (x : RowsF P rs ac dn f) (h : ∀ a o ws n, o.cls = .type "list" → o.data = .seq ws n → P a o → P' a o) : RowsF P' rs ac dn f := by
  obtain ⟨n, z, k⟩ := x
  refine ⟨n, z, fun y r hr => ?_⟩
  obtain ⟨cs, hc, hl, hx⟩ := k y r hr
  refine ⟨cs, hc.monoD fun o ws n => h _ o ws n, hl, fun x v h1 => ?_⟩
  have := hx x v h1
  cases q : f x y with
  | none => rw [q] at this; exact this
  | some ns => rw [q] at this; obtain ⟨a, vs, e, hl, hi, hn⟩ := this; exact ⟨a, vs, e, hl.monoD fun o ws n => h _ o ws n, hi, hn⟩
section
variable {w : World} {A₀ : Around} {s : Shared} {base h₀ : Heap} {outer : List Env} {L : Addr} {m mg mb : Str → Option Value} {mean : ExcName → Option Value} {env : Env} {l : List (Addr × Obj)}
/-- as «site», with a base that holds nothing but what is known -/
theorem site2 (B : Below A₀ base outer h₀) (F : Fr h₀ L s.heap m) (X : (hd.heap_1 w.params).In h₀) (T : Top pp (looseW pp []) mean mg mb h₀) (N : News h₀ L s.heap l) (W : List (Addr × Obj))
    (hW : ∀ p ∈ W, p ∈ l) (hf : env.frame = some L) (hk : env.scope.kind = .function) (hh : A₀.handled = none) :
    ∃ g, Ok w (A₀.deeper env) g ∧ Sub g s.heap ∧ Led g s.heap W ∧ (∀ p ∈ l, p.1 ∉ W.map (·.1) → g.get? p.1 = some p.2) ∧ (∀ b o, h₀.get? b = some o → g.get? b = some o) ∧ (∀ b o, g.get? b = some o → h₀.get? b = some o ∨ b = L ∨ ((b, o) ∈ l ∧ b ∉ W.map (·.1))) ∧ g.Ns L m ∧
      ∃ lk, (∀ p ∈ l, p.1 ∉ W.map (·.1) → p ∈ lk) ∧ (∀ p ∈ lk, p ∈ l ∧ p.1 ∉ W.map (·.1)) ∧
      ∀ h' l', (∀ b o, g.get? b = some o → h'.get? b = some o) → Led g h' l' → Fr h₀ L h' m ∧ News h₀ L h' (l' ++ lk) := by
  have hLlt := F.ns.lt
  have st : ∀ b o, h₀.get? b = some o → (restr s.heap s.heap.objs.size (HdOf h₀ L ((l.filter fun p => decide (p.1 ∉ W.map (·.1))).map (·.1)))).get? b = some o := fun b o e =>
    restr_get (Heap.lt_size (F.keep b o e)) (.inl ⟨o, e⟩) (F.keep b o e)
  have Ng : (restr s.heap s.heap.objs.size (HdOf h₀ L ((l.filter fun p => decide (p.1 ∉ W.map (·.1))).map (·.1)))).Ns L m := F.ns.at' fun o e => restr_get hLlt (.inr (.inl rfl)) e
  have Fg : Fr h₀ L (restr s.heap s.heap.objs.size (HdOf h₀ L ((l.filter fun p => decide (p.1 ∉ W.map (·.1))).map (·.1)))) m := ⟨Ng, st, F.above⟩
  have hgl : ∀ p ∈ l, p.1 ∉ W.map (·.1) → (restr s.heap s.heap.objs.size (HdOf h₀ L ((l.filter fun p => decide (p.1 ∉ W.map (·.1))).map (·.1)))).get? p.1 = some p.2 := fun p hp hn =>
    restr_get (Heap.lt_size (N p hp).1) (.inr (.inr (List.mem_map_of_mem (List.mem_filter.mpr ⟨hp, by simpa using hn⟩)))) (N p hp).1
  refine ⟨_, ⟨⟨base, _, pushX B Fg hf hk⟩, X.keeps st, ⟨mean, mg, mb, T.keeps st⟩, hh⟩, ⟨fun b o e => (restr_some e).1, restr_size⟩, fun p hp => ⟨(N p (hW p hp)).1, ?_⟩, hgl, st, fun b o e => ?_, Ng, l.filter (fun p => decide (p.1 ∉ W.map (·.1))), fun p hp hn => List.mem_filter.mpr ⟨hp, by simpa using hn⟩, fun p hp => ⟨(List.mem_filter.mp hp).1, by simpa using (List.mem_filter.mp hp).2⟩, fun h' l' keep hl' => ?_⟩
  · cases q : (restr s.heap s.heap.objs.size (HdOf h₀ L ((l.filter fun p => decide (p.1 ∉ W.map (·.1))).map (·.1)))).get? p.1 with
    | none => rfl
    | some o =>
      exfalso
      rcases (restr_some q).2 with ⟨o', e⟩ | e | e
      · have := (N p (hW p hp)).2.2; rw [this] at e; cases e
      · exact (N p (hW p hp)).2.1 e
      · obtain ⟨q', hq', e⟩ := List.mem_map.mp e
        have := (List.mem_filter.mp hq').2
        simp only [decide_eq_true_eq] at this
        exact this (e ▸ List.mem_map_of_mem hp)
  · obtain ⟨e1, hd⟩ := restr_some e
    rcases hd with ⟨o', e'⟩ | e' | e'
    · have := F.keep _ _ e'
      rw [e1] at this
      exact .inl (by rw [e', Option.some.inj this])
    · exact .inr (.inl e')
    · obtain ⟨q', hq', e'⟩ := List.mem_map.mp e'
      have h1 := (List.mem_filter.mp hq').1
      have h2 := (List.mem_filter.mp hq').2
      have h3 := (N _ h1).1
      rw [e', e1] at h3
      refine .inr (.inr ⟨?_, ?_⟩)
      · have : (b, o) = q' := Prod.ext e'.symm (Option.some.inj h3)
        rw [this]; exact h1
      · rw [← e']; simpa using h2
  · obtain ⟨oL, es, ep, hLg, hLd, hLk, hLf⟩ := Ng
    refine ⟨⟨⟨oL, es, ep, keep L oL hLg, hLd, hLk, hLf⟩, fun b o e => keep b o (st b o e), F.above⟩, fun p hp => ?_⟩
    rcases List.mem_append.mp hp with hp | hp
    · refine ⟨(hl' p hp).1, fun q => ?_, ?_⟩
      · have := (hl' p hp).2; rw [q, hLg] at this; cases this
      · cases q : h₀.get? p.1 with
        | none => rfl
        | some o => have := (hl' p hp).2; rw [st _ _ q] at this; cases this
    · obtain ⟨hp, hn⟩ := List.mem_filter.mp hp
      exact ⟨keep _ _ (hgl p hp (by simpa using hn)), (N p hp).2⟩
end
section
variable {w : World} {A₀ : Around} {s : Shared} {base h₀ : Heap} {outer : List Env} {L : Addr} {m mg mb : Str → Option Value} {mean : ExcName → Option Value} {env : Env} {l : List (Addr × Obj)} {Q E : Value → Shared → Prop} {fr sc lo gr : Addr} {ac dn : Int} {rs : List Addr}
theorem conceal_at (B : Below A₀ base outer h₀) (F : Fr h₀ L s.heap m) (X : (hd.heap_1 w.params).In h₀) (T : Top pp (looseW pp []) mean mg mb h₀) (N : News h₀ L s.heap l) (hf : env.frame = some L) (hk : env.scope.kind = .function) (hh : A₀.handled = none) (hd : A₀.depth + 1 + 30 < recursionLimit) (hu : A₀.units + 3 + 700 < cLine)
    (hfr : FrmP w (fun a o => Kn h₀ l a o ∧ a ∉ rs) fr ac dn) (hsc : ScanP w (fun a o => Kn h₀ l a o ∧ a ∉ rs) sc) (h1 : 1 ≤ ac) (h2 : ac ≤ 5) (h3 : 1 ≤ dn) (h4 : dn ≤ 4)
    {ps : List (Int × Int)} (hl : TupL w (fun a o => Kn h₀ l a o ∧ a ∉ rs) lo (ps.map fun p => [p.1, p.2])) (hps : ∀ p ∈ ps, 0 ≤ p.1 ∧ p.1 ≤ 100 ∧ 0 ≤ p.2 ∧ p.2 ≤ 100) (hpl : ps.length ≤ 100) (bare : AllBare s.gens)
    (hG : GridT w (Kn h₀ l) gr rs) {S₀ : (Spot → List Int) × List Spot} (hRw : RowsF (Kn h₀ l) rs ac dn (fun x y => some (S₀.1 (x, y)))) (hOw : ∀ r ∈ rs, Own l r) (hGo : Good ac dn S₀) (hgk : lostKeys ac ps = S₀.2.map key)
    (hQ : ∀ h' tk gs l' k, Fr h₀ L h' m → News h₀ L h' l' → AllBare gs → RowsF (Kn h₀ l') rs ac dn (fun x y => some ((iterS ac dn k S₀).1 (x, y))) → (∀ r ∈ rs, Own l' r) → (∀ p ∈ (iterS ac dn k S₀).2, sidesS ac dn (iterS ac dn k S₀).2 p = []) → Ev l l' rs → KeepIt l l' → (∀ x, Own l x → Own l' x) → Q .none { s with heap := h', toks := tk, gens := gs }) :
    wpAny (model prg w) (A₀.deeper env) (call (.ref 87) [.ref fr, .ref gr, .ref sc, .ref lo]) Q E s := by
  obtain ⟨g, ok, hs, hW, hg, h0, hall, ngL, lk, k1, k2, k3⟩ := site2 B F X T N (l.filter fun p => decide (p.1 ∈ rs)) (fun p hp => (List.mem_filter.mp hp).1) hf hk hh
  have inW : ∀ {a : Addr}, a ∈ (l.filter fun p => decide (p.1 ∈ rs)).map (·.1) → a ∈ rs := fun h => by
    obtain ⟨p, hp, rfl⟩ := List.mem_map.mp h
    simpa using (List.mem_filter.mp hp).2
  have kn : ∀ a o, Kn h₀ l a o → a ∉ rs → g.get? a = some o := fun a o k hn => k.1.elim (h0 a o) fun hm => hg _ hm fun q => hn (inW q)
  have rowCls : ∀ r ∈ rs, ∃ o, (r, o) ∈ l ∧ o.cls = .type "list" ∧ It o = false := fun r hr => by
    obtain ⟨y, hy, rfl⟩ := List.mem_iff_getElem.mp hr
    obtain ⟨cs, ⟨o, n, ko, oc, _⟩, _⟩ := hRw.2.2 y rs[y] (List.getElem?_eq_getElem hy)
    exact ⟨o, (hOw _ hr).in_of N ko, oc, ko.2⟩
  refine wpAny_call (conceal_spec ok hs hd hu (hfr.mono fun a o _ k => kn a o k.1 k.2) (hsc.mono fun a o _ k => kn a o k.1 k.2) h1 h2 h3 h4 (hl.mono fun a o _ k => kn a o k.1 k.2) hps hpl bare hW
    (hG.mono fun a o q i k => kn a o k ?_) (S₀ := S₀) (hRw.mono fun a o hc k => ?_) (fun r hr => ?_) hGo hgk fun h' tk gs W' k keep led bg hR' hO' hfix => ?_)
  · rcases q with q | q
    · exact q
    · intro hm
      obtain ⟨o', ho', c', _⟩ := rowCls a hm
      have e1 := (N _ ho').1
      rw [k.get F N] at e1
      rw [Option.some.inj e1] at q
      exact q c'
  · by_cases ha : a ∈ rs
    · exact .in (List.mem_filter.mpr ⟨(hOw a ha).in_of N k, by simpa using ha⟩) k.2
    · exact .base (kn a o k ha) k.2
  · obtain ⟨o, ho, _, i⟩ := rowCls r hr
    exact ⟨o, List.mem_filter.mpr ⟨ho, by simpa using hr⟩, i⟩
  · obtain ⟨F', N'⟩ := k3 h' _ keep led
    have lkn : ∀ p ∈ l, p.1 ∉ rs → p ∈ W' ++ lk := fun p hp hn => List.mem_append_right _ (k1 p hp fun q => hn (inW q))
    refine hQ h' tk gs (W' ++ lk) k F' N' bg (hR'.monoD fun a o ws n hc hdt k => ⟨?_, k.2⟩) (fun r hr => (hO' r hr).ev (Ev.of fun p hp => List.mem_append_left _ hp)) hfix (fun p hp hn i => lkn p hp hn) (fun p hp i => lkn p hp fun q => ?_) (fun x hx => ?_)
    · rcases k.1 with q | q
      · rcases hall _ _ q with q' | q' | q'
        · exact .inl q'
        · obtain ⟨oL, es, ep, eL, dL, _⟩ := ngL
          rw [← q', q] at eL
          rw [Option.some.inj eL, dL] at hdt
          cases hdt
        · exact .inr (lkn _ q'.1 fun hm => by
            obtain ⟨o', ho', _⟩ := rowCls a hm
            exact q'.2 (List.mem_map.mpr ⟨_, List.mem_filter.mpr ⟨ho', by simpa using hm⟩, rfl⟩))
      · exact .inr (List.mem_append_left _ q)
    · obtain ⟨o', ho', _, i'⟩ := rowCls _ q
      rw [news_same N hp ho' rfl, i'] at i
      cases i
    · by_cases hxr : x ∈ rs
      · exact (hO' x hxr).ev (Ev.of fun p hp => List.mem_append_left _ hp)
      · obtain ⟨o, ho, i⟩ := hx
        exact ⟨o, lkn _ ho hxr, i⟩
end
end
section
noncomputable def allS : List (Nat × Nat) := [(0,0),(1,0),(2,0),(3,0),(4,0),(0,1),(1,1),(2,1),(3,1),(4,1),(0,2),(1,2),(2,2),(3,2),(4,2),(0,3),(1,3),(2,3),(3,3),(4,3)]
noncomputable def hash2 (p : Nat × Nat) : Int := reduceHash (Builtin.Tuple.tupleHashOf [hashInt p.1, hashInt p.2])
theorem hash_nodup : (allS.map hash2).Nodup := by decide +kernel
theorem hash_inj {p q : Nat × Nat} (hp : p ∈ allS) (hq : q ∈ allS) (h : hash2 p = hash2 q) : p = q := by
  obtain ⟨i, hi, rfl⟩ := List.mem_iff_getElem.mp hp
  obtain ⟨j, hj, rfl⟩ := List.mem_iff_getElem.mp hq
  have := (List.getElem_inj hash_nodup (i := i) (j := j) (h₀ := by simpa using hi) (h₁ := by simpa using hj)).mp (by simpa using h)
  subst this; rfl
theorem mem_allS {p : Nat × Nat} (h1 : p.1 < 5) (h2 : p.2 < 4) : p ∈ allS := by
  obtain ⟨a, b⟩ := p
  simp only at h1 h2
  have : ∀ a < 5, ∀ b < 4, (a, b) ∈ allS := by decide
  exact this a h1 b h2
end
section
section
variable {prog : Program} {w : World} {A : Around} {E : Value → Shared → Prop} {s : Shared} {g : Heap} {L d : Addr} {m : Str → Option Value} {l : List (Addr × Obj)} {xs : List (List Int × Addr × Value)}
noncomputable def hashK (k : List Int) : Int := reduceHash (Builtin.Tuple.tupleHashOf (k.map hashInt))
/-- keys with one hash are one key -/
noncomputable def HashOk (xs : List (List Int × Addr × Value)) : Prop := ∀ x ∈ xs, ∀ y ∈ xs, hashK x.1 = hashK y.1 → x.1 = y.1
theorem filter_one {α : Type} {p : α → Bool} : ∀ {l : List α}, l.Nodup → (∀ a ∈ l, ∀ b ∈ l, p a = true → p b = true → a = b) → (l.filter p).length ≤ 1
  | [], _, _ => Nat.zero_le _
  | a :: r, hn, h => by
    rw [List.nodup_cons] at hn
    rw [List.filter_cons]
    split
    · rename_i pa
      have : r.filter p = [] := List.filter_eq_nil_iff.mpr fun b hb pb => hn.1 (h a List.mem_cons_self b (List.mem_cons_of_mem _ hb) pa pb ▸ hb)
      rw [this]; exact Nat.le_refl _
    · exact filter_one hn.2 fun a ha b hb => h a (List.mem_cons_of_mem _ ha) b (List.mem_cons_of_mem _ hb)
theorem entries_tup {id : String} {Q : Array DictEntry → Shared → Prop} (hx : s.heap.DictOfH (tupleKind (intKind prog w)) d xs) (hok : HashOk xs)
    (hQ : ∀ es : Array DictEntry, es.toList = xs.map (entryOfKey (tupleKind (intKind prog w))) → Q es s) : wpAny (model prog w) A (Builtin.Dict.entriesForEmpty id d) Q E s := by
  obtain ⟨o, es, ep, ho, hc, hd, he, hk, hn⟩ := hx
  unfold Builtin.Dict.entriesForEmpty
  refine wpAny_bind (wpAny_dictEntries ho hd ?_)
  have one : ∀ e ∈ es.toList, (es.filter fun x => x.hash == e.hash).size ≤ 1 := by
    intro e hem
    rw [he] at hem
    obtain ⟨y, hy, rfl⟩ := List.mem_map.mp hem
    have e1 : (es.filter fun x => x.hash == (entryOfKey (tupleKind (intKind prog w)) y).hash).size = (xs.filter fun x => tupleKeyHash (intKind prog w) x.1 == tupleKeyHash (intKind prog w) y.1).length := by
      rw [← Array.length_toList, Array.toList_filter, he, List.filter_map, List.length_map]
      rfl
    rw [e1]
    have hn' : xs.Nodup := List.Pairwise.of_map (·.1) (fun a b h e => h (e ▸ rfl)) hn
    refine filter_one hn' fun a ha b hb pa pb => ?_
    have ha' : a.1 = y.1 := hok a ha y hy (show tupleKeyHash (intKind prog w) a.1 = tupleKeyHash (intKind prog w) y.1 by simpa using pa)
    have hb' : b.1 = y.1 := hok b hb y hy (show tupleKeyHash (intKind prog w) b.1 = tupleKeyHash (intKind prog w) y.1 by simpa using pb)
    obtain ⟨i, hi, rfl⟩ := List.mem_iff_getElem.mp ha
    obtain ⟨j, hj, rfl⟩ := List.mem_iff_getElem.mp hb
    have := (List.getElem_inj hn (i := i) (j := j) (h₀ := by simpa using hi) (h₁ := by simpa using hj)).mp (by simp [ha', hb'])
    subst this; rfl
  have key : ∀ e ∈ es.toList, ∃ a o, e.key = .ref a ∧ s.heap.get? a = some o ∧ o.cls = .type "tuple" := by
    intro e hem
    rw [he] at hem
    obtain ⟨y, hy, rfl⟩ := List.mem_map.mp hem
    obtain ⟨o, i, n, h1, h2, _⟩ := hk y hy
    exact ⟨_, o, rfl, h1, h2⟩
  refine wpAny_bind ?_
  rw [← Array.forIn_toList]
  refine wpAny_forIn_list _ (fun rest _ s' => s' = s ∧ ∀ e ∈ rest, e ∈ es.toList) _ ?_ ?_ _ _ ⟨rfl, fun _ h => h⟩
  · rintro x rest b s' ⟨rfl, hr⟩
    obtain ⟨a, o', ek, h1, h2⟩ := key x (hr x List.mem_cons_self)
    rw [ek]
    refine wpAny_bind ?_
    show wpAny _ _ (specialOf (.ref a) "__eq__" >>= _) _ _ _
    refine wpAny_bind (wpAny_specialOf (T := "tuple") ⟨o', h1, h2⟩ F.slot_tuple_eq.lookup (wpAny_pure ?_))
    have : ¬ (es.filter fun y => y.hash == x.hash).size > 1 := Nat.not_lt.mpr (one x (hr x List.mem_cons_self))
    rw [if_pos (by decide), if_neg this]
    exact wpAny_pure ⟨rfl, fun e he => hr e (List.mem_cons_of_mem _ he)⟩
  · rintro b s' ⟨rfl, _⟩
    exact wpAny_pure (hQ es he)
theorem merge_tup {nm : String} {D src : Addr} {Q : Unit → Shared → Prop} (hne : D ≠ src) (lo : (src == sysModules) = false) (hD : s.heap.get? D = some { cls := .type "dict", data := .dict #[] }) (hx : s.heap.DictOfH (tupleKind (intKind prog w)) src xs) (hok : HashOk xs) (hsz : xs.length ≤ sizeLine)
    (hQ : ∀ h' o es ep, h'.get? D = some o → o.ExactDict → o.data = .dict es ep → es.toList = xs.map (entryOfKey (tupleKind (intKind prog w))) → Heap.SameBut D s.heap h' → Q () { s with heap := h' }) :
    wpAny (model prog w) A (Builtin.Dict.mergeDict nm D src) Q E s := by
  obtain ⟨oo, eso, epo, hoo, hco, hdo', heo, hko, hno⟩ := id hx
  have hl : eso.size = xs.length := by rw [← Array.length_toList, heo, List.length_map]
  unfold Builtin.Dict.mergeDict
  rw [if_neg (by simpa using hne)]
  unfold Builtin.Dict.showsAll
  rw [if_neg (by rw [lo]; exact Bool.false_ne_true)]
  refine wpAny_bind (wpAny_pure ?_)
  refine wpAny_bind (wpAny_dictEntries hoo hdo' ?_)
  dsimp only
  by_cases hz : eso = #[]
  · subst hz
    have h0 : xs = [] := List.eq_nil_of_length_eq_zero (by rw [← hl]; rfl)
    subst h0
    have hgo : Q () s := hQ s.heap _ _ 0 hD ⟨rfl, rfl, rfl⟩ rfl rfl (Heap.SameBut.refl _ _)
    rw [if_neg (by simp)]
    refine wpAny_bind (wpAny_dictEpoch hoo hdo' ?_)
    refine wpAny_bind (wpAny_dictEntries hoo hdo' ?_)
    refine wpAny_bind ?_
    simp only [Array.size_empty]
    rw [Std.Legacy.Range.forIn_eq_forIn_range']
    simp only [Std.Legacy.Range.size, Nat.sub_zero, Nat.add_sub_cancel, Nat.div_one, List.range'_zero, List.forIn_nil]
    exact wpAny_pure (wpAny_pure hgo)
  · have hfew : (decide (eso.size ≤ 8) && eso.all fun e => (keyPart e.key).isSome) = false := by
      rw [Bool.and_eq_false_iff]
      refine .inr ?_
      have hpos : 0 < eso.size := Array.size_pos_iff.mpr hz
      have hm : eso[0] ∈ eso.toList := by simp
      rw [heo] at hm
      obtain ⟨y, _, e⟩ := List.mem_map.mp hm
      rw [Bool.eq_false_iff]
      intro hall
      have := Array.all_eq_true.mp hall 0 hpos
      rw [← e] at this
      simp [entryOfKey, keyPart] at this
    rw [hfew]
    simp only [Bool.not_false, if_true]
    refine wpAny_bind (wpAny_dictEntries hD rfl ?_)
    rw [if_pos (by rfl)]
    refine wpAny_bind (entries_tup hx hok fun es he => ?_)
    have hes : es.size ≤ sizeLine + 1 := by
      have : es.size = xs.length := by rw [← Array.length_toList, he, List.length_map]
      omega
    have hne' : es.isEmpty = false := by
      have : es.size = eso.size := by rw [← Array.length_toList, he, ← heo, Array.length_toList]
      rw [Bool.eq_false_iff]
      intro h
      have h0 : es = #[] := Array.isEmpty_iff.mp h
      rw [h0] at this
      exact hz (Array.eq_empty_of_size_eq_zero this.symm)
    rw [hne']
    simp only [Bool.not_false, if_true]
    exact wpAny_bind (wpAny_updateDictKeysTo hD rfl (wpAny_pure (hQ _ _ es _ (Heap.get?_update_self _ hD rfl) (Obj.ExactDict.mapDictKeys ⟨rfl, rfl, rfl⟩ _) (Obj.data_mapDictKeys rfl _) he (Heap.SameBut.update ..))) hes)
theorem dict_copy {src : Addr} {Q : Value → Shared → Prop} (F : Fr g L s.heap m) (N : News g L s.heap l) (x : DictP prog w (Kn g l) src xs) (lo : (src == sysModules) = false) (hok : HashOk xs) (hsz : xs.length ≤ sizeLine) (hbig : g.NoLimit)
    (hQ : ∀ h' D o, Fr g L h' m → News g L h' ((D, o) :: l) → (∀ p ∈ l, p.1 < D) → DictP prog w (Kn g ((D, o) :: l)) D xs → It o = false → (D == sysModules) = false → Q (.ref D) { s with heap := h' }) :
    wpAny (model prog w) A (call (.type "dict") [.ref src]) Q E s := by
  have hx := x.at F N
  refine callType_codes (Q₁ := fun obj s₁ => obj = .ref s.heap.objs.size ∧ s₁ = { s with heap := s.heap.push { cls := .type "dict", data := .dict #[] } }) PySem.F.kt_called_dict (PySem.F.kt_typeCall_dict_1 _) PySem.F.entry_dict_init (kt_code_dict_new _ ⟨rfl, rfl⟩) ?_
  rintro obj s₁ ⟨rfl, rfl⟩
  have hD : (s.heap.push { cls := .type "dict", data := .dict #[] }).get? s.heap.objs.size = some { cls := .type "dict", data := .dict #[] } := Heap.get?_push_size _ rfl
  have hT : ({ s with heap := s.heap.push { cls := .type "dict", data := .dict #[] } } : Shared).TypeIs (.ref s.heap.objs.size) "dict" := ⟨_, hD, rfl⟩
  obtain ⟨oo, eso, epo, hoo, hco, hdo', heo, hko, hno⟩ := id hx
  have hx' : (s.heap.push { cls := .type "dict", data := .dict #[] }).DictOfH (tupleKind (intKind prog w)) src xs := ⟨oo, eso, epo, Heap.get?_push_of_some _ hoo, hco, hdo', heo, fun y hy => let ⟨o, i, n, h1, r⟩ := hko y hy; ⟨o, i, n, Heap.get?_push_of_some _ h1, r⟩, hno⟩
  have hT' : ({ s with heap := s.heap.push { cls := .type "dict", data := .dict #[] } } : Shared).TypeIs (.ref src) "dict" := hx'.typeIs
  have hdo : s.heap.objs.size ≠ src := fun e => absurd (Heap.lt_size hoo) (by rw [e]; exact Nat.lt_irrefl _)
  refine ⟨hT, PySem.F.args_dict_init_2 _ _, ?_⟩
  unfold Builtin.«dict.__init__»
  refine wpAny_bind ?_
  unfold Builtin.Dict.selfAndRest
  refine wpAny_bind (wpAny_notOrdered_dict hT ?_)
  show wpAny _ _ (pure (s.heap.objs.size, [Value.ref src])) _ _ _
  refine wpAny_pure ?_
  show wpAny _ _ (Builtin.Dict.updateFrom "dict.__init__" s.heap.objs.size (.ref src) [] .none) _ _ _
  unfold Builtin.Dict.updateFrom
  refine wpAny_bind (wpAny_typeOf hT' ?_)
  rw [if_neg (by decide)]
  refine wpAny_bind ?_
  unfold Builtin.Dict.merge
  refine wpAny_bind ?_
  unfold Builtin.Dict.readDirectly
  refine wpAny_bind (wpAny_isInstance hT' isSubtype_dict_dict ?_)
  simp only [Bool.not_true, Bool.false_eq_true, if_false]
  refine wpAny_bind (wpAny_specialOf hT' PySem.F.slot_dict_iter.lookup (wpAny_pure ?_))
  simp only [beq_self_eq_true, if_true]
  refine wpAny_bind (wpAny_pure ?_)
  refine merge_tup hdo lo hD hx' hok hsz fun h' o es ep ho hc hd he hs' => ?_
  show wpAny _ _ (Builtin.Dict.addKeywords s.heap.objs.size [] >>= _) _ _ _
  refine wpAny_bind (wpAny_pure (wpAny_pure ⟨rfl, ?_⟩))
  have N1 := News.push F N { cls := .type "dict", data := .dict #[] }
  have hio := it_dict hc.1
  obtain ⟨_, _, _, _, _, _, _, hTk, hnd⟩ := x
  refine hQ h' _ o ((F.push _).change hs' (N1 _ (.head _)).2.1 (N1.fresh (.head _))) (N1.setHead N.apart hs' ho) (fun p hp => Heap.lt_size (N p hp).1) ⟨o, es, ep, .in List.mem_cons_self hio, hc, hd, he, fun y hy => (hTk y hy).mono fun a o _ k => k.sub (Ev.of fun p hp => List.mem_cons_of_mem _ hp), hnd⟩ hio (F.notModules (modules_low hbig))
theorem list_copy {a : Addr} {vs : List Value} {Q : Value → Shared → Prop} (F : Fr g L s.heap m) (N : News g L s.heap l) (x : ListP (Kn g l) a vs) (hsz : vs.length ≤ sizeLine)
    (hQ : ∀ h' D c, Fr g L h' m → News g L h' ((D, listOf vs.toArray c) :: l) → (∀ p ∈ l, p.1 < D) → Q (.ref D) { s with heap := h' }) :
    wpAny (model prog w) A (call (.type "list") [.ref a]) Q E s := by
  obtain ⟨o, n, k, hc, hd, _⟩ := x
  refine call_list_seq a (.inl rfl) (k.get F N) hc hd (fun h' c' up hD => ?_) (by rw [List.size_toArray]; exact hsz)
  refine hQ h' _ c' (F.keeps up) (fun p hp => ?_) fun p hp => Heap.lt_size (N p hp).1
  rcases List.mem_cons.mp hp with rfl | hp
  · exact ⟨hD, Nat.ne_of_gt F.ns.lt, Heap.get?_none_of_le (Nat.le_trans F.above (Nat.le_of_lt F.ns.lt))⟩
  · exact ⟨up _ _ (N p hp).1, (N p hp).2⟩
end
end
section
theorem keys_miss_list : typeLookup (.type "list") (Str.ofString "keys") = pure none := by rw [typeLookup_type, builtinLookup_eq_fast]; kernel_rfl
theorem entry_dict_update_loop : entryFor table "dict.update.loop" = some Builtin.«dict.update.loop» := entryFor_of_tree (by kernel_rfl)
theorem quiet_dict_update_loop (a : Args) : (Code.builtin "dict.update.loop" a).quiet = true := by first | rfl | decide | kernel_rfl
section
variable {prog : Program} {w : World} {A : Around} {E : Value → Shared → Prop} {s : Shared} {g : Heap} {L d : Addr} {m : Str → Option Value} {l : List (Addr × Obj)} {xs : List (List Int × Addr × Value)}
theorem keys_of_list {a : Addr} {o : Obj} {vs : Array Value} {k : Nat} {Q : Option Value → Shared → Prop}
    (hx : s.heap.get? a = some o) (hc : o.cls = .type "list") (hdat : o.data = .seq vs k) (hd : o.dict = none) (hA : A.handled = none)
    (h : ∀ h' tk, (∀ b o, s.heap.get? b = some o → h'.get? b = some o) → Q none { s with heap := h', toks := tk }) :
    wpAny (model prog w) A (getAttr? (.ref a) (Str.ofString "keys")) Q E s := by
  obtain ⟨c, dct, dat, sl⟩ := o
  simp only at hc hdat hd
  subst hc hdat hd
  refine hideGoal fun hG1 hE1 => ?_
  obtain ⟨hp, g, d, tk, os⟩ := s
  refine hE1 ?_
  clear hE1
  have hT : ∀ tk', (⟨hp, g, d, tk', os⟩ : Shared).TypeIs (.ref a) "list" := fun _ => ⟨_, hx, rfl⟩
  have f1 := sub_AttributeError
  have f3 := PySem.F.slot_list_getattribute.lookup
  have f4 := PySem.F.slot_list_getattribute.bind (.ref a)
  have f5 := am_list_getattr_none
  unfold getAttr? getAttrBy? getAttrBy
  repeat (any_goals (first | assumption | exact hT _ | ((with_reducible show wpAny _ _ (call (Value.builtin "list.__getattribute__") _ _) _ _ _); refine call_meets PySem.F.slot_list_getattribute (hT _) am_entry_list_getattribute (PySem.F.args_list_getattribute_2 _ _) (meets_getattribute_miss_list a vs k sl (Str.ofString "keys") _ keys_miss_list (by decide) (by decide)) ⟨hx, hA, fun h' tk' e hx' => ?_⟩) | wp_step))
  refine hideGoal fun hG2 hE2 => ?_
  obtain ⟨t', u', he⟩ := hx'.there
  refine hE2 ?_
  clear hE2
  show wpAny _ _ (getattributeRaised _ _ _ _ _ _ _) _ _ _
  unfold getattributeRaised
  repeat (any_goals (first | assumption | wp_step))
  exact h _ _ hx'.keeps
/-- a pair object: a tuple key and a value -/
noncomputable def PairAt (prog : Program) (w : World) (h : Heap) (t : Addr × List Int × Addr × Value) : Prop := ∃ o n, h.get? t.1 = some o ∧ o.cls = .type "tuple" ∧ o.data = .seq #[.ref t.2.2.1, t.2.2.2] n ∧ (tupleKind (intKind prog w)).is h t.2.1 t.2.2.1
theorem PairAt.up {h h' : Heap} {t : Addr × List Int × Addr × Value} (x : PairAt prog w h t) (up : ∀ b o, h.get? b = some o → h'.get? b = some o) : PairAt prog w h' t := by
  obtain ⟨o, n, a, b, c, oo, i, k, d⟩ := x
  exact ⟨o, n, up _ _ a, b, c, oo, i, k, up _ _ d.1, d.2⟩
theorem units_under_update_loop (A : Around) (args : Args) : (A.under (.builtin "dict.update.loop" args)).units = A.units + 1 := rfl
theorem pairs_loop {src D it : Addr} {ts : List (Addr × List Int × Addr × Value)} {R : Result → Shared → Prop} {h₀ : Heap} (hh : A.handled = none) (hu : A.units + 1 < cLine) (hsz : ts.length ≤ sizeLine) (hnd : (ts.map (·.2.1)).Nodup)
    (hl : h₀.IsList src (ts.map fun t => Value.ref t.1).toArray) (hp : ∀ t ∈ ts, PairAt prog w h₀ t) (hD : h₀.get? D = none) (hI : h₀.get? it = none) (hDI : it ≠ D) :
    ∀ (k i : Nat) (s : Shared), ts.length - i = k → i ≤ ts.length → (∀ b o, h₀.get? b = some o → s.heap.get? b = some o) → s.heap.DictOfH (tupleKind (intKind prog w)) D ((ts.take i).map (·.2)) → s.heap.IsListIter it src i →
    (∀ h' tk, (∀ b o, h₀.get? b = some o → h'.get? b = some o) → h'.DictOfH (tupleKind (intKind prog w)) D (ts.map (·.2)) → R (.ok (.ret .none)) { s with heap := h', toks := tk }) →
    codeAny (model prog w) A (.builtin "dict.update.loop" ⟨[.ref D, .ref it, rawInt i, .none], []⟩) R s := by
  have neD : ∀ b o, h₀.get? b = some o → b ≠ D := fun b o e q => by rw [q, hD] at e; cases e
  have neI : ∀ b o, h₀.get? b = some o → b ≠ it := fun b o e q => by rw [q, hI] at e; cases e
  intro k
  induction k with
  | zero =>
    intro i s hk hi up hd hit hR
    have hin : i = ts.length := by omega
    refine codeAny_builtin entry_dict_update_loop ?_
    unfold Builtin.«dict.update.loop»
    show wpAny _ _ (pyNext (.ref it) >>= _) _ _ s
    have hl' : s.heap.IsList src (ts.map fun t => Value.ref t.1).toArray := by
      obtain ⟨o, a, b, n, c⟩ := hl
      exact ⟨o, up _ _ a, b, n, c⟩
    refine wpAny_bind (wpAny_pyNext_list_end hh hit hl' (by simp [hin]) fun h' he => ?_)
    show wpAny _ _ (Builtin.Dict.addKeywords D [] >>= _) _ _ _
    refine wpAny_bind (wpAny_pure (wpAny_pure ?_))
    refine hR h' _ (fun b o e => he b o (neI _ _ e) (up _ _ e)) ?_
    rw [hin, List.take_length] at hd
    obtain ⟨o, es, ep, a, b, c, d, e, f⟩ := hd
    exact ⟨o, es, ep, he _ _ (fun q => hDI q.symm) a, b, c, d, fun x hx => by
      obtain ⟨t, ht, rfl⟩ := List.mem_map.mp hx
      exact ((hp t ht).up fun b o e => he b o (neI _ _ e) (up _ _ e)).choose_spec.choose_spec.2.2.2, f⟩
  | succ k ih =>
    intro i s hk hi up hd hit hR
    have hlt : i < ts.length := by omega
    refine codeAny_builtin entry_dict_update_loop ?_
    unfold Builtin.«dict.update.loop»
    show wpAny _ _ (pyNext (.ref it) >>= _) _ _ s
    have hl' : s.heap.IsList src (ts.map fun t => Value.ref t.1).toArray := by
      obtain ⟨o, a, b, n, c⟩ := hl
      exact ⟨o, up _ _ a, b, n, c⟩
    refine wpAny_bind (wpAny_pyNext_list_item (x := .ref ts[i].1) hit hl' (by simp [hlt]) fun h1 hit1 sb1 => ?_)
    have up1 : ∀ b o, h₀.get? b = some o → h1.get? b = some o := fun b o e => sb1.extBut b o (neI _ _ e) (up _ _ e)
    refine hideGoal fun hG3 hE3 => ?_
    obtain ⟨po, pn, q1, q2, q3, q4⟩ := hp ts[i] (List.getElem_mem hlt)
    refine hE3 ?_
    clear hE3
    have q4' : (tupleKind (intKind prog w)).is h1 ts[i].2.1 ts[i].2.2.1 := by
      obtain ⟨oo, ii, kk, dd⟩ := q4
      exact ⟨oo, ii, kk, up1 _ _ dd.1, dd.2⟩
    refine wpAny_bind (wpAny_holding ?_)
    refine wpAny_bind (wpAny_tryCatch ?_)
    unfold Builtin.Dict.pairItems
    refine wpAny_bind (wpAny_typeOf (T := "tuple") ⟨po, up1 _ _ q1, q2⟩ ?_)
    rw [if_pos (by decide)]
    refine wpAny_bind (wpAny_seqItems (up1 _ _ q1) q3 (wpAny_pure ?_))
    show wpAny _ _ (holding _ (dictSet D (.ref ts[i].2.2.1) ts[i].2.2.2)) _ _ _
    have hd1 : h1.DictOfH (tupleKind (intKind prog w)) D ((ts.take i).map (·.2)) := by
      obtain ⟨o, es, ep, a, b, c, d, e, f⟩ := hd
      exact ⟨o, es, ep, sb1.extBut _ _ (fun q => hDI q.symm) a, b, c, d, fun x hx => by
        obtain ⟨t, ht, rfl⟩ := List.mem_map.mp hx
        exact ((hp t (List.mem_of_mem_take ht)).up up1).choose_spec.choose_spec.2.2.2, f⟩
    have hfresh : ts[i].2.1 ∉ ((ts.take i).map (·.2)).map (·.1) := by
      intro hm
      rw [List.map_map] at hm
      obtain ⟨t, ht, e⟩ := List.mem_map.mp hm
      obtain ⟨j, hj, rfl⟩ := List.mem_iff_getElem.mp ht
      rw [List.length_take] at hj
      rw [List.getElem_take] at e
      have := (List.getElem_inj hnd (i := j) (j := i) (h₀ := by simp; omega) (h₁ := by simpa using hlt)).mp (by simpa using e)
      omega
    refine wpAny_holding (wpAny_dictSet_heap (knd := tupleKind (intKind prog w)) (xs := (ts.take i).map (·.2)) (by show _ < cLine; simp only [units_under_update_loop]; exact hu) q4' hd1 (fun h2 hd2 sb2 => ?_) (by simp; omega))
    have up2 : ∀ b o, h₀.get? b = some o → h2.get? b = some o := fun b o e => sb2.extBut b o (neD _ _ e) (up1 _ _ e)
    refine wpAny_pure ⟨quiet_dict_update_loop _, ?_⟩
    have e1 : ((i : Int) + 1) = ((i + 1 : Nat) : Int) := by omega
    rw [e1]
    refine ih (i + 1) _ (by omega) hlt up2 ?_ ?_ fun h' tk u d => hR h' tk u d
    · have hnone : atKey ((ts.take i).map (·.2)) ts[i].2.1 = none := by
        unfold atKey
        rw [Option.map_eq_none_iff, List.find?_eq_none]
        intro y hy hk
        exact hfresh (List.mem_map.mpr ⟨y, hy, of_decide_eq_true hk⟩)
      rw [storedH_new hnone] at hd2
      have e2 : (ts.take (i + 1)).map (·.2) = (ts.take i).map (·.2) ++ [ts[i].2] := by rw [List.take_succ_eq_append_getElem hlt, List.map_append]; rfl
      rw [e2]; exact hd2
    · obtain ⟨o, a, b, c⟩ := hit1
      exact ⟨o, sb2.extBut _ _ hDI a, b, c⟩
theorem dict_pairs {src : Addr} {ts : List (Addr × List Int × Addr × Value)} {Q : Value → Shared → Prop} (F : Fr g L s.heap m) (N : News g L s.heap l) (x : ListP (Kn g l) src (ts.map fun t => Value.ref t.1))
    (hp : ∀ t ∈ ts, (∃ o n, Kn g l t.1 o ∧ o.cls = .type "tuple" ∧ o.data = .seq #[.ref t.2.2.1, t.2.2.2] n) ∧ TupP prog w (Kn g l) t.2.1 t.2.2.1)
    (hnd : (ts.map (·.2.1)).Nodup) (hh : A.handled = none) (hu : A.units + 5 < cLine) (hsz : ts.length ≤ sizeLine) (hbig : g.NoLimit)
    (hQ : ∀ h' tk D o, Fr g L h' m → News g L h' ((D, o) :: l) → (∀ p ∈ l, p.1 < D) → DictP prog w (Kn g ((D, o) :: l)) D (ts.map (·.2)) → It o = false → (D == sysModules) = false → Q (.ref D) { s with heap := h', toks := tk }) :
    wpAny (model prog w) A (call (.type "dict") [.ref src]) Q E s := by
  refine callType_codes (Q₁ := fun obj s₁ => obj = .ref s.heap.objs.size ∧ s₁ = { s with heap := s.heap.push { cls := .type "dict", data := .dict #[] } }) PySem.F.kt_called_dict (PySem.F.kt_typeCall_dict_1 _) PySem.F.entry_dict_init (kt_code_dict_new _ ⟨rfl, rfl⟩) ?_
  rintro obj s₁ ⟨rfl, rfl⟩
  have hD : (s.heap.push { cls := .type "dict", data := .dict #[] }).get? s.heap.objs.size = some { cls := .type "dict", data := .dict #[] } := Heap.get?_push_size _ rfl
  have hT : ({ s with heap := s.heap.push { cls := .type "dict", data := .dict #[] } } : Shared).TypeIs (.ref s.heap.objs.size) "dict" := ⟨_, hD, rfl⟩
  have hl := x.at F N
  refine hideGoal fun hG4 hE4 => ?_
  obtain ⟨lo, ln, lk, lc, ld, ldn⟩ := x
  refine hE4 ?_
  clear hE4
  have lg := lk.get F N
  have hT' : ({ s with heap := s.heap.push { cls := .type "dict", data := .dict #[] } } : Shared).TypeIs (.ref src) "list" := ⟨lo, Heap.get?_push_of_some _ lg, lc⟩
  refine ⟨hT, PySem.F.args_dict_init_2 _ _, ?_⟩
  unfold Builtin.«dict.__init__»
  refine wpAny_bind ?_
  unfold Builtin.Dict.selfAndRest
  refine wpAny_bind (wpAny_notOrdered_dict hT ?_)
  show wpAny _ _ (pure (s.heap.objs.size, [Value.ref src])) _ _ _
  refine wpAny_pure ?_
  show wpAny _ _ (Builtin.Dict.updateFrom "dict.__init__" s.heap.objs.size (.ref src) [] .none) _ _ _
  unfold Builtin.Dict.updateFrom
  refine wpAny_bind (wpAny_typeOf hT' ?_)
  rw [if_pos (by decide)]
  refine wpAny_bind (keys_of_list (Heap.get?_push_of_some _ lg) lc ld ldn hh fun h1 tk1 up1 => ?_)
  rw [if_pos (by rfl)]
  refine wpAny_bind (wpAny_rule (wpAny_bind ?_))
  have up0 : ∀ b o, s.heap.get? b = some o → h1.get? b = some o := fun b o e => up1 _ _ (Heap.get?_push_of_some _ e)
  refine wpAny_pyIter_list (items := (ts.map fun t => Value.ref t.1).toArray) ⟨lo, up0 _ _ lg, lc, ln, ld⟩ ?_
  refine wpAny_pure ⟨quiet_dict_update_loop _, ?_⟩
  have hD1 : h1.get? s.heap.objs.size = some { cls := .type "dict", data := .dict #[] } := up1 _ _ hD
  have hlt1 : s.heap.objs.size < h1.objs.size := Heap.lt_size hD1
  have hle : s.heap.objs.size ≤ h1.objs.size := Nat.le_of_lt hlt1
  refine pairs_loop (prog := prog) (w := w) (A := A.in1) (R := wants (fun r s₂ => r = Value.none ∧ Q (Value.ref s.heap.objs.size) s₂) E) (h₀ := s.heap) (ts := ts) hh (by rw [units_in1]; omega) hsz hnd hl (fun t ht => ?_) (Heap.get?_none_of_le (Nat.le_refl _)) (Heap.get?_none_of_le hle) (Nat.ne_of_gt hlt1) _ 0 { s with heap := h1.push { cls := .type "list_iterator", data := .fields #[.ref src, .int 0 0] }, toks := tk1 } rfl (Nat.zero_le _) (fun b o e => Heap.get?_push_of_some _ (up0 _ _ e)) ⟨_, #[], 0, Heap.get?_push_of_some _ hD1, ⟨rfl, rfl, rfl⟩, rfl, by simp, by simp, by simp⟩ ⟨_, Heap.get?_push_size _ rfl, by rfl, by rfl⟩ fun h' tk up hd => ?_
  · obtain ⟨⟨o, n, k, c, d⟩, t⟩ := hp t ht
    exact ⟨o, n, k.get F N, c, d, t.at F N⟩
  · refine ⟨rfl, ?_⟩
    refine hideGoal fun hG5 hE5 => ?_
    obtain ⟨o, es, ep, ho, hc, hdat, he, _, hn⟩ := hd
    refine hE5 ?_
    clear hE5
    have hio := it_dict hc.1
    refine hQ h' tk _ o (F.keeps up) (fun p hp => ?_) (fun p hp => Heap.lt_size (N p hp).1) ⟨o, es, ep, .in List.mem_cons_self hio, hc, hdat, he, fun y hy => ?_, hn⟩ hio (F.notModules (modules_low hbig))
    · rcases List.mem_cons.mp hp with rfl | hp
      · exact ⟨ho, Nat.ne_of_gt F.ns.lt, Heap.get?_none_of_le (Nat.le_trans F.above (Nat.le_of_lt F.ns.lt))⟩
      · exact ⟨up _ _ (N p hp).1, (N p hp).2⟩
    · obtain ⟨t, ht, rfl⟩ := List.mem_map.mp hy
      exact ((hp t ht).2).mono fun a o _ k => k.sub (Ev.of fun p hp => List.mem_cons_of_mem _ hp)
end
end
section
noncomputable def key2 (p : Spot) : List Int := [(p.1 : Int), (p.2 : Int)]
theorem key2_inj {p q : Spot} (h : key2 p = key2 q) : p = q := by
  unfold key2 at h
  simp only [List.cons.injEq, and_true] at h
  obtain ⟨a, b⟩ := p; obtain ⟨c, d⟩ := q
  simp only at h
  exact Prod.ext (by simp; omega) (by simp; omega)
theorem mem_key2 {p : Spot} {gone : List Spot} : key2 p ∈ gone.map key2 ↔ p ∈ gone := by
  constructor
  · intro h
    obtain ⟨q, hq, e⟩ := List.mem_map.mp h
    rw [← key2_inj e]; exact hq
  · exact fun h => List.mem_map_of_mem h
theorem nodup_len {α : Type} [DecidableEq α] : ∀ {l m : List α}, l.Nodup → (∀ a ∈ l, a ∈ m) → l.length ≤ m.length
  | [], _, _, _ => Nat.zero_le _
  | a :: r, m, hn, h => by
    rw [List.nodup_cons] at hn
    have ha := h a List.mem_cons_self
    have := nodup_len (l := r) (m := m.erase a) hn.2 fun b hb => (List.mem_erase_of_ne (fun (e : b = a) => hn.1 (e ▸ hb))).mpr (h b (List.mem_cons_of_mem _ hb))
    rw [List.length_erase_of_mem ha] at this
    have hp := List.length_pos_of_mem ha
    simp only [List.length_cons]
    omega
abbrev Rws := (Spot → List Int) × List Spot
/-- the new means of a turn -/
noncomputable def lat (ac dn : Int) (S : Rws) (ps : List Spot) : List (Spot × Int) := ps.filterMap fun p => if sidesS ac dn S.2 p = [] then none else some (p, rnd ((sidesS ac dn S.2 p).map (hdv S.1)).sum (sidesS ac dn S.2 p).length)
theorem mem_lat {ac dn : Int} {S : Rws} {ps : List Spot} {e : Spot × Int} : e ∈ lat ac dn S ps ↔ e.1 ∈ ps ∧ sidesS ac dn S.2 e.1 ≠ [] ∧ e.2 = rnd ((sidesS ac dn S.2 e.1).map (hdv S.1)).sum (sidesS ac dn S.2 e.1).length := by
  unfold lat
  rw [List.mem_filterMap]
  constructor
  · rintro ⟨p, hp, h⟩
    split at h
    · cases h
    · rename_i c
      obtain rfl := Option.some.inj h
      exact ⟨hp, c, rfl⟩
  · rintro ⟨hp, c, h⟩
    refine ⟨e.1, hp, ?_⟩
    rw [if_neg c, ← h]
theorem lat_fst {ac dn : Int} {S : Rws} {ps : List Spot} : (lat ac dn S ps).map (·.1) = ps.filter fun p => decide (sidesS ac dn S.2 p ≠ []) := by
  unfold lat
  rw [List.map_filterMap]
  induction ps with
  | nil => rfl
  | cons p r ih =>
    rw [List.filterMap_cons, List.filter_cons]
    by_cases h : sidesS ac dn S.2 p = []
    · simp [h, ih]
    · simp [h, ih]
theorem lat_nodup {ac dn : Int} {S : Rws} {ps : List Spot} (h : ps.Nodup) : ((lat ac dn S ps).map (·.1)).Nodup := by rw [lat_fst]; exact List.filter_sublist.nodup h
theorem lat_snoc {ac dn : Int} {S : Rws} {ps : List Spot} {p : Spot} : lat ac dn S (ps ++ [p]) = lat ac dn S ps ++ (if sidesS ac dn S.2 p = [] then [] else [(p, rnd ((sidesS ac dn S.2 p).map (hdv S.1)).sum (sidesS ac dn S.2 p).length)]) := by
  unfold lat
  rw [List.filterMap_append]
  congr 1
  by_cases h : sidesS ac dn S.2 p = []
  · simp [h]
  · simp [h]
/-- an entry of a dict of numbers -/
noncomputable def DV (e : Spot × Int) (y : List Int × Addr × Value) : Prop := y.1 = key2 e.1 ∧ ∃ t, y.2.2 = .int e.2 t
inductive DVs : List (Spot × Int) → List (List Int × Addr × Value) → Prop where
  | nil : DVs [] []
  | cons {e y es ys} : DV e y → DVs es ys → DVs (e :: es) (y :: ys)
theorem DVs.snoc {es ys e y} (h : DVs es ys) (d : DV e y) : DVs (es ++ [e]) (ys ++ [y]) := by
  induction h with
  | nil => exact .cons d .nil
  | cons a _ ih => exact .cons a ih
theorem DVs.len {es ys} (h : DVs es ys) : ys.length = es.length := by
  induction h with
  | nil => rfl
  | cons _ _ ih => simp [ih]
theorem DVs.get {es ys} (h : DVs es ys) : ∀ {i : Nat} (hi : i < ys.length) (hj : i < es.length), DV es[i] ys[i] := by
  induction h with
  | nil => intro i hi; exact absurd hi (Nat.not_lt_zero _)
  | cons a _ ih =>
    intro i hi hj
    cases i with
    | zero => exact a
    | succ i => exact ih (Nat.lt_of_succ_lt_succ hi) (Nat.lt_of_succ_lt_succ hj)
theorem DVs.keys {es ys} (h : DVs es ys) : ys.map (·.1) = (es.map (·.1)).map key2 := by
  induction h with
  | nil => rfl
  | cons a _ ih => simp [ih, a.1]
/-- the dict of what is known, with some new means put in -/
noncomputable def KnU (ac dn : Int) (S : Rws) (done : List (Spot × Int)) (xs : List (List Int × Addr × Value)) : Prop :=
  (∀ x ∈ xs, ∃ p, In ac dn p ∧ x.1 = key2 p ∧ ((∃ n, (p, n) ∈ done ∧ ∃ t, x.2.2 = .int n t) ∨ (p ∉ S.2 ∧ ∃ t, x.2.2 = .int (hdv S.1 p) t))) ∧ (∀ p, In ac dn p → (p ∉ S.2 ∨ p ∈ done.map (·.1)) → key2 p ∈ xs.map (·.1))
abbrev Known (ac dn : Int) (S : Rws) (xs : List (List Int × Addr × Value)) : Prop := KnU ac dn S [] xs
theorem KnU.len {ac dn : Int} {S : Rws} {done : List (Spot × Int)} {xs : List (List Int × Addr × Value)} (h : KnU ac dn S done xs) (hn : (xs.map (·.1)).Nodup) (h2 : ac ≤ 5) (h4 : dn ≤ 4) : xs.length ≤ 20 := by
  have := nodup_len (m := allS.map key2) hn fun k hk => by
    obtain ⟨x, hx, rfl⟩ := List.mem_map.mp hk
    obtain ⟨p, hp, e, _⟩ := h.1 x hx
    rw [e]
    have := hp.1; have := hp.2
    exact List.mem_map_of_mem (mem_allS (by omega) (by omega))
  simpa [allS] using this
theorem KnU.step {ac dn : Int} {S : Rws} {done : List (Spot × Int)} {xs : List (List Int × Addr × Value)} {p : Spot} {n : Int} {a : Addr} {t : Tok} (h : KnU ac dn S done xs) (hp : In ac dn p) (hg : p ∈ S.2) (hd : p ∉ done.map (·.1)) :
    atKey xs (key2 p) = none ∧ KnU ac dn S (done ++ [(p, n)]) (xs ++ [(key2 p, a, .int n t)]) := by
  refine ⟨?_, fun x hx => ?_, fun q hq hq2 => ?_⟩
  · unfold atKey
    rw [Option.map_eq_none_iff, List.find?_eq_none]
    intro y hy hk
    obtain ⟨q, hq, e, hv⟩ := h.1 y hy
    have hk' : y.1 = key2 p := of_decide_eq_true hk
    obtain rfl := key2_inj (e.symm.trans hk')
    rcases hv with ⟨n, hn, _⟩ | ⟨hn, _⟩
    · exact hd (List.mem_map.mpr ⟨_, hn, rfl⟩)
    · exact hn hg
  · rcases List.mem_append.mp hx with hx | hx
    · obtain ⟨q, hq, e, hv⟩ := h.1 x hx
      refine ⟨q, hq, e, ?_⟩
      rcases hv with ⟨n, hn, hv⟩ | hv
      · exact .inl ⟨n, List.mem_append_left _ hn, hv⟩
      · exact .inr hv
    · rw [List.mem_singleton.mp hx]
      exact ⟨p, hp, rfl, .inl ⟨n, by simp, t, rfl⟩⟩
  · rw [List.map_append, List.mem_append]
    by_cases e : q = p
    · exact .inr (by simp [e])
    · refine .inl (h.2 q hq (hq2.imp id fun hm => ?_))
      rw [List.map_append, List.mem_append] at hm
      rcases hm with hm | hm
      · exact hm
      · simp at hm; exact absurd hm e
theorem KnU.next {ac dn : Int} {S : Rws} {xs : List (List Int × Addr × Value)} (h : KnU ac dn S (lat ac dn S S.2) xs) : Known ac dn (stepS ac dn S) xs := by
  refine ⟨fun x hx => ?_, fun p hp hq => ?_⟩
  · obtain ⟨p, hp, e, hv⟩ := h.1 x hx
    refine ⟨p, hp, e, .inr ?_⟩
    rcases hv with ⟨n, hn, t, ht⟩ | ⟨hn, t, ht⟩
    · obtain ⟨h1, h2, h3⟩ := mem_lat.mp hn
      simp only at h1 h2 h3
      refine ⟨fun hm => ?_, t, ?_⟩
      · have := (List.mem_filter.mp hm).2
        exact h2 (of_decide_eq_true this)
      · rw [ht, h3]
        show _ = Value.int ((stepF ac dn S p).headD 0) t
        unfold stepF
        rw [if_pos ⟨h1, h2⟩]
        rfl
    · refine ⟨fun hm => hn (List.mem_filter.mp hm).1, t, ?_⟩
      rw [ht]
      show _ = Value.int ((stepF ac dn S p).headD 0) t
      unfold stepF
      rw [if_neg (fun c => hn c.1)]
      rfl
  · refine h.2 p hp ?_
    rcases hq with hq | hq
    · by_cases hm : p ∈ S.2
      · refine .inr ?_
        rw [lat_fst, List.mem_filter]
        refine ⟨hm, decide_eq_true fun e => hq ?_⟩
        exact List.mem_filter.mpr ⟨hm, decide_eq_true e⟩
      · exact .inl hm
    · simp at hq
theorem atKey_mem {xs : List (List Int × Addr × Value)} (hn : (xs.map (·.1)).Nodup) {x : List Int × Addr × Value} (hx : x ∈ xs) : atKey xs x.1 = some x.2 := by
  obtain ⟨i, hi, rfl⟩ := List.mem_iff_getElem.mp hx
  exact atKey_of_get hn (i := i) (by rw [List.getElem?_eq_getElem hi])
theorem Known.get {ac dn : Int} {S : Rws} {xs : List (List Int × Addr × Value)} (h : Known ac dn S xs) (hn : (xs.map (·.1)).Nodup) {p : Spot} (hp : In ac dn p) (hg : p ∉ S.2) : ∃ a t, atKey xs (key2 p) = some (a, .int (hdv S.1 p) t) := by
  obtain ⟨x, hx, e⟩ := List.mem_map.mp (h.2 p hp (.inl hg))
  have := atKey_mem hn hx
  obtain ⟨q, hq, e', hv⟩ := h.1 x hx
  obtain rfl := key2_inj (e'.symm.trans e)
  rcases hv with ⟨n, hn, _⟩ | ⟨_, t, ht⟩
  · cases hn
  · refine ⟨x.2.1, t, ?_⟩
    rw [← e, this, ← ht]
theorem Known.mem {ac dn : Int} {S : Rws} {xs : List (List Int × Addr × Value)} (h : Known ac dn S xs) {x y : Int} : ([x, y] ∈ xs.map (·.1)) ↔ sideOf ac dn S.2 (x, y) ≠ none := by
  constructor
  · intro hm
    obtain ⟨z, hz, e⟩ := List.mem_map.mp hm
    obtain ⟨p, hp, e', hv⟩ := h.1 z hz
    have e2 : [x, y] = key2 p := e.symm.trans e'
    unfold key2 at e2
    simp only [List.cons.injEq, and_true] at e2
    obtain ⟨rfl, rfl⟩ := e2
    have hg : p ∉ S.2 := by
      rcases hv with ⟨n, hn, _⟩ | ⟨hn, _⟩
      · cases hn
      · exact hn
    unfold sideOf
    have h1 := hp.1; have h2 := hp.2
    simp [h1, h2, hg]
  · intro hm
    unfold sideOf at hm
    split at hm
    · rename_i c
      obtain ⟨c1, c2, c3, c4, c5⟩ := c
      simp only at c1 c2 c3 c4 c5
      have := h.2 (x.toNat, y.toNat) ⟨by simp only; omega, by simp only; omega⟩ (.inl c5)
      unfold key2 at this
      simp only [Int.toNat_of_nonneg c1, Int.toNat_of_nonneg c3] at this
      exact this
    · exact absurd rfl hm
theorem atKey_none {xs : List (List Int × Addr × Value)} {k : List Int} (h : k ∉ xs.map (·.1)) : atKey xs k = none := by
  unfold atKey
  rw [Option.map_eq_none_iff, List.find?_eq_none]
  intro y hy hk
  exact h (List.mem_map.mpr ⟨y, hy, of_decide_eq_true hk⟩)
theorem Known.side {ac dn : Int} {S : Rws} {xs : List (List Int × Addr × Value)} (h : Known ac dn S xs) (hn : (xs.map (·.1)).Nodup) {x y : Int} :
    (∃ q a t, sideOf ac dn S.2 (x, y) = some q ∧ atKey xs [x, y] = some (a, .int (hdv S.1 q) t)) ∨ (sideOf ac dn S.2 (x, y) = none ∧ atKey xs [x, y] = none) := by
  cases e : sideOf ac dn S.2 (x, y) with
  | none => exact .inr ⟨rfl, atKey_none fun hm => h.mem.mp hm e⟩
  | some q =>
    unfold sideOf at e
    split at e
    · rename_i c
      obtain ⟨c1, c2, c3, c4, c5⟩ := c
      simp only at c1 c2 c3 c4 c5
      obtain rfl := Option.some.inj e
      obtain ⟨a, t, e2⟩ := h.get hn (p := (x.toNat, y.toNat)) ⟨by simp only; omega, by simp only; omega⟩ c5
      refine .inl ⟨_, a, t, rfl, ?_⟩
      unfold key2 at e2
      simp only [Int.toNat_of_nonneg c1, Int.toNat_of_nonneg c3] at e2
      exact e2
    · cases e
theorem hash_ok {ac dn : Int} {S : Rws} {done : List (Spot × Int)} {xs : List (List Int × Addr × Value)} (h : KnU ac dn S done xs) (h2 : ac ≤ 5) (h4 : dn ≤ 4) : HashOk xs := by
  intro x hx y hy e
  obtain ⟨p, hp, ep, _⟩ := h.1 x hx
  obtain ⟨q, hq, eq, _⟩ := h.1 y hy
  have a1 := hp.1; have a2 := hp.2; have a3 := hq.1; have a4 := hq.2
  rw [ep, eq] at e ⊢
  rw [hash_inj (mem_allS (p := p) (by omega) (by omega)) (mem_allS (p := q) (by omega) (by omega)) e]
section
variable {prog : Program} {w : World} {P P' : Addr → Obj → Prop} {ks : List Int} {a d : Addr} {xs : List (List Int × Addr × Value)} {vs : List Value}
noncomputable def NoCell (o : Obj) : Prop := ∀ v, o.data ≠ .cell v
theorem TupP.monoN (x : TupP prog w P ks a) (h : ∀ a o, o.cls = .type "tuple" → NoCell o → P a o → P' a o) : TupP prog w P' ks a := let ⟨o, i, n, p, r⟩ := x; ⟨o, i, n, h _ _ r.1 (fun v e => by rw [r.2.1] at e; cases e) p, r⟩
theorem DictP.monoN (x : DictP prog w P d xs) (h : ∀ a o, (o.cls = .type "dict" ∧ a = d ∨ o.cls = .type "tuple") → NoCell o → P a o → P' a o) : DictP prog w P' d xs := let ⟨o, es, ep, p, a, b, c, t, n⟩ := x; ⟨o, es, ep, h _ _ (.inl ⟨a.1, rfl⟩) (fun v e => by rw [b] at e; cases e) p, a, b, c, fun y hy => (t y hy).monoN fun a o hc => h a o (.inr hc), n⟩
theorem ListP.monoN (x : ListP P a vs) (h : ∀ o, o.cls = .type "list" → NoCell o → P a o → P' a o) : ListP P' a vs := let ⟨o, n, p, r⟩ := x; ⟨o, n, h _ r.1 (fun v e => by rw [r.2.1] at e; cases e) p, r⟩
theorem TupL.monoN {D : Addr} {ks : List (List Int)} (x : TupL w P D ks) (h : ∀ a o, (o.cls = .type "list" ∨ o.cls = .type "tuple") → NoCell o → P a o → P' a o) : TupL w P' D ks := by
  obtain ⟨es, hD, hT, hk⟩ := x
  exact ⟨es, hD.monoN fun o hc => h _ o (.inl hc), fun e he => (hT e he).monoN fun a o hc => h a o (.inr hc), hk⟩
end
section
variable {w : World} {A : Around} {E : Value → Shared → Prop} {s : Shared} {g h : Heap} {L c : Addr} {m : Str → Option Value} {l l' : List (Addr × Obj)} {o : Obj} {M : Model}
theorem Kn.neD {a b : Addr} {o o' : Obj} (F : Fr g L h m) (N : News g L h l) (k : Kn g l a o) (k' : Kn g l b o') (e : o.data ≠ o'.data) : a ≠ b := by
  rintro rfl
  have h1 := k.get F N
  rw [k'.get F N] at h1
  exact e (by rw [Option.some.inj h1])
theorem Kn.evN {a : Addr} {o' : Obj} (k : Kn g l a o') (F : Fr g L h m) (N : News g L h l) (e : Ev l l' [c]) (kc : (c, o) ∈ l) {v : Option Value} (hd : o.data = .cell v) (hn : NoCell o') : Kn g l' a o' :=
  k.ev e (by rw [List.mem_singleton]; exact k.neD F N (Kn.in kc (it_cell hd)) (by rw [hd]; exact hn v))
theorem ldC {env : Env} {x : Str} {pos : Pos} {v : Value} {Q : Value → Shared → Prop} (N : News g L s.heap l) (hm : (c, o) ∈ l) (hd : o.data = .cell (some v)) (h : Q v s)
    (hk : env.scope.kind = .function) (hl : env.kindOf x = some .cell) (hc : env.cells.lookup x = some c) (hdb : (x == ("__debug__" : Str)) = false := by decide) :
    wpAny M A (eval (.Name x pos) env) Q E s := wpAny_Name (wpAny_loadName_cell hk hl hc ⟨o, N.get hm, hd⟩ h) hdb
theorem stC {env : Env} {x : Str} {v : Value} {v₀ : Option Value} {Q : Unit → Shared → Prop} (F : Fr g L s.heap m) (N : News g L s.heap l) (hm : (c, o) ∈ l) (hd : o.data = .cell v₀)
    (hQ : ∀ h' l' o', Fr g L h' m → News g L h' l' → (c, o') ∈ l' → o'.data = .cell (some v) → Ev l l' [c] → KeepIt l l' → (∀ x, Own l x → Own l' x) → Q () { s with heap := h' })
    (hk : env.scope.kind = .function) (hl : env.kindOf x = some .cell) (hc : env.cells.lookup x = some c) : wpAny M A (storeName env x v) Q E s := by
  refine wpAny_storeName_cell hk hl hc ⟨o, N.get hm, hd⟩ fun h' hv hs => ?_
  obtain ⟨o', ho', hd'⟩ := hv
  obtain ⟨l', F', N', hin, ev, ki, ow, -⟩ := mutL F N (Own.in hm (it_cell hd)) hs ho' (it_cell hd')
  exact hQ h' l' o' F' N' hin hd' ev ki ow
end
section
variable {w : World} {A₀ : Around} {s : Shared} {base h₀ : Heap} {outer : List Env} {L : Addr} {m mg mb : Str → Option Value} {mean : ExcName → Option Value} {env : Env} {l : List (Addr × Obj)} {Q E : Value → Shared → Prop}
theorem rounded_at (B : Below A₀ base outer h₀) (F : Fr h₀ L s.heap m) (X : (hd.heap_1 w.params).In h₀) (T : Top pp (looseW pp []) mean mg mb h₀) (N : News h₀ L s.heap l) (hf : env.frame = some L) (hk : env.scope.kind = .function) (hh : A₀.handled = none) (hd : A₀.depth + 1 + 1 < recursionLimit)
    {tot many : Int} {t1 t2 : Tok} (hm : 0 < many) (hm2 : many < 1000)
    (hQ : ∀ h' tk t, Fr h₀ L h' m → News h₀ L h' l → Q (.int (rnd tot many) t) { s with heap := h', toks := tk }) :
    wpAny (model prg w) (A₀.deeper env) (call (.ref 270) [.int tot t1, .int many t2]) Q E s :=
  ro_at (Post := fun v ln => ∃ t, v = .int (rnd tot many) t ∧ ln = []) B F X T N hf hk hh (fun g ok hs kn R hR => rounded_spec ok hs hd hm hm2 fun h' tk t keep => hR h' tk _ [] keep Led.nil ⟨t, rfl, rfl⟩)
   (by rintro h' tk v ln ⟨t, rfl, rfl⟩ F' N' _; exact hQ h' tk t F' N')
end
section
variable {prog : Program} {w : World} {A : Around} {E : Value → Shared → Prop} {s : Shared} {g : Heap} {L d a : Addr} {m : Str → Option Value} {l : List (Addr × Obj)} {ks : List Int} {xs : List (List Int × Addr × Value)}
theorem dsub {value slice : PySem.Expr} {p : Addr × Value} {Q : Value → Shared → Prop} (F : Fr g L s.heap m) (N : News g L s.heap l) (x : DictP prog w (Kn g l) d xs) (t : TupP prog w (Kn g l) ks a) (hu : A.units + 5 < cLine) (hp : atKey xs ks = some p)
    (hQ : ∀ tk, Q p.2 { s with toks := tk })
    (hs : subscripted slice false (.ref d) (.ref a) = operate [.ref d, .ref a] (getItem (.ref d) (.ref a)) := by with_unfolding_all rfl) :
    wpAny (model prog w) A (subscriptTail value slice (.ref d) (.ref a)) Q E s :=
  tail_any (x.typeIs F N) PySem.F.slot_dict_getitem.lookup (dget F N x t (by omega) hp hQ) hs
end
end
section
theorem word68 : True := by
  k_with_none
  trivial
theorem word69 : True := by
  k_with "m.enter" => ((rename Around => A9); cases A9; (have hh9 := Ok.hh (by assumption)); (dsimp only at hh9); subst hh9; (rename _ + _ < recursionLimit => hd9); (dsimp only at hd9); (try ((rename _ + _ < cLine => hu9); (dsimp only at hu9))); refine' enter (by assumption) (by assumption) ?k3 ?k6 ?k7 ?k8 ?k9 ?kB ?_ ?c5 ?c2 ?c3 ?c4; (case k3 => first | assumption | exact Led.nil); (case k6 => k_dflt k_is); (case k7 => k_dflt k_is); (case k8 => dsimp only; omega); (case k9 => exact BindsTo.of_eq rfl); (case c5 => decide); (case kB => exact locs rfl); (case c2 => exact rfl); (case c3 => exact rfl); (case c4 => exact rfl); k_whole; intro _ _ _ _ _ _ _ _ _ _ _ _ _; (have hst9 := Below.stack (by assumption)); (dsimp only at hst9); subst hst9; (try dsimp only); (try k_fold))
  trivial
theorem word70 : True := by
  k_with "m.look" => first | assumption | exact if_pos rfl | (refine Eq.trans (if_neg (by decide)) ?_; walk_at "m.look")
  trivial
theorem word71 : True := by
  k_with "eval Name" => (k_dflt (refine' nameX_L ?xF ?xv ?_ ?xa ?xb; (case xF => k_asm); (case xa => rfl); (case xb => rfl); (case xv => walk_at "m.look"); k_whole))
  trivial
theorem word72 : True := by
  k_with "m.enterC" => ((rename Around => A9); cases A9; (have hh9 := Ok.hh (by assumption)); (dsimp only at hh9); subst hh9; (rename _ + _ < recursionLimit => hd9); (dsimp only at hd9); (try ((rename _ + _ < cLine => hu9); (dsimp only at hu9))); refine' enterC (by assumption) (by assumption) ?k3 ?k6 ?k7 ?k8 ?k9 ?kB ?kN ?_ ?c2 ?c3 ?c4; (case k3 => first | assumption | exact Led.nil); (case k6 => k_dflt k_is); (case k7 => k_dflt k_is); (case k8 => dsimp only; omega); (case k9 => exact BindsTo.of_eq rfl); (case kB => exact rfl); (case kN => decide); (case c2 => exact rfl); (case c3 => exact rfl); (case c4 => exact rfl); k_whole; intro _ _ _ _ _ _ _ _ _ _ _ _ _ _ _ _; (have hst9 := Below.stack (by assumption)); (dsimp only at hst9); subst hst9; (try dsimp only); (try k_fold))
  trivial
theorem word73 : True := by
  k_with "eval Name" => (k_dflt (refine' ldC ?lN ?lhm ?lhd ?_ ?la ?lb ?lc; (case la => rfl); (case lb => rfl); (case lc => rfl); (case lN => k_asm); (case lhm => (repeat (first | assumption | apply List.mem_cons_of_mem))); (case lhd => assumption); k_whole))
  trivial
/-- what stands between the turns -/
structure FB (w : World) (g : Heap) (c1 c2 G Kd : Addr) (cv : Option Value) (gone : List Spot) (m : Str → Option Value) (l : List (Addr × Obj)) : Prop where
  m1 : m (Str.ofString "gone") = some (.ref G)
  gn : TupL w (Kn g l) G (gone.map key2)
  k1 : ∃ o, (c1, o) ∈ l ∧ o.data = .cell (some (.ref Kd))
  k2 : ∃ o, (c2, o) ∈ l ∧ o.data = .cell cv
structure FJ (w : World) (g : Heap) (c1 c2 G Kd : Addr) (cv : Option Value) (ac dn : Int) (S : Rws) (m : Str → Option Value) (l : List (Addr × Obj)) : Prop where
  b : FB w g c1 c2 G Kd cv S.2 m l
  kd : ∃ xs, DictP prg w (Kn g l) Kd xs ∧ Known ac dn S xs
  ow : Own l Kd
section
variable {w : World} {g h : Heap} {c1 c2 G Kd L d : Addr} {cv : Option Value} {ac dn : Int} {S : Rws} {gone : List Spot} {m m' mm : Str → Option Value} {l l' : List (Addr × Obj)} {od : Obj}
theorem FB.to (x : FB w g c1 c2 G Kd cv gone m l) (ev : Ev l l' []) (hm : m' (Str.ofString "gone") = some (.ref G)) : FB w g c1 c2 G Kd cv gone m' l' :=
  ⟨hm, x.gn.mono fun a o _ k => k.sub ev, x.k1.imp fun o h => ⟨ev _ h.1 List.not_mem_nil (it_cell h.2), h.2⟩, x.k2.imp fun o h => ⟨ev _ h.1 List.not_mem_nil (it_cell h.2), h.2⟩⟩
theorem FJ.to (x : FJ w g c1 c2 G Kd cv ac dn S m l) (ev : Ev l l' []) (hm : m' (Str.ofString "gone") = some (.ref G)) : FJ w g c1 c2 G Kd cv ac dn S m' l' :=
  ⟨x.b.to ev hm, x.kd.imp fun xs h => ⟨h.1.mono fun a o _ k => k.sub ev, h.2⟩, x.ow.ev ev⟩
theorem FB.mono (x : FB w g c1 c2 G Kd cv gone m l) (ev : Ev l l' []) : FB w g c1 c2 G Kd cv gone m l' := x.to ev x.m1
theorem FJ.mono (x : FJ w g c1 c2 G Kd cv ac dn S m l) (ev : Ev l l' []) : FJ w g c1 c2 G Kd cv ac dn S m l' := x.to ev x.b.m1
/-- a dict that is put into hurts no list, no tuple, no cell -/
theorem Kn.evDict {a : Addr} {o : Obj} {es : Array DictEntry} {ep : Nat} (k : Kn g l a o) (F : Fr g L h mm) (N : News g L h l) (ev : Ev l l' [d]) (kd : Kn g l d od) (hd : od.data = .dict es ep) (hn : ∀ es ep, o.data ≠ .dict es ep) : Kn g l' a o :=
  k.ev ev (by rw [List.mem_singleton]; exact k.neD F N kd (by rw [hd]; exact hn es ep))
theorem TupP.evDict {a : Addr} {ks : List Int} {es : Array DictEntry} {ep : Nat} (x : TupP prg w (Kn g l) ks a) (F : Fr g L h mm) (N : News g L h l) (ev : Ev l l' [d]) (kd : Kn g l d od) (hd : od.data = .dict es ep) : TupP prg w (Kn g l') ks a := by
  obtain ⟨o, i, n, p, a, b, c⟩ := x
  exact ⟨o, i, n, p.evDict F N ev kd hd (fun es ep e => by rw [b] at e; cases e), a, b, c⟩
theorem FB.set {es : Array DictEntry} {ep : Nat} (x : FB w g c1 c2 G Kd cv gone m l) (F : Fr g L h mm) (N : News g L h l) (ev : Ev l l' [d]) (kd : Kn g l d od) (hd : od.data = .dict es ep) (hm : m' (Str.ofString "gone") = some (.ref G)) : FB w g c1 c2 G Kd cv gone m' l' := by
  obtain ⟨_, ⟨ts, ⟨o, n, p, a, b, c⟩, hT, hk⟩, ⟨o1, e1, d1⟩, ⟨o2, e2, d2⟩⟩ := x
  refine ⟨hm, ⟨ts, ⟨o, n, p.evDict F N ev kd hd (fun es ep e => by rw [b] at e; cases e), a, b, c⟩, fun e he => (hT e he).evDict F N ev kd hd, hk⟩, ⟨o1, ev _ e1 (fun q => ?_) (it_cell d1), d1⟩, ⟨o2, ev _ e2 (fun q => ?_) (it_cell d2), d2⟩⟩
  · exact Kn.neD F N (Kn.in e1 (it_cell d1)) kd (by rw [d1, hd]; intro e; cases e) (List.mem_singleton.mp q)
  · exact Kn.neD F N (Kn.in e2 (it_cell d2)) kd (by rw [d2, hd]; intro e; cases e) (List.mem_singleton.mp q)
theorem DictP.evDict {es : Array DictEntry} {ep : Nat} {xs : List (List Int × Addr × Value)} {D : Addr} (x : DictP prg w (Kn g l) D xs) (F : Fr g L h mm) (N : News g L h l) (ev : Ev l l' [d]) (kd : Kn g l d od) (hd : od.data = .dict es ep) (hne : D ≠ d) : DictP prg w (Kn g l') D xs := by
  obtain ⟨o, e1, p1, k, a, b, c, t, n⟩ := x
  exact ⟨o, e1, p1, k.ev ev fun q => hne (List.mem_singleton.mp q), a, b, c, fun y hy => (t y hy).evDict F N ev kd hd, n⟩
theorem three_news {q0 q1 q2 : Addr × Obj} (N : News g L h (q0 :: q1 :: q2 :: l)) : ∃ lN, News g L h lN ∧ q0 ∈ lN ∧ q1 ∈ lN ∧ q2 ∈ lN ∧ ∀ p ∈ l, p ∈ lN :=
  ⟨_, N, .head _, .tail _ (.head _), .tail _ (.tail _ (.head _)), fun p hp => .tail _ (.tail _ (.tail _ hp))⟩
theorem two_news {q0 q1 : Addr × Obj} (N : News g L h (q0 :: q1 :: l)) : ∃ lN, News g L h lN ∧ q0 ∈ lN ∧ q1 ∈ lN ∧ ∀ p ∈ l, p ∈ lN :=
  ⟨_, N, .head _, .tail _ (.head _), fun p hp => .tail _ (.tail _ hp)⟩
end
theorem five_news {g h : Heap} {L : Addr} {q0 q1 q2 q3 q4 : Addr × Obj} {l : List (Addr × Obj)} (N : News g L h (q0 :: q1 :: q2 :: q3 :: q4 :: l)) : ∃ lN, News g L h lN ∧ q0 ∈ lN ∧ q1 ∈ lN ∧ q2 ∈ lN ∧ q3 ∈ lN ∧ q4 ∈ lN ∧ ∀ p ∈ l, p ∈ lN :=
  ⟨_, N, .head _, .tail _ (.head _), .tail _ (.tail _ (.head _)), .tail _ (.tail _ (.tail _ (.head _))), .tail _ (.tail _ (.tail _ (.tail _ (.head _)))), fun p hp => .tail _ (.tail _ (.tail _ (.tail _ (.tail _ hp))))⟩
noncomputable def FI2 (w : World) (g : Heap) (L G Kd Ld : Addr) (oG : Obj) (es : List (List Int × Addr)) (ac dn : Int) (S : Rws) (j : Nat) (m : Str → Option Value) (l : List (Addr × Obj)) : Prop := FJ w g (L + 1) (L + 1 + 1) G Kd (some (.ref Ld)) ac dn S m l ∧ Kn g l G oG ∧ (∀ e ∈ es, TupP prg w (Kn g l) e.1 e.2) ∧ Own l Ld ∧ ∃ ys, DictP prg w (Kn g l) Ld ys ∧ DVs (lat ac dn S (S.2.take j)) ys
noncomputable def FI3 (w : World) (g : Heap) (L G Kd Ld : Addr) (oG oL : Obj) (es : List (List Int × Addr)) (ys : List (List Int × Addr × Value)) (ac dn : Int) (S : Rws) (j : Nat) (m : Str → Option Value) (l : List (Addr × Obj)) : Prop := FB w g (L + 1) (L + 1 + 1) G Kd (some (.ref Ld)) S.2 m l ∧ Kn g l G oG ∧ (∀ e ∈ es, TupP prg w (Kn g l) e.1 e.2) ∧ Own l Kd ∧ Kn g l Ld oL ∧ (∀ y ∈ ys, TupP prg w (Kn g l) y.1 y.2.1) ∧ ∃ xs, DictP prg w (Kn g l) Kd xs ∧ KnU ac dn S ((lat ac dn S S.2).take j) xs
section
variable {w : World} {A : Around} {s : Shared} {g : Heap} {R : Result → Shared → Prop}
theorem filled_spec (ok : Ok w A g) (hs : Sub g s.heap) (hd : A.depth + 6 < recursionLimit) (hu : A.units + 140 < cLine) {kn gn : Addr} {ac dn : Int} {ta tb : Tok} (h1 : 1 ≤ ac) (h2 : ac ≤ 5) (h3 : 1 ≤ dn) (h4 : dn ≤ 4) {S₀ : Rws} (hGo : Good ac dn S₀)
    {xs₀ : List (List Int × Addr × Value)} (hK : DictP prg w (fun a o => g.get? a = some o) kn xs₀) (loK : (kn == sysModules) = false) (hKn : Known ac dn S₀ xs₀) (hG : TupL w (fun a o => g.get? a = some o) gn (S₀.2.map key2))
    (hR : ∀ h' tk D xs l, (∀ b o, g.get? b = some o → h'.get? b = some o) → Led g h' l → DictP prg w (Kn g l) D xs → Known ac dn (iterS ac dn (ac + dn).toNat S₀) xs → (D == sysModules) = false → Own l D → R (.ok (.ret (.ref D))) {s with heap := h', toks := tk}) :
    codeAny (model prg w) A (.call (.ref 275) ⟨[.ref kn, .ref gn, .int ac ta, .int dn tb], []⟩) R s := by
  walk_at "m.enterC"
  rename Fr _ _ _ _ => F
  rename CellsAre _ _ _ => Y
  rename News _ _ _ _ => N
  rename Top _ _ _ _ _ _ => T
  obtain ⟨cL, cK, eC, dL, dK⟩ := PyProof.Rows.CellsAre.two (n := Str.ofString "later") (n' := Str.ofString "known") Y
  subst eC
  replace dL : cL.data = .cell none := dL
  replace dK : cK.data = .cell (some (.ref kn)) := dK
  have F0 : Fr g _ _ (fun y => if y = Str.ofString "down" then some (.int dn tb) else if y = Str.ofString "across" then some (.int ac ta) else if y = Str.ofString "gone" then some (.ref gn) else none) := F
  have hbig := T.nolimit
  rename_i base outer mean mg mb L h1x tkx X hN B
  clear F Y
  repeat' (fail_if_success (with_reducible show wpAny _ _ (call (Value.type "dict") _) _ _ _)); walk1
  rename Fr _ _ _ _ => F
  rename News _ _ _ _ => N
  refine hideGoal fun hG1 hE1 => ?_
  obtain ⟨_, _, _, _, _, _, _, _, ndK⟩ := id hK
  refine hE1 ?_
  clear hE1
  refine dict_copy F N (hK.mono fun a o i k => Kn.base k i) loK (hash_ok hKn h2 h4) (by have := hKn.len ndK h2 h4; rw [sizeLine_eq]; omega) hbig fun h₂ Kd oK2 F2 N2 hn2 x2 i2 lo2 => ?_
  clear F N
  repeat' (fail_if_success (with_reducible show wpAny _ _ (call (Value.type "list") _) _ _ _)); walk1
  rename Fr _ _ _ _ => F
  rename News _ _ _ _ => N
  refine hideGoal fun hG2 hE2 => ?_
  obtain ⟨es, hG1, hG2, hG3⟩ := id hG
  refine hE2 ?_
  clear hE2
  refine list_copy F N (hG1.mono fun a o i k => Kn.base k i) (by have e := congrArg List.length hG3; have := hGo.len; simp at e ⊢; rw [sizeLine_eq]; omega) fun h₃ Gd cc F3 N3 hn3 => ?_
  clear F
  repeat' (fail_if_success (with_reducible show wpAny _ _ (storeName _ _ _) _ _ _)); walk1
  rename Fr _ _ _ _ => F
  rename News _ _ _ _ => N8
  refine stC F N8 (o := cK) (by simp) dK (fun h₄ l₄ cK' F4 N4 m4 d4 e4 k4 o4 => ?_) rfl rfl rfl
  have nc : ∀ {a : Addr} {o : Obj}, NoCell o → Kn g _ a o → Kn g l₄ a o := fun hn k => Kn.evN k F N8 e4 (o := cK) (by simp) dK hn
  have hG4 : TupL w (Kn g l₄) Gd (S₀.2.map key2) := ⟨es, ⟨_, _, nc (fun v e => by cases e) (.in (.tail _ (.head _)) rfl), rfl, rfl, rfl⟩, fun e he => (hG2 e he).mono fun a o i k => .base k i, hG3⟩
  have hK4 : DictP prg w (Kn g l₄) Kd xs₀ := (x2.mono (P' := Kn g _) fun a o _ k => k.sub (Ev.of fun p hp => List.mem_cons_of_mem _ (List.mem_cons_of_mem _ hp))).monoN fun a o _ hn k => nc hn k
  have hL4 : (L + 1 + 1, cL) ∈ l₄ := e4 (L + 1 + 1, cL) (by simp) (by simp) (it_cell dL)
  have oK4 : Own l₄ Kd := o4 _ (.in (o := oK2) (by simp) i2)
  clear F N8
  repeat' (fail_if_success (with_reducible show wpAny _ _ (exec (PySem.Stmt.For ..) _) _ _ _)); walk1
  rename Fr _ _ _ _ => F
  refine hideQ fun QA1 qA1 => ?_
  refine For_at F ?_
  repeat' (fail_if_success (with_reducible show ∃ _, _)); walk1
  rename Fr _ _ _ _ => F
  rename News _ _ _ _ => N
  rename IsRange _ _ _ _ _ _ _ _ => hr
  refine ⟨_, _, _, _, _, fun i m l => ∃ G cv, FJ w g (L + 1) (L + 1 + 1) G Kd cv ac dn (iterS ac dn i S₀) m l,
      {S := Sr.range (n := (ac + dn).toNat) rfl hr (small_one (by omega) (by omega) (by omega) (by omega)) (by rw [rangeSize_one]; split <;> omega), hL := List.not_mem_nil, F := F, N := N, src := fun _ _ _ _ _ h => (nomatch h), mono := fun i m l l' ev ⟨G, cv, h⟩ => ⟨G, cv, h.mono ev⟩, j0 := ?_, step := ?_, done := ?_}⟩
  · exact ⟨Gd, none, ⟨by first | walk_at "m.look" | rfl, hG4, ⟨_, m4, d4⟩, ⟨_, hL4, dL⟩⟩, ⟨_, hK4, hKn⟩, oK4⟩
  · intro i v m₁ l₁ h₁ tk₁ hi hP hI9 hK F₁ N₁
    clear qA1
    refine hideGoal fun hG3 hE3 => ?_
    obtain ⟨G, cv, J⟩ := hI9
    obtain ⟨tv, rfl⟩ := hP
    refine hE3 ?_
    clear hE3
    refine hideAE fun PP1 qP1 => ?_
    refine hideGoal fun hG4 hE4 => ?_
    obtain ⟨⟨mG, hG', ⟨c1o, c1m, c1d⟩, ⟨c2o, c2m, c2d⟩⟩, ⟨xs, hD, hKn'⟩, owK⟩ := J
    refine hE4 ?_
    clear hE4
    have hGo := hGo.iter i
    have hnext : iterS ac dn (i + 1) S₀ = stepS ac dn (iterS ac dn i S₀) := rfl
    generalize iterS ac dn (i + 1) S₀ = S' at *
    generalize hSi : iterS ac dn i S₀ = S at *
    clear F N
    repeat' (fail_if_success (with_reducible show wpAny _ _ (storeName _ (Str.ofString "later") _) _ _ _)); walk1
    rename Fr _ _ _ _ => F
    rename News _ _ _ _ => N
    rename Obj.IsDictOf (intKind prg w) _ _ => iD
    rename (_ == sysModules) = false => loL
    rename_i Ld h4x oLd hlt q1 q2 q3
    clear F₁ N₁ q1 q2 q3
    have dLd := dictP_nil iD (P := Kn g ((Ld, oLd) :: l₁)) (w := w) (d := Ld)
    have iLd : It oLd = false := by
      obtain ⟨_, _, hc, _⟩ := iD; exact it_dict hc.1
    replace dLd := dLd (.in (.head _) iLd)
    refine stC F N (o := c2o) (List.mem_cons_of_mem _ c2m) c2d (fun h₄ l₄ c2o' F4 N4 m4 d4 e4 k4 o4 => ?_) rfl rfl rfl
    have nc : ∀ {a : Addr} {o : Obj}, NoCell o → Kn g _ a o → Kn g l₄ a o := fun hn k => Kn.evN k F N e4 (o := c2o) (List.mem_cons_of_mem _ c2m) c2d hn
    have nc1 : ∀ {a : Addr} {o : Obj}, NoCell o → Kn g l₁ a o → Kn g l₄ a o := fun hn k => nc hn (k.sub (Ev.of fun p hp => List.mem_cons_of_mem _ hp))
    have hKL : Kd ≠ Ld := by obtain ⟨o, ho, _⟩ := owK; exact Nat.ne_of_lt (hlt _ ho)
    have J4 : ∀ m, m (Str.ofString "gone") = some (.ref G) → FJ w g (L + 1) (L + 1 + 1) G Kd (some (.ref Ld)) ac dn S m l₄ := fun m hm =>
      ⟨⟨hm, hG'.monoN fun a o _ hn k => nc1 hn k, ⟨_, e4 _ (List.mem_cons_of_mem _ c1m) (by simp) (it_cell c1d), c1d⟩, ⟨_, m4, d4⟩⟩, ⟨xs, hD.monoN fun a o _ hn k => nc1 hn k, hKn'⟩, o4 _ (owK.ev (Ev.of fun p hp => List.mem_cons_of_mem _ hp))⟩
    have dL4 : DictP prg w (Kn g l₄) Ld [] := dLd.monoN fun a o _ hn k => nc hn k
    have oL4 : Own l₄ Ld := o4 _ (.in (.head _) iLd)
    refine hideGoal fun hG5 hE5 => ?_
    obtain ⟨es, hG1, hG2, hG3⟩ := id hG'
    obtain ⟨oG, nG, kG, cG, dG, ddG⟩ := id hG1
    refine hE5 ?_
    clear hE5
    have kG4 : Kn g l₄ G oG := nc1 (fun v e => by rw [dG] at e; cases e) kG
    have hG24 : ∀ e ∈ es, TupP prg w (Kn g l₄) e.1 e.2 := fun e he => (hG2 e he).monoN fun a o _ hn k => nc1 hn k
    have k14 : KeepIt l₁ l₄ := (KeepIt.of fun p hp => List.mem_cons_of_mem _ hp).trans k4
    clear F hlt N nc nc1 dLd iD e4 hG' hD c1m c2m kG hG1 hG2
    repeat' (fail_if_success (with_reducible show wpAny _ _ (exec (PySem.Stmt.For ..) _) _ _ _)); walk1
    rename Fr _ _ _ _ => F
    refine hideQ fun QA2 qA2 => ?_
    refine For_at F ?_
    repeat' (fail_if_success (with_reducible show ∃ _, _)); walk1
    rename Fr _ _ _ _ => F
    rename News _ _ _ _ => N
    refine ⟨_, _, _, _, _, FI2 w g L G Kd Ld oG es ac dn S,
      {S := Sr.list (n := nG) rfl (kG4.get F N) cG dG, hL := ?_, F := F, N := N, src := ?_, mono := ?_, j0 := ?_, step := ?_, done := ?_}⟩
    · exact fun hm => kG4.neL F N (List.mem_singleton.mp hm).symm
    · rintro _ _ _ ⟨_, kk, _⟩ q hq; rw [List.mem_singleton.mp hq]; exact kk
    · rintro j m l l' ev ⟨a, b, c, d, ys, e, f⟩
      exact ⟨a.mono ev, b.sub ev, fun x hx => (c x hx).mono fun a o _ k => k.sub ev, d.ev ev, ys, e.mono fun a o _ k => k.sub ev, f⟩
    · exact ⟨J4 _ (by first | walk_at "m.look" | rfl), kG4, hG24, oL4, [], dL4, .nil⟩
    · intro j v m₂ l₂ h₂ tk₂ hj hPj hI9 hK2 F₂ N₂
      clear qA2
      refine hideGoal fun hG6 hE6 => ?_
      obtain ⟨J2, kG2, hT2, oL2, ys, dL2, dv2⟩ := hI9
      refine hE6 ?_
      clear hE6
      refine hideAE fun PP2 qP2 => ?_
      have hje : j < es.length := by simpa using hj
      have hlen : es.length = S.2.length := by have e := congrArg List.length hG3; simpa using e
      have hjS : j < S.2.length := hlen ▸ hje
      obtain rfl : v = .ref es[j].2 := by
        have : (es.map fun e => Value.ref e.2).toArray[j]? = some (.ref es[j].2) := by simp [hje]
        rw [this] at hPj
        exact (Option.some.inj hPj).symm
      have hkj : es[j].1 = key2 S.2[j] := by
        have e := congrArg (fun l => l[j]?) hG3
        simpa [hje, hjS] using e
      have hTj := hT2 _ (List.getElem_mem hje)
      rw [hkj] at hTj
      have hpm : S.2[j] ∈ S.2 := List.getElem_mem hjS
      have hpin := hGo.inn _ hpm
      have htake := List.take_succ_eq_append_getElem hjS
      have hfresh : S.2[j] ∉ (lat ac dn S (S.2.take j)).map (·.1) := by
        rw [lat_fst]
        intro hm
        obtain ⟨i', hi', e⟩ := List.mem_iff_getElem.mp (List.mem_filter.mp hm).1
        rw [List.length_take] at hi'
        rw [List.getElem_take] at e
        have := (List.getElem_inj hGo.nodup (i := i') (j := j) (h₀ := by omega) (h₁ := hjS)).mp e
        omega
      generalize S.2[j] = p at *
      generalize es[j].2 = TT at *
      refine hideGoal fun hG7 hE7 => ?_
      obtain ⟨t0, t1, oT, nT, kT, cT, dT⟩ := (show TupP prg w (Kn g l₂) [(p.1 : Int), (p.2 : Int)] TT from hTj).two
      refine hE7 ?_
      clear hE7
      have hT9 : IsTup h₂ TT #[.int (p.1 : Int) t0, .int (p.2 : Int) t1] := ⟨oT, kT.get F₂ N₂, cT, nT, dT⟩
      refine hideGoal fun hG8 hE8 => ?_
      obtain ⟨⟨mG2, hG2, ⟨c1o2, c1m2, c1d2⟩, ⟨c2o2, c2m2, c2d2⟩⟩, ⟨xs2, hD2, hKn2⟩, owK2⟩ := id J2
      obtain ⟨_, _, _, _, _, _, _, _, ndK2⟩ := id hD2
      refine hE8 ?_
      clear hE8
      clear F N
      repeat' (fail_if_success (with_reducible show wpAny _ _ (exec (PySem.Stmt.Assign _ (PySem.Expr.ListComp ..) _) _) _ _ _)); walk1
      rename Fr _ _ _ _ => F
      refine hideQ fun QB1 qB1 => ?_
      refine assign_comp_at F (tst := some (PySem.Expr.Compare _ _ _ _)) (cl := [(Str.ofString "known", L + 1)]) rfl (by rfl) rfl (by decide) rfl (by decide) rfl rfl ?_ (fun _ => rfl)
      repeat' (fail_if_success (with_reducible show ∃ _, _)); walk1
      rename Fr _ _ _ _ => F
      rename News _ _ _ _ => N
      rename_i T0 g0 z0 T1 g1 z1 T2 g2 z2 T3 g3 z3 Ll g4 z4
      refine hideGoal fun hG9 hE9 => ?_
      obtain ⟨lN, N, hLl, q3, q2, q1, q0, sub2⟩ := five_news N
      refine hE9 ?_
      clear hE9
      have hsrc : ∀ (q : Nat) (hq : q < 4) v, #[Value.ref T0, Value.ref T1, Value.ref T2, Value.ref T3][q]? = some v → ∃ T x y, v = .ref T ∧ (nbs p)[q]? = some (x, y) ∧ TupP prg w (Kn g lN) [x, y] T := by
        intro q hq v e
        match q, hq with
        | 0, _ => exact ⟨T0, _, _, (Option.some.inj e).symm, rfl, tup2 (.in q0 rfl)⟩
        | 1, _ => exact ⟨T1, _, _, (Option.some.inj e).symm, rfl, tup2 (.in q1 rfl)⟩
        | 2, _ => exact ⟨T2, _, _, (Option.some.inj e).symm, rfl, tup2 (.in q2 rfl)⟩
        | 3, _ => exact ⟨T3, _, _, (Option.some.inj e).symm, rfl, tup2 (.in q3 rfl)⟩
      clear z0 z1 z2 z3 z4
      refine ⟨_, _, _, _, _, fun q ys _ => IntsAre ys ((((nbs p).take q).filterMap (sideOf ac dn S.2)).map (hdv S.1)),
        CoAt.name (Sr.list (n := 0) rfl ((N _ hLl).1) rfl rfl) (by rw [sizeLine_eq]; show 4 ≤ _; decide) F N (src := ?_) (fun _ _ _ _ _ h => h) (by exact .nil) (turn := ?_), ?_⟩
      · intro q hq; rw [List.mem_singleton.mp hq]; exact .in hLl rfl
      · intro q v ys' l₃ h₃ tk₃ C oC m₃ D E' hq hm3 hPv hJ hev hoff hoC F₃ N₃
        refine hideGoal fun hG10 hE10 => ?_
        obtain ⟨hp0, hPv⟩ := hPv
        obtain ⟨Tq, x, y, rfl, hnb, hTq⟩ := hsrc q hq v hPv
        refine hE10 ?_
        clear hE10
        have hTq3 : TupP prg w (Kn g ((C, oC) :: (D, lst ys') :: l₃)) [x, y] Tq := hTq.mono fun a o _ k => (k.sub hev).sub (Ev.of fun p hp => .tail _ (.tail _ hp))
        have hD3 : DictP prg w (Kn g ((C, oC) :: (D, lst ys') :: l₃)) Kd xs2 := hD2.mono fun a o _ k => ((k.sub (Ev.of sub2)).sub hev).sub (Ev.of fun p hp => .tail _ (.tail _ hp))
        have hcl : (L + 1, c1o2) ∈ l₃ := hev _ (sub2 _ c1m2) List.not_mem_nil (it_cell c1d2)
        show wpAny _ _ _ _ _ _
        clear F N
        repeat' (fail_if_success (with_reducible show wpAny _ _ (compareOp _ _ _) _ _ _)); walk1
        refine din (by assumption) (by assumption) hD3 hTq3 (by first | exact roomU (by assumption) (by decide) | (simp only [units_deeper]; omega)) lo2 fun tk₄ => ?_
        have hq4 : q < (nbs p).length := hq
        have hxy : (nbs p)[q] = (x, y) := by rw [List.getElem?_eq_getElem hq4] at hnb; exact Option.some.inj hnb
        have htk : (nbs p).take (q + 1) = (nbs p).take q ++ [(x, y)] := by rw [List.take_succ_eq_append_getElem hq4, hxy]
        rcases hKn2.side ndK2 (x := x) (y := y) with ⟨q', a', t', e1, e2⟩ | ⟨e1, e2⟩
        · rw [e2]
          simp only [Option.isSome_some]
          repeat' (fail_if_success (with_reducible show wpAny _ _ (subscriptTail _ _ _ _) _ _ _)); walk1
          refine dsub (by assumption) (by assumption) hD3 hTq3 (by first | exact roomU (by assumption) (by decide) | (simp only [units_deeper]; omega)) e2 fun tk₅ => ?_
          refine ⟨_, _, _, rfl, by assumption, by assumption, fun p hp => hp, ?_⟩
          rw [htk, List.filterMap_append, List.filterMap_cons, e1, List.map_append]
          exact hJ.append (.cons _ _ .nil)
        · rw [e2]
          simp only [Option.isSome_none]
          k_steps
          refine ⟨_, _, _, rfl, by assumption, by assumption, fun p hp => hp, ?_⟩
          rw [htk, List.filterMap_append, List.filterMap_cons, e1]
          simpa using hJ
      · intro D h' tk ys' l' hJ hlen' F' N' hoff hk hev
        refine qB1 _ _ ?_
        clear qB1
        have hsid : IntsAre ys' ((sidesS ac dn S.2 p).map (hdv S.1)) := hJ
        have hDD : ListP (Kn g ((D, lst ys') :: l')) D ys' := ⟨_, _, .in (.head _) rfl, rfl, rfl, rfl⟩
        have sub2' : ∀ p ∈ l₂, It p.2 = false → p ∈ l' := fun p hp i => hev p (sub2 p hp) List.not_mem_nil i
        clear F N
        repeat' (fail_if_success (with_reducible show wpAny _ _ (compareOp _ _ _) _ _ _)); walk1
        rename Fr _ _ _ _ => F
        rename News _ _ _ _ => N
        refine lne_nil F N (hDD.mono fun a o _ k => k.sub (Ev.of fun p hp => .tail _ hp)) ⟨_, _, .in (.head _) rfl, rfl, rfl, rfl⟩ (by first | exact roomU (by assumption) (by decide) | (simp only [units_deeper]; omega)) ?_
        by_cases hsd : sidesS ac dn S.2 p = []
        · have e0 : ys' = [] := by rw [hsd] at hsid; cases hsid; rfl
          rw [show decide (ys' ≠ []) = false by simp [e0]]
          k_steps
          refine hideGoal fun hG11 hE11 => ?_
          obtain ⟨lE, NE, _, _, subE⟩ := two_news N
          refine hE11 ?_
          clear hE11
          have evE : Ev l₂ lE [] := fun p hp _ i => subE p (sub2' p hp i)
          refine qP2 _ _ ?_
          refine ⟨_, _, _, _, rfl, F, NE, fun p hp i => subE _ (hk _ (sub2 p hp) i), J2.to evE (by walk_at "m.look"), kG2.sub evE, fun x hx => (hT2 x hx).mono fun a o _ k => k.sub evE, oL2.ev evE, ys, dL2.mono fun a o _ k => k.sub evE, ?_⟩
          rw [htake, lat_snoc, if_pos hsd, List.append_nil]
          exact dv2
        · have e0 : ys' ≠ [] := fun e => by rw [e] at hsid; have := hsid.length; simp at this; exact hsd (List.eq_nil_of_length_eq_zero this.symm)
          rw [show decide (ys' ≠ []) = true by simp [e0]]
          have hyl : ys'.toArray.size = (sidesS ac dn S.2 p).length := by have := hsid.length; simpa using this
          have hpos : 0 < (sidesS ac dn S.2 p).length := List.length_pos_iff.mpr hsd
          have hle4 : (sidesS ac dn S.2 p).length ≤ 4 := sidesS_len
          repeat' (fail_if_success (with_reducible show wpAny _ _ (call (Value.builtin "len") _) _ _ _)); walk1
          rename Fr _ _ _ _ => F
          rename News _ _ _ _ => N
          refine PySem.Calls.call_len_list ((hDD.mono fun a o _ k => k.sub (Ev.of fun p hp => .tail _ hp)).at F N) (by rw [hyl]; omega) ?_
          rw [hyl]
          repeat' (fail_if_success (with_reducible show wpAny _ _ (call (Value.ref 270) _) _ _ _)); walk1
          refine rounded_at B F X T N rfl rfl rfl (by first | exact room2 (by assumption) (by decide) | exact room1 (by assumption) (by decide) | (dsimp only; omega)) (by omega) (by omega) fun h₄' tk₄' t₄ F₄ N₄ => ?_
          have hcl2 : (L + 1 + 1, c2o2) ∈ l' := sub2' _ c2m2 (it_cell c2d2)
          clear F N
          repeat' (fail_if_success (with_reducible show wpAny _ _ (setItem _ _ _) _ _ _)); walk1
          rename Fr _ _ _ _ => F
          rename News _ _ _ _ => N
          refine hideGoal fun hG12 hE12 => ?_
          obtain ⟨lE, NE, mT, m2, m1, subE⟩ := three_news N
          refine hE12 ?_
          clear hE12
          have evE : Ev l₂ lE [] := fun p hp _ i => subE p (sub2' p hp i)
          refine hideGoal fun hG13 hE13 => ?_
          obtain ⟨oL, esL, epL, kL, exL, dtL, _, _, ndL⟩ := id dL2
          refine hE13 ?_
          clear hE13
          refine dset F NE (dL2.mono fun a o _ k => k.sub evE) (oL2.ev evE) (ks := key2 p) (tup2 (.in mT rfl)) (by first | exact roomU (by assumption) (by decide) | (simp only [units_deeper]; omega)) ?_ fun h9 tk9 l9 F9 N9 x9 e9 k9 o9 => ?_
          · have e1 := dv2.len
            have e2 : (lat ac dn S (S.2.take j)).length ≤ (S.2.take j).length := List.length_filterMap_le _ _
            have e3 := hGo.len
            rw [List.length_take] at e2
            rw [sizeLine_eq]
            omega
          have kLE : Kn g lE Ld oL := kL.sub evE
          have hnone : atKey ys (key2 p) = none := atKey_none (by rw [dv2.keys, mem_key2]; exact hfresh)
          rw [storedH_new hnone] at x9
          have kGE : Kn g l9 G oG := (kG2.sub evE).evDict F NE e9 kLE dtL fun es ep e => by rw [dG] at e; cases e
          have JE : FB w g (L + 1) (L + 1 + 1) G Kd (some (.ref Ld)) S.2 m₂ l9 := (J2.b.mono evE).set F NE e9 kLE dtL mG2
          have kdE := (hD2.mono (P' := Kn g lE) fun a o _ k => k.sub evE).evDict F NE e9 kLE dtL hKL
          have hTE : ∀ e ∈ es, TupP prg w (Kn g l9) e.1 e.2 := fun x hx => ((hT2 x hx).mono (P' := Kn g lE) fun a o _ k => k.sub evE).evDict F NE e9 kLE dtL
          clear F N NE
          k_steps
          refine qP2 _ _ ?_
          refine ⟨_, _, _, _, rfl, by assumption, by assumption, fun p hp i => k9 _ (subE _ (hk _ (sub2 p hp) i)) i, ⟨JE.to Ev.refl (by walk_at "m.look"), ⟨xs2, kdE, hKn2⟩, o9 _ (owK2.ev evE)⟩, kGE, hTE, o9 _ (oL2.ev evE), _, x9, ?_⟩
          rw [htake, lat_snoc, if_neg hsd]
          exact dv2.snoc ⟨rfl, _, rfl⟩
    · intro h' tk m' l' F' N' hK' hI9
      refine qA2 _ _ ?_
      clear qA2
      refine hideGoal fun hG14 hE14 => ?_
      obtain ⟨J2, kG2, hT2, oL2, ys, dL2, dv2⟩ := hI9
      refine hE14 ?_
      clear hE14
      have hlen : es.length = S.2.length := by have e := congrArg List.length hG3; simpa using e
      rw [show (es.map fun e => Value.ref e.2).toArray.size = S.2.length by simp [hlen], List.take_length] at dv2
      refine hideGoal fun hG15 hE15 => ?_
      obtain ⟨⟨mG2, hG2, ⟨c1o2, c1m2, c1d2⟩, ⟨c2o2, c2m2, c2d2⟩⟩, ⟨xs2, hD2, hKn2⟩, owK2⟩ := id J2
      obtain ⟨oL, esL, epL, kL, exL, dtL, heL, hTL, ndL⟩ := id dL2
      refine hE15 ?_
      clear hE15
      have hszL : esL.size = ys.length := by rw [← Array.length_toList, heL, List.length_map]
      have hyl := dv2.len
      have hll : (lat ac dn S S.2).length ≤ S.2.length := List.length_filterMap_le _ _
      have hlt64 := hGo.len
      have hln := lat_nodup (ac := ac) (dn := dn) (S := S) hGo.nodup
      clear F N
      repeat' (fail_if_success (with_reducible show wpAny _ _ (exec (PySem.Stmt.For ..) _) _ _ _)); walk1
      refine hideQ fun QA3 qA3 => ?_
      refine For_at F' ?_
      repeat' (fail_if_success (with_reducible show ∃ _, _)); walk1
      refine ⟨_, _, _, _, _, FI3 w g L G Kd Ld oG oL es ys ac dn S,
        {S := Sr.dict rfl loL (kL.get F' N') exL dtL, hL := ?_, F := F', N := N', src := ?_, mono := ?_, j0 := ?_, step := ?_, done := ?_}⟩
      · exact fun hm => kL.neL F' N' (List.mem_singleton.mp hm).symm
      · rintro _ _ _ ⟨_, _, _, _, kk, _⟩ q hq; rw [List.mem_singleton.mp hq]; exact kk
      · rintro j m l l' ev ⟨a, b, c, d, e, f, xs, x, y⟩
        exact ⟨a.mono ev, b.sub ev, fun x hx => (c x hx).mono fun a o _ k => k.sub ev, d.ev ev, e.sub ev, fun x hx => (f x hx).mono fun a o _ k => k.sub ev, xs, x.mono fun a o _ k => k.sub ev, y⟩
      · exact ⟨J2.b, kG2, hT2, owK2, kL, hTL, xs2, hD2, hKn2⟩
      · intro j v m₂ l₂ h₂ tk₂ hj hPj hI9 hK2 F₂ N₂
        clear qA3
        refine hideGoal fun hG16 hE16 => ?_
        obtain ⟨JB, kG3, hT3, owK3, kL3, hTL3, xs, hD3, hU⟩ := hI9
        obtain ⟨e, he, rfl⟩ := hPj
        refine hE16 ?_
        clear hE16
        refine hideAE fun PP3 qP3 => ?_
        have hjy : j < ys.length := hszL ▸ hj
        have hjl : j < (lat ac dn S S.2).length := hyl ▸ hjy
        have hek : e.key = .ref ys[j].2.1 := by
          have : esL.toList[j]? = some e := by rw [Array.getElem?_toList]; exact he
          rw [heL, List.getElem?_map, List.getElem?_eq_getElem hjy] at this
          rw [← Option.some.inj this]; rfl
        rw [hek]
        have hdv := dv2.get hjy hjl
        have htake := List.take_succ_eq_append_getElem hjl
        have hml := mem_lat.mp (List.getElem_mem hjl)
        have hfr : (lat ac dn S S.2)[j].1 ∉ ((lat ac dn S S.2).take j).map (·.1) := by
          intro hm
          rw [List.map_take] at hm
          obtain ⟨i', hi', e⟩ := List.mem_iff_getElem.mp hm
          rw [List.length_take] at hi'
          rw [List.getElem_take] at e
          have := (List.getElem_inj hln (i := i') (j := j) (h₀ := by omega) (h₁ := by simpa using hjl)).mp (by simpa using e)
          omega
        have hTy := hTL3 _ (List.getElem_mem hjy)
        have hat := atKey_mem ndL (List.getElem_mem hjy)
        generalize ys[j] = y at *
        obtain ⟨yk, ya, yv⟩ := y
        obtain ⟨hd1, tv', hd2⟩ := hdv
        simp only at hd1 hd2 hTy hat
        subst hd1 hd2
        generalize (lat ac dn S S.2)[j] = pe at *
        obtain ⟨p, n⟩ := pe
        simp only at hml hfr hTy hat
        refine hideGoal fun hG17 hE17 => ?_
        obtain ⟨⟨mG3, hG3', ⟨c1o3, c1m3, c1d3⟩, ⟨c2o3, c2m3, c2d3⟩⟩, _⟩ := And.intro JB trivial
        refine hE17 ?_
        clear hE17
        repeat' (fail_if_success (with_reducible show wpAny _ _ (subscriptTail _ _ _ _) _ _ _)); walk1
        rename Fr _ _ _ _ => F
        refine dsub F (by assumption) (xs := ys) ⟨oL, esL, epL, kL3, exL, dtL, heL, hTL3, ndL⟩ hTy (by first | exact roomU (by assumption) (by decide) | (simp only [units_deeper]; omega)) hat fun tk₅ => ?_
        repeat' (fail_if_success (with_reducible show wpAny _ _ (setItem _ _ _) _ _ _)); walk1
        rename Fr _ _ _ _ => F8
        rename News _ _ _ _ => N8
        refine hideGoal fun hG18 hE18 => ?_
        obtain ⟨oK, esK, epK, kK, exK, dtK, _, _, ndK3⟩ := id hD3
        obtain ⟨hno, hU'⟩ := hU.step (a := ya) (t := tv') (n := n) (hGo.inn _ hml.1) hml.1 hfr
        refine hE18 ?_
        clear hE18
        refine dset F8 N8 hD3 owK3 hTy (by first | exact roomU (by assumption) (by decide) | (simp only [units_deeper]; omega)) (by have := hU.len ndK3 h2 h4; rw [sizeLine_eq]; omega) fun h9 tk9 l9 F9 N9 x9 e9 k9 o9 => ?_
        rw [storedH_new hno] at x9
        have JB9 := JB.set F8 N8 e9 kK dtK JB.m1
        have kG9 : Kn g l9 G oG := kG3.evDict F8 N8 e9 kK dtK fun es ep e => by rw [dG] at e; cases e
        have kL9 : Kn g l9 Ld oL := kL3.ev e9 fun q => hKL (List.mem_singleton.mp q).symm
        have hT9 : ∀ e ∈ es, TupP prg w (Kn g l9) e.1 e.2 := fun x hx => (hT3 x hx).evDict F8 N8 e9 kK dtK
        have hTL9 : ∀ y ∈ ys, TupP prg w (Kn g l9) y.1 y.2.1 := fun x hx => (hTL3 x hx).evDict F8 N8 e9 kK dtK
        clear F8 N8
        k_steps
        refine qP3 _ _ ?_
        refine ⟨_, _, _, _, rfl, by assumption, by assumption, k9, JB9.to Ev.refl (by walk_at "m.look"), kG9, hT9, o9 _ owK3, kL9, hTL9, _, x9, ?_⟩
        rw [htake]
        exact hU'
      · intro h'' tk' m'' l'' F'' N'' hK'' hI9
        refine qA3 _ _ ?_
        clear qA3
        obtain ⟨JB, kG3, hT3, owK3, kL3, hTL3, xs, hD3, hU⟩ := hI9
        rw [hszL, hyl, List.take_length] at hU
        have hKn3 := hU.next
        rw [← hnext] at hKn3
        have hL3 : DictP prg w (Kn g l'') Ld ys := ⟨oL, esL, epL, kL3, exL, dtL, heL, hTL3, ndL⟩
        refine hideGoal fun hG19 hE19 => ?_
        obtain ⟨⟨mG3, hG3', ⟨c1o3, c1m3, c1d3⟩, ⟨c2o3, c2m3, c2d3⟩⟩, _⟩ := And.intro JB trivial
        refine hE19 ?_
        clear hE19
        clear F' N'
        repeat' (fail_if_success (with_reducible show wpAny _ _ (exec (PySem.Stmt.Assign _ (PySem.Expr.ListComp ..) _) _) _ _ _)); walk1
        refine hideQ fun QB2 qB2 => ?_
        refine assign_comp_at F'' (tst := some (PySem.Expr.Compare _ _ _ _)) (cl := [(Str.ofString "later", L + 1 + 1)]) rfl (by rfl) rfl (by decide) rfl (by decide) rfl rfl ?_ (fun _ => rfl)
        repeat' (fail_if_success (with_reducible show ∃ _, _)); walk1
        refine ⟨_, _, _, _, _, fun q vs _ => ∃ es' : List (List Int × Addr), vs = es'.map (fun e => Value.ref e.2) ∧ (∀ e ∈ es', e ∈ es) ∧ es'.map (·.1) = ((S.2.take q).filter fun p => decide (sidesS ac dn S.2 p = [])).map key2,
          CoAt.name (Sr.list (n := nG) rfl (kG3.get F'' N'') cG dG) (by rw [sizeLine_eq]; simp only [List.size_toArray, List.length_map]; omega) F'' N'' (src := ?_) (fun _ _ _ _ _ h => h) (by exact ⟨[], rfl, fun _ h => (nomatch h), rfl⟩) (turn := ?_), ?_⟩
        · intro q hq; rw [List.mem_singleton.mp hq]; exact kG3
        · intro q v vs l₃ h₃ tk₃ C oC m₃ D E' hq hm3 hPv hJ hev hoff hoC F₃ N₃
          refine hideGoal fun hG20 hE20 => ?_
          obtain ⟨hp0, hPv⟩ := hPv
          refine hE20 ?_
          clear hE20
          have hqe : q < es.length := by simpa using hq
          have hqS : q < S.2.length := hlen ▸ hqe
          obtain rfl : v = .ref es[q].2 := by
            have : (es.map fun e => Value.ref e.2).toArray[q]? = some (.ref es[q].2) := by simp [hqe]
            rw [this] at hPv
            exact (Option.some.inj hPv).symm
          have hkq : es[q].1 = key2 S.2[q] := by
            have e := congrArg (fun l => l[q]?) hG3
            simpa [hqe, hqS] using e
          have hTq := (hT3 _ (List.getElem_mem hqe)).mono (P' := Kn g ((C, oC) :: (D, lst vs) :: l₃)) fun a o _ k => (k.sub hev).sub (Ev.of fun p hp => .tail _ (.tail _ hp))
          have hLq := hL3.mono (P' := Kn g ((C, oC) :: (D, lst vs) :: l₃)) fun a o _ k => (k.sub hev).sub (Ev.of fun p hp => .tail _ (.tail _ hp))
          have hcl : (L + 1 + 1, c2o3) ∈ l₃ := hev _ c2m3 List.not_mem_nil (it_cell c2d3)
          have htake := List.take_succ_eq_append_getElem hqS
          have hSm := List.getElem_mem hqS
          refine hideGoal fun hG21 hE21 => ?_
          obtain ⟨es', e1, e2, e3⟩ := hJ
          refine hE21 ?_
          clear hE21
          show wpAny _ _ _ _ _ _
          clear F'' N''
          repeat' (fail_if_success (with_reducible show wpAny _ _ (compareOp _ _ _) _ _ _)); walk1
          refine dnotin (by assumption) (by assumption) hLq hTq (by first | exact roomU (by assumption) (by decide) | (simp only [units_deeper]; omega)) loL fun tk₄ => ?_
          by_cases hsd : sidesS ac dn S.2 S.2[q] = []
          · have hno : atKey ys es[q].1 = none := atKey_none (by rw [dv2.keys, hkq, mem_key2, lat_fst]; intro hm; exact of_decide_eq_true (List.mem_filter.mp hm).2 hsd)
            rw [hno]
            simp only [Option.isSome_none, Bool.not_false]
            k_steps
            refine ⟨_, _, _, rfl, by assumption, by assumption, fun p hp => hp, es' ++ [es[q]], by rw [e1, List.map_append]; rfl, fun e he => ?_, ?_⟩
            · rcases List.mem_append.mp he with he | he
              · exact e2 e he
              · rw [List.mem_singleton.mp he]; exact List.getElem_mem hqe
            · rw [htake, List.filter_append, List.map_append, List.map_append, e3]
              simp [hsd, hkq]
          · have hin : es[q].1 ∈ ys.map (·.1) := by
              rw [dv2.keys, hkq, mem_key2, lat_fst]
              exact List.mem_filter.mpr ⟨hSm, decide_eq_true hsd⟩
            refine hideGoal fun hG22 hE22 => ?_
            obtain ⟨y, hy, ey⟩ := List.mem_map.mp hin
            refine hE22 ?_
            clear hE22
            have hyes := atKey_mem ndL hy
            rw [ey] at hyes
            rw [hyes]
            simp only [Option.isSome_some, Bool.not_true]
            k_steps
            refine ⟨_, _, _, rfl, by assumption, by assumption, fun p hp => hp, es', e1, e2, ?_⟩
            rw [htake, List.filter_append, List.map_append, e3]
            simp [hsd]
        · intro D h3' tk3 vs l3 hJ hlen' F3' N3' hoff hk hev
          refine qB2 _ _ ?_
          clear qB2
          obtain ⟨es', e1, e2, e3⟩ := hJ
          rw [show (es.map fun e => Value.ref e.2).toArray.size = S.2.length by simp [hlen], List.take_length] at e3
          have ev3 : Ev l'' ((D, lst vs) :: l3) [] := hev.trans (Ev.of fun p hp => .tail _ hp)
          clear F'' N''
          k_steps
          refine qP1 _ _ ?_
          refine ⟨_, _, _, _, rfl, by assumption, by assumption, ?_, D, _, ⟨by walk_at "m.look", ⟨es', ⟨_, _, .in (.head _) rfl, rfl, by rw [e1], rfl⟩, fun e he => (hT3 e (e2 e he)).mono fun a o _ k => k.sub ev3, ?_⟩, ⟨c1o3, ev3 _ c1m3 List.not_mem_nil (it_cell c1d3), c1d3⟩, ⟨c2o3, ev3 _ c2m3 List.not_mem_nil (it_cell c2d3), c2d3⟩⟩, ⟨xs, hD3.mono fun a o _ k => k.sub ev3, hKn3⟩, owK3.ev ev3⟩
          · exact fun p hp i => .tail _ (hk _ (hK'' _ (hK' _ (k14 _ hp i) i) i) i)
          · rw [e3, hnext]; rfl
  · intro h' tk m' l' F' N' hK' hI9
    refine qA1 _ _ ?_
    clear qA1
    refine hideGoal fun hG23 hE23 => ?_
    obtain ⟨G, cv, ⟨mG, hG', ⟨c1o, c1m, c1d⟩, c2x⟩, ⟨xs, hD, hKn'⟩, owK⟩ := hI9
    refine hE23 ?_
    clear hE23
    clear F N
    k_steps
    exact hR _ _ Kd xs _ (Fr.keep (by assumption)) (Led.of (by assumption)) hD hKn' lo2 owK
end
section
variable {w : World} {A₀ : Around} {s : Shared} {base h₀ : Heap} {outer : List Env} {L : Addr} {m mg mb : Str → Option Value} {mean : ExcName → Option Value} {env : Env} {l : List (Addr × Obj)} {Q E : Value → Shared → Prop} {kn gn : Addr} {ac dn : Int}
theorem filled_at (B : Below A₀ base outer h₀) (F : Fr h₀ L s.heap m) (X : (hd.heap_1 w.params).In h₀) (T : Top pp (looseW pp []) mean mg mb h₀) (N : News h₀ L s.heap l) (hf : env.frame = some L) (hk : env.scope.kind = .function) (hh : A₀.handled = none) (hd : A₀.depth + 1 + 6 < recursionLimit) (hu : A₀.units + 3 + 140 < cLine)
    {ta tb : Tok} (h1 : 1 ≤ ac) (h2 : ac ≤ 5) (h3 : 1 ≤ dn) (h4 : dn ≤ 4) {S₀ : Rws} (hGo : Good ac dn S₀) {xs₀ : List (List Int × Addr × Value)} (hK : DictP prg w (Kn h₀ l) kn xs₀) (loK : (kn == sysModules) = false) (hKn : Known ac dn S₀ xs₀) (hG : TupL w (Kn h₀ l) gn (S₀.2.map key2))
    (hQ : ∀ h' tk D xs l', Fr h₀ L h' m → News h₀ L h' l' → DictP prg w (Kn h₀ l') D xs → Known ac dn (iterS ac dn (ac + dn).toNat S₀) xs → (D == sysModules) = false → (∀ p ∈ l, p ∈ l') → Q (.ref D) { s with heap := h', toks := tk }) :
    wpAny (model prg w) (A₀.deeper env) (call (.ref 275) [.ref kn, .ref gn, .int ac ta, .int dn tb]) Q E s := by
  obtain ⟨g, ok, hs, -, hg, h0, hall, ngL, lk, k1, k2, k3⟩ := site2 B F X T N [] (fun _ h => nomatch h) hf hk hh
  have kn' : ∀ a o, Kn h₀ l a o → g.get? a = some o := fun a o k => k.1.elim (h0 a o) fun hm => hg _ hm (by simp)
  refine wpAny_call (filled_spec ok hs hd hu h1 h2 h3 h4 hGo (hK.mono fun a o _ k => kn' a o k) loK hKn (hG.mono fun a o _ k => kn' a o k) fun h' tk D xs l' keep led hD hKn' lo ow => ?_)
  obtain ⟨F', N'⟩ := k3 h' _ keep led
  have sub : ∀ p ∈ l, p ∈ l' ++ lk := fun p hp => List.mem_append_right _ (k1 p hp (by simp))
  refine hQ h' tk D xs (l' ++ lk) F' N' ?_ hKn' lo sub
  have up : ∀ a o, (∀ es ep, o.data ≠ .dict es ep) → Kn g l' a o → Kn h₀ (l' ++ lk) a o := by
    intro a o hn k
    refine ⟨?_, k.2⟩
    rcases k.1 with q | q
    · rcases hall _ _ q with q' | q' | q'
      · exact .inl q'
      · obtain ⟨oL, es, ep, eL, dL, _⟩ := ngL
        rw [← q', q] at eL
        rw [Option.some.inj eL] at hn
        exact absurd dL (hn es ep)
      · exact .inr (sub _ q'.1)
    · exact .inr (List.mem_append_left _ q)
  obtain ⟨o, es, ep, k, a, b, c, t, n⟩ := hD
  refine ⟨o, es, ep, ⟨?_, k.2⟩, a, b, c, fun y hy => ?_, n⟩
  · rcases k.1 with q | q
    · obtain ⟨o', ho', _⟩ := ow
      have := (led _ ho').2
      rw [q] at this
      cases this
    · exact .inr (List.mem_append_left _ q)
  · obtain ⟨o, i, n, p, c1, c2, c3⟩ := t y hy
    exact ⟨o, i, n, up _ _ (fun es ep e => by rw [c2] at e; cases e) p, c1, c2, c3⟩
end
end
theorem calm15 : True := by (w_top off); first | walk1 | trivial
section
theorem word74 : True := by
  k_with_none
  trivial
theorem word75 : True := by
  k_with "m.enter" => ((rename Around => A9); cases A9; (have hh9 := Ok.hh (by assumption)); (dsimp only at hh9); subst hh9; (rename _ + _ < recursionLimit => hd9); (dsimp only at hd9); (try ((rename _ + _ < cLine => hu9); (dsimp only at hu9))); refine' enter (by assumption) (by assumption) ?k3 ?k6 ?k7 ?k8 ?k9 ?kB ?_ ?c5 ?c2 ?c3 ?c4; (case k3 => first | assumption | exact Led.nil); (case k6 => k_dflt k_is); (case k7 => k_dflt k_is); (case k8 => dsimp only; omega); (case k9 => exact BindsTo.of_eq rfl); (case c5 => decide); (case kB => exact locs rfl); (case c2 => exact rfl); (case c3 => exact rfl); (case c4 => exact rfl); k_whole; intro _ _ _ _ _ _ _ _ _ _ _ _ _; (have hst9 := Below.stack (by assumption)); (dsimp only at hst9); subst hst9; (try dsimp only); (try k_fold))
  trivial
theorem word76 : True := by
  k_with "m.look" => first | assumption | exact if_pos rfl | (refine Eq.trans (if_neg (by decide)) ?_; walk_at "m.look")
  trivial
theorem word77 : True := by
  k_with "eval Name" => (k_dflt (refine' nameX_L ?xF ?xv ?_ ?xa ?xb; (case xF => k_asm); (case xa => rfl); (case xb => rfl); (case xv => walk_at "m.look"); k_whole))
  trivial
noncomputable def tokL (l : List Tok) (i : Nat) : Tok := l.getD i 0
section
variable {w : World} {A₀ : Around} {s : Shared} {base h₀ : Heap} {outer : List Env} {L : Addr} {m mg mb : Str → Option Value} {mean : ExcName → Option Value} {env : Env} {l : List (Addr × Obj)} {Q E : Value → Shared → Prop}
/-- an object of a class is made: its «__init__» is given as a contract -/
theorem made_at {C fI : Addr} {args : List Value} {Post : Addr → List (Addr × Obj) → Prop} (B : Below A₀ base outer h₀) (F : Fr h₀ L s.heap m) (X : (hd.heap_1 w.params).In h₀) (T : Top pp (looseW pp []) mean mg mb h₀) (N : News h₀ L s.heap l) (hf : env.frame = some L) (hk : env.scope.kind = .function) (hh : A₀.handled = none)
    (hm : makesIn (hd.heap_1 w.params) C = true) (hi : findIn (hd.heap_1 w.params) (.ref C) "__init__" = some (some (.ref fI))) (hfn : typeIn (hd.heap_1 w.params) (.ref fI) = some (.type "function"))
    (spec : ∀ g (s' : Shared), Ok w ((A₀.deeper env).under (.builtin "type.__call__" ⟨.ref C :: args, []⟩)) g → Sub g s'.heap → (∀ a o, h₀.get? a = some o ∨ (a, o) ∈ l → g.get? a = some o) → ∀ x dx, Led g s'.heap [(x, instObj C dx), (dx, dictOf [] 0)] → @LT.lt Nat _ dx x → (∀ R : Result → Shared → Prop,
      (∀ h' tk ln, (∀ b o, g.get? b = some o → h'.get? b = some o) → Led g h' ln → Post x ln → R (.ok (.ret .none)) { s' with heap := h', toks := tk }) → codeAny (model prg w) ((A₀.deeper env).under (.builtin "type.__call__" ⟨.ref C :: args, []⟩)) (.call (.ref fI) ⟨.ref x :: args, []⟩) R s'))
    (hQ : ∀ h' tk x ln, Post x ln → Fr h₀ L h' m → News h₀ L h' (ln ++ l) → (∀ p ∈ ln, s.heap.get? p.1 = none) → Q (.ref x) { s with heap := h', toks := tk }) :
    wpAny (model prg w) (A₀.deeper env) (call (.ref C) args) Q E s := by
  obtain ⟨hp, gg, dd, tt, os⟩ := s
  have X' := X.keeps F.keep
  refine wpAny_call (make_core (makes_of X' hm) (looks_findIn X' hi) (fun self => bind_fn X' self hfn) (.inl rfl) ?_)
  have F2 := (F.push emptyDict).push (instObj C hp.objs.size)
  have N2 : News h₀ L ((hp.push emptyDict).push (instObj C hp.objs.size)) ((hp.objs.size + 1, instObj C hp.objs.size) :: (hp.objs.size, emptyDict) :: l) := by
    have := (N.push F emptyDict).push (F.push _) (instObj C hp.objs.size)
    rwa [Heap.size_push] at this
  obtain ⟨g, ok, hs, hW, hg, h0, hall, lk, k1, k2, k3⟩ := site (s := ⟨(hp.push emptyDict).push (instObj C hp.objs.size), gg, dd, tt, os⟩) B F2 X T N2 [(hp.objs.size + 1, instObj C hp.objs.size), (hp.objs.size, emptyDict)] (fun p hp => by
    rcases List.mem_cons.mp hp with rfl | hp
    · exact .head _
    · rw [List.mem_singleton.mp hp]; exact .tail _ (.head _)) hf hk hh
  have off : ∀ p ∈ l, p.1 ∉ [(hp.objs.size + 1, instObj C hp.objs.size), (hp.objs.size, emptyDict)].map (·.1) := fun p hpl hm => by
    have := Heap.lt_size (N p hpl).1
    simp only [List.map_cons, List.map_nil, List.mem_cons, List.not_mem_nil, or_false] at hm
    rcases hm with e | e
    · rw [e] at this; exact Nat.lt_irrefl _ (Nat.lt_of_le_of_lt (Nat.le_succ _) this)
    · rw [e] at this; exact Nat.lt_irrefl _ this
  have ok' : Ok w ((A₀.deeper env).under (.builtin "type.__call__" ⟨.ref C :: args, []⟩)) g := ⟨ok.B.imp fun b x => x.imp fun o y => ⟨y.stack, y.stays, y.frames⟩, ok.X, ok.T, ok.hh⟩
  refine spec g _ ok' hs (fun a o k => k.elim (h0 a o) fun hm => hg _ (.tail _ (.tail _ hm)) (off _ hm)) (hp.objs.size + 1) hp.objs.size hW (Nat.lt_succ_self _) _ fun h' tk ln keep led post => ?_
  obtain ⟨F', N'⟩ := k3 h' _ keep led
  refine ⟨rfl, hQ h' tk _ ln post F' (fun p hpm => N' p ?_) (fun p hpm => ?_)⟩
  · rcases List.mem_append.mp hpm with hpm | hpm
    · exact List.mem_append_left _ hpm
    · exact List.mem_append_right _ (k1 p (.tail _ (.tail _ hpm)) (off p hpm))
  · show hp.get? p.1 = none
    cases e : hp.get? p.1 with
    | none => rfl
    | some o =>
      have h1 := (led p hpm).2
      have h2 := hall p.1 o (Heap.get?_push_of_some _ (Heap.get?_push_of_some _ e)) (by
        have := Heap.lt_size e
        simp only [List.map_cons, List.map_nil, List.mem_cons, List.not_mem_nil, or_false]
        intro hm
        rcases hm with e | e
        · rw [e] at this; exact Nat.lt_irrefl _ (Nat.lt_of_le_of_lt (Nat.le_succ _) this)
        · rw [e] at this; exact Nat.lt_irrefl _ this)
      rw [h1] at h2
      cases h2
end
section
variable {w : World} {A : Around} {s : Shared} {g : Heap} {R : Result → Shared → Prop}
noncomputable def compD (w : World) (ts : Nat → Tok)  (t1 t2 t3 t4 : Tok) : Obj := dictOf [⟨PyData.keyHash w.params (Str.ofString "ident"), .str (Str.ofString "ident") (ts 0), .int 1 t1⟩, ⟨PyData.keyHash w.params (Str.ofString "across"), .str (Str.ofString "across") (ts 1), .int 1 t2⟩, ⟨PyData.keyHash w.params (Str.ofString "down"), .str (Str.ofString "down") (ts 2), .int 1 t3⟩, ⟨PyData.keyHash w.params (Str.ofString "quant"), .str (Str.ofString "quant") (ts 3), .int 0 t4⟩] 4
theorem comp_init (ok : Ok w A g) (hs : Sub g s.heap) (hd : A.depth + 3 < recursionLimit) (hu : A.units + 40 < cLine) {x dx : Addr} (hW : Led g s.heap [(x, instObj 111 dx), (dx, dictOf [] 0)]) (hlt : @LT.lt Nat _ dx x) (t1 t2 t3 t4 : Tok)
    (hR : ∀ h' tk ts, (∀ b o, g.get? b = some o → h'.get? b = some o) → Led g h' [(x, instObj 111 dx), (dx, compD w ts t1 t2 t3 t4)] → R (.ok (.ret .none)) {s with heap := h', toks := tk}) :
    codeAny (model prg w) A (.call (.ref 108) ⟨[.ref x, .int 1 t1, .int 1 t2, .int 1 t3, .int 0 t4], []⟩) R s := by
  walk_at "m.enter"
  k_steps
  rename News _ _ _ _ => N9
  exact hR _ _ (tokL [_, _, _, _]) (Fr.keep (by assumption)) (Led.of N9)
noncomputable def frameD (w : World) (ts : Nat → Tok)  (t1 t2 t3 t4 t5 : Tok) (ac dn : Int) (cl : Addr) : Obj := dictOf [⟨PyData.keyHash w.params (Str.ofString "kind"), .str (Str.ofString "kind") (ts 0), .str (Str.ofString "baseline") t1⟩, ⟨PyData.keyHash w.params (Str.ofString "precision"), .str (Str.ofString "precision") (ts 1), .int 8 t2⟩, ⟨PyData.keyHash w.params (Str.ofString "height"), .str (Str.ofString "height") (ts 2), .int (2 * dn) t3⟩, ⟨PyData.keyHash w.params (Str.ofString "width"), .str (Str.ofString "width") (ts 3), .int (2 * ac) t4⟩, ⟨PyData.keyHash w.params (Str.ofString "components"), .str (Str.ofString "components") (ts 4), .ref cl⟩, ⟨PyData.keyHash w.params (Str.ofString "n"), .str (Str.ofString "n") (ts 5), .int 2 t5⟩] 6
theorem frame_init (ok : Ok w A g) (hs : Sub g s.heap) (hd : A.depth + 3 < recursionLimit) (hu : A.units + 40 < cLine) {x dx : Addr} (hW : Led g s.heap [(x, instObj 177 dx), (dx, dictOf [] 0)]) (hlt : @LT.lt Nat _ dx x) (t1 t2 t3 t4 t5 : Tok) (ac dn : Int) (cl : Addr)
    (hR : ∀ h' tk ts, (∀ b o, g.get? b = some o → h'.get? b = some o) → Led g h' [(x, instObj 177 dx), (dx, frameD w ts t1 t2 t3 t4 t5 ac dn cl)] → R (.ok (.ret .none)) {s with heap := h', toks := tk}) :
    codeAny (model prg w) A (.call (.ref 129) ⟨[.ref x, .str (Str.ofString "baseline") t1, .int 8 t2, .int (2 * dn) t3, .int (2 * ac) t4, .ref cl, .int 2 t5], []⟩) R s := by
  walk_at "m.enter"
  k_steps
  rename News _ _ _ _ => N9
  exact hR _ _ (tokL [_, _, _, _, _, _]) (Fr.keep (by assumption)) (Led.of N9)
noncomputable def scanD (w : World) (ts : Nat → Tok)  (t1 t2 t3 t4 : Tok) (pl dl al : Addr) : Obj := dictOf [⟨PyData.keyHash w.params (Str.ofString "places"), .str (Str.ofString "places") (ts 0), .ref pl⟩, ⟨PyData.keyHash w.params (Str.ofString "dc_slots"), .str (Str.ofString "dc_slots") (ts 1), .ref dl⟩, ⟨PyData.keyHash w.params (Str.ofString "ac_slots"), .str (Str.ofString "ac_slots") (ts 2), .ref al⟩, ⟨PyData.keyHash w.params (Str.ofString "start"), .str (Str.ofString "start") (ts 3), .int 0 t1⟩, ⟨PyData.keyHash w.params (Str.ofString "end"), .str (Str.ofString "end") (ts 4), .int 3 t2⟩, ⟨PyData.keyHash w.params (Str.ofString "high"), .str (Str.ofString "high") (ts 5), .int 0 t3⟩, ⟨PyData.keyHash w.params (Str.ofString "low"), .str (Str.ofString "low") (ts 6), .int 0 t4⟩] 7
theorem scan_init (ok : Ok w A g) (hs : Sub g s.heap) (hd : A.depth + 3 < recursionLimit) (hu : A.units + 40 < cLine) {x dx : Addr} (hW : Led g s.heap [(x, instObj 245 dx), (dx, dictOf [] 0)]) (hlt : @LT.lt Nat _ dx x) (t1 t2 t3 t4 : Tok) (pl dl al : Addr)
    (hR : ∀ h' tk ts, (∀ b o, g.get? b = some o → h'.get? b = some o) → Led g h' [(x, instObj 245 dx), (dx, scanD w ts t1 t2 t3 t4 pl dl al)] → R (.ok (.ret .none)) {s with heap := h', toks := tk}) :
    codeAny (model prg w) A (.call (.ref 228) ⟨[.ref x, .ref pl, .ref dl, .ref al, .int 0 t1, .int 3 t2, .int 0 t3, .int 0 t4], []⟩) R s := by
  walk_at "m.enter"
  k_steps
  rename News _ _ _ _ => N9
  exact hR _ _ (tokL [_, _, _, _, _, _, _]) (Fr.keep (by assumption)) (Led.of N9)
end
end
theorem calm16 : True := by (w_top off); first | walk1 | trivial
section
theorem word78 : True := by
  k_with_none
  trivial
theorem word79 : True := by
  k_with "m.enter" => ((rename Around => A9); cases A9; (have hh9 := Ok.hh (by assumption)); (dsimp only at hh9); subst hh9; (rename _ + _ < recursionLimit => hd9); (dsimp only at hd9); (try ((rename _ + _ < cLine => hu9); (dsimp only at hu9))); refine' enter (by assumption) (by assumption) ?k3 ?k6 ?k7 ?k8 ?k9 ?kB ?_ ?c5 ?c2 ?c3 ?c4; (case k3 => first | assumption | exact Led.nil); (case k6 => k_dflt k_is); (case k7 => k_dflt k_is); (case k8 => dsimp only; omega); (case k9 => exact BindsTo.of_eq rfl); (case c5 => decide); (case kB => exact locs rfl); (case c2 => exact rfl); (case c3 => exact rfl); (case c4 => exact rfl); k_whole; intro _ _ _ _ _ _ _ _ _ _ _ _ _; (have hst9 := Below.stack (by assumption)); (dsimp only at hst9); subst hst9; (try dsimp only); (try k_fold))
  trivial
theorem word80 : True := by
  k_with "m.look" => first | assumption | exact if_pos rfl | (refine Eq.trans (if_neg (by decide)) ?_; walk_at "m.look")
  trivial
theorem word81 : True := by
  k_with "eval Name" => (k_dflt (refine' nameX_L ?xF ?xv ?_ ?xa ?xb; (case xF => k_asm); (case xa => rfl); (case xb => rfl); (case xv => walk_at "m.look"); k_whole))
  trivial
theorem word82 : True := by
  k_with "m.enterC" => ((rename Around => A9); cases A9; (have hh9 := Ok.hh (by assumption)); (dsimp only at hh9); subst hh9; (rename _ + _ < recursionLimit => hd9); (dsimp only at hd9); (try ((rename _ + _ < cLine => hu9); (dsimp only at hu9))); refine' enterC (by assumption) (by assumption) ?k3 ?k6 ?k7 ?k8 ?k9 ?kB ?kN ?_ ?c2 ?c3 ?c4; (case k3 => first | assumption | exact Led.nil); (case k6 => k_dflt k_is); (case k7 => k_dflt k_is); (case k8 => dsimp only; omega); (case k9 => exact BindsTo.of_eq rfl); (case kB => exact rfl); (case kN => decide); (case c2 => exact rfl); (case c3 => exact rfl); (case c4 => exact rfl); k_whole; intro _ _ _ _ _ _ _ _ _ _ _ _ _ _ _ _; (have hst9 := Below.stack (by assumption)); (dsimp only at hst9); subst hst9; (try dsimp only); (try k_fold))
  trivial
theorem word83 : True := by
  k_with "eval Name" => (k_dflt (refine' ldC ?lN ?lhm ?lhd ?_ ?la ?lb ?lc; (case la => rfl); (case lb => rfl); (case lc => rfl); (case lN => k_asm); (case lhm => (repeat (first | assumption | apply List.mem_cons_of_mem))); (case lhd => assumption); k_whole))
  trivial
noncomputable def gridD (w : World) (ts : Nat → Tok) (pl : Addr) : Obj := dictOf [⟨PyData.keyHash w.params (Str.ofString "many"), .str (Str.ofString "many") (ts 0), .int 4 (ts 1)⟩, ⟨PyData.keyHash w.params (Str.ofString "planes"), .str (Str.ofString "planes") (ts 2), .ref pl⟩] 2
theorem four_news {g h : Heap} {L : Addr} {q0 q1 q2 q3 : Addr × Obj} (N : News g L h [q0, q1, q2, q3]) : ∃ lN, News g L h lN ∧ q0 ∈ lN ∧ q1 ∈ lN ∧ q2 ∈ lN ∧ q3 ∈ lN :=
  ⟨_, N, .head _, .tail _ (.head _), .tail _ (.tail _ (.head _)), .tail _ (.tail _ (.tail _ (.head _)))⟩
/-- what stands in the making of a grid -/
structure EJ (x dx c fr : Addr) (od : Obj) (m : Str → Option Value) (l : List (Addr × Obj)) : Prop where
  m1 : m (Str.ofString "self") = some (.ref x)
  m2 : m (Str.ofString "frame") = some (.ref fr)
  k : ∃ o v, (c, o) ∈ l ∧ o.data = .cell v
  i1 : (x, instObj 210 dx) ∈ l
  i2 : (dx, od) ∈ l
noncomputable def InL (l : List (Addr × Obj)) (a : Addr) (o : Obj) : Prop := (a, o) ∈ l ∧ It o = false
noncomputable def EFull (pl : Addr) (ac dn : Int) (l : List (Addr × Obj)) : Prop := ∃ p0 rs, ListP (InL l) pl [.ref p0] ∧ ListP (InL l) p0 (rs.map Value.ref) ∧ pl ∉ rs ∧ p0 ∉ rs ∧ RowsF (InL l) rs ac dn (fun _ _ => none)
theorem EJ.to {x dx c fr : Addr} {od : Obj} {m m' : Str → Option Value} {l l' : List (Addr × Obj)} (J : EJ x dx c fr od m l) (hi : It od = false) (ev : Ev l l' []) (m1 : m' (Str.ofString "self") = some (.ref x)) (m2 : m' (Str.ofString "frame") = some (.ref fr)) : EJ x dx c fr od m' l' :=
  ⟨m1, m2, J.k.imp fun o h => h.imp fun v h => ⟨ev _ h.1 List.not_mem_nil (it_cell h.2), h.2⟩, ev _ J.i1 List.not_mem_nil rfl, ev _ J.i2 List.not_mem_nil hi⟩
theorem InL.ev {l l' : List (Addr × Obj)} {a : Addr} {o : Obj} (k : InL l a o) (ev : Ev l l' []) : InL l' a o := ⟨ev _ k.1 List.not_mem_nil k.2, k.2⟩
theorem inst_led {g h : Heap} {L x dx C : Addr} {l : List (Addr × Obj)} {od : Obj} (N : News g L h l) (h1 : (x, instObj C dx) ∈ l) (h2 : (dx, od) ∈ l) : InstAt h x (instObj C dx) C (some od) := ⟨N.get h1, rfl, rfl, N.get h2⟩
local macro_rules | `(tactic| k_inst) => `(tactic| exact inst_led (by assumption) (by assumption) (by assumption))
noncomputable def EJ1 (x dx L fr pl : Addr) (od : Obj) (ac dn : Int) (i : Nat) (m : Str → Option Value) (l : List (Addr × Obj)) : Prop := EJ x dx (L + 1) fr od m l ∧ ((i = 0 ∧ ∃ o, (pl, o) ∈ l ∧ o.cls = .type "list" ∧ o.dict = none ∧ ∃ n, o.data = .seq #[] n) ∨ (i = 1 ∧ EFull pl ac dn l))
section
variable {w : World} {A : Around} {s : Shared} {g : Heap} {R : Result → Shared → Prop}
theorem grid_init (ok : Ok w A g) (hs : Sub g s.heap) (hd : A.depth + 12 < recursionLimit) (hu : A.units + 300 < cLine) {x dx : Addr} (hW : Led g s.heap [(x, instObj 210 dx), (dx, dictOf [] 0)]) (hlt : @LT.lt Nat _ dx x) {fr : Addr} {ac dn : Int} (hf : FrmP w (fun a o => g.get? a = some o) fr ac dn) (h1 : 1 ≤ ac) (h2 : ac ≤ 5) (h3 : 1 ≤ dn) (h4 : dn ≤ 4)
    (hR : ∀ h' tk ln rs, (∀ b o, g.get? b = some o → h'.get? b = some o) → Led g h' ln → GridT w (fun a o => (a, o) ∈ ln) x rs → RowsF (fun a o => (a, o) ∈ ln ∧ It o = false) rs ac dn (fun _ _ => none) → R (.ok (.ret .none)) {s with heap := h', toks := tk}) :
    codeAny (model prg w) A (.call (.ref 193) ⟨[.ref x, .ref fr], []⟩) R s := by
  refine hideGoal fun hG1 hE1 => ?_
  obtain ⟨fd, cl, co, cd, ts, p1, p2, p3, p4, p5⟩ := id hf
  refine hE1 ?_
  clear hE1
  walk_at "m.enterC"
  rename Fr _ _ _ _ => F
  rename CellsAre _ _ _ => Y
  rename News _ _ _ _ => N
  rename Top _ _ _ _ _ _ => T
  obtain ⟨cA, eC, dA⟩ := PyProof.Rows.CellsAre.one (n := Str.ofString "across") Y
  subst eC
  replace dA : cA.data = .cell none := dA
  rename_i base outer mean mg mb L h1x tkx X hN B
  have N0 : News g L _ [(L + 1, cA), (x, instObj 210 dx), (dx, dictOf [] 0)] := N
  have F0 : Fr g L _ (fun y => if y = Str.ofString "frame" then some (.ref fr) else if y = Str.ofString "self" then some (.ref x) else none) := F
  have hx1 : @LT.lt Nat _ x L := hN (x, instObj 210 dx) (by simp)
  have hx2 : @LT.lt Nat _ dx L := hN (dx, dictOf [] 0) (by simp)
  clear F Y N
  repeat' (fail_if_success (with_reducible show wpAny _ _ (exec (PySem.Stmt.For ..) _) _ _ _)); walk1
  rename Fr _ _ _ _ => F
  rename News _ _ _ _ => N
  rename_i h2x pl h3x hpl h4x
  have hplx : @LT.lt Nat _ x pl := hpl.2.1
  have hpld : @LT.lt Nat _ dx pl := hpl.2.2
  have hplc : @LT.lt Nat _ (L + 1) pl := hpl.1
  refine hideGoal fun hG2 hE2 => ?_
  obtain ⟨lN, N, q0, q1, q2, q3⟩ := four_news N
  obtain ⟨ts', q3⟩ : ∃ ts, (dx, gridD w ts pl) ∈ lN := ⟨tokL [_, _, _], q3⟩
  refine hE2 ?_
  clear hE2
  refine hideQ fun QA1 qA1 => ?_
  refine For_at F ?_
  repeat' (fail_if_success (with_reducible show wpAny _ _ (call (Value.builtin "len") _) _ _ _)); walk1
  refine PySem.Calls.call_len_list (items := #[.ref co]) ⟨_, F.keep _ _ p3, rfl, 0, rfl⟩ (by show (1 : Int) < 2 ^ 63; decide) ?_
  rw [show ((#[Value.ref co].size : Nat) : Int) = 1 from rfl]
  repeat' (fail_if_success (with_reducible show ∃ _, _)); walk1
  rename Fr _ _ _ _ => F
  rename News _ _ _ _ => N
  rename IsRange _ _ _ _ _ _ _ _ => hr
  refine ⟨_, _, _, _, _, EJ1 x dx L fr pl (gridD w ts' pl) ac dn,
      {S := Sr.range (n := 1) rfl hr (small_one (by omega) (by omega) (by omega) (by omega)) (by rw [rangeSize_one]; split <;> omega), hL := List.not_mem_nil, F := F, N := N, src := fun _ _ _ _ _ h => (nomatch h), mono := ?_, j0 := ?_, step := ?_, done := ?_}⟩
  · rintro i m l l' ev ⟨J, K⟩
    refine ⟨J.to rfl ev J.m1 J.m2, K.imp (fun ⟨e, o, h, c, dd, n, d⟩ => ⟨e, o, ev _ h List.not_mem_nil (it_no c (by decide)), c, dd, n, d⟩) fun ⟨e, p0, rs, a, b, c, d, f⟩ => ⟨e, p0, rs, a.mono fun a o _ k => k.ev ev, b.mono fun a o _ k => k.ev ev, c, d, f.mono fun a o _ k => k.ev ev⟩⟩
  · exact ⟨⟨by first | walk_at "m.look" | rfl, by first | walk_at "m.look" | rfl, ⟨_, _, q1, dA⟩, q2, q3⟩, .inl ⟨rfl, _, q0, rfl, rfl, 0, rfl⟩⟩
  · intro i v m₁ l₁ h₁ tk₁ hi hv9 hI9 hK F₁ N₁
    clear qA1
    refine hideGoal fun hG3 hE3 => ?_
    obtain ⟨tv, rfl⟩ := hv9
    obtain ⟨J, K⟩ := hI9
    refine hE3 ?_
    clear hE3
    obtain rfl : i = 0 := by omega
    obtain ⟨-, oP, hP, cP, ddP, nP, dP⟩ : _ ∧ _ := K.resolve_right fun h => absurd h.1 (by decide)
    obtain ⟨m1, m2, ⟨oc, vc, c1, c2⟩, i1, i2⟩ := id J
    rw [show (0 : Int) + ((0 : Nat) : Int) * 1 = 0 from rfl]
    clear F N
    repeat' (fail_if_success (with_reducible show wpAny _ _ (call (Value.ref 174) _) _ _ _)); walk1
    rename Fr _ _ _ _ => F
    rename News _ _ _ _ => N
    refine padded_at B F X T N rfl rfl rfl (by dsimp only; omega) (by dsimp only; omega) hf h1 h2 h3 h4 fun h₂ tk₂ Tp t1 t2 F2 N2 hnT => ?_
    clear F
    repeat' (fail_if_success (with_reducible show wpAny _ _ (storeName _ (Str.ofString "across") _) _ _ _)); walk1
    rename Fr _ _ _ _ => F
    rename News _ _ _ _ => N1
    refine stC F N1 (o := oc) (List.mem_cons_of_mem _ c1) c2 (fun h₄ l₄ oc' F4 N4 m4 d4 e4 k4 o4 => ?_) rfl rfl rfl
    have j1 : (x, instObj 210 dx) ∈ l₄ := e4 _ (List.mem_cons_of_mem _ i1) (fun q => absurd (List.mem_singleton.mp q) (Nat.ne_of_lt (Nat.lt_succ_of_lt hx1))) rfl
    have j2 : (dx, gridD w ts' pl) ∈ l₄ := e4 _ (List.mem_cons_of_mem _ i2) (fun q => absurd (List.mem_singleton.mp q) (Nat.ne_of_lt (Nat.lt_succ_of_lt hx2))) rfl
    have j3 : (pl, oP) ∈ l₄ := e4 _ (List.mem_cons_of_mem _ hP) (fun q => absurd (List.mem_singleton.mp q) (Nat.ne_of_gt hplc)) (it_no cP (by decide))
    have jO : Own l₄ pl := .in j3 (it_no cP (by decide))
    have k14 : KeepIt l₁ l₄ := (KeepIt.of fun p hp => List.mem_cons_of_mem _ hp).trans k4
    have j2' := j2
    unfold gridD at j2'
    clear F N1 e4 o4 k4
    repeat' (fail_if_success (with_reducible show wpAny _ _ (getMethod _ _ _) _ _ _)); walk1
    rename Fr _ _ _ _ => F
    rename News _ _ _ _ => N4
    refine lmeth F N4 (vs := []) ⟨oP, nP, .in j3 (it_no cP (by decide)), cP, dP, ddP⟩ ?_
    repeat' (fail_if_success (with_reducible show wpAny _ _ (eval (PySem.Expr.ListComp ..) _) _ _ _)); walk1
    rename Fr _ _ _ _ => F
    refine hideQ fun QB1 qB1 => ?_
    refine comp_at F (tst := none) (cl := [(Str.ofString "across", L + 1)]) rfl (by decide) rfl (by decide) ?_ (fun _ => rfl)
    repeat' (fail_if_success (with_reducible show ∃ _, _)); walk1
    rename Fr _ _ _ _ => F
    rename News _ _ _ _ => N
    rename IsRange _ _ _ _ _ _ _ _ => hr
    refine ⟨_, _, _, _, _, fun i ys P => ∃ rs : List Addr, ys = rs.map Value.ref ∧ rs.length = i ∧ rs.Nodup ∧ ∀ r ∈ rs, ListP P r (List.replicate ac.toNat .none) ∧ g.get? r = none,
      CoAt.name (Sr.range (n := dn.toNat) rfl hr (small_one (by omega) (by omega) (by omega) (by omega)) (by rw [rangeSize_one]; split <;> omega)) (by rw [sizeLine_eq]; omega) F N (src := fun _ h => (nomatch h)) (fun i ys P P' h ⟨rs, a, b, c, d⟩ => ⟨rs, a, b, c, fun r hr => ⟨(d r hr).1.mono fun a o _ k => h a o k, (d r hr).2⟩⟩) (by exact ⟨[], rfl, rfl, .nil, fun _ h => (nomatch h)⟩) (turn := ?_), ?_⟩
    · intro q v ys' l₃ h₃ tk₃ C oC m₃ D E' hq hm3 hPv ⟨rs, hys, hrl, hnd, hrs⟩ hev hoff hoC F₃ N₃
      have hcl : (L + 1, oc') ∈ l₃ := hev _ m4 List.not_mem_nil (it_cell d4)
      show wpAny _ _ _ _ _ _
      clear F N
      repeat' (fail_if_success (with_reducible show wpAny _ _ (binaryOp _ _ _) _ _ _)); walk1
      rename Fr _ _ _ _ => F
      rename News _ _ _ _ => N
      refine mul_list F N (N _ (.head _)).1 (by omega) (by omega) (by show 1 * _ ≤ _; omega) fun h₅ F5 N5 => ?_
      rw [listMul_foldl_if, lm_rep_flat_one] at N5
      refine hideGoal fun hG4 hE4 => ?_
      obtain ⟨lE, NE, qN, _, subE⟩ := two_news N5
      refine hE4 ?_
      clear hE4
      have hbelow : ∀ p ∈ ((C, oC) :: (D, lst ys') :: l₃), @LT.lt Nat _ p.1 _ := fun p hp => Heap.lt_size (N p (.tail _ hp)).1
      have hnb := (NE _ qN).2.2
      refine ⟨_, _, lE, rfl, F5, NE, subE, rs ++ [_], by rw [hys, List.map_append]; rfl, by rw [List.length_append, hrl]; rfl, ?_, fun r hr => ?_⟩
      · rw [List.nodup_append]
        refine ⟨hnd, by simp, fun a ha b hb e => ?_⟩
        rw [List.mem_singleton.mp hb] at e
        refine hideGoal fun hG5 hE5 => ?_
        obtain ⟨⟨oa, na, ka, _⟩, hna⟩ := hrs a ha
        refine hE5 ?_
        clear hE5
        have := hbelow _ (ka.1.1.resolve_left (by rw [hna]; intro e; cases e))
        rw [e] at this
        exact Nat.lt_irrefl _ this
      · rcases List.mem_append.mp hr with hr | hr
        · obtain ⟨hl, hb⟩ := hrs r hr
          exact ⟨hl.mono fun a o _ k => ⟨k.1.sub (Ev.of subE), k.2⟩, hb⟩
        · rw [List.mem_singleton.mp hr]
          refine ⟨⟨_, _, ⟨.in qN rfl, fun e => ?_, fun e => ?_⟩, rfl, rfl, rfl⟩, hnb⟩
          · exact Nat.lt_irrefl _ (e ▸ hbelow _ (.head _))
          · exact Nat.lt_irrefl _ (e ▸ hbelow _ (.tail _ (.head _)))
    · intro D h' tk ys' l' hI9 hlen' F' N' hoff hk hev
      refine qB1 _ _ ?_
      clear qB1
      refine hideGoal fun hG6 hE6 => ?_
      obtain ⟨rs, hys, hrl, hnd, hrs⟩ := hI9
      refine hE6 ?_
      clear hE6
      clear F N
      have evD : Ev l₄ ((D, lst ys') :: l') [] := hev.trans (Ev.of fun p hp => .tail _ hp)
      have hpl : ListP (Kn g ((D, lst ys') :: l')) pl [] := ⟨oP, nP, .in (evD _ j3 List.not_mem_nil (it_no cP (by decide))) (it_no cP (by decide)), cP, dP, ddP⟩
      repeat' (fail_if_success (with_reducible show wpAny _ _ (call (Value.builtin "list.append") _) _ _ _)); walk1
      refine lappend F' N' hpl (jO.ev evD) (by simp) fun h9 l9 F9 N9 x9 e9 k9 o9 => ?_
      have hrp : ∀ r ∈ rs, r ≠ pl := fun r hr => by
        refine hideGoal fun hG7 hE7 => ?_
        obtain ⟨⟨o, n, k, c, dd, _⟩, _⟩ := hrs r hr
        obtain ⟨oP', nP', kP', _, dP', _⟩ := hpl
        refine hE7 ?_
        clear hE7
        refine Kn.neD F' N' (k.sub (Ev.of fun p hp => .tail _ hp)) kP' ?_
        rw [dd, dP']
        intro e
        injection e with e _
        have := congrArg Array.size e
        simp at this
        omega
      have hrL : ∀ r ∈ rs, ∀ o, Kn g l' r o → InL l9 r o := fun r hr o k => ⟨e9 _ (.tail _ (k.1.resolve_left (by rw [(hrs r hr).2]; intro e; cases e))) (fun q => hrp r hr (List.mem_singleton.mp q)) k.2, k.2⟩
      have hDp : D ≠ pl := fun e => by
        subst e
        exact hoff _ (hev _ j3 List.not_mem_nil (it_no cP (by decide))) rfl
      have J9 : EJ x dx (L + 1) fr (gridD w ts' pl) m₁ l9 := by
        have e9' : Ev ((D, lst ys') :: l') l9 [pl] := e9
        refine ⟨m1, m2, ⟨oc', _, e9 _ (.tail _ (hev _ m4 List.not_mem_nil (it_cell d4))) (fun q => absurd (List.mem_singleton.mp q) (Nat.ne_of_lt hplc)) (it_cell d4), d4⟩, e9 _ (evD _ j1 List.not_mem_nil rfl) (fun q => absurd (List.mem_singleton.mp q) (Nat.ne_of_lt hplx)) rfl, e9 _ (evD _ j2 List.not_mem_nil rfl) (fun q => absurd (List.mem_singleton.mp q) (Nat.ne_of_lt hpld)) rfl⟩
      have full : EFull pl ac dn l9 := by
        refine ⟨D, rs, ?_, ?_, fun h => hrp _ h rfl, fun h => ?_, hnd, by rw [hrl]; omega, fun y r hr => ⟨List.replicate ac.toNat .none, ?_, by rw [List.length_replicate]; omega, fun x v hv => ?_⟩⟩
        · obtain ⟨o, n, k, r⟩ := x9
          refine hideGoal fun hG8 hE8 => ?_
          obtain ⟨oo, hoo, hio⟩ := o9 pl (jO.ev evD)
          refine hE8 ?_
          clear hE8
          have := Own.in_of ⟨oo, hoo, hio⟩ N9 k
          exact ⟨o, n, ⟨this, k.2⟩, r⟩
        · exact ⟨lst ys', _, ⟨e9 _ (.head _) (fun q => hDp (List.mem_singleton.mp q)) rfl, rfl⟩, rfl, by rw [← hys], rfl⟩
        · obtain ⟨⟨o, n, k, _⟩, hb⟩ := hrs D h
          exact hoff _ (k.1.resolve_left (by rw [hb]; intro e; cases e)) rfl
        · have hm := List.mem_of_getElem? hr
          obtain ⟨⟨o, n, k, z⟩, _⟩ := hrs r hm
          exact ⟨o, n, hrL r hm o k, z⟩
        · have := List.mem_of_getElem? hv
          exact List.eq_of_mem_replicate this
      clear F'
      k_steps
      refine ⟨_, _, _, _, rfl, by assumption, by assumption, fun p hp i => k9 _ (.tail _ (hk _ (k14 _ hp i) i)) i, J9.to rfl Ev.refl (by walk_at "m.look") (by walk_at "m.look"), by first | exact .inr ⟨rfl, full⟩ | exact .inr ⟨trivial, full⟩ | exact full⟩
  · intro h' tk m' l' F' N' hK' hI9
    refine qA1 _ _ ?_
    clear qA1
    refine hideGoal fun hG9 hE9 => ?_
    obtain ⟨J, K⟩ := hI9
    obtain ⟨-, p0, rs, a, b, c, d, f⟩ := K.resolve_left fun h => absurd h.1 (by decide)
    refine hE9 ?_
    clear hE9
    clear F N
    k_steps
    exact hR _ _ l' rs (Fr.keep (by assumption)) (Led.of (by assumption)) ⟨dx, pl, p0, ts', J.i1, J.i2, a.mono fun a o _ k => k.1, b.mono fun a o _ k => k.1, c, d⟩ f
end
end
theorem calm17 : True := by (w_top off); first | walk1 | trivial
section
theorem word84 : True := by
  k_with_none
  trivial
theorem word85 : True := by
  k_with "m.enter" => ((rename Around => A9); cases A9; (have hh9 := Ok.hh (by assumption)); (dsimp only at hh9); subst hh9; (rename _ + _ < recursionLimit => hd9); (dsimp only at hd9); (try ((rename _ + _ < cLine => hu9); (dsimp only at hu9))); refine' enter (by assumption) (by assumption) ?k3 ?k6 ?k7 ?k8 ?k9 ?kB ?_ ?c5 ?c2 ?c3 ?c4; (case k3 => first | assumption | exact Led.nil); (case k6 => k_dflt k_is); (case k7 => k_dflt k_is); (case k8 => dsimp only; omega); (case k9 => exact BindsTo.of_eq rfl); (case c5 => decide); (case kB => exact locs rfl); (case c2 => exact rfl); (case c3 => exact rfl); (case c4 => exact rfl); k_whole; intro _ _ _ _ _ _ _ _ _ _ _ _ _; (have hst9 := Below.stack (by assumption)); (dsimp only at hst9); subst hst9; (try dsimp only); (try k_fold))
  trivial
theorem word86 : True := by
  k_with "m.look" => first | assumption | exact if_pos rfl | (refine Eq.trans (if_neg (by decide)) ?_; walk_at "m.look")
  trivial
theorem word87 : True := by
  k_with "eval Name" => (k_dflt (refine' nameX_L ?xF ?xv ?_ ?xa ?xb; (case xF => k_asm); (case xa => rfl); (case xb => rfl); (case xv => walk_at "m.look"); k_whole))
  trivial
section
variable {w : World} {A₀ : Around} {s : Shared} {base h₀ : Heap} {outer : List Env} {L : Addr} {m mg mb : Str → Option Value} {mean : ExcName → Option Value} {env : Env} {l : List (Addr × Obj)} {Q E : Value → Shared → Prop}
theorem cmp_at (B : Below A₀ base outer h₀) (F : Fr h₀ L s.heap m) (X : (hd.heap_1 w.params).In h₀) (T : Top pp (looseW pp []) mean mg mb h₀) (N : News h₀ L s.heap l) (hf : env.frame = some L) (hk : env.scope.kind = .function) (hh : A₀.handled = none) (hd : A₀.depth + 20 < recursionLimit) (hu : A₀.units + 400 < cLine) {t1 t2 t3 t4 : Tok}
    (hQ : ∀ h' tk x dx ts, Fr h₀ L h' m → News h₀ L h' ((x, instObj 111 dx) :: (dx, compD w ts t1 t2 t3 t4) :: l) → s.heap.get? x = none → s.heap.get? dx = none → Q (.ref x) { s with heap := h', toks := tk }) :
    wpAny (model prg w) (A₀.deeper env) (call (.ref 111) [.int 1 t1, .int 1 t2, .int 1 t3, .int 0 t4]) Q E s :=
  made_at (Post := fun x ln => ∃ dx ts, ln = [(x, instObj 111 dx), (dx, compD w ts t1 t2 t3 t4)]) B F X T N hf hk hh (by k_is) (by k_is) (by k_is)
    (fun g s' ok hs kn x dx hW hlt R hR => comp_init ok hs (by k_room) (by simp only [units_under_make, units_deeper]; omega) hW hlt t1 t2 t3 t4 fun h' tk ts keep led => hR h' tk _ keep led ⟨dx, ts, rfl⟩)
    (by rintro h' tk x ln ⟨dx, ts, rfl⟩ F' N' hn; exact hQ h' tk x dx ts F' N' (hn _ (.head _)) (hn _ (.tail _ (.head _))))
theorem frame_at (B : Below A₀ base outer h₀) (F : Fr h₀ L s.heap m) (X : (hd.heap_1 w.params).In h₀) (T : Top pp (looseW pp []) mean mg mb h₀) (N : News h₀ L s.heap l) (hf : env.frame = some L) (hk : env.scope.kind = .function) (hh : A₀.handled = none) (hd : A₀.depth + 20 < recursionLimit) (hu : A₀.units + 400 < cLine) {t1 t2 t3 t4 t5 : Tok} {ac dn : Int} {cl : Addr}
    (hQ : ∀ h' tk x dx ts, Fr h₀ L h' m → News h₀ L h' ((x, instObj 177 dx) :: (dx, frameD w ts t1 t2 t3 t4 t5 ac dn cl) :: l) → s.heap.get? x = none → s.heap.get? dx = none → Q (.ref x) { s with heap := h', toks := tk }) :
    wpAny (model prg w) (A₀.deeper env) (call (.ref 177) [.str (Str.ofString "baseline") t1, .int 8 t2, .int (2 * dn) t3, .int (2 * ac) t4, .ref cl, .int 2 t5]) Q E s :=
  made_at (Post := fun x ln => ∃ dx ts, ln = [(x, instObj 177 dx), (dx, frameD w ts t1 t2 t3 t4 t5 ac dn cl)]) B F X T N hf hk hh (by k_is) (by k_is) (by k_is)
    (fun g s' ok hs kn x dx hW hlt R hR => frame_init ok hs (by k_room) (by simp only [units_under_make, units_deeper]; omega) hW hlt t1 t2 t3 t4 t5 ac dn cl fun h' tk ts keep led => hR h' tk _ keep led ⟨dx, ts, rfl⟩)
    (by rintro h' tk x ln ⟨dx, ts, rfl⟩ F' N' hn; exact hQ h' tk x dx ts F' N' (hn _ (.head _)) (hn _ (.tail _ (.head _))))
theorem scan_at (B : Below A₀ base outer h₀) (F : Fr h₀ L s.heap m) (X : (hd.heap_1 w.params).In h₀) (T : Top pp (looseW pp []) mean mg mb h₀) (N : News h₀ L s.heap l) (hf : env.frame = some L) (hk : env.scope.kind = .function) (hh : A₀.handled = none) (hd : A₀.depth + 20 < recursionLimit) (hu : A₀.units + 400 < cLine) {t1 t2 t3 t4 : Tok} {pl dl al : Addr}
    (hQ : ∀ h' tk x dx ts, Fr h₀ L h' m → News h₀ L h' ((x, instObj 245 dx) :: (dx, scanD w ts t1 t2 t3 t4 pl dl al) :: l) → s.heap.get? x = none → s.heap.get? dx = none → Q (.ref x) { s with heap := h', toks := tk }) :
    wpAny (model prg w) (A₀.deeper env) (call (.ref 245) [.ref pl, .ref dl, .ref al, .int 0 t1, .int 3 t2, .int 0 t3, .int 0 t4]) Q E s :=
  made_at (Post := fun x ln => ∃ dx ts, ln = [(x, instObj 245 dx), (dx, scanD w ts t1 t2 t3 t4 pl dl al)]) B F X T N hf hk hh (by k_is) (by k_is) (by k_is)
    (fun g s' ok hs kn x dx hW hlt R hR => scan_init ok hs (by k_room) (by simp only [units_under_make, units_deeper]; omega) hW hlt t1 t2 t3 t4 pl dl al fun h' tk ts keep led => hR h' tk _ keep led ⟨dx, ts, rfl⟩)
    (by rintro h' tk x ln ⟨dx, ts, rfl⟩ F' N' hn; exact hQ h' tk x dx ts F' N' (hn _ (.head _)) (hn _ (.tail _ (.head _))))
theorem grid_at (B : Below A₀ base outer h₀) (F : Fr h₀ L s.heap m) (X : (hd.heap_1 w.params).In h₀) (T : Top pp (looseW pp []) mean mg mb h₀) (N : News h₀ L s.heap l) (hf : env.frame = some L) (hk : env.scope.kind = .function) (hh : A₀.handled = none) (hd : A₀.depth + 20 < recursionLimit) (hu : A₀.units + 400 < cLine) {fr : Addr} {ac dn : Int} (hfr : FrmP w (Kn h₀ l) fr ac dn) (h1 : 1 ≤ ac) (h2 : ac ≤ 5) (h3 : 1 ≤ dn) (h4 : dn ≤ 4)
    (hQ : ∀ h' tk x ln rs, GridT w (fun a o => (a, o) ∈ ln) x rs → RowsF (InL ln) rs ac dn (fun _ _ => none) → Fr h₀ L h' m → News h₀ L h' (ln ++ l) → (∀ p ∈ ln, s.heap.get? p.1 = none) → Q (.ref x) { s with heap := h', toks := tk }) :
    wpAny (model prg w) (A₀.deeper env) (call (.ref 210) [.ref fr]) Q E s :=
  made_at (Post := fun x ln => ∃ rs, GridT w (fun a o => (a, o) ∈ ln) x rs ∧ RowsF (InL ln) rs ac dn (fun _ _ => none)) B F X T N hf hk hh (by k_is) (by k_is) (by k_is)
    (fun g s' ok hs kn x dx hW hlt R hR => grid_init ok hs (by k_room) (by simp only [units_under_make, units_deeper]; omega) hW hlt (hfr.mono fun a o _ k => kn a o k.1) h1 h2 h3 h4 fun h' tk ln rs keep led a b => hR h' tk _ keep led ⟨rs, a, b⟩)
    (by rintro h' tk x ln ⟨rs, a, b⟩ F' N' hn; exact hQ h' tk x ln rs a b F' N' hn)
end
end
theorem calm18 : True := by (w_top off); first | walk1 | trivial
section
section
variable {ac dn : Int} {S : Rws}
theorem iterS_add (k j : Nat) : iterS ac dn (k + j) S = iterS ac dn j (iterS ac dn k S) := by
  induction j with
  | zero => rfl
  | succ j ih => show stepS ac dn (iterS ac dn (k + j) S) = stepS ac dn _; rw [ih]
/-- nothing more comes -/
noncomputable def Fix (ac dn : Int) (S : Rws) : Prop := ∀ p ∈ S.2, sidesS ac dn S.2 p = []
theorem Fix.step (h : Fix ac dn S) : stepS ac dn S = S := by
  have e1 : stepF ac dn S = S.1 := by
    funext p
    unfold stepF
    rw [if_neg fun c => c.2 (h p c.1)]
  have e2 : stepG ac dn S.2 = S.2 := List.filter_eq_self.mpr fun p hp => decide_eq_true (h p hp)
  unfold stepS
  rw [e1, e2]
theorem Fix.iter (h : Fix ac dn S) (j : Nat) : iterS ac dn j S = S := by
  induction j with
  | zero => rfl
  | succ j ih => show stepS ac dn (iterS ac dn j S) = S; rw [ih]; exact h.step
theorem Fix.eq {k n : Nat} (hk : Fix ac dn (iterS ac dn k S)) (hn : Fix ac dn (iterS ac dn n S)) : iterS ac dn k S = iterS ac dn n S := by
  rcases Nat.le_total k n with h | h
  · obtain ⟨j, rfl⟩ := Nat.exists_eq_add_of_le h
    rw [iterS_add, hk.iter]
  · obtain ⟨j, rfl⟩ := Nat.exists_eq_add_of_le h
    rw [iterS_add, hn.iter]
noncomputable def dst (p q : Spot) : Int := ((p.1 : Int) - q.1).natAbs + ((p.2 : Int) - q.2).natAbs
/-- a side in the plane that is not gone is a known side -/
theorem side_mem {gone : List Spot} {p q : Spot} (hq : In ac dn q) (hg : q ∉ gone) (hn : ((q.1 : Int), (q.2 : Int)) ∈ nbs p) : sidesS ac dn gone p ≠ [] := by
  intro e
  have : q ∈ sidesS ac dn gone p := by
    unfold sidesS
    refine List.mem_filterMap.mpr ⟨_, hn, ?_⟩
    unfold sideOf
    have h1 := hq.1; have h2 := hq.2
    rw [if_pos ⟨by simp only; omega, by simpa using h1, by simp only; omega, by simpa using h2, by simpa using hg⟩]
    simp
  rw [e] at this
  cases this
theorem up_abs {a c : Nat} (h : a < c) (k : Int) : (((a + 1 : Nat) : Int) - c).natAbs + k = (((a : Int) - c).natAbs : Int) + k - 1 := by omega
theorem dn_abs {a c : Nat} (h : c < a) (k : Int) : (((a - 1 : Nat) : Int) - c).natAbs + k = (((a : Int) - c).natAbs : Int) + k - 1 := by omega
theorem lt_up {a c : Nat} {n : Int} (h : a < c) (q : (c : Int) < n) : ((a + 1 : Nat) : Int) < n := by omega
theorem lt_dn {a c : Nat} {n : Int} (h : c < a) (q : (a : Int) < n) : ((a - 1 : Nat) : Int) < n := by omega
theorem cast_dn {a c : Nat} (h : c < a) : ((a - 1 : Nat) : Int) = (a : Int) - 1 := by omega
theorem toward {p q : Spot} (hp : In ac dn p) (hq : In ac dn q) (hd : 0 < dst p q) : ∃ r : Spot, In ac dn r ∧ ((r.1 : Int), (r.2 : Int)) ∈ nbs p ∧ dst r q = dst p q - 1 := by
  obtain ⟨a, b⟩ := p
  obtain ⟨c, d⟩ := q
  obtain ⟨p1, p2⟩ := hp
  obtain ⟨q1, q2⟩ := hq
  rcases Nat.lt_trichotomy a c with h | h | h
  · exact ⟨(a + 1, b), ⟨lt_up h q1, p2⟩, .tail _ (.head _), up_abs h _⟩
  · rcases Nat.lt_trichotomy b d with h' | h' | h'
    · exact ⟨(a, b + 1), ⟨p1, lt_up h' q2⟩, .tail _ (.tail _ (.tail _ (.head _))), by show _ + _ = _ + _ - 1; rw [Int.add_comm]; exact (up_abs h' _).trans (by rw [Int.add_comm])⟩
    · subst h h'
      exact absurd hd (by simp [dst])
    · exact ⟨(a, b - 1), ⟨p1, lt_dn h' p2⟩, by show ((a : Int), ((b - 1 : Nat) : Int)) ∈ _; rw [cast_dn h']; exact .tail _ (.tail _ (.head _)), by show _ + _ = _ + _ - 1; rw [Int.add_comm]; exact (dn_abs h' _).trans (by rw [Int.add_comm])⟩
  · exact ⟨(a - 1, b), ⟨lt_dn h p1, p2⟩, by show (((a - 1 : Nat) : Int), (b : Int)) ∈ _; rw [cast_dn h]; exact .head _, dn_abs h _⟩
theorem iterS_sub (n : Nat) {p : Spot} (h : p ∈ (iterS ac dn n S).2) : p ∈ S.2 := by
  induction n with
  | zero => exact h
  | succ n ih => exact ih (List.mem_filter.mp h).1
theorem far (hin : ∀ p ∈ S.2, In ac dn p) {q : Spot} (hq : In ac dn q) (hk : q ∉ S.2) : ∀ (n : Nat) (p : Spot), p ∈ (iterS ac dn n S).2 → (n : Int) < dst p q := by
  intro n
  induction n with
  | zero =>
    intro p hp
    have hne : p ≠ q := fun e => hk (e ▸ hp)
    have : dst p q ≠ 0 := fun e => hne (by
      unfold dst at e
      obtain ⟨a, b⟩ := p
      obtain ⟨c, d⟩ := q
      simp only at e
      exact Prod.ext (by simp only; omega) (by simp only; omega))
    have : 0 ≤ dst p q := by unfold dst; omega
    omega
  | succ n ih =>
    intro p hp
    obtain ⟨h1, h2⟩ := List.mem_filter.mp hp
    have hs := of_decide_eq_true h2
    have h3 := ih p h1
    by_cases hlt : ((n + 1 : Nat) : Int) < dst p q
    · exact hlt
    · exfalso
      obtain ⟨r, r1, r2, r3⟩ := toward (hin p (iterS_sub n h1)) hq (by omega)
      by_cases hr : r ∈ (iterS ac dn n S).2
      · have := ih r hr
        omega
      · exact side_mem r1 hr r2 hs
theorem fix_end (hin : ∀ p ∈ S.2, In ac dn p) (h1 : 1 ≤ ac) (h2 : 1 ≤ dn) : Fix ac dn (iterS ac dn (ac + dn).toNat S) := by
  intro p hp
  by_cases hall : ∀ q, In ac dn q → q ∈ S.2
  · have hf : Fix ac dn S := fun q hq => by
      refine List.eq_nil_iff_forall_not_mem.mpr fun r hr => ?_
      have := sidesS_in hr
      exact this.2.2 (hall r ⟨this.1, this.2.1⟩)
    rw [hf.iter] at hp ⊢
    exact hf p hp
  · obtain ⟨q, hq⟩ := Classical.not_forall.mp hall
    obtain ⟨hq, hk⟩ := Classical.not_imp.mp hq
    exfalso
    have h := far hin hq hk _ p hp
    have hp' := hin p (iterS_sub _ hp)
    obtain ⟨a, b⟩ := p
    obtain ⟨c, d⟩ := q
    obtain ⟨p1, p2⟩ := hp'
    obtain ⟨q1, q2⟩ := hq
    simp only at p1 p2 q1 q2
    unfold dst at h
    simp only at h
    omega
/-- what is not gone stays -/
theorem keep_known (n : Nat) {p : Spot} (h : p ∉ S.2) : (iterS ac dn n S).1 p = S.1 p := by
  induction n with
  | zero => rfl
  | succ n ih =>
    show stepF ac dn (iterS ac dn n S) p = _
    unfold stepF
    rw [if_neg fun c => h (iterS_sub n c.1)]
    exact ih
theorem keep_gone (n : Nat) {p : Spot} (h : p ∈ (iterS ac dn n S).2) : (iterS ac dn n S).1 p = S.1 p := by
  induction n with
  | zero => rfl
  | succ n ih =>
    obtain ⟨h1, h2⟩ := List.mem_filter.mp h
    show stepF ac dn (iterS ac dn n S) p = _
    unfold stepF
    rw [if_neg fun c => c.2 (of_decide_eq_true h2)]
    exact ih h1
theorem filled_row (n : Nat) {p : Spot} (h : p ∈ S.2) (hf : p ∉ (iterS ac dn n S).2) : (iterS ac dn n S).1 p = [hdv (iterS ac dn n S).1 p, 0, 0, 0] := by
  induction n with
  | zero => exact absurd h hf
  | succ n ih =>
    have e : (iterS ac dn (n + 1) S).1 p = stepF ac dn (iterS ac dn n S) p := rfl
    by_cases hp : p ∈ (iterS ac dn n S).2
    · have hs : sidesS ac dn (iterS ac dn n S).2 p ≠ [] := fun q => hf (List.mem_filter.mpr ⟨hp, decide_eq_true q⟩)
      unfold hdv
      rw [e]
      unfold stepF
      rw [if_pos ⟨hp, hs⟩]
      rfl
    · have e2 : stepF ac dn (iterS ac dn n S) p = (iterS ac dn n S).1 p := by unfold stepF; rw [if_neg fun c => hp c.1]
      unfold hdv
      rw [e, e2]
      exact ih hp
theorem rnd_five {c : Nat} (hc : 0 < c) : rnd (5 * (c : Int)) c = 5 := by
  unfold rnd
  have h0 : (0 : Int) ≤ 5 * c := by omega
  rw [if_pos (by omega), if_neg (by omega)]
  rw [Int.fdiv_eq_ediv_of_nonneg _ (by omega)]
  have : (2 * (5 * (c : Int)) + c) = c + (2 * c) * 5 := by omega
  rw [this, Int.add_mul_ediv_left _ _ (by omega)]
  have : (c : Int) / (2 * c) = 0 := Int.ediv_eq_zero_of_lt (by omega) (by omega)
  omega
theorem sum_five : ∀ {l : List Int}, (∀ n ∈ l, n = 5) → l.sum = 5 * (l.length : Int)
  | [], _ => rfl
  | a :: r, h => by
    rw [List.sum_cons, sum_five fun n hn => h n (List.mem_cons_of_mem _ hn), h a List.mem_cons_self, List.length_cons]
    omega
theorem all_five (h : ∀ p, In ac dn p → hdv S.1 p = 5) (n : Nat) : ∀ p, In ac dn p → hdv (iterS ac dn n S).1 p = 5 := by
  induction n with
  | zero => exact h
  | succ n ih =>
    intro p hp
    show (stepF ac dn (iterS ac dn n S) p).headD 0 = 5
    unfold stepF
    split
    · rename_i c
      show rnd _ _ = 5
      have hpos : 0 < (sidesS ac dn (iterS ac dn n S).2 p).length := List.length_pos_iff.mpr c.2
      rw [sum_five fun m hm => ?_, List.length_map]
      · exact rnd_five hpos
      · obtain ⟨q, hq, rfl⟩ := List.mem_map.mp hm
        have := sidesS_in hq
        exact ih q ⟨this.1, this.2.1⟩
    · exact ih p hp
end
end
section
/-- the block of an index -/
noncomputable def spot (ac : Int) (i : Nat) : Spot := (i % ac.toNat, i / ac.toNat)
section
variable {ac dn : Int}
theorem spot_fmod (h : 1 ≤ ac) (i : Nat) : ((i : Int)).fmod ac = ((spot ac i).1 : Int) := by
  rw [Int.fmod_eq_emod_of_nonneg _ (by omega)]
  show _ = ((i % ac.toNat : Nat) : Int)
  rw [Int.natCast_emod, Int.toNat_of_nonneg (by omega)]
theorem spot_fdiv (h : 1 ≤ ac) (i : Nat) : ((i : Int)).fdiv ac = ((spot ac i).2 : Int) := by
  rw [Int.fdiv_eq_ediv_of_nonneg _ (by omega)]
  show _ = ((i / ac.toNat : Nat) : Int)
  rw [Int.natCast_ediv, Int.toNat_of_nonneg (by omega)]
theorem spot_key (h : 1 ≤ ac) (i : Nat) : [0, ((i : Int)).fmod ac, ((i : Int)).fdiv ac] = key (spot ac i) := by
  rw [spot_fmod h, spot_fdiv h]; rfl
theorem spot_inj {i j : Nat} (h : spot ac i = spot ac j) : i = j := by
  have h1 : i % ac.toNat = j % ac.toNat := congrArg Prod.fst h
  have h2 : i / ac.toNat = j / ac.toNat := congrArg Prod.snd h
  rw [← Nat.div_add_mod i ac.toNat, ← Nat.div_add_mod j ac.toNat, h1, h2]
theorem spot_in (h1 : 1 ≤ ac) (h3 : 1 ≤ dn) {i : Nat} (h : i < (ac * dn).toNat) : In ac dn (spot ac i) := by
  have hp : 0 < ac.toNat := by omega
  have e : (ac * dn).toNat = ac.toNat * dn.toNat := by
    have : ((ac.toNat * dn.toNat : Nat) : Int) = ac * dn := by
      rw [Int.natCast_mul, Int.toNat_of_nonneg (by omega), Int.toNat_of_nonneg (by omega)]
    omega
  refine ⟨?_, ?_⟩
  · show ((i % ac.toNat : Nat) : Int) < ac
    have := Nat.mod_lt i hp
    omega
  · show ((i / ac.toNat : Nat) : Int) < dn
    have : i / ac.toNat < dn.toNat := Nat.div_lt_of_lt_mul (by rw [← e]; exact h)
    omega
noncomputable def idx (ac : Int) (p : Spot) : Nat := p.2 * ac.toNat + p.1
theorem idx_spot (ac : Int) (i : Nat) : idx ac (spot ac i) = i := by
  show i / ac.toNat * ac.toNat + i % ac.toNat = i
  rw [Nat.mul_comm]; exact Nat.div_add_mod i ac.toNat
theorem spot_idx {p : Spot} (h : In ac dn p) : spot ac (idx ac p) = p := by
  obtain ⟨x, y⟩ := p
  have h1 : (x : Int) < ac := h.1
  have hx : x < ac.toNat := by omega
  have hp : 0 < ac.toNat := by omega
  show ((y * ac.toNat + x) % ac.toNat, (y * ac.toNat + x) / ac.toNat) = (x, y)
  rw [Nat.mul_comm, Nat.mul_add_mod, Nat.mod_eq_of_lt hx, Nat.mul_add_div hp, Nat.div_eq_of_lt hx]
  rfl
theorem idx_lt {p : Spot} (h : In ac dn p) (h1 : 1 ≤ ac) (h3 : 1 ≤ dn) : idx ac p < (ac * dn).toNat := by
  have e : (ac * dn).toNat = ac.toNat * dn.toNat := by
    have : ((ac.toNat * dn.toNat : Nat) : Int) = ac * dn := by
      rw [Int.natCast_mul, Int.toNat_of_nonneg (by omega), Int.toNat_of_nonneg (by omega)]
    omega
  obtain ⟨x, y⟩ := p
  have hx : x < ac.toNat := by have : (x : Int) < ac := h.1; omega
  have hy : y < dn.toNat := by have : (y : Int) < dn := h.2; omega
  rw [e]
  show y * ac.toNat + x < ac.toNat * dn.toNat
  calc y * ac.toNat + x < y * ac.toNat + ac.toNat := by omega
    _ = (y + 1) * ac.toNat := by rw [Nat.add_mul, Nat.one_mul]
    _ ≤ dn.toNat * ac.toNat := Nat.mul_le_mul_right _ hy
    _ = ac.toNat * dn.toNat := Nat.mul_comm _ _
theorem lost_fold (h : 1 ≤ ac) : ∀ (js : List Nat) (is : List Nat), (is ++ js).Nodup → (js.map fun j : Nat => ((j : Int), (1 : Int))).foldl (fun ks p => blkKeys ac p.1 ks p.2.toNat) (is.map fun i => key (spot ac i)) = (is ++ js).map fun i => key (spot ac i)
  | [], is, _ => by simp
  | j :: js, is, hn => by
    have hj : j ∉ is := fun hm => by
      rw [List.nodup_append] at hn
      exact hn.2.2 j hm j List.mem_cons_self rfl
    have e : blkKeys ac (j : Int) (is.map fun i => key (spot ac i)) (1 : Int).toNat = (is ++ [j]).map fun i => key (spot ac i) := by
      show addKey (is.map fun i => key (spot ac i)) [0, ((j : Int) + ((0 : Nat) : Int)).fmod ac, ((j : Int) + ((0 : Nat) : Int)).fdiv ac] = _
      rw [show (j : Int) + ((0 : Nat) : Int) = (j : Int) by omega, spot_key h]
      unfold addKey
      rw [if_neg, List.map_append]
      · rfl
      · intro hm
        obtain ⟨i, hi, e⟩ := List.mem_map.mp hm
        exact hj (spot_inj (key_inj e) ▸ hi)
    rw [List.map_cons, List.foldl_cons]
    show List.foldl _ (blkKeys ac (j : Int) (is.map fun i => key (spot ac i)) (1 : Int).toNat) _ = _
    rw [e, lost_fold h js (is ++ [j]) (by rw [List.append_assoc]; exact hn), List.append_assoc]
    rfl
theorem lost_single (h : 1 ≤ ac) {js : List Nat} (hn : js.Nodup) : lostKeys ac (js.map fun j : Nat => ((j : Int), (1 : Int))) = (js.map (spot ac)).map key := by
  have := lost_fold h js [] (by simpa using hn)
  unfold lostKeys
  simp only [List.map_nil, List.nil_append] at this
  rw [this, List.map_map]
  rfl
theorem lost_span (h : 1 ≤ ac) (n : Nat) : lostKeys ac [((1 : Int), (n : Int))] = ((List.range' 1 n).map (spot ac)).map key := by
  show blkKeys ac 1 [] (n : Int).toNat = _
  rw [Int.toNat_natCast]
  induction n with
  | zero => rfl
  | succ n ih =>
    show addKey (blkKeys ac 1 [] n) [0, ((1 : Int) + (n : Nat)).fmod ac, ((1 : Int) + (n : Nat)).fdiv ac] = _
    rw [show (1 : Int) + (n : Nat) = ((1 + n : Nat) : Int) by omega, spot_key h, ih]
    unfold addKey
    rw [if_neg, List.range'_concat, List.map_append, List.map_append]
    · simp
    · intro hm
      rw [List.map_map] at hm
      obtain ⟨i, hi, e⟩ := List.mem_map.mp hm
      have := spot_inj (key_inj e)
      rw [List.mem_range'] at hi
      obtain ⟨k, hk, rfl⟩ := hi
      omega
theorem spots_nodup {js : List Nat} (h : js.Nodup) : (js.map (spot ac)).Nodup := by
  induction js with
  | nil => exact .nil
  | cons a r ih =>
    rw [List.nodup_cons] at h
    rw [List.map_cons, List.nodup_cons]
    refine ⟨fun hm => ?_, ih h.2⟩
    obtain ⟨i, hi, e⟩ := List.mem_map.mp hm
    exact h.1 (spot_inj e ▸ hi)
theorem area_le (h1 : 1 ≤ ac) (h2 : ac ≤ 5) (h3 : 1 ≤ dn) (h4 : dn ≤ 4) : 1 ≤ ac * dn ∧ ac * dn ≤ 20 := by
  have a := Int.mul_le_mul h2 h4 (by omega) (by omega)
  have b := Int.mul_le_mul h1 h3 (by omega) (by omega)
  omega
theorem good_of (h1 : 1 ≤ ac) (h2 : ac ≤ 5) (h3 : 1 ≤ dn) (h4 : dn ≤ 4) {f : Spot → List Int} (hf : ∀ p, In ac dn p → ∃ d r, f p = d :: r ∧ -100 ≤ d ∧ d ≤ 100) {js : List Nat} (hn : js.Nodup) (hj : ∀ j ∈ js, j < (ac * dn).toNat) : Good ac dn (f, js.map (spot ac)) where
  inn := fun p hp => by
    obtain ⟨j, hm, rfl⟩ := List.mem_map.mp hp
    exact spot_in h1 h3 (hj j hm)
  nodup := spots_nodup hn
  len := by
    have := nodup_len (m := List.range (ac * dn).toNat) hn fun j hm => List.mem_range.mpr (hj j hm)
    rw [List.length_range] at this
    have := area_le h1 h2 h3 h4
    show (js.map (spot ac)).length < 64
    rw [List.length_map]
    omega
  rows := hf
end
theorem drop_range {N : Nat} (h : 1 ≤ N) : (List.range N).drop 1 = List.range' 1 (N - 1) := by
  obtain ⟨n, rfl⟩ := Nat.exists_eq_add_of_le h
  rw [List.range_eq_range', Nat.add_comm 1 n, List.range'_succ]
  rfl
end
section
/-- known, and not among those that change -/
noncomputable def Kr (g : Heap) (l : List (Addr × Obj)) (X : List Addr) (a : Addr) (o : Obj) : Prop := Kn g l a o ∧ a ∉ X
noncomputable def SrcP (l : List (Addr × Obj)) (S : Addr) : Prop := ∃ x y tx ty n, (S, listOf #[.int x tx, .int y ty] n) ∈ l
section
variable {w : World} {g h : Heap} {L S fr sc gr c r a' fd cl co cd sd pl dl al : Addr} {m : Str → Option Value} {l l' : List (Addr × Obj)} {X Y : List Addr} {rs : List Addr} {ac dn : Int} {P P' : Addr → Obj → Prop}
theorem Kr.ev {a : Addr} {o : Obj} (k : Kr g l X a o) (e : Ev l l' [c]) (hc : c ∈ X) : Kr g l' X a o := ⟨k.1.ev e (fun q => k.2 (List.mem_singleton.mp q ▸ hc)), k.2⟩
theorem Kr.evs {a : Addr} {o : Obj} (k : Kr g l X a o) (e : Ev l l' Y) (hc : ∀ c ∈ Y, c ∈ X) : Kr g l' X a o := ⟨k.1.ev e (fun q => k.2 (hc _ q)), k.2⟩
theorem Kr.sub {a : Addr} {o : Obj} (k : Kr g l X a o) (e : Ev l l' []) : Kr g l' X a o := ⟨k.1.sub e, k.2⟩
theorem Kn.neNew {a : Addr} {o oc : Obj} (N : News g L h ((c, oc) :: l)) (hlt : ∀ p ∈ l, p.1 < c) (k : Kn g l a o) : a ≠ c := by
  rintro rfl
  rcases k.1 with q | q
  · rw [(N _ (.head _)).2.2] at q; cases q
  · exact Nat.lt_irrefl _ (hlt _ q)
/-- one more that may change, made just now -/
theorem Kr.more {a : Addr} {o oc : Obj} (N : News g L h ((c, oc) :: l)) (hlt : ∀ p ∈ l, p.1 < c) (k : Kr g l X a o) : Kr g ((c, oc) :: l) (c :: X) a o :=
  ⟨k.1.sub (Ev.of fun p hp => .tail _ hp), fun q => (List.mem_cons.mp q).elim (k.1.neNew N hlt) k.2⟩
theorem SrcP.sub (x : SrcP l S) (e : Ev l l' []) : SrcP l' S := let ⟨a, b, c, d, n, k⟩ := x; ⟨a, b, c, d, n, e _ k List.not_mem_nil rfl⟩
theorem SrcP.ev (x : SrcP l S) (e : Ev l l' Y) (hn : S ∉ Y) : SrcP l' S := let ⟨a, b, c, d, n, k⟩ := x; ⟨a, b, c, d, n, e _ k hn rfl⟩
structure LB (w : World) (g : Heap) (S fr sc gr : Addr) (rs : List Addr) (ac dn : Int) (X : List Addr) (l : List (Addr × Obj)) : Prop where
  src : SrcP l S
  frm : FrmP w (Kr g l X) fr ac dn
  scn : ScanP w (Kr g l X) sc
  grd : GridT w (Kr g l X) gr rs
  own : ∀ r ∈ rs, Own l r
  hS : S ∈ X
  hX : ∀ r ∈ rs, r ∈ X
theorem LB.sub (x : LB w g S fr sc gr rs ac dn X l) (e : Ev l l' []) : LB w g S fr sc gr rs ac dn X l' :=
  ⟨x.src.sub e, x.frm.mono fun a o _ k => k.sub e, x.scn.mono fun a o _ k => k.sub e, x.grd.mono fun a o _ _ k => k.sub e, fun r hr => (x.own r hr).ev e, x.hS, x.hX⟩
theorem LB.ev (x : LB w g S fr sc gr rs ac dn X l) (e : Ev l l' Y) (hY : ∀ c ∈ Y, c ∈ X) (hs : SrcP l' S) (ho : ∀ x, Own l x → Own l' x) : LB w g S fr sc gr rs ac dn X l' :=
  ⟨hs, x.frm.mono fun a o _ k => k.evs e hY, x.scn.mono fun a o _ k => k.evs e hY, x.grd.mono fun a o _ _ k => k.evs e hY, fun r hr => ho _ (x.own r hr), x.hS, x.hX⟩
theorem LB.more {oc : Obj} (x : LB w g S fr sc gr rs ac dn X l) (N : News g L h ((c, oc) :: l)) (hlt : ∀ p ∈ l, p.1 < c) : LB w g S fr sc gr rs ac dn (c :: X) ((c, oc) :: l) :=
  ⟨x.src.sub (Ev.of fun p hp => .tail _ hp), x.frm.mono fun a o _ k => k.more N hlt, x.scn.mono fun a o _ k => k.more N hlt, x.grd.mono fun a o _ _ k => k.more N hlt, fun r hr => (x.own r hr).ev (Ev.of fun p hp => .tail _ hp), .tail _ x.hS, fun r hr => .tail _ (x.hX r hr)⟩
theorem RowsF.putP {f : Nat → Nat → Option (List Int)} {cs ws : List Value} {x y : Nat} {ns : List Int} (R : RowsF P rs ac dn f) (up : ∀ a o, o.cls = .type "list" → a ≠ r → P a o → P' a o) (uniq : ∀ o o', P r o → P r o' → o = o')
    (hr : rs[y]? = some r) (hc : ListP P r cs) (hc' : ListP P' r (cs.set x (.ref a'))) (ha : ListP P' a' ws) (hi : IntsAre ws ns) (han : a' ∉ rs) :
    RowsF P' rs ac dn (fun x' y' => if x' = x ∧ y' = y then some ns else f x' y') := by
  obtain ⟨nd, hl, k⟩ := R
  refine ⟨nd, hl, fun y' r' hr' => ?_⟩
  obtain ⟨cs', hcs', hlen, hcell⟩ := k y' r' hr'
  have rin : r ∈ rs := List.mem_of_getElem? hr
  have cellUp : ∀ {v : Value} {o : Option (List Int)}, CellP P rs v o → CellP P' rs v o := fun c => c.mono fun a o hn hc k => up a o hc (fun e => hn (e ▸ rin)) k
  by_cases hy : y' = y
  · subst hy
    obtain rfl : r' = r := by rw [hr] at hr'; exact (Option.some.inj hr').symm
    obtain rfl : cs' = cs := by
      obtain ⟨o1, n1, k1, _, d1, _⟩ := hcs'
      obtain ⟨o2, n2, k2, _, d2, _⟩ := hc
      rw [uniq _ _ k1 k2, d2] at d1
      have := congrArg (fun d => match d with | Data.seq x _ => x.toList | _ => []) d1
      simpa using this.symm
    refine ⟨_, hc', by rw [List.length_set]; exact hlen, fun x' v hv => ?_⟩
    by_cases hx : x' = x
    · subst hx
      dsimp only
      rw [if_pos ⟨rfl, rfl⟩]
      have hx' : x' < cs'.length := by
        rcases Nat.lt_or_ge x' cs'.length with q | q
        · exact q
        · rw [List.getElem?_eq_none (by rw [List.length_set]; exact q)] at hv; cases hv
      rw [List.getElem?_set_self hx'] at hv
      exact ⟨a', ws, (Option.some.inj hv).symm, ha, hi, han⟩
    · dsimp only
      rw [if_neg fun q => hx q.1]
      rw [List.getElem?_set_ne (Ne.symm hx)] at hv
      exact cellUp (hcell x' v hv)
  · have hrr : r' ≠ r := fun e => by
      subst e
      obtain ⟨h1, e1⟩ := List.getElem?_eq_some_iff.mp hr
      obtain ⟨h2, e2⟩ := List.getElem?_eq_some_iff.mp hr'
      exact hy ((List.getElem_inj nd).mp (e2.trans e1.symm))
    refine ⟨cs', hcs'.monoA fun o hcl k => up _ o hcl hrr k, hlen, fun x' v hv => ?_⟩
    dsimp only
    rw [if_neg fun q => hy q.2]
    exact cellUp (hcell x' v hv)
theorem frmP_mk {tf tc : Nat → Tok} {t1 t2 t3 t4 t5 u1 u2 u3 u4 : Tok} (p1 : P fr (instObj 177 fd)) (p2 : P fd (frameD w tf t1 t2 t3 t4 t5 ac dn cl)) (p3 : P cl (listOf #[.ref co] 0)) (p4 : P co (instObj 111 cd)) (p5 : P cd (compD w tc u1 u2 u3 u4)) : FrmP w P fr ac dn :=
  ⟨fd, cl, co, cd, tokL [tf 0, t1, tf 1, t2, tf 2, t3, tf 3, t4, tf 4, tf 5, t5, tc 0, u1, tc 1, u2, tc 2, u3, tc 3, u4], p1, p2, p3, p4, p5⟩
theorem scanP_mk {ts : Nat → Tok} {t1 t2 t3 t4 u : Tok} (p1 : P sc (instObj 245 sd)) (p2 : P sd (scanD w ts t1 t2 t3 t4 pl dl al)) (p3 : P pl (listOf #[.int 0 u] 0)) : ScanP w P sc :=
  ⟨sd, pl, dl, al, tokL [ts 0, ts 1, ts 2, ts 3, t1, ts 4, t2, ts 5, t3, ts 6, t4, u], p1, p2, p3⟩
end
theorem ne_obj {g h : Heap} {L a b : Addr} {l : List (Addr × Obj)} {o o' : Obj} (N : News g L h l) (h1 : (a, o) ∈ l) (h2 : (b, o') ∈ l) (e : o.data ≠ o'.data) : a ≠ b := fun q => e (by have := news_same N h1 h2 q; simp only at this; rw [this])
theorem notZ {g h : Heap} {L a S c1 c2 : Addr} {l : List (Addr × Obj)} {o oS cG cR : Obj} {v1 v2 : Option Value} (N : News g L h l) (hm : (a, o) ∈ l) (hS : (S, oS) ∈ l) (hG : (c2, cG) ∈ l) (hR : (c1, cR) ∈ l) (dG : cG.data = .cell v1) (dR : cR.data = .cell v2) (h1 : o.data ≠ oS.data) (h2 : NoCell o) : a ∉ [S, c2, c1] := by
  intro q
  simp only [List.mem_cons, List.not_mem_nil, or_false] at q
  rcases q with q | q | q
  · exact ne_obj N hm hS h1 q
  · exact ne_obj N hm hG (by rw [dG]; exact h2 _) q
  · exact ne_obj N hm hR (by rw [dR]; exact h2 _) q
theorem ledger_law {w : World} {g h : Heap} {L sc sd pl dl al fr fd cl co cd D S c1 c2 : Addr} {ts tf tc : Nat → Tok} {t1 t2 t3 t4 u u1 u2 u3 u4 u5 v1 v2 v3 v4 tx ty : Tok} {o1 o2 od cG cR : Obj} {ac dn x y : Int} {n : Nat} {vG vR : Option Value}
    (N : News g L h [(sc, instObj 245 sd), (sd, scanD w ts t1 t2 t3 t4 pl dl al), (al, o1), (dl, o2), (pl, listOf #[.int 0 u] 0), (fr, instObj 177 fd), (fd, frameD w tf u1 u2 u3 u4 u5 ac dn cl), (cl, listOf #[.ref co] 0), (co, instObj 111 cd), (cd, compD w tc v1 v2 v3 v4), (D, od), (S, listOf #[.int x tx, .int y ty] n), (c2, cG), (c1, cR)]) (dG : cG.data = .cell vG) (dR : cR.data = .cell vR) :
    ∃ l0, News g L h l0 ∧ FrmP w (fun a o => (a, o) ∈ l0 ∧ a ∉ [S, c2, c1]) fr ac dn ∧ ScanP w (fun a o => (a, o) ∈ l0 ∧ a ∉ [S, c2, c1]) sc ∧ SrcP l0 S ∧ (c2, cG) ∈ l0 ∧ (c1, cR) ∈ l0 := by
  refine ⟨_, N, frmP_mk (fd := fd) (cl := cl) (co := co) (cd := cd) (tf := tf) (tc := tc) (t1 := u1) (t2 := u2) (t3 := u3) (t4 := u4) (t5 := u5) (u1 := v1) (u2 := v2) (u3 := v3) (u4 := v4) ⟨by k_mem, ?_⟩ ⟨by k_mem, ?_⟩ ⟨by k_mem, ?_⟩ ⟨by k_mem, ?_⟩ ⟨by k_mem, ?_⟩, scanP_mk (sd := sd) (ts := ts) (t1 := t1) (t2 := t2) (t3 := t3) (t4 := t4) (pl := pl) (dl := dl) (al := al) (u := u) ⟨by k_mem, ?_⟩ ⟨by k_mem, ?_⟩ ⟨by k_mem, ?_⟩, ⟨x, y, tx, ty, n, by k_mem⟩, by k_mem, by k_mem⟩
  · exact notZ N (o := instObj 177 fd) (oS := listOf #[.int x tx, .int y ty] n) (by k_mem) (by k_mem) (cG := cG) (by k_mem) (cR := cR) (by k_mem) dG dR (by intro q; cases q) (by intro v q; cases q)
  · exact notZ N (o := frameD w tf u1 u2 u3 u4 u5 ac dn cl) (oS := listOf #[.int x tx, .int y ty] n) (by k_mem) (by k_mem) (cG := cG) (by k_mem) (cR := cR) (by k_mem) dG dR (by intro q; cases q) (by intro v q; cases q)
  · exact notZ N (o := listOf #[.ref co] 0) (oS := listOf #[.int x tx, .int y ty] n) (by k_mem) (by k_mem) (cG := cG) (by k_mem) (cR := cR) (by k_mem) dG dR (by intro q; cases q) (by intro v q; cases q)
  · exact notZ N (o := instObj 111 cd) (oS := listOf #[.int x tx, .int y ty] n) (by k_mem) (by k_mem) (cG := cG) (by k_mem) (cR := cR) (by k_mem) dG dR (by intro q; cases q) (by intro v q; cases q)
  · exact notZ N (o := compD w tc v1 v2 v3 v4) (oS := listOf #[.int x tx, .int y ty] n) (by k_mem) (by k_mem) (cG := cG) (by k_mem) (cR := cR) (by k_mem) dG dR (by intro q; cases q) (by intro v q; cases q)
  · exact notZ N (o := instObj 245 sd) (oS := listOf #[.int x tx, .int y ty] n) (by k_mem) (by k_mem) (cG := cG) (by k_mem) (cR := cR) (by k_mem) dG dR (by intro q; cases q) (by intro v q; cases q)
  · exact notZ N (o := scanD w ts t1 t2 t3 t4 pl dl al) (oS := listOf #[.int x tx, .int y ty] n) (by k_mem) (by k_mem) (cG := cG) (by k_mem) (cR := cR) (by k_mem) dG dR (by intro q; cases q) (by intro v q; cases q)
  · exact notZ N (o := listOf #[.int 0 u] 0) (oS := listOf #[.int x tx, .int y ty] n) (by k_mem) (by k_mem) (cG := cG) (by k_mem) (cR := cR) (by k_mem) dG dR (by intro q; cases q) (by intro v q; cases q)
/-- the facts once the grid is made -/
theorem base_law {w : World} {g h h' : Heap} {L fr sc gr S : Addr} {l0 ln : List (Addr × Obj)} {rs Z : List Addr} {ac dn : Int} {f : Nat → Nat → Option (List Int)} (N0 : News g L h l0) (N : News g L h' (ln ++ l0)) (hF : FrmP w (fun a o => (a, o) ∈ l0 ∧ a ∉ Z) fr ac dn) (hSc : ScanP w (fun a o => (a, o) ∈ l0 ∧ a ∉ Z) sc) (hS : SrcP l0 S) (hZ : ∀ z ∈ Z, ∃ o, (z, o) ∈ l0) (hSZ : S ∈ Z)
    (hG : GridT w (fun a o => (a, o) ∈ ln) gr rs) (hR : RowsF (InL ln) rs ac dn f) (hnew : ∀ p ∈ ln, h.get? p.1 = none) : LB w g S fr sc gr rs ac dn (Z ++ rs) (ln ++ l0) ∧ (∀ z ∈ Z, z ∉ rs) ∧ RowsF (Kr g (ln ++ l0) Z) rs ac dn f := by
  have hrs : ∀ r ∈ rs, ∃ o, (r, o) ∈ ln ∧ It o = false ∧ o.cls = .type "list" := fun r hr => by
    obtain ⟨y, hy, rfl⟩ := List.mem_iff_getElem.mp hr
    obtain ⟨cs, ⟨o, n, k, c, _⟩, _⟩ := hR.2.2 y rs[y] (List.getElem?_eq_getElem hy)
    exact ⟨o, k.1, k.2, c⟩
  have apart : ∀ p ∈ ln, ∀ q ∈ l0, p.1 ≠ q.1 := fun p hp q hq e => by
    have := hnew p hp
    rw [e, (N0 q hq).1] at this
    cases this
  have hZr : ∀ z ∈ Z, z ∉ rs := fun z hz hm => by
    obtain ⟨o, ho, _⟩ := hrs z hm
    obtain ⟨o', ho'⟩ := hZ z hz
    exact apart _ ho _ ho' rfl
  have oldX : ∀ a o, (a, o) ∈ l0 ∧ a ∉ Z → It o = false → Kr g (ln ++ l0) (Z ++ rs) a o := fun a o k i => ⟨.in (List.mem_append_right _ k.1) i, fun q => by
    rcases List.mem_append.mp q with q | q
    · exact k.2 q
    · obtain ⟨o', ho', _⟩ := hrs a q
      exact apart _ ho' _ k.1 rfl⟩
  have newZ : ∀ a o, (a, o) ∈ ln → a ∉ Z := fun a o k z => by
    obtain ⟨o', ho'⟩ := hZ a z
    exact apart _ k _ ho' rfl
  refine ⟨⟨hS.sub (Ev.of fun p hp => List.mem_append_right _ hp), hF.mono fun a o i k => oldX a o k i, hSc.mono fun a o i k => oldX a o k i, hG.mono fun a o q i k => ⟨.in (List.mem_append_left _ k) i, fun z => ?_⟩, fun r hr => let ⟨o, ho, i, _⟩ := hrs r hr; .in (List.mem_append_left _ ho) i, List.mem_append_left _ hSZ, fun r hr => List.mem_append_right _ hr⟩, hZr, hR.mono fun a o _ k => ⟨.in (List.mem_append_left _ k.1) k.2, newZ a o k.1⟩⟩
  rcases List.mem_append.mp z with z | z
  · exact newZ a o k z
  · rcases q with q | q
    · exact q z
    · obtain ⟨o', ho', _, hc⟩ := hrs a z
      have := news_same N (List.mem_append_left _ k) (List.mem_append_left _ ho') rfl
      simp only at this
      rw [this] at q
      exact q hc
section
variable {w : World} {A₀ : Around} {s : Shared} {base h₀ : Heap} {outer : List Env} {L S : Addr} {m mg mb : Str → Option Value} {mean : ExcName → Option Value} {env : Env} {l : List (Addr × Obj)} {Q E : Value → Shared → Prop}
theorem take_op (B : Below A₀ base outer h₀) (F : Fr h₀ L s.heap m) (X : (hd.heap_1 w.params).In h₀) (T : Top pp (looseW pp []) mean mg mb h₀) (N : News h₀ L s.heap l) (hf : env.frame = some L) (hk : env.scope.kind = .function) (hh : A₀.handled = none)
    (hd : A₀.depth + 2 < recursionLimit) {top : Int} {t1 : Tok} (hm : 0 < top) (hm2 : top < 1000) (hS : SrcP l S)
    (hQ : ∀ h' tk d t l', Fr h₀ L h' m → News h₀ L h' l' → SrcP l' S → Ev l l' [S] → KeepIt l l' → (∀ x, Own l x → Own l' x) → 0 ≤ d → d < top → Q (.int d t) {s with heap := h', toks := tk}) :
    wpAny (model prg w) (A₀.deeper env) (call (.ref 263) [.ref S, .int top t1]) Q E s := by
  obtain ⟨x, y, tx, ty, n, hS⟩ := hS
  refine take_at B F X T N hf hk hh hd hm hm2 hS fun h' tk d t x' y' tx' ty' l' F' N' hS' hl' _ d0 d1 => ?_
  have ev : Ev l l' [S] := fun p hp hn _ => hl' p hp fun e => hn (List.mem_singleton.mpr e)
  refine hQ h' tk d t l' F' N' ⟨_, _, _, _, _, hS'⟩ ev (fun p hp i => hl' p hp fun e => ?_) (fun x hx => ?_) d0 d1
  · rw [news_same N hp hS e] at i
    cases i
  · refine hx.evOff ev fun y hy => ?_
    rw [List.mem_singleton.mp hy]
    exact .in hS' rfl
end
/-- the names of the law -/
structure LM (S fr sc gr : Addr) (ac dn : Int) (sm : Bool) (m : Str → Option Value) : Prop where
  m1 : m (Str.ofString "source") = some (.ref S)
  m2 : ∃ t, m (Str.ofString "across") = some (.int ac t)
  m3 : ∃ t, m (Str.ofString "down") = some (.int dn t)
  m4 : m (Str.ofString "frame") = some (.ref fr)
  m5 : m (Str.ofString "scan") = some (.ref sc)
  m6 : m (Str.ofString "grid") = some (.ref gr)
  m7 : m (Str.ofString "same") = some (.bool sm)
/-- what is known of the rows -/
structure LR (w : World) (g : Heap) (rs X Y : List Addr) (Rd : Addr) (ac dn : Int) (sm : Bool) (f : Spot → List Int) (i : Nat) (l : List (Addr × Obj)) : Prop where
  own : Own l Rd
  dct : ∃ xs, DictP prg w (Kn g l) Rd xs ∧ xs.map (·.1) = (List.range i).map (fun j => key2 (spot ac j)) ∧ ∀ x ∈ xs, ∀ p, x.1 = key2 p → ∃ b vs, x.2.2 = .ref b ∧ ListP (Kr g l X) b vs ∧ IntsAre vs (f p)
  rows : RowsF (Kr g l Y) rs ac dn (fun x y => if idx ac (x, y) < i then some (f (x, y)) else none)
  vals : ∀ j, j < i → ∃ d e, f (spot ac j) = [d, e, 0, -1] ∧ -100 ≤ d ∧ d ≤ 100 ∧ (sm = true → d = 5)
section
variable {w : World} {g h : Heap} {L Rd c d : Addr} {m : Str → Option Value} {l l' : List (Addr × Obj)} {X Y rs Z : List Addr} {ac dn : Int} {sm : Bool} {f : Spot → List Int} {i : Nat} {od : Obj}
theorem LR.sub (x : LR w g rs X Y Rd ac dn sm f i l) (e : Ev l l' []) : LR w g rs X Y Rd ac dn sm f i l' :=
  ⟨x.own.ev e, x.dct.imp fun xs k => ⟨k.1.mono fun a o _ k => k.sub e, k.2.1, fun y hy p hp => (k.2.2 y hy p hp).imp fun b h => h.imp fun vs h => ⟨h.1, h.2.1.mono fun a o _ k => k.sub e, h.2.2⟩⟩, x.rows.mono fun a o _ k => k.sub e, x.vals⟩
/-- a change of a list that is not of the rows, or of a cell -/
theorem LR.ev (x : LR w g rs X Y Rd ac dn sm f i l) (F : Fr g L h m) (N : News g L h l) (e : Ev l l' [d]) (hX : d ∈ X) (hY : d ∈ Y) (kd : (d, od) ∈ l) (hi : It od = false) (hc : od.cls = .type "list" ∨ ∃ v, od.data = .cell v) (ho : ∀ x, Own l x → Own l' x) : LR w g rs X Y Rd ac dn sm f i l' := by
  obtain ⟨own, ⟨xs, k1, k2, k3⟩, rows, vals⟩ := x
  refine ⟨ho _ own, ⟨xs, ?_, k2, fun y hy p hp => (k3 y hy p hp).imp fun b h => h.imp fun vs h => ⟨h.1, h.2.1.mono fun a o _ k => k.ev e hX, h.2.2⟩⟩, rows.mono fun a o _ k => k.ev e hY, vals⟩
  rcases hc with hc | ⟨v, hc⟩
  · exact k1.evH F N e (.in kd hi) hc
  · exact k1.monoN fun a o _ hn k => k.evN F N e kd hc hn
theorem LR.more {oc : Obj} (x : LR w g rs X Y Rd ac dn sm f i l) (N : News g L h ((c, oc) :: l)) (hlt : ∀ p ∈ l, p.1 < c) : LR w g rs (c :: X) (c :: Y) Rd ac dn sm f i ((c, oc) :: l) :=
  ⟨x.own.ev (Ev.of fun p hp => .tail _ hp), x.dct.imp fun xs k => ⟨k.1.mono fun a o _ k => k.sub (Ev.of fun p hp => .tail _ hp), k.2.1, fun y hy p hp => (k.2.2 y hy p hp).imp fun b h => h.imp fun vs h => ⟨h.1, h.2.1.mono fun a o _ k => k.more N hlt, h.2.2⟩⟩, x.rows.mono fun a o _ k => k.more N hlt, x.vals⟩
end
theorem inst_kn {g h : Heap} {L x dx C : Addr} {m : Str → Option Value} {l : List (Addr × Obj)} {od : Obj} (F : Fr g L h m) (N : News g L h l) (h1 : Kn g l x (instObj C dx)) (h2 : Kn g l dx od) : InstAt h x (instObj C dx) C (some od) := ⟨h1.get F N, rfl, rfl, h2.get F N⟩
theorem RowsF.congr {P : Addr → Obj → Prop} {rs : List Addr} {ac dn : Int} {f f' : Nat → Nat → Option (List Int)} (R : RowsF P rs ac dn f) (h : ∀ x y, In ac dn (x, y) → f x y = f' x y) : RowsF P rs ac dn f' := by
  obtain ⟨nd, hl, k⟩ := R
  refine ⟨nd, hl, fun y r hr => ?_⟩
  obtain ⟨cs, hc, hlen, hcell⟩ := k y r hr
  refine ⟨cs, hc, hlen, fun x v hv => ?_⟩
  have hy : y < rs.length := (List.getElem?_eq_some_iff.mp hr).1
  have hx : x < cs.length := (List.getElem?_eq_some_iff.mp hv).1
  rw [← h x y ⟨by show (x : Int) < ac; omega, by show (y : Int) < dn; omega⟩]
  exact hcell x v hv
/-- one more row -/
noncomputable def putF (ac : Int) (i : Nat) (ns : List Int) (f : Spot → List Int) : Spot → List Int := fun p => if p = spot ac i then ns else f p
section
variable {w : World} {g h h9 : Heap} {L Rd r b T a' S fr sc gr : Addr} {m m9 : Str → Option Value} {l l9 l3 : List (Addr × Obj)} {X Y rs : List Addr} {ac dn : Int} {sm : Bool} {f : Spot → List Int} {i : Nat} {d e : Int} {cs ws : List Value} {xs : List (List Int × Addr × Value)}
/-- the rows once a new row is in the dict and in the grid -/
theorem LR.next (own : Own l9 Rd) (k2 : xs.map (·.1) = (List.range i).map (fun j => key2 (spot ac j))) (k3 : ∀ x ∈ xs, ∀ p, x.1 = key2 p → ∃ b vs, x.2.2 = .ref b ∧ ListP (Kr g l9 X) b vs ∧ IntsAre vs (f p)) (x9 : DictP prg w (Kn g l9) Rd (xs ++ [(key2 (spot ac i), T, .ref b)])) (hb : ListP (Kr g l9 X) b ws) (hw : IntsAre ws [d, e, 0, -1])
    (rows : RowsF (Kr g l9 Y) rs ac dn (fun x y => if idx ac (x, y) < i then some (f (x, y)) else none)) (vals : ∀ j, j < i → ∃ d e, f (spot ac j) = [d, e, 0, -1] ∧ -100 ≤ d ∧ d ≤ 100 ∧ (sm = true → d = 5))
    (F9 : Fr g L h9 m9) (N9 : News g L h9 l9) (hr : rs[(spot ac i).2]? = some r) (hcs : ListP (Kr g l9 Y) r cs) (ev : Ev l9 l3 [r]) (ow : ∀ x, Own l9 x → Own l3 x) (hrX : r ∈ X) (x3 : ListP (Kn g l3) r (cs.set (spot ac i).1 (.ref a'))) (y3 : ListP (Kn g l3) a' ws) (hrY : r ∉ Y) (haY : a' ∉ Y) (har : a' ∉ rs)
    (d0 : -100 ≤ d) (d1 : d ≤ 100) (d5 : sm = true → d = 5) : LR w g rs X Y Rd ac dn sm (putF ac i [d, e, 0, -1] f) (i + 1) l3 := by
  have hf : ∀ j, j < i → putF ac i [d, e, 0, -1] f (spot ac j) = f (spot ac j) := fun j hj => if_neg fun q => by have := spot_inj q; omega
  refine ⟨ow _ own, ⟨xs ++ [(key2 (spot ac i), T, .ref b)], ?_, ?_, fun y hy p hp => ?_⟩, ?_, fun j hj => ?_⟩
  · obtain ⟨o, n, k, c, _⟩ := hcs
    exact x9.evH F9 N9 ev k.1 c
  · rw [List.map_append, k2, List.range_succ, List.map_append]; rfl
  · rcases List.mem_append.mp hy with hy | hy
    · obtain ⟨b', vs, e1, e2, e3⟩ := k3 y hy p hp
      refine ⟨b', vs, e1, e2.mono fun a o _ k => k.ev ev hrX, ?_⟩
      have hm : y.1 ∈ xs.map (·.1) := List.mem_map_of_mem hy
      rw [k2] at hm
      obtain ⟨j, hj, ej⟩ := List.mem_map.mp hm
      have : p = spot ac j := key2_inj (hp.symm.trans ej.symm)
      rw [this, hf j (List.mem_range.mp hj), ← this]
      exact e3
    · rw [List.mem_singleton.mp hy] at hp ⊢
      have : p = spot ac i := (key2_inj hp).symm
      refine ⟨b, ws, rfl, hb.mono fun a o _ k => k.ev ev hrX, ?_⟩
      rw [this]
      show IntsAre ws (if _ then _ else _)
      rw [if_pos rfl]
      exact hw
  · refine (RowsF.putP rows (P' := Kr g l3 Y) (r := r) (ns := [d, e, 0, -1]) (x := (spot ac i).1) (y := (spot ac i).2) (ws := ws) (a' := a') (fun a o _ hn k => ⟨k.1.ev ev fun q => hn (List.mem_singleton.mp q), k.2⟩) (fun o o' k k' => by have q := k.1.get F9 N9; rw [k'.1.get F9 N9] at q; exact (Option.some.inj q).symm) hr hcs (x3.monoA fun o _ k => ⟨k, hrY⟩) (y3.monoA fun o _ k => ⟨k, haY⟩) hw har).congr fun x y hin => ?_
    by_cases e1 : (x, y) = spot ac i
    · have e2 : x = (spot ac i).1 ∧ y = (spot ac i).2 := ⟨congrArg Prod.fst e1, congrArg Prod.snd e1⟩
      rw [if_pos e2, if_pos (by rw [e1, idx_spot]; omega)]
      show _ = some (if _ then _ else _)
      rw [if_pos e1]
    · rw [if_neg fun q => e1 (Prod.ext q.1 q.2)]
      have hne : idx ac (x, y) ≠ i := fun q => e1 (by rw [← q, spot_idx hin])
      by_cases hlt : idx ac (x, y) < i
      · rw [if_pos hlt, if_pos (by omega)]
        show _ = some (if _ then _ else _)
        rw [if_neg e1]
      · rw [if_neg hlt, if_neg (by omega)]
  · by_cases e1 : j = i
    · subst e1
      exact ⟨d, e, if_pos rfl, d0, d1, d5⟩
    · rw [hf j (by omega)]
      exact vals j (by omega)
end
theorem TupL.up {w : World} {P P' : Addr → Obj → Prop} {D : Addr} {ks : List (List Int)} (x : TupL w P D ks) (h1 : ∀ o, o.cls = .type "list" → P D o → P' D o) (h2 : ∀ a o, o.cls = .type "tuple" → P a o → P' a o) : TupL w P' D ks := by
  obtain ⟨es, ⟨o, n, k, c, r⟩, hT, hk⟩ := x
  exact ⟨es, ⟨o, n, h1 o c k, c, r⟩, fun e he => (hT e he).monoC h2, hk⟩
/-- the lists of the lost and of the gone -/
structure LG (w : World) (g : Heap) (Lo Go : Addr) (ac : Int) (js : List Nat) (l : List (Addr × Obj)) : Prop where
  oL : Own l Lo
  oG : Own l Go
  lo : TupL w (Kn g l) Lo (js.map fun j : Nat => [(j : Int), 1])
  go : TupL w (Kn g l) Go (js.map fun j => key2 (spot ac j))
section
variable {w : World} {g h : Heap} {L Lo Go d T : Addr} {m : Str → Option Value} {l l' : List (Addr × Obj)} {ac : Int} {js : List Nat} {od : Obj}
theorem LG.sub (x : LG w g Lo Go ac js l) (e : Ev l l' []) : LG w g Lo Go ac js l' :=
  ⟨x.oL.ev e, x.oG.ev e, x.lo.mono fun a o _ k => k.sub e, x.go.mono fun a o _ k => k.sub e⟩
theorem LG.ev (x : LG w g Lo Go ac js l) (F : Fr g L h m) (N : News g L h l) (e : Ev l l' [d]) (h1 : Lo ≠ d) (h2 : Go ≠ d) (kd : (d, od) ∈ l) (hi : It od = false) (hc : od.cls ≠ .type "tuple") (ho : ∀ x, Own l x → Own l' x) : LG w g Lo Go ac js l' :=
  ⟨ho _ x.oL, ho _ x.oG, x.lo.up (fun o _ k => k.ev e fun q => h1 (List.mem_singleton.mp q)) (fun a o h k => k.evCH F N e (.in kd hi) (by rw [h]; exact hc.symm)), x.go.up (fun o _ k => k.ev e fun q => h2 (List.mem_singleton.mp q)) (fun a o h k => k.evCH F N e (.in kd hi) (by rw [h]; exact hc.symm))⟩
theorem TupL.push {D : Addr} {ks : List (List Int)} {k : List Int} {es : List (List Int × Addr)} (hD : ListP (Kn g l) D (es.map fun e => Value.ref e.2)) (hT : ∀ e ∈ es, TupP prg w (Kn g l) e.1 e.2) (hk : es.map (·.1) = ks) (F : Fr g L h m) (N : News g L h l) (t : TupP prg w (Kn g l) k T) (e : Ev l l' [D]) (x : ListP (Kn g l') D ((es.map fun e => Value.ref e.2) ++ [.ref T])) : TupL w (Kn g l') D (ks ++ [k]) := by
  obtain ⟨o, n, kD, c, r⟩ := id hD
  have up : ∀ {k' : List Int} {a : Addr}, TupP prg w (Kn g l) k' a → TupP prg w (Kn g l') k' a := fun t => t.monoC fun a o h k => k.evCH F N e kD (by rw [h, c]; intro q; injection q with q; exact absurd q (by decide))
  refine ⟨es ++ [(k, T)], by rw [List.map_append]; exact x, fun y hy => ?_, by rw [List.map_append, hk]; rfl⟩
  rcases List.mem_append.mp hy with hy | hy
  · exact up (hT y hy)
  · rw [List.mem_singleton.mp hy]; exact up t
end
theorem allLt_all {d : Addr} : ∀ {l : List (Addr × Obj)}, PySem.W.AllLt d l → ∀ p ∈ l, p.1 < d
  | [], _, _, h => nomatch h
  | _ :: _, ⟨a, b⟩, p, h => by
    rcases List.mem_cons.mp h with rfl | h
    · exact a
    · exact allLt_all b p h
theorem LG.cell {w : World} {g h : Heap} {L Lo Go d : Addr} {m : Str → Option Value} {l l' : List (Addr × Obj)} {ac : Int} {js : List Nat} {od : Obj} {v : Option Value} (x : LG w g Lo Go ac js l) (F : Fr g L h m) (N : News g L h l) (e : Ev l l' [d]) (kd : (d, od) ∈ l) (hd : od.data = .cell v) (ho : ∀ x, Own l x → Own l' x) : LG w g Lo Go ac js l' :=
  ⟨ho _ x.oL, ho _ x.oG, x.lo.monoN fun a o _ hn k => k.evN F N e kd hd hn, x.go.monoN fun a o _ hn k => k.evN F N e kd hd hn⟩
theorem one_news {g h : Heap} {L : Addr} {q0 : Addr × Obj} {l : List (Addr × Obj)} (N : News g L h (q0 :: l)) : ∃ lN, News g L h lN ∧ q0 ∈ lN ∧ ∀ p ∈ l, p ∈ lN := ⟨_, N, .head _, fun p hp => .tail _ hp⟩
/-- a fact that the walker leaves alone -/
structure Hold (p : Prop) : Prop where
  h : p
/-- what stands once the lost and the gone are made up -/
structure LI (w : World) (g : Heap) (L S fr sc gr : Addr) (rs : List Addr) (ac dn : Int) (X Y : List Addr) (Rd : Addr) (sm : Bool) (f : Spot → List Int) (m : Str → Option Value) (l : List (Addr × Obj)) : Prop where
  lm : LM S fr sc gr ac dn sm m
  cR : ∃ o, (L + 1, o) ∈ l ∧ o.data = .cell (some (.ref Rd))
  lb : LB w g S fr sc gr rs ac dn X l
  lr : LR w g rs X Y Rd ac dn sm f (ac * dn).toNat l
  ex : ∃ Lx Gx, ∃ js : List Nat, ∃ ps : List (Int × Int), m (Str.ofString "lost") = some (.ref Lx) ∧ (∃ o, (L + 1 + 1, o) ∈ l ∧ o.data = .cell (some (.ref Gx))) ∧ js.Nodup ∧ (∀ j ∈ js, j < (ac * dn).toNat) ∧ TupL w (fun a o => Kn g l a o ∧ a ∉ rs) Lx (ps.map fun p => [p.1, p.2]) ∧ (∀ p ∈ ps, 0 ≤ p.1 ∧ p.1 ≤ 100 ∧ 0 ≤ p.2 ∧ p.2 ≤ 100) ∧ ps.length ≤ 100 ∧ lostKeys ac ps = (js.map (spot ac)).map key ∧ TupL w (fun a o => Kn g l a o ∧ a ∉ rs) Gx (js.map fun j => key2 (spot ac j))
/-- a list of tuples that is not a row: none of its objects is one -/
theorem TupL.offRows {w : World} {g h : Heap} {L D : Addr} {l : List (Addr × Obj)} {rs : List Addr} {ac dn : Int} {f : Nat → Nat → Option (List Int)} {P : Addr → Obj → Prop} {ks : List (List Int)} {m : Str → Option Value} (x : TupL w (Kn g l) D ks) (F : Fr g L h m) (N : News g L h l) (R : RowsF P rs ac dn f) (hP : ∀ a o, P a o → Kn g l a o) (hD : D ∉ rs) : TupL w (fun a o => Kn g l a o ∧ a ∉ rs) D ks :=
  x.up (fun o _ k => ⟨k, hD⟩) fun a o hc k => ⟨k, fun hm => by
    obtain ⟨y, hy, rfl⟩ := List.mem_iff_getElem.mp hm
    obtain ⟨cs, ⟨o', n, k', c, _⟩, _⟩ := R.2.2 y rs[y] (List.getElem?_eq_getElem hy)
    have q := (hP _ _ k').get F N
    rw [k.get F N] at q
    rw [Option.some.inj q, c] at hc
    injection hc with hc
    exact absurd hc (by decide)⟩
/-- a dict that is not a row stands when the rows change -/
theorem DictP.overRows {w : World} {g h : Heap} {L D : Addr} {l l' : List (Addr × Obj)} {rs : List Addr} {ac dn : Int} {f : Nat → Nat → Option (List Int)} {P : Addr → Obj → Prop} {xs : List (List Int × Addr × Value)} {m : Str → Option Value} (x : DictP prg w (Kn g l) D xs) (F : Fr g L h m) (N : News g L h l) (R : RowsF P rs ac dn f) (hP : ∀ a o, P a o → Kn g l a o) (hD : D ∉ rs) (e : Ev l l' rs) : DictP prg w (Kn g l') D xs := by
  obtain ⟨o, es, ep, k, a, b, c, t, n⟩ := x
  refine ⟨o, es, ep, k.ev e hD, a, b, c, fun y hy => (t y hy).monoC fun a o hc k => k.ev e fun hm => ?_, n⟩
  obtain ⟨y, hy, rfl⟩ := List.mem_iff_getElem.mp hm
  obtain ⟨cs, ⟨o', n, k', c, _⟩, _⟩ := R.2.2 y rs[y] (List.getElem?_eq_getElem hy)
  have q := (hP _ _ k').get F N
  rw [k.get F N] at q
  rw [Option.some.inj q, c] at hc
  injection hc with hc
  exact absurd hc (by decide)
end
section
theorem Known.none {ac dn : Int} {S : Rws} {xs : List (List Int × Addr × Value)} (h : Known ac dn S xs) {p : Spot} (hp : p ∈ S.2) : atKey xs (key2 p) = none := by
  refine atKey_none fun hm => ?_
  obtain ⟨x, hx, e⟩ := List.mem_map.mp hm
  obtain ⟨q, _, e', hv⟩ := h.1 x hx
  obtain rfl := key2_inj (e'.symm.trans e)
  rcases hv with ⟨n, hn, _⟩ | ⟨hn, _⟩
  · cases hn
  · exact hn hp
/-- the pairs of the known blocks, as a dict -/
theorem known_start {ac dn : Int} {f : Spot → List Int} {js : List Nat} (h1 : 1 ≤ ac) (h3 : 1 ≤ dn) {ts : List (Addr × List Int × Addr × Value)}
    (t3 : ts.map (·.2.1) = (((List.range (ac * dn).toNat).map (spot ac)).filter fun p => decide (p ∉ js.map (spot ac))).map key2)
    (t4 : ∀ t ∈ ts, ∀ p, t.2.1 = key2 p → ∃ tk, t.2.2.2 = .int (hdv f p) tk) : Known ac dn (f, js.map (spot ac)) (ts.map (·.2)) := by
  refine ⟨fun x hx => ?_, fun p hp hg => ?_⟩
  · obtain ⟨t, ht, rfl⟩ := List.mem_map.mp hx
    have hm : t.2.1 ∈ ts.map (·.2.1) := List.mem_map_of_mem ht
    rw [t3] at hm
    obtain ⟨p, hp, e⟩ := List.mem_map.mp hm
    obtain ⟨hp1, hp2⟩ := List.mem_filter.mp hp
    obtain ⟨j, hj, rfl⟩ := List.mem_map.mp hp1
    refine ⟨spot ac j, spot_in h1 h3 (List.mem_range.mp hj), e.symm, .inr ⟨of_decide_eq_true hp2, t4 t ht _ e.symm⟩⟩
  · have hg' : p ∉ js.map (spot ac) := by
      rcases hg with hg | hg
      · exact hg
      · simp at hg
    have hm : key2 p ∈ ts.map (·.2.1) := by
      rw [t3]
      refine List.mem_map_of_mem (List.mem_filter.mpr ⟨List.mem_map.mpr ⟨idx ac p, List.mem_range.mpr (idx_lt hp h1 h3), spot_idx hp⟩, decide_eq_true hg'⟩)
    rw [List.map_map]
    exact hm
theorem keys_nodup {ac : Int} {js : List Nat} {n : Nat} : ((((List.range n).map (spot ac)).filter fun p => decide (p ∉ js.map (spot ac))).map key2).Nodup := by
  have h : (((List.range n).map (spot ac)).filter fun p => decide (p ∉ js.map (spot ac))).Nodup := List.filter_sublist.nodup (spots_nodup List.nodup_range)
  exact List.Pairwise.map key2 (fun a b h e => h (key2_inj e)) h
/-- what the last loop knows -/
structure LZ (w : World) (g : Heap) (L gr : Addr) (rs : List Addr) (Rd Gx : Addr) (oR : Obj) (ac dn : Int) (js : List Nat) (f FF : Spot → List Int) (xs : List (List Int × Addr × Value)) (l : List (Addr × Obj)) : Prop where
  cR : ∃ o, (L + 1, o) ∈ l ∧ o.data = .cell (some (.ref Rd))
  cG : ∃ o, (L + 1 + 1, o) ∈ l ∧ o.data = .cell (some (.ref Gx))
  grd : GridT w (Kn g l) gr rs
  rws : RowsF (Kn g l) rs ac dn (fun x y => some (FF (x, y)))
  kR : Kn g l Rd oR
  dR : DictP prg w (Kn g l) Rd xs
  vR : ∀ x ∈ xs, ∀ p, x.1 = key2 p → ∃ b vs, x.2.2 = .ref b ∧ ListP (Kn g l) b vs ∧ IntsAre vs (f p)
  gon : TupL w (Kn g l) Gx (js.map fun j => key2 (spot ac j))
section
variable {w : World} {g : Heap} {L gr : Addr} {rs : List Addr} {Rd Gx : Addr} {oR : Obj} {ac dn : Int} {js : List Nat} {f FF : Spot → List Int} {xs : List (List Int × Addr × Value)} {l l' : List (Addr × Obj)}
theorem LZ.sub (x : LZ w g L gr rs Rd Gx oR ac dn js f FF xs l) (e : Ev l l' []) : LZ w g L gr rs Rd Gx oR ac dn js f FF xs l' where
  cR := let ⟨o, h, d⟩ := x.cR; ⟨o, e _ h List.not_mem_nil (it_cell d), d⟩
  cG := let ⟨o, h, d⟩ := x.cG; ⟨o, e _ h List.not_mem_nil (it_cell d), d⟩
  grd := x.grd.mono fun a o _ _ k => k.sub e
  rws := x.rws.mono fun a o _ k => k.sub e
  kR := x.kR.sub e
  dR := x.dR.mono fun a o _ k => k.sub e
  vR := fun y hy p hp => (x.vR y hy p hp).imp fun b h => h.imp fun vs h => ⟨h.1, h.2.1.mono fun a o _ k => k.sub e, h.2.2⟩
  gon := x.gon.mono fun a o _ k => k.sub e
end
section
variable {prog : Program} {w : World} {A : Around} {E : Value → Shared → Prop} {s : Shared} {g : Heap} {L a : Addr} {m : Str → Option Value} {l : List (Addr × Obj)} {vs : List Value}
theorem tsub {v : Value} {k : Int} {t : Tok} {j : Nat} {Q : Value → Shared → Prop} {value slice : PySem.Expr} (F : Fr g L s.heap m) (N : News g L s.heap l) (x : ValsP (Kn g l) a vs) (h0 : 0 ≤ k) (h1 : k < 2 ^ 63) (hj : seqIndex? k vs.toArray.size = some j) (hx : vs.toArray[j]? = some v) (h : Q v s)
    (hs : subscripted slice false (.ref a) (.int k t) = operate [.ref a, .int k t] (getItem (.ref a) (.int k t)) := by with_unfolding_all rfl) :
    wpAny (model prog w) A (subscriptTail value slice (.ref a) (.int k t)) Q E s :=
  have ht := x.at F N
  tail_any (T := "tuple") (let ⟨o, ho, hc, _⟩ := ht; ⟨o, ho, hc⟩) slot_tuple_getitem.lookup (PyProof.Rows.getItem_tuple ht (by omega) h1 hj hx h) hs
end
/-- the row that is due, and the row that the grid holds -/
theorem final_keep {ac dn : Int} {S : Rws} {n : Nat} {p : Spot} (h : p ∉ S.2 ∨ p ∈ (iterS ac dn n S).2) : (iterS ac dn n S).1 p = S.1 p := h.elim (keep_known n) (keep_gone n)
theorem hdv_of {f : Spot → List Int} {p : Spot} {d : Int} {r : List Int} (h : f p = d :: r) : hdv f p = d := by unfold hdv; rw [h]; rfl
end
section
theorem word88 : True := by
  k_with_none
  trivial
theorem word89 : True := by
  k_with "m.enter" => ((rename Around => A9); cases A9; (have hh9 := Ok.hh (by assumption)); (dsimp only at hh9); subst hh9; (rename _ + _ < recursionLimit => hd9); (dsimp only at hd9); (try ((rename _ + _ < cLine => hu9); (dsimp only at hu9))); refine' enter (by assumption) (by assumption) ?k3 ?k6 ?k7 ?k8 ?k9 ?kB ?_ ?c5 ?c2 ?c3 ?c4; (case k3 => first | assumption | exact Led.nil); (case k6 => k_dflt k_is); (case k7 => k_dflt k_is); (case k8 => dsimp only; omega); (case k9 => exact BindsTo.of_eq rfl); (case c5 => decide); (case kB => exact locs rfl); (case c2 => exact rfl); (case c3 => exact rfl); (case c4 => exact rfl); k_whole; intro _ _ _ _ _ _ _ _ _ _ _ _ _; (have hst9 := Below.stack (by assumption)); (dsimp only at hst9); subst hst9; (try dsimp only); (try k_fold))
  trivial
theorem word90 : True := by
  k_with "m.look" => first | assumption | exact if_pos rfl | (refine Eq.trans (if_neg (by decide)) ?_; walk_at "m.look")
  trivial
theorem word91 : True := by
  k_with "eval Name" => (k_dflt (refine' nameX_L ?xF ?xv ?_ ?xa ?xb; (case xF => k_asm); (case xa => rfl); (case xb => rfl); (case xv => walk_at "m.look"); k_whole))
  trivial
theorem word92 : True := by
  k_with "m.enterC" => ((rename Around => A9); cases A9; (have hh9 := Ok.hh (by assumption)); (dsimp only at hh9); subst hh9; (rename _ + _ < recursionLimit => hd9); (dsimp only at hd9); (try ((rename _ + _ < cLine => hu9); (dsimp only at hu9))); refine' enterC (by assumption) (by assumption) ?k3 ?k6 ?k7 ?k8 ?k9 ?kB ?kN ?_ ?c2 ?c3 ?c4; (case k3 => first | assumption | exact Led.nil); (case k6 => k_dflt k_is); (case k7 => k_dflt k_is); (case k8 => dsimp only; omega); (case k9 => exact BindsTo.of_eq rfl); (case kB => exact rfl); (case kN => decide); (case c2 => exact rfl); (case c3 => exact rfl); (case c4 => exact rfl); k_whole; intro _ _ _ _ _ _ _ _ _ _ _ _ _ _ _ _; (have hst9 := Below.stack (by assumption)); (dsimp only at hst9); subst hst9; (try dsimp only); (try k_fold))
  trivial
theorem word93 : True := by
  k_with "eval Name" => (k_dflt (refine' ldC ?lN ?lhm ?lhd ?_ ?la ?lb ?lc; (case la => rfl); (case lb => rfl); (case lc => rfl); (case lN => k_asm); (case lhm => (repeat (first | assumption | apply List.mem_cons_of_mem))); (case lhd => assumption); k_whole))
  trivial
local macro_rules | `(tactic| k_inst) => `(tactic| exact inst_kn (by assumption) (by assumption) (by assumption) (by assumption))
section
variable {w : World} {g : Heap} {L S fr sc gr Rd : Addr} {rs : List Addr} {ac dn : Int} {sm : Bool} {Lo Go Gx Du : Addr} {dm : Int} {f FF : Spot → List Int} {i : Nat} {m : Str → Option Value} {l l' : List (Addr × Obj)} {oD : Obj} {js : List Nat} {xs xe : List (List Int × Addr × Value)}
noncomputable def Inv1 (w : World) (g : Heap) (L S fr sc gr Rd : Addr) (rs : List Addr) (ac dn : Int) (sm : Bool) (i : Nat) (m : Str → Option Value) (l : List (Addr × Obj)) : Prop := LM S fr sc gr ac dn sm m ∧ (∃ o, (L + 1, o) ∈ l ∧ o.data = .cell (some (.ref Rd))) ∧ (∃ o, (L + 1 + 1, o) ∈ l ∧ o.data = .cell none) ∧ LB w g S fr sc gr rs ac dn (Rd :: ([S, L + 1 + 1, L + 1] ++ rs)) l ∧ ∃ f, LR w g rs (Rd :: ([S, L + 1 + 1, L + 1] ++ rs)) [Rd, S, L + 1 + 1, L + 1] Rd ac dn sm f i l
noncomputable def Inv2 (w : World) (g : Heap) (L S fr sc gr Rd Lo Go : Addr) (rs : List Addr) (ac dn dm : Int) (sm : Bool) (f : Spot → List Int) (i : Nat) (m : Str → Option Value) (l : List (Addr × Obj)) : Prop := LM S fr sc gr ac dn sm m ∧ m (Str.ofString "lost") = some (.ref Lo) ∧ (∃ t, m (Str.ofString "many") = some (.int (1 + dm) t)) ∧ (∃ o, (L + 1, o) ∈ l ∧ o.data = .cell (some (.ref Rd))) ∧ (∃ o, (L + 1 + 1, o) ∈ l ∧ o.data = .cell (some (.ref Go))) ∧ LB w g S fr sc gr rs ac dn (Go :: Lo :: Rd :: ([S, L + 1 + 1, L + 1] ++ rs)) l ∧ LR w g rs (Go :: Lo :: Rd :: ([S, L + 1 + 1, L + 1] ++ rs)) [Go, Lo, Rd, S, L + 1 + 1, L + 1] Rd ac dn sm f (ac * dn).toNat l ∧ ∃ js : List Nat, js.Sublist (List.range i) ∧ LG w g Lo Go ac js l
noncomputable def Inv3 (w : World) (g : Heap) (L S fr sc gr Rd Gx Du : Addr) (oD : Obj) (rs : List Addr) (ac dn : Int) (sm : Bool) (js : List Nat) (f FF : Spot → List Int) (xs xe : List (List Int × Addr × Value)) (m : Str → Option Value) (l : List (Addr × Obj)) : Prop := LM S fr sc gr ac dn sm m ∧ m (Str.ofString "due") = some (.ref Du) ∧ LZ w g L gr rs Rd Gx oD ac dn js f FF xs l ∧ DictP prg w (Kn g l) Du xe
theorem Inv1.sub (h : Inv1 w g L S fr sc gr Rd rs ac dn sm i m l) (ev : Ev l l' []) : Inv1 w g L S fr sc gr Rd rs ac dn sm i m l' := by
  obtain ⟨a, ⟨o1, b1, b2⟩, ⟨o2, c1, c2⟩, d, f, e⟩ := h
  exact ⟨a, ⟨o1, ev _ b1 List.not_mem_nil (it_cell b2), b2⟩, ⟨o2, ev _ c1 List.not_mem_nil (it_cell c2), c2⟩, d.sub ev, f, e.sub ev⟩
theorem Inv2.sub (h : Inv2 w g L S fr sc gr Rd Lo Go rs ac dn dm sm f i m l) (ev : Ev l l' []) : Inv2 w g L S fr sc gr Rd Lo Go rs ac dn dm sm f i m l' := by
  obtain ⟨a, a', a'', ⟨o1, b1, b2⟩, ⟨o2, c1, c2⟩, d, e, js, j1, j2⟩ := h
  exact ⟨a, a', a'', ⟨o1, ev _ b1 List.not_mem_nil (it_cell b2), b2⟩, ⟨o2, ev _ c1 List.not_mem_nil (it_cell c2), c2⟩, d.sub ev, e.sub ev, js, j1, j2.sub ev⟩
theorem Inv3.sub (h : Inv3 w g L S fr sc gr Rd Gx Du oD rs ac dn sm js f FF xs xe m l) (ev : Ev l l' []) : Inv3 w g L S fr sc gr Rd Gx Du oD rs ac dn sm js f FF xs xe m l' := by
  obtain ⟨a, b, c, d⟩ := h
  exact ⟨a, b, c.sub ev, d.mono fun a o _ k => k.sub ev⟩
end
noncomputable def CJ4 (ac : Int) (js : List Nat) (f : Spot → List Int) (xs : List (List Int × Addr × Value)) (q : Nat) (vs : List Value) (P : Addr → Obj → Prop) : Prop := ∃ ts : List (Addr × List Int × Addr × Value), vs = ts.map (fun t => Value.ref t.1) ∧ (∀ t ∈ ts, ∃ o n, P t.1 o ∧ o.cls = .type "tuple" ∧ o.data = .seq #[.ref t.2.2.1, t.2.2.2] n) ∧ ts.map (·.2.1) = (((List.range q).map (spot ac)).filter fun p => decide (p ∉ js.map (spot ac))).map key2 ∧ ∀ t ∈ ts, (∃ x ∈ xs, t.2.1 = x.1 ∧ t.2.2.1 = x.2.1) ∧ ∀ p, t.2.1 = key2 p → ∃ tk, t.2.2.2 = .int (hdv f p) tk
theorem CJ4.mono {ac : Int} {js : List Nat} {f : Spot → List Int} {xs : List (List Int × Addr × Value)} {q : Nat} {vs : List Value} {P P' : Addr → Obj → Prop} (h : ∀ a o, P a o → P' a o) (x : CJ4 ac js f xs q vs P) : CJ4 ac js f xs q vs P' := by
  obtain ⟨ts, a, b, c, d⟩ := x
  exact ⟨ts, a, fun t ht => (b t ht).imp fun o z => z.imp fun n z => ⟨h _ _ z.1, z.2⟩, c, d⟩
section
variable {w : World} {A : Around} {s : Shared} {g : Heap} {R : Result → Shared → Prop}
theorem law_spec (ok : Ok w A g) (hs : Sub g s.heap) (hd : A.depth + 60 < recursionLimit) (hu : A.units + 1000 < cLine) {scr : Addr} {vs : List Value} {ns : List Int} (hl : g.IsList scr vs.toArray) (hi : IntsAre vs ns) (hlen : ns.length ≤ 63) (bare : AllBare s.gens)
    (hR : ∀ h' tk gs, (∀ b o, g.get? b = some o → h'.get? b = some o) → AllBare gs → R (.ok (.ret (.bool true))) {s with heap := h', toks := tk, gens := gs}) :
    codeAny (model prg w) A (.call (.ref 280) ⟨[.ref scr], []⟩) R s := by
  walk_at "m.enterC"
  rename Fr _ _ _ _ => F
  rename CellsAre _ _ _ => Y
  rename News _ _ _ _ => N
  rename Top _ _ _ _ _ _ => T
  obtain ⟨cG, cR, eC, dG, dR⟩ := PyProof.Rows.CellsAre.two (n := Str.ofString "gone") (n' := Str.ofString "rows") Y
  subst eC
  replace dG : cG.data = .cell none := dG
  replace dR : cR.data = .cell none := dR
  have F0 : Fr g _ _ (fun y => if y = Str.ofString "script" then some (.ref scr) else none) := F
  have hbig := T.nolimit
  rename_i base outer mean mg mb L h1x tkx X hN B
  have N0 : News g L _ [(L + 1 + 1, cG), (L + 1, cR)] := N
  clear F Y N
  repeat' (fail_if_success (with_reducible show wpAny _ _ (call (Value.ref 256) _) _ _ _)); walk1
  rename Fr _ _ _ _ => F
  rename News _ _ _ _ => N
  refine pool_at B F X T N rfl rfl rfl (by first | exact room2 (by assumption) (by decide) | exact room1 (by assumption) (by decide) | (dsimp only; omega)) hl hi hlen fun S h' tk x' y' tx' ty' n F1 N1 hne => ?_
  have hS1 : L + 1 + 1 ≠ S := hne (L + 1 + 1, cG) (by simp)
  have hS2 : L + 1 ≠ S := hne (L + 1, cR) (by simp)
  clear F N
  repeat' (fail_if_success (with_reducible show wpAny _ _ (call (Value.ref 263) _) _ _ _)); walk1
  rename Fr _ _ _ _ => F
  rename News _ _ _ _ => N
  refine take_atU B F X T N rfl rfl rfl (by first | exact room2 (by assumption) (by decide) | exact room1 (by assumption) (by decide) | (dsimp only; omega)) (by decide) (by decide) (UpdF.head hne) fun h' tk d t x' y' tx' ty' F1 N1 d0 d1 => ?_
  clear F N
  repeat' (fail_if_success (with_reducible show wpAny _ _ (call (Value.ref 263) _) _ _ _)); walk1
  rename Fr _ _ _ _ => F
  rename News _ _ _ _ => N
  refine take_atU B F X T N rfl rfl rfl (by first | exact room2 (by assumption) (by decide) | exact room1 (by assumption) (by decide) | (dsimp only; omega)) (by decide) (by decide) (UpdF.head hne) fun h' tk e te x' y' tx' ty' F1 N1 e0 e1 => ?_
  clear F N
  obtain ⟨ac, hac⟩ : ∃ a, a = 1 + d := ⟨_, rfl⟩
  obtain ⟨dn, hdn⟩ : ∃ a, a = 1 + e := ⟨_, rfl⟩
  rw [← hac]
  repeat' (fail_if_success (with_reducible show wpAny _ _ (assignInOrder _ _) _ _ _)); walk1
  rename Fr _ _ _ _ => F
  rename News _ _ _ _ => N
  rw [← hdn] at N ⊢
  have a1 : 1 ≤ ac := by omega
  have a2 : ac ≤ 5 := by omega
  have a3 : 1 ≤ dn := by omega
  have a4 : dn ≤ 4 := by omega
  clear hac hdn d0 d1 e0 e1
  repeat' (fail_if_success (with_reducible show wpAny _ _ (call (Value.ref 111) _) _ _ _)); walk1
  rename Fr _ _ _ _ => F
  rename News _ _ _ _ => N
  refine cmp_at B F X T N rfl rfl rfl (by first | exact room2 (by assumption) (by decide) | exact room1 (by assumption) (by decide) | (dsimp only; omega)) (by first | exact room2 (by assumption) (by decide) | exact room1 (by assumption) (by decide) | (dsimp only; omega)) fun h' tk co cd tc F1 N1 n1 n2 => ?_
  clear F
  repeat' (fail_if_success (with_reducible show wpAny _ _ (call (Value.ref 177) _) _ _ _)); walk1
  rename Fr _ _ _ _ => F
  rename News _ _ _ _ => N2
  refine frame_at B F X T N2 rfl rfl rfl (by first | exact room2 (by assumption) (by decide) | exact room1 (by assumption) (by decide) | (dsimp only; omega)) (by first | exact room2 (by assumption) (by decide) | exact room1 (by assumption) (by decide) | (dsimp only; omega)) fun h' tk fr fd tf F1 N1 n1 n2 => ?_
  clear F
  repeat' (fail_if_success (with_reducible show wpAny _ _ (call (Value.ref 245) _) _ _ _)); walk1
  rename Fr _ _ _ _ => F
  rename News _ _ _ _ => N2
  refine scan_at B F X T N2 rfl rfl rfl (by first | exact room2 (by assumption) (by decide) | exact room1 (by assumption) (by decide) | (dsimp only; omega)) (by first | exact room2 (by assumption) (by decide) | exact room1 (by assumption) (by decide) | (dsimp only; omega)) fun h' tk sc sd ts F1 N1 n1 n2 => ?_
  clear F
  repeat' (fail_if_success (with_reducible show wpAny _ _ (call (Value.ref 210) _) _ _ _)); walk1
  rename Fr _ _ _ _ => F
  rename News _ _ _ _ => N2
  refine hideGoal fun hG1 hE1 => ?_
  obtain ⟨l0, N0, hF, hSc, hS, qG, qR⟩ := ledger_law N2 dG dR
  refine hE1 ?_
  clear hE1
  refine grid_at B F X T N0 rfl rfl rfl (by first | exact room2 (by assumption) (by decide) | exact room1 (by assumption) (by decide) | (dsimp only; omega)) (by first | exact room2 (by assumption) (by decide) | exact room1 (by assumption) (by decide) | (dsimp only; omega)) (hF.mono fun a o i k => .in k.1 i) a1 a2 a3 a4 fun h' tk gr ln rs hG hRw F1 N1 hnew => ?_
  obtain ⟨lb, hZr, hRw⟩ := base_law N0 N1 hF hSc hS (fun z hz => by
    obtain ⟨_, _, _, _, _, k⟩ := hS
    simp only [List.mem_cons, List.not_mem_nil, or_false] at hz
    rcases hz with rfl | rfl | rfl
    · exact ⟨_, k⟩
    · exact ⟨_, qG⟩
    · exact ⟨_, qR⟩) (.head _) hG hRw hnew
  have qG : (L + 1 + 1, cG) ∈ ln ++ l0 := List.mem_append_right _ qG
  have qR : (L + 1, cR) ∈ ln ++ l0 := List.mem_append_right _ qR
  clear hF hSc hS hG hnew N0 F
  generalize ln ++ l0 = l1 at *
  clear N2
  repeat' (fail_if_success (with_reducible show wpAny _ _ (storeName _ (Str.ofString "rows") _) _ _ _)); walk1
  rename Fr _ _ _ _ => F
  rename News _ _ _ _ => N2
  rename Obj.IsDictOf (intKind prg w) _ _ => iD
  rename (_ == sysModules) = false => loR
  rename_i Rd hq1 oRd hlt hq2 hq3 hq4 Dt hq5 hq6 hq7 hq8 hq9
  have NR : News g L _ ((Rd, oRd) :: l1) := fun p hp => N2 p (.tail _ hp)
  have iRd : It oRd = false := by
    obtain ⟨_, _, hc, _⟩ := iD; exact it_dict hc.1
  have dRd := dictP_nil iD (P := Kn g ((Rd, oRd) :: l1)) (w := w) (d := Rd) (.in (.head _) iRd)
  have lb2 := lb.more NR hlt
  have hSR : S ≠ Rd := by obtain ⟨_, _, _, _, _, k⟩ := lb.src; exact Nat.ne_of_lt (hlt _ k)
  have hc1R : L + 1 ≠ Rd := Nat.ne_of_lt (hlt _ qR)
  have hc2R : L + 1 + 1 ≠ Rd := Nat.ne_of_lt (hlt _ qG)
  have hRr : Rd ∉ rs := fun hm => by obtain ⟨o, ho, _⟩ := lb.own _ hm; exact Nat.lt_irrefl _ (hlt _ ho)
  have hRw2 := hRw.mono (P' := Kr g ((Rd, oRd) :: l1) (Rd :: [S, L + 1 + 1, L + 1])) fun a o _ k => k.more NR hlt
  have up2 : Ev ((Rd, oRd) :: l1) ((Dt, { cls := .type "tuple", data := .seq #[.ref sc, .ref gr, .ref Rd] }) :: (Rd, oRd) :: l1) [] := Ev.of fun p hp => .tail _ hp
  refine stC F N2 (o := cR) (.tail _ (.tail _ qR)) dR (fun h₄ l₄ cR' F4 N4 m4 d4 e4 k4 o4 => ?_) rfl rfl rfl
  have lb3 := (lb2.sub up2).ev e4 (fun c hc => by rw [List.mem_singleton.mp hc]; simp) ((lb2.sub up2).src.ev e4 (fun q => hS2 (List.mem_singleton.mp q).symm)) o4
  have hRw3 := hRw2.mono (P' := Kr g l₄ (Rd :: [S, L + 1 + 1, L + 1])) fun a o _ k => (k.sub up2).ev e4 (by simp)
  have dRd3 : DictP prg w (Kn g l₄) Rd [] := (dRd.mono fun a o _ k => k.sub up2).monoN fun a o _ hn k => k.evN F N2 e4 (.tail _ (.tail _ qR)) dR hn
  have qG3 : (L + 1 + 1, cG) ∈ l₄ := e4 _ (.tail _ (.tail _ qG)) (by simp) (it_cell dG)
  have oRd3 : Own l₄ Rd := o4 _ (.in (.tail _ (.head _)) iRd)
  clear F N2 NR dRd lb2 hRw2 up2 e4 k4 o4 qG qR hRw lb iD
  repeat' (fail_if_success (with_reducible show wpAny _ _ (call (Value.ref 263) _) _ _ _)); walk1
  rename Fr _ _ _ _ => F
  rename News _ _ _ _ => N
  refine take_op B F X T N rfl rfl rfl (by first | exact room2 (by assumption) (by decide) | exact room1 (by assumption) (by decide) | (dsimp only; omega)) (by decide) (by decide) lb3.src fun h' tk ds t l₅ F5 N5 src5 e5 k5 o5 ds0 ds1 => ?_
  refine hideGoal fun hG2 hE2 => ?_
  obtain ⟨_, _, _, _, _, kS⟩ := lb3.src
  refine hE2 ?_
  clear hE2
  have lb5 := lb3.ev e5 (fun c hc => by rw [List.mem_singleton.mp hc]; exact lb3.hS) src5 o5
  have hRw5 := hRw3.mono (P' := Kr g l₅ (Rd :: [S, L + 1 + 1, L + 1])) fun a o _ k => k.ev e5 (by simp)
  have dRd5 : DictP prg w (Kn g l₅) Rd [] := dRd3.evH F N e5 (.in kS rfl) rfl
  have qG5 : (L + 1 + 1, cG) ∈ l₅ := e5 _ qG3 (by simpa using hS1) (it_cell dG)
  have qR5 : (L + 1, cR') ∈ l₅ := e5 _ m4 (by simpa using hS2) (it_cell d4)
  have oRd5 : Own l₅ Rd := o5 _ oRd3
  clear F N lb3 hRw3 dRd3 qG3 m4 oRd3 e5 k5 o5 src5 kS
  repeat' (fail_if_success (with_reducible show wpAny _ _ (exec (PySem.Stmt.For ..) _) _ _ _)); walk1
  rename Fr _ _ _ _ => F
  refine hideGoal fun hG3 hE3 => ?_
  obtain ⟨sm, hsm⟩ : ∃ sm, sm = (ds == 0) := ⟨_, rfl⟩
  refine hE3 ?_
  clear hE3
  have ha := area_le a1 a2 a3 a4
  refine hideQ fun QA1 qA1 => ?_
  refine For_at F ?_
  repeat' (fail_if_success (with_reducible show ∃ _, _)); walk1
  rename Fr _ _ _ _ => F
  rename News _ _ _ _ => N
  rename IsRange _ _ _ _ _ _ _ _ => hr
  refine ⟨_, _, _, _, _, Inv1 w g L S fr sc gr Rd rs ac dn sm,
      {S := Sr.range (n := (ac * dn).toNat) rfl hr (small_one (by omega) (by omega) (by omega) (by omega)) (by rw [rangeSize_one]; split <;> omega), hL := List.not_mem_nil, F := F, N := N, src := fun _ _ _ _ _ h => (nomatch h), mono := fun _ _ _ _ ev h => h.sub ev, j0 := ?_, step := ?_, done := ?_}⟩
  · exact ⟨⟨by first | walk_at "m.look" | rfl, ⟨_, by first | walk_at "m.look" | rfl⟩, ⟨_, by first | walk_at "m.look" | rfl⟩, by first | walk_at "m.look" | rfl, by first | walk_at "m.look" | rfl, by first | walk_at "m.look" | rfl, by rw [hsm]; first | walk_at "m.look" | rfl⟩, ⟨_, qR5, d4⟩, ⟨_, qG5, dG⟩, lb5, fun _ => [], oRd5, ⟨[], dRd5, rfl, fun _ h => (nomatch h)⟩, by simpa using hRw5, fun j hj => absurd hj (Nat.not_lt_zero j)⟩
  · intro i v m₁ l₁ h₁ tk₁ hi hv9 hI9 hK F₁ N₁
    clear qA1
    refine hideGoal fun hGs1 hEs1 => ?_
    refine hideGoal fun hG4 hE4 => ?_
    obtain ⟨tv, rfl⟩ := hv9
    obtain ⟨hm, ⟨oR, b1, b2⟩, ⟨oG, c1, c2⟩, lb, f, lr⟩ := hI9
    refine hE4 ?_
    clear hE4
    refine hEs1 ?_
    clear hEs1
    refine hideAE fun PP1 qP1 => ?_
    obtain ⟨hm1, ⟨ta, hm2⟩, ⟨tb, hm3⟩, hm4, hm5, hm6, hm7⟩ := id hm
    rw [show (0 : Int) + ((i : Nat) : Int) * 1 = (i : Int) by omega]
    clear F N hr
    repeat' (fail_if_success (with_reducible show wpAny _ _ (eval (PySem.Expr.IfExp ..) _) _ _ _)); walk1
    rename Fr _ _ _ _ => F
    rename News _ _ _ _ => N
    refine wpAny_mono (Q := fun v s' => ∃ d t h' tk l', v = Value.int d t ∧ s' = { s with heap := h', toks := tk } ∧ Fr g L h' (fun y => if y = Str.ofString "index" then some (Value.int (i : Int) tv) else m₁ y) ∧ News g L h' l' ∧ SrcP l' S ∧ Ev l₁ l' [S] ∧ KeepIt l₁ l' ∧ (∀ x, Own l₁ x → Own l' x) ∧ -100 ≤ d ∧ d ≤ 100 ∧ (sm = true → d = 5)) ?_ (fun v s' h => ?_) fun _ _ e => e
    · clear hm
      cases sm with
      | true =>
        repeat' (fail_if_success (with_reducible show ∃ _, _)); walk1
        exact ⟨5, _, _, _, l₁, rfl, rfl, F, N, lb.src, Ev.refl, KeepIt.refl, fun _ h => h, by decide, by decide, fun _ => rfl⟩
      | false =>
        repeat' (fail_if_success (with_reducible show wpAny _ _ (call (Value.ref 263) _) _ _ _)); walk1
        refine take_op B F X T N rfl rfl rfl (by first | exact room2 (by assumption) (by decide) | exact room1 (by assumption) (by decide) | (dsimp only; omega)) (by decide) (by decide) lb.src fun h' tk dd td l₆ F6 N6 src6 e6 k6 o6 dd0 dd1 => ?_
        clear F N
        repeat' (fail_if_success (with_reducible show ∃ _, _)); walk1
        exact ⟨dd - 20, _, _, _, l₆, rfl, rfl, F6, N6, src6, e6, k6, o6, by omega, by omega, fun h => (nomatch h)⟩
    · obtain ⟨d, t, h6, tk6, l₆, rfl, rfl, F6, N6, src6, e6, k6, o6, d0, d1, d5⟩ := h
      refine hideGoal fun hG5 hE5 => ?_
      obtain ⟨_, _, _, _, _, kS⟩ := lb.src
      refine hE5 ?_
      clear hE5
      have lb6 := lb.ev e6 (fun c hc => by rw [List.mem_singleton.mp hc]; exact lb.hS) src6 o6
      have lr6 := lr.ev F N e6 lb.hS (by simp) kS rfl (.inl rfl) o6
      have b16 := e6 _ b1 (by simpa using hS2) (it_cell b2)
      have c16 := e6 _ c1 (by simpa using hS1) (it_cell c2)
      clear F N lb lr kS e6 o6 src6 b1 c1
      repeat' (fail_if_success (with_reducible show wpAny _ _ (call (Value.ref 263) _) _ _ _)); walk1
      rename Fr _ _ _ _ => F
      rename News _ _ _ _ => N
      refine take_op B F X T N rfl rfl rfl (by first | exact room2 (by assumption) (by decide) | exact room1 (by assumption) (by decide) | (dsimp only; omega)) (by decide) (by decide) lb6.src fun h' tk e te l₇ F7 N7 src7 e7 k7 o7 e0 e1 => ?_
      refine hideGoal fun hG6 hE6 => ?_
      obtain ⟨_, _, _, _, _, kS⟩ := lb6.src
      refine hE6 ?_
      clear hE6
      have lb := lb6.ev e7 (fun c hc => by rw [List.mem_singleton.mp hc]; exact lb6.hS) src7 o7
      have lr := lr6.ev F N e7 lb6.hS (by simp) kS rfl (.inl rfl) o7
      have b1 := e7 _ b16 (by simpa using hS2) (it_cell b2)
      have c1 := e7 _ c16 (by simpa using hS1) (it_cell c2)
      have k17 := k6.trans k7
      clear F N lb6 lr6 kS e7 o7 src7 b16 c16 k6 k7
      repeat' (fail_if_success (with_reducible show wpAny _ _ (setItem _ _ _) _ _ _)); walk1
      rename Fr _ _ _ _ => F8
      rename News _ _ _ _ => N8
      rename_i b hq1 hbl hq2 hqF hqN hq3 hq4 hq5 hq6
      rw [spot_fmod a1, spot_fdiv a1] at N8
      refine hideGoal fun hG7 hE7 => ?_
      obtain ⟨lE, NE, qT, qB, subE⟩ := two_news N8
      refine hE7 ?_
      clear hE7
      have inX : ∀ x ∈ (Rd :: ([S, L + 1 + 1, L + 1] ++ rs)), ∃ o, (x, o) ∈ l₇ := fun x hx => by
        simp only [List.mem_cons, List.mem_append, List.not_mem_nil, or_false] at hx
        rcases hx with rfl | (rfl | rfl | rfl) | hx
        · exact lr.own.imp fun o h => h.1
        · obtain ⟨_, _, _, _, _, k⟩ := lb.src; exact ⟨_, k⟩
        · exact ⟨_, c1⟩
        · exact ⟨_, b1⟩
        · exact (lb.own x hx).imp fun o h => h.1
      have hbX : b ∉ (Rd :: ([S, L + 1 + 1, L + 1] ++ rs)) := fun hm => by
        obtain ⟨o, ho⟩ := inX b hm
        exact Nat.lt_irrefl _ (hbl _ ho)
      have lbE := lb.sub (Ev.of subE)
      refine hideGoal fun hG8 hE8 => ?_
      obtain ⟨own, ⟨xs, k1, k2, k3⟩, rows, vals⟩ := lr.sub (Ev.of subE)
      refine hE8 ?_
      clear hE8
      have hxl : xs.length = i := by have q := congrArg List.length k2; simpa using q
      refine dset F8 NE k1 own (ks := key2 (spot ac i)) (tup2 (.in qT rfl)) (by first | exact roomU (by assumption) (by decide) | (simp only [units_deeper]; omega)) (by rw [sizeLine_eq]; omega) fun h9 tk9 l9 F9 N9 x9 e9 k9 o9 => ?_
      have hnone : atKey xs (key2 (spot ac i)) = none := atKey_none (by
        rw [k2]
        intro hm
        refine hideGoal fun hG9 hE9 => ?_
        obtain ⟨j, hj, ej⟩ := List.mem_map.mp hm
        refine hE9 ?_
        clear hE9
        have q1 := spot_inj (key2_inj ej)
        have q2 := List.mem_range.mp hj
        omega)
      rw [storedH_new hnone] at x9
      have lb9 := lbE.ev e9 (fun c hc => by rw [List.mem_singleton.mp hc]; exact .head _) (lbE.src.ev e9 (fun q => hSR (List.mem_singleton.mp q))) o9
      have rows9 := rows.mono (P' := Kr g l9 [Rd, S, L + 1 + 1, L + 1]) fun a o _ k => k.ev e9 (.head _)
      have k39 : ∀ x ∈ xs, ∀ p, x.1 = key2 p → ∃ b vs, x.2.2 = .ref b ∧ ListP (Kr g l9 (Rd :: ([S, L + 1 + 1, L + 1] ++ rs))) b vs ∧ IntsAre vs (f p) := fun x hx p hp => (k3 x hx p hp).imp fun b h => h.imp fun vs h => ⟨h.1, h.2.1.mono fun a o _ k => k.ev e9 (.head _), h.2.2⟩
      have hbR : b ≠ Rd := fun q => hbX (q ▸ .head _)
      have qB9 := e9 _ qB (fun q => hbR (List.mem_singleton.mp q)) rfl
      have b19 := e9 _ (subE _ b1) (fun q => hc1R (List.mem_singleton.mp q)) (it_cell b2)
      have c19 := e9 _ (subE _ c1) (fun q => hc2R (List.mem_singleton.mp q)) (it_cell c2)
      have hb9 : ListP (Kr g l9 (Rd :: ([S, L + 1 + 1, L + 1] ++ rs))) b [.int d _, .int e _, .int 0 _, .int (-1) _] := ⟨_, _, ⟨.in qB9 rfl, hbX⟩, rfl, rfl, rfl⟩
      have own9 := o9 _ own
      refine hideGoal fun hG10 hE10 => ?_
      obtain ⟨gd, pl, p0, gts, g1, g2, g3, g4, g5, g6⟩ := id lb9.grd
      refine hE10 ?_
      clear hE10
      have kg1 := g1.1
      have kg2 := g2.1
      have hin := spot_in (dn := dn) a1 a3 hi
      obtain ⟨r, cs, hr, hcs, hcl⟩ : ∃ r cs, rs[(spot ac i).2]? = some r ∧ ListP (Kr g l9 [Rd, S, L + 1 + 1, L + 1]) r cs ∧ (cs.length : Int) = ac := by
        refine hideGoal fun hG11 hE11 => ?_
        obtain ⟨_, hl, kk⟩ := rows9
        refine hE11 ?_
        clear hE11
        have q2 := hin.2
        have hy : (spot ac i).2 < rs.length := by omega
        obtain ⟨cs, x1, x2, _⟩ := kk _ rs[(spot ac i).2] (List.getElem?_eq_getElem hy)
        exact ⟨_, cs, List.getElem?_eq_getElem hy, x1, x2⟩
      have hrin : r ∈ rs := List.mem_of_getElem? hr
      clear F8 N8 NE lbE rows k3 lb lr b1 c1
      repeat' (fail_if_success (with_reducible show wpAny _ _ (call (Value.ref 207) _) _ _ _)); walk1
      rename Fr _ _ _ _ => F8
      rename News _ _ _ _ => N8
      rw [spot_fmod a1, spot_fdiv a1]
      refine put_at B F8 X T N8 rfl rfl rfl (by first | exact room2 (by assumption) (by decide) | exact room1 (by assumption) (by decide) | (dsimp only; omega)) (by first | exact room2 (by assumption) (by decide) | exact room1 (by assumption) (by decide) | (dsimp only; omega)) (lb9.grd.mono fun a o _ _ k => k.1) (Int.natCast_nonneg _) (by have := hin.1; omega) (Int.natCast_nonneg _) (by have := hin.2; omega) (r := r) (b := b) (cs := cs) (by simpa using hr) (hcs.mono fun a o _ k => k.1) (lb9.own r hrin) (by simp only [Int.toNat_natCast]; have := hin.1; omega) (hb9.mono fun a o _ k => k.1) (fun q => hbX (List.mem_cons_of_mem _ (List.mem_append_right _ q))) (by simp) fun h3' tk3 a' l3 F3 N3 x3 y3 hfr ev3 ki3 ow3 => ?_
      simp only [Int.toNat_natCast] at x3
      have inX9 : ∀ x ∈ (Rd :: ([S, L + 1 + 1, L + 1] ++ rs)), ∃ o, (x, o) ∈ l9 := fun x hx => by
        simp only [List.mem_cons, List.mem_append, List.not_mem_nil, or_false] at hx
        rcases hx with rfl | (rfl | rfl | rfl) | hx
        · exact own9.imp fun o h => h.1
        · obtain ⟨_, _, _, _, _, k⟩ := lb9.src; exact ⟨_, k⟩
        · exact ⟨_, c19⟩
        · exact ⟨_, b19⟩
        · exact (lb9.own x hx).imp fun o h => h.1
      have haX : a' ∉ (Rd :: ([S, L + 1 + 1, L + 1] ++ rs)) := fun hm => by
        obtain ⟨o, ho⟩ := inX9 a' hm
        rw [(N8 _ ho).1] at hfr
        cases hfr
      have haY : a' ∉ [Rd, S, L + 1 + 1, L + 1] := fun q => haX ((List.mem_cons.mp q).elim (fun e => List.mem_cons.mpr (.inl e)) fun q => List.mem_cons_of_mem _ (List.mem_append_left _ q))
      have har : a' ∉ rs := fun q => haX (List.mem_cons_of_mem _ (List.mem_append_right _ q))
      have hrX : r ∈ (Rd :: ([S, L + 1 + 1, L + 1] ++ rs)) := List.mem_cons_of_mem _ (List.mem_append_right _ hrin)
      have hrY : r ∉ [Rd, S, L + 1 + 1, L + 1] := fun q => by
        rcases List.mem_cons.mp q with q | q
        · exact hRr (q ▸ hrin)
        · exact hZr r q hrin
      have lb3 := lb9.ev ev3 (fun c hc => by rw [List.mem_singleton.mp hc]; exact hrX) (lb9.src.ev ev3 (fun q => hZr S (.head _) (List.mem_singleton.mp q ▸ hrin))) ow3
      have lr3 := LR.next own9 k2 k39 x9 hb9 (.cons _ _ (.cons _ _ (.cons _ _ (.cons _ _ .nil)))) rows9 vals F8 N8 hr hcs ev3 ow3 hrX x3 y3 hrY haY har d0 d1 d5
      have b13 := ev3 _ b19 (fun q => hZr (L + 1) (by simp) (by rw [show L + 1 = r from List.mem_singleton.mp q]; exact hrin)) (it_cell b2)
      have c13 := ev3 _ c19 (fun q => hZr (L + 1 + 1) (by simp) (by rw [show L + 1 + 1 = r from List.mem_singleton.mp q]; exact hrin)) (it_cell c2)
      clear F8
      k_steps
      refine qP1 _ _ ?_
      exact ⟨_, _, _, _, rfl, by assumption, by assumption, fun p hp i => ki3 _ (k9 _ (subE _ (k17 _ hp i)) i) i, ⟨by walk_at "m.look", ⟨_, by walk_at "m.look"⟩, ⟨_, by walk_at "m.look"⟩, by walk_at "m.look", by walk_at "m.look", by walk_at "m.look", by walk_at "m.look"⟩, ⟨_, b13, b2⟩, ⟨_, c13, c2⟩, lb3, _, lr3⟩
  · intro h' tk m' l' F' N' hK' hI9
    refine qA1 _ _ ?_
    clear qA1
    refine hideGoal fun hGe1 hEe1 => ?_
    refine hideGoal fun hG12 hE12 => ?_
    obtain ⟨hm, ⟨oR, b1, b2⟩, ⟨oG, c1, c2⟩, lb, f, lr⟩ := hI9
    refine hE12 ?_
    clear hE12
    refine hEe1 ?_
    clear hEe1
    refine hideGoal fun hG13 hE13 => ?_
    obtain ⟨hm1, ⟨ta, hm2⟩, ⟨tb, hm3⟩, hm4, hm5, hm6, hm7⟩ := id hm
    refine hE13 ?_
    clear hE13
    clear F N hr
    repeat' (fail_if_success (with_reducible show wpAny _ _ (call (Value.ref 263) _) _ _ _)); walk1
    rename Fr _ _ _ _ => F
    rename News _ _ _ _ => N
    rename_i Lo hq1 hLo Go hq2 hGo
    have hGo' : ∀ p ∈ ((Lo, W.listOf #[] 0) :: l'), p.1 < Go := fun p hp => by
      rcases List.mem_cons.mp hp with rfl | hp
      · exact hGo.1
      · exact allLt_all hGo.2 p hp
    have NLo : News g L _ ((Lo, W.listOf #[] 0) :: l') := fun p hp => N p (.tail _ hp)
    have lb8 := (lb.more NLo hLo).more N hGo'
    have lr8 := (lr.more NLo hLo).more N hGo'
    have inl : ∀ x ∈ (Rd :: ([S, L + 1 + 1, L + 1] ++ rs)), ∃ o, (x, o) ∈ l' := fun x hx => by
      simp only [List.mem_cons, List.mem_append, List.not_mem_nil, or_false] at hx
      rcases hx with rfl | (rfl | rfl | rfl) | hx
      · exact lr.own.imp fun o h => h.1
      · obtain ⟨_, _, _, _, _, k⟩ := lb.src; exact ⟨_, k⟩
      · exact ⟨_, c1⟩
      · exact ⟨_, b1⟩
      · exact (lb.own x hx).imp fun o h => h.1
    have hLoX : Lo ∉ (Rd :: ([S, L + 1 + 1, L + 1] ++ rs)) := fun hm => by obtain ⟨o, ho⟩ := inl Lo hm; exact Nat.lt_irrefl _ (hLo _ ho)
    have hGoX : Go ∉ (Rd :: ([S, L + 1 + 1, L + 1] ++ rs)) := fun hm => by obtain ⟨o, ho⟩ := inl Go hm; exact Nat.lt_irrefl _ (hGo' _ (.tail _ ho))
    have hLG : Lo ≠ Go := Nat.ne_of_lt hGo.1
    have lg8 : LG w g Lo Go ac [] ((Go, W.listOf #[] 0) :: (Lo, W.listOf #[] 0) :: l') := ⟨.in (.tail _ (.head _)) rfl, .in (.head _) rfl, ⟨[], ⟨_, _, .in (.tail _ (.head _)) rfl, rfl, rfl, rfl⟩, fun _ h => (nomatch h), rfl⟩, ⟨[], ⟨_, _, .in (.head _) rfl, rfl, rfl, rfl⟩, fun _ h => (nomatch h), rfl⟩⟩
    have b18 : (L + 1, oR) ∈ ((Go, W.listOf #[] 0) :: (Lo, W.listOf #[] 0) :: l') := .tail _ (.tail _ b1)
    have c18 : (L + 1 + 1, oG) ∈ ((Go, W.listOf #[] 0) :: (Lo, W.listOf #[] 0) :: l') := .tail _ (.tail _ c1)
    have hLoS : Lo ≠ S := fun q => hLoX (by rw [q]; simp)
    have hGoS : Go ≠ S := fun q => hGoX (by rw [q]; simp)
    have hLo2 : Lo ≠ L + 1 + 1 := fun q => hLoX (by rw [q]; simp)
    have hGo2 : Go ≠ L + 1 + 1 := fun q => hGoX (by rw [q]; simp)
    generalize ((Go, W.listOf #[] 0) :: (Lo, W.listOf #[] 0) :: l') = l8 at N lb8 lr8 lg8 b18 c18
    clear lb lr b1 c1 NLo
    refine take_op B F X T N rfl rfl rfl (by first | exact room2 (by assumption) (by decide) | exact room1 (by assumption) (by decide) | (dsimp only; omega)) (by decide) (by decide) lb8.src fun h' tk dm td l₉ F9 N9 src9 e9 k9 o9 dm0 dm1 => ?_
    refine hideGoal fun hG14 hE14 => ?_
    obtain ⟨_, _, _, _, _, kS⟩ := lb8.src
    refine hE14 ?_
    clear hE14
    have lb := lb8.ev e9 (fun c hc => by rw [List.mem_singleton.mp hc]; exact lb8.hS) src9 o9
    have lr := lr8.ev F N e9 lb8.hS (by simp) kS rfl (.inl rfl) o9
    have lg := lg8.ev F N e9 hLoS hGoS kS rfl (by intro q; injection q with q; exact absurd q (by decide)) o9
    have b1 := e9 _ b18 (by simpa using hS2) (it_cell b2)
    have c1 := e9 _ c18 (by simpa using hS1) (it_cell c2)
    clear F N lb8 lr8 lg8 b18 c18 e9 o9 src9 kS
    repeat' (fail_if_success (with_reducible show wpAny _ _ (storeName _ (Str.ofString "gone") _) _ _ _)); walk1
    rename Fr _ _ _ _ => F
    rename News _ _ _ _ => N2
    refine hideGoal fun hG15 hE15 => ?_
    obtain ⟨lE, NE, qD, subE⟩ := one_news N2
    refine hE15 ?_
    clear hE15
    have lbE := lb.sub (Ev.of subE)
    have lrE := lr.sub (Ev.of subE)
    have lgE := lg.sub (Ev.of subE)
    refine stC F NE (o := oG) (subE _ c1) c2 (fun h₄ l₄ oG' F4 N4 m4 d4 e4 k4 o4 => ?_) rfl rfl rfl
    have lb4 := lbE.ev e4 (fun c hc => by rw [List.mem_singleton.mp hc]; simp) (lbE.src.ev e4 (fun q => hS1 (List.mem_singleton.mp q).symm)) o4
    have lr4 := lrE.ev F NE e4 (by simp) (by simp) (subE _ c1) (it_cell c2) (.inr ⟨_, c2⟩) o4
    have lg4 := lgE.cell F NE e4 (subE _ c1) c2 o4
    have b14 := e4 _ (subE _ b1) (by simp) (it_cell b2)
    clear F N2 NE lbE lrE lgE lb lr lg b1 c1 e4 o4 k4
    repeat' (fail_if_success (with_reducible show wpAny _ _ (exec (PySem.Stmt.For ..) _) _ _ _)); walk1
    rename Fr _ _ _ _ => F
    refine hideQ fun QA2 qA2 => ?_
    refine For_at F ?_
    repeat' (fail_if_success (with_reducible show ∃ _, _)); walk1
    rename Fr _ _ _ _ => F
    rename News _ _ _ _ => N
    rename IsRange _ _ _ _ _ _ _ _ => hr
    refine ⟨_, _, _, _, _, Inv2 w g L S fr sc gr Rd Lo Go rs ac dn dm sm f,
      {S := Sr.range (n := (ac * dn).toNat) rfl hr (small_one (by omega) (by omega) (by omega) (by omega)) (by rw [rangeSize_one]; split <;> omega), hL := List.not_mem_nil, F := F, N := N, src := fun _ _ _ _ _ h => (nomatch h), mono := fun _ _ _ _ ev h => h.sub ev, j0 := ?_, step := ?_, done := ?_}⟩
    · exact ⟨⟨by walk_at "m.look", ⟨_, by walk_at "m.look"⟩, ⟨_, by walk_at "m.look"⟩, by walk_at "m.look", by walk_at "m.look", by walk_at "m.look", by walk_at "m.look"⟩, by walk_at "m.look", ⟨_, by walk_at "m.look"⟩, ⟨_, b14, b2⟩, ⟨_, m4, d4⟩, lb4, lr4, [], List.nil_sublist _, lg4⟩
    · intro i v m₁ l₁ h₁ tk₁ hi hv9 hI9 hK F₁ N₁
      clear qA2
      refine hideGoal fun hGs2 hEs2 => ?_
      refine hideGoal fun hG16 hE16 => ?_
      obtain ⟨tv, rfl⟩ := hv9
      obtain ⟨hm, hmL, ⟨tm, hmM⟩, ⟨oR, b1, b2⟩, ⟨oG, c1, c2⟩, lb, lr, js, hjs, lg⟩ := hI9
      refine hE16 ?_
      clear hE16
      refine hEs2 ?_
      clear hEs2
      refine hideAE fun PP2 qP2 => ?_
      obtain ⟨hm1, ⟨ta, hm2⟩, ⟨tb, hm3⟩, hm4, hm5, hm6, hm7⟩ := id hm
      rw [show (0 : Int) + ((i : Nat) : Int) * 1 = (i : Int) by omega]
      clear F N hr
      repeat' (fail_if_success (with_reducible show wpAny _ _ (isTrue _ _ _) _ _ _)); walk1
      rename Fr _ _ _ _ => F
      rename News _ _ _ _ => N
      refine wpAny_mono (Q := fun bb s' => ∃ h' tk l', s' = { s with heap := h', toks := tk } ∧ Fr g L h' (fun y => if y = Str.ofString "index" then some (Value.int (i : Int) tv) else m₁ y) ∧ News g L h' l' ∧ SrcP l' S ∧ Ev l₁ l' [S] ∧ KeepIt l₁ l' ∧ (∀ x, Own l₁ x → Own l' x)) ?_ (fun bb s' h => ?_) fun _ _ e => e
      · repeat' (fail_if_success (with_reducible show wpAny _ _ (call (Value.ref 263) _) _ _ _)); (fail_if_success (with_reducible show ∃ _, _)); walk1
        · exact ⟨_, _, l₁, rfl, F, N, lb.src, Ev.refl, KeepIt.refl, fun _ h => h⟩
        · refine take_op B F X T N rfl rfl rfl (by first | exact room2 (by assumption) (by decide) | exact room1 (by assumption) (by decide) | (dsimp only; omega)) (by omega) (by omega) lb.src fun h' tk dd td l₆ F6 N6 src6 e6 k6 o6 dd0 dd1 => ?_
          clear F N
          repeat' (fail_if_success (with_reducible show ∃ _, _)); walk1
          all_goals exact ⟨_, _, l₆, rfl, F6, N6, src6, e6, k6, o6⟩
      · obtain ⟨h6, tk6, l₆, rfl, F6, N6, src6, e6, k6, o6⟩ := h
        refine hideGoal fun hG17 hE17 => ?_
        obtain ⟨_, _, _, _, _, kS⟩ := lb.src
        refine hE17 ?_
        clear hE17
        have lb6 := lb.ev e6 (fun c hc => by rw [List.mem_singleton.mp hc]; exact lb.hS) src6 o6
        have lr6 := lr.ev F N e6 lb.hS (by simp) kS rfl (.inl rfl) o6
        have lg6 := lg.ev F N e6 hLoS hGoS kS rfl (by intro q; injection q with q; exact absurd q (by decide)) o6
        have b16 := e6 _ b1 (by simpa using hS2) (it_cell b2)
        have c16 := e6 _ c1 (by simpa using hS1) (it_cell c2)
        clear F N lb lr lg b1 c1 e6 o6 src6 kS
        cases bb with
        | false =>
          k_steps
          refine qP2 _ _ ?_
          exact ⟨_, _, _, _, rfl, by assumption, by assumption, k6, ⟨by walk_at "m.look", ⟨_, by walk_at "m.look"⟩, ⟨_, by walk_at "m.look"⟩, by walk_at "m.look", by walk_at "m.look", by walk_at "m.look", by walk_at "m.look"⟩, by walk_at "m.look", ⟨_, by walk_at "m.look"⟩, ⟨_, b16, b2⟩, ⟨_, c16, c2⟩, lb6, lr6, js, by rw [List.range_succ]; exact hjs.trans (List.sublist_append_left _ _), lg6⟩
        | true =>
          refine hideGoal fun hG18 hE18 => ?_
          obtain ⟨es, hD, hT, hk⟩ := id lg6.lo
          refine hE18 ?_
          clear hE18
          repeat' (fail_if_success (with_reducible show wpAny _ _ (getMethod _ _ _) _ _ _)); walk1
          refine lmeth F6 N6 hD ?_
          repeat' (fail_if_success (with_reducible show wpAny _ _ (call (Value.builtin "list.append") _) _ _ _)); walk1
          rename Fr _ _ _ _ => F
          rename News _ _ _ _ => N
          refine hideGoal fun hG19 hE19 => ?_
          obtain ⟨lE, NE, qT, subE⟩ := one_news N
          refine hE19 ?_
          clear hE19
          have up : ∀ a o, Kn g l₆ a o → Kn g lE a o := fun a o k => k.sub (Ev.of subE)
          have hDE := hD.mono (P' := Kn g lE) fun a o _ k => up a o k
          have hjl : js.length ≤ 20 := by have q := hjs.length_le; rw [List.length_range] at q; omega
          have hesl : es.length = js.length := by have q := congrArg List.length hk; simpa using q
          refine hideGoal fun hG20 hE20 => ?_
          obtain ⟨oL, nL, kL, cL, rL⟩ := id hDE
          refine hE20 ?_
          clear hE20
          have qL := (lg6.oL.ev (Ev.of subE)).in_of NE kL
          have ntL : oL.cls ≠ .type "tuple" := by rw [cL]; intro q; injection q with q; exact absurd q (by decide)
          refine lappend F NE hDE (lg6.oL.ev (Ev.of subE)) (by rw [List.length_map, sizeLine_eq]; omega) fun h9 l9 F9 N9 x9 e9 k9 o9 => ?_
          have lo9 := TupL.push (es := es) hDE (fun e he => (hT e he).mono fun a o _ k => up a o k) hk F NE (tup2 (prog := prg) (w := w) (.in qT rfl)) e9 x9
          have go9 := (lg6.go.mono (P' := Kn g lE) fun a o _ k => up a o k).up (P' := Kn g l9) (fun o _ k => k.ev e9 fun q => hLG (List.mem_singleton.mp q).symm) (fun a o h k => k.evCH F NE e9 kL (by rw [h]; exact ntL.symm))
          have lb9 := (lb6.sub (Ev.of subE)).ev e9 (fun c hc => by rw [List.mem_singleton.mp hc]; simp) ((lb6.sub (Ev.of subE)).src.ev e9 fun q => hLoS (List.mem_singleton.mp q).symm) o9
          have lr9 := (lr6.sub (Ev.of subE)).ev F NE e9 (by simp) (by simp) qL kL.2 (.inl cL) o9
          have b19 := e9 _ (subE _ b16) (fun q => hLoX (by rw [← show L + 1 = Lo from List.mem_singleton.mp q]; simp)) (it_cell b2)
          have c19 := e9 _ (subE _ c16) (fun q => hLo2 (List.mem_singleton.mp q).symm) (it_cell c2)
          have oL9 := o9 _ (lg6.oL.ev (Ev.of subE))
          have oG9 := o9 _ (lg6.oG.ev (Ev.of subE))
          clear F N NE lb6 lr6 lg6 b16 c16 e9 o9 hD hT hk up hDE kL qL x9
          refine hideGoal fun hG21 hE21 => ?_
          obtain ⟨es, hD, hT, hk⟩ := id go9
          refine hE21 ?_
          clear hE21
          repeat' (fail_if_success (with_reducible show wpAny _ _ (getMethod _ _ _) _ _ _)); walk1
          refine lmeth F9 N9 hD ?_
          repeat' (fail_if_success (with_reducible show wpAny _ _ (call (Value.builtin "list.append") _) _ _ _)); walk1
          rename Fr _ _ _ _ => F
          rename News _ _ _ _ => N
          rw [spot_fmod a1, spot_fdiv a1] at N
          refine hideGoal fun hG22 hE22 => ?_
          obtain ⟨lE2, NE, qT2, subE2⟩ := one_news N
          refine hE22 ?_
          clear hE22
          have up : ∀ a o, Kn g l9 a o → Kn g lE2 a o := fun a o k => k.sub (Ev.of subE2)
          have hDE := hD.mono (P' := Kn g lE2) fun a o _ k => up a o k
          have hesl : es.length = js.length := by have q := congrArg List.length hk; simpa using q
          refine hideGoal fun hG23 hE23 => ?_
          obtain ⟨oG', nG, kG, cG', rG⟩ := id hDE
          refine hE23 ?_
          clear hE23
          have qG := (oG9.ev (Ev.of subE2)).in_of NE kG
          have ntG : oG'.cls ≠ .type "tuple" := by rw [cG']; intro q; injection q with q; exact absurd q (by decide)
          refine lappend F NE hDE (oG9.ev (Ev.of subE2)) (by rw [List.length_map, sizeLine_eq]; omega) fun h3 tl3 F3 N3 x3 e3 k3 o3 => ?_
          have go3 := TupL.push (es := es) (k := key2 (spot ac i)) hDE (fun e he => (hT e he).mono fun a o _ k => up a o k) hk F NE (tup2 (prog := prg) (w := w) (.in qT2 rfl)) e3 x3
          have lo3 := (lo9.mono (P' := Kn g lE2) fun a o _ k => up a o k).up (P' := Kn g tl3) (fun o _ k => k.ev e3 fun q => hLG (List.mem_singleton.mp q)) (fun a o h k => k.evCH F NE e3 kG (by rw [h]; exact ntG.symm))
          have lb3 := (lb9.sub (Ev.of subE2)).ev e3 (fun c hc => by rw [List.mem_singleton.mp hc]; simp) ((lb9.sub (Ev.of subE2)).src.ev e3 fun q => hGoS (List.mem_singleton.mp q).symm) o3
          have lr3 := (lr9.sub (Ev.of subE2)).ev F NE e3 (by simp) (by simp) qG kG.2 (.inl cG') o3
          have b13 := e3 _ (subE2 _ b19) (fun q => hGoX (by rw [← show L + 1 = Go from List.mem_singleton.mp q]; simp)) (it_cell b2)
          have c13 := e3 _ (subE2 _ c19) (fun q => hGo2 (List.mem_singleton.mp q).symm) (it_cell c2)
          have lg3 : LG w g Lo Go ac (js ++ [i]) tl3 := ⟨o3 _ (oL9.ev (Ev.of subE2)), o3 _ (oG9.ev (Ev.of subE2)), by rw [List.map_append]; exact lo3, by rw [List.map_append]; exact go3⟩
          clear F N NE
          k_steps
          refine qP2 _ _ ?_
          exact ⟨_, _, _, _, rfl, by assumption, by assumption, fun p hp i => k3 _ (subE2 _ (k9 _ (subE _ (k6 _ hp i)) i)) i, ⟨by walk_at "m.look", ⟨_, by walk_at "m.look"⟩, ⟨_, by walk_at "m.look"⟩, by walk_at "m.look", by walk_at "m.look", by walk_at "m.look", by walk_at "m.look"⟩, by walk_at "m.look", ⟨_, by walk_at "m.look"⟩, ⟨_, b13, b2⟩, ⟨_, c13, c2⟩, lb3, lr3, js ++ [i], by rw [List.range_succ]; exact hjs.append (List.Sublist.refl _), lg3⟩
    · intro h' tk m' l' F' N' hK' hI9
      refine qA2 _ _ ?_
      clear qA2
      refine hideGoal fun hGe2 hEe2 => ?_
      refine hideGoal fun hG24 hE24 => ?_
      obtain ⟨hm, hmL, ⟨tm, hmM⟩, ⟨oR, b1, b2⟩, ⟨oG, c1, c2⟩, lb, lr, js, hjs, lg⟩ := hI9
      refine hE24 ?_
      clear hE24
      refine hEe2 ?_
      clear hEe2
      refine hideGoal fun hG25 hE25 => ?_
      obtain ⟨hm1, ⟨ta, hm2⟩, ⟨tb, hm3⟩, hm4, hm5, hm6, hm7⟩ := id hm
      refine hE25 ?_
      clear hE25
      clear F N hr
      repeat' (fail_if_success (with_reducible show wpAny _ _ (exec (PySem.Stmt.If ..) _) _ _ _)); walk1
      refine wpAny_mono (Q := fun fl s' => Hold (fl = Flow.next ∧ ∃ h' tk m'' l'', s' = { s with heap := h', toks := tk } ∧ Fr g L h' m'' ∧ News g L h' l'' ∧ LI w g L S fr sc gr rs ac dn (Go :: Lo :: Rd :: ([S, L + 1 + 1, L + 1] ++ rs)) [Go, Lo, Rd, S, L + 1 + 1, L + 1] Rd sm f m'' l'')) ?_ (fun fl s' h => ?_) fun _ _ e => e
      · repeat' (fail_if_success (with_reducible show wpAny _ _ (isTrue _ _ _) _ _ _)); walk1
        refine wpAny_mono (Q := fun bb s' => ∃ h' tk l'', s' = { s with heap := h', toks := tk } ∧ Fr g L h' m' ∧ News g L h' l'' ∧ SrcP l'' S ∧ Ev l' l'' [S] ∧ (∀ x, Own l' x → Own l'' x) ∧ (bb = true → js.length = (ac * dn).toNat)) ?_ (fun bb s' h => ?_) fun _ _ e => e
        · repeat' (fail_if_success (with_reducible show wpAny _ _ (call (Value.ref 263) _) _ _ _)); walk1
          refine take_op B F' X T N' rfl rfl rfl (by first | exact room2 (by assumption) (by decide) | exact room1 (by assumption) (by decide) | (dsimp only; omega)) (by omega) (by omega) lb.src fun h' tk dd td l₆ F6 N6 src6 e6 k6 o6 dd0 dd1 => ?_
          refine hideGoal fun hG26 hE26 => ?_
          obtain ⟨_, _, _, _, _, kS⟩ := lb.src
          refine hE26 ?_
          clear hE26
          have lg6 := lg.ev F' N' e6 hLoS hGoS kS rfl (by intro q; injection q with q; exact absurd q (by decide)) o6
          have c16 := e6 _ c1 (by simpa using hS1) (it_cell c2)
          refine hideGoal fun hG27 hE27 => ?_
          obtain ⟨es, hD, hT, hk⟩ := id lg6.go
          refine hE27 ?_
          clear hE27
          have hesl : es.length = js.length := by have q := congrArg List.length hk; simpa using q
          have hjl : js.length ≤ 20 := by have q := hjs.length_le; rw [List.length_range] at q; omega
          clear F' N'
          repeat' (fail_if_success (with_reducible show wpAny _ _ (call (Value.builtin "len") _) _ _ _)); (fail_if_success (with_reducible show ∃ _, _)); walk1
          · refine PySem.Calls.call_len_list (hD.at (by assumption) (by assumption)) (by simp; omega) ?_
            rw [show (es.map fun e => Value.ref e.2).toArray.size = js.length by simp [hesl]]
            repeat' (fail_if_success (with_reducible show ∃ _, _)); walk1
            all_goals exact ⟨_, _, l₆, rfl, by assumption, by assumption, src6, e6, o6, fun hh => by first | omega | cases hh⟩
          · exact ⟨_, _, l₆, rfl, by assumption, by assumption, src6, e6, o6, fun h => (nomatch h)⟩
        · obtain ⟨h6, tk6, l₆, rfl, F6, N6, src6, e6, o6, hbb⟩ := h
          refine hideGoal fun hG28 hE28 => ?_
          obtain ⟨_, _, _, _, _, kS⟩ := lb.src
          refine hE28 ?_
          clear hE28
          have lb6 := lb.ev e6 (fun c hc => by rw [List.mem_singleton.mp hc]; exact lb.hS) src6 o6
          have lr6 := lr.ev F' N' e6 lb.hS (by simp) kS rfl (.inl rfl) o6
          have lg6 := lg.ev F' N' e6 hLoS hGoS kS rfl (by intro q; injection q with q; exact absurd q (by decide)) o6
          have b16 := e6 _ b1 (by simpa using hS2) (it_cell b2)
          have c16 := e6 _ c1 (by simpa using hS1) (it_cell c2)
          have hLor : Lo ∉ rs := fun q => hLoX (List.mem_cons_of_mem _ (List.mem_append_right _ q))
          have hGor : Go ∉ rs := fun q => hGoX (List.mem_cons_of_mem _ (List.mem_append_right _ q))
          have hjn : js.Nodup := hjs.nodup List.nodup_range
          have hjb : ∀ j ∈ js, j < (ac * dn).toNat := fun j hj => List.mem_range.mp (hjs.subset hj)
          clear F' N' lb lr lg b1 c1 e6 o6 src6 kS
          cases bb with
          | false =>
            k_steps
            refine ⟨?_⟩
            refine ⟨rfl, _, _, m', l₆, rfl, F6, N6, hm, ⟨_, b16, b2⟩, lb6, lr6, Lo, Go, js, js.map fun j : Nat => ((j : Int), (1 : Int)), hmL, ⟨_, c16, c2⟩, hjn, hjb, ?_, fun p hp => ?_, ?_, lost_single a1 hjn, lg6.go.offRows F6 N6 lr6.rows (fun a o k => k.1) hGor⟩
            · rw [List.map_map]
              exact lg6.lo.offRows F6 N6 lr6.rows (fun a o k => k.1) hLor
            · obtain ⟨j, hj, rfl⟩ := List.mem_map.mp hp
              have := hjb j hj
              refine ⟨Int.natCast_nonneg _, ?_, by show (0 : Int) ≤ 1; decide, by show (1 : Int) ≤ 100; decide⟩
              show (j : Int) ≤ 100
              omega
            · rw [List.length_map]
              have q := hjs.length_le
              rw [List.length_range] at q
              omega
          | true =>
            have hjN := hbb rfl
            have hje : js = List.range (ac * dn).toNat := hjs.eq_of_length (by rw [hjN, List.length_range])
            refine hideGoal fun hG29 hE29 => ?_
            obtain ⟨es, hD, hT, hk⟩ := id lg6.go
            refine hE29 ?_
            clear hE29
            have hesl : es.length = js.length := by have q := congrArg List.length hk; simpa using q
            repeat' (fail_if_success (with_reducible show wpAny _ _ (subscriptTail _ _ _ _) _ _ _)); walk1
            rename Fr _ _ _ _ => F
            rename News _ _ _ _ => N
            refine kmk_slice (lo := some 1) (hi := none) (its := (es.map fun e => Value.ref e.2).toArray) F N ((hD.mono fun a o _ k => k.sub (Ev.of fun p hp => .tail _ (.tail _ hp))).at F N) (.int _ _) .none (fun D h7 F7 N7 hlt7 => ?_) (by with_unfolding_all rfl) (by intro _; with_unfolding_all rfl) (by rw [sizeLine_eq]; simp; omega)
            have hpick : slicePick (es.map fun e => Value.ref e.2).toArray (some 1) none none = ((es.drop 1).map fun e => Value.ref e.2).toArray := by
              rw [show (1 : Int) = ((1 : Nat) : Int) from rfl, slicePick_from', List.map_drop]
            rw [hpick] at N7
            clear F N
            repeat' (fail_if_success (with_reducible show wpAny _ _ (storeName _ (Str.ofString "gone") _) _ _ _)); walk1
            rename Fr _ _ _ _ => F
            rename News _ _ _ _ => N
            refine hideGoal fun hG30 hE30 => ?_
            obtain ⟨lE, NE, qP, qD, qLx, subE'⟩ := three_news N
            refine hE30 ?_
            clear hE30
            have qT := subE' _ (.head _)
            have subE : ∀ p ∈ l₆, p ∈ lE := fun p hp => subE' p (.tail _ hp)
            have hDr : D ∉ rs := fun q => by obtain ⟨o, ho, _⟩ := lb6.own _ q; exact Nat.lt_irrefl _ (hlt7 _ (.tail _ (.tail _ ho)))
            have hD1 : TupL w (Kn g lE) D ((js.drop 1).map fun j => key2 (spot ac j)) := ⟨es.drop 1, ⟨_, _, .in qD rfl, rfl, rfl, rfl⟩, fun e he => (hT e (List.mem_of_mem_drop he)).mono fun a o _ k => k.sub (Ev.of subE), by rw [List.map_drop, hk, List.map_drop]⟩
            have hL1 := (⟨[([1, ac * dn - 1], _)], ⟨_, _, .in qLx rfl, rfl, rfl, rfl⟩, fun e he => by rw [List.mem_singleton.mp he]; exact tup2 (.in qT rfl), rfl⟩ : TupL w (Kn g lE) _ [[1, ac * dn - 1]])
            rename_i Lx _ hLx1 _ _ _ _ _ _
            have hLxr : Lx ∉ rs := fun q => by obtain ⟨o, ho, _⟩ := lb6.own _ q; exact Nat.lt_irrefl _ (allLt_all hLx1.2 _ ho)
            refine stC F NE (o := oG) (subE _ c16) c2 (fun h₄ l₄ oG' F4 N4 m4 d4 e4 k4 o4 => ?_) rfl rfl rfl
            have lb4 := (lb6.sub (Ev.of subE)).ev e4 (fun c hc => by rw [List.mem_singleton.mp hc]; simp) ((lb6.sub (Ev.of subE)).src.ev e4 (fun q => hS1 (List.mem_singleton.mp q).symm)) o4
            have lr4 := (lr6.sub (Ev.of subE)).ev F NE e4 (by simp) (by simp) (subE _ c16) (it_cell c2) (.inr ⟨_, c2⟩) o4
            have b14 := e4 _ (subE _ b16) (by simp) (it_cell b2)
            have hD4 := (hD1.monoN (P' := Kn g l₄) fun a o _ hn k => k.evN F NE e4 (subE _ c16) c2 hn).offRows F4 N4 lr4.rows (fun a o k => k.1) hDr
            have hL1 : TupL w (Kn g lE) Lx [[1, ac * dn - 1]] := hL1
            have hL4 := (hL1.monoN (P' := Kn g l₄) fun a o _ hn k => k.evN F NE e4 (subE _ c16) c2 hn).offRows F4 N4 lr4.rows (fun a o k => k.1) hLxr
            clear F N NE
            k_steps
            refine ⟨?_⟩
            refine ⟨rfl, _, _, _, l₄, rfl, by assumption, by assumption, ⟨by walk_at "m.look", ⟨_, by walk_at "m.look"⟩, ⟨_, by walk_at "m.look"⟩, by walk_at "m.look", by walk_at "m.look", by walk_at "m.look", by walk_at "m.look"⟩, ⟨_, b14, b2⟩, lb4, lr4, Lx, D, js.drop 1, [((1 : Int), (((ac * dn).toNat - 1 : Nat) : Int))], by walk_at "m.look", ⟨_, m4, d4⟩, (List.drop_sublist 1 js).nodup hjn, fun j hj => hjb j (List.mem_of_mem_drop hj), ?_, fun p hp => ?_, by simp, ?_, hD4⟩
            · rw [show (((ac * dn).toNat - 1 : Nat) : Int) = ac * dn - 1 by omega]
              exact hL4
            · rw [List.mem_singleton.mp hp]
              exact ⟨by show (0 : Int) ≤ 1; decide, by show (1 : Int) ≤ 100; decide, Int.natCast_nonneg _, by show (((ac * dn).toNat - 1 : Nat) : Int) ≤ 100; omega⟩
            · rw [lost_span a1, hje, drop_range (by omega)]
      · obtain ⟨rfl, h6, tk6, m'', l₆, rfl, F6, N6, li⟩ := h.h
        refine hideGoal fun hG31 hE31 => ?_
        obtain ⟨hm, ⟨oR, b1, b2⟩, lb, lr, Lx, Gx, js, ps, hmL, ⟨oG, c1, c2⟩, hjn, hjb, hLx, hps, hpl, hlk, hGx⟩ := li
        obtain ⟨hm1, ⟨ta, hm2⟩, ⟨tb, hm3⟩, hm4, hm5, hm6, hm7⟩ := id hm
        refine hE31 ?_
        clear hE31
        have hvals : ∀ p, In ac dn p → ∃ d e, f p = [d, e, 0, -1] ∧ -100 ≤ d ∧ d ≤ 100 ∧ (sm = true → d = 5) := fun p hp => by
          have := lr.vals (idx ac p) (idx_lt hp a1 a3)
          rw [spot_idx hp] at this
          exact this
        have good : Good ac dn (f, js.map (spot ac)) := good_of a1 a2 a3 a4 (fun p hp => by obtain ⟨d, e, h1, h2, h3, _⟩ := hvals p hp; exact ⟨d, _, h1, h2, h3⟩) hjn hjb
        clear F' N'
        repeat' (fail_if_success (with_reducible show wpAny _ _ (call (Value.ref 87) _) _ _ _)); walk1
        rename Fr _ _ _ _ => F
        rename News _ _ _ _ => N
        refine conceal_at B F X T N rfl rfl rfl (by first | exact room2 (by assumption) (by decide) | exact room1 (by assumption) (by decide) | (dsimp only; omega)) (by first | exact room2 (by assumption) (by decide) | exact room1 (by assumption) (by decide) | (dsimp only; omega)) (lb.frm.mono fun a o _ k => ⟨k.1, fun q => k.2 (lb.hX a q)⟩) (lb.scn.mono fun a o _ k => ⟨k.1, fun q => k.2 (lb.hX a q)⟩) a1 a2 a3 a4 hLx hps hpl bare (lb.grd.mono fun a o _ _ k => k.1) (S₀ := (f, js.map (spot ac))) ((lr.rows.mono fun a o _ k => k.1).congr fun x y hin => if_pos (idx_lt hin a1 a3)) lb.own good hlk fun h7 tk7 gs l₇ kk F7 N7 bg hR7 hO7 hfix e7 ki7 ow7 => ?_
        have lb7 := lb.ev e7 (fun c hc => lb.hX c hc) (lb.src.ev e7 (hZr S (.head _))) ow7
        have b17 := e7 _ b1 (hZr (L + 1) (by simp)) (it_cell b2)
        have c17 := e7 _ c1 (hZr (L + 1 + 1) (by simp)) (it_cell c2)
        have hGx7 : TupL w (Kn g l₇) Gx (js.map fun j => key2 (spot ac j)) := hGx.up (fun o _ k => k.1.ev e7 k.2) (fun a o _ k => k.1.ev e7 k.2)
        refine hideGoal fun hG32 hE32 => ?_
        obtain ⟨xs, k1, k2, k3⟩ := lr.dct
        refine hE32 ?_
        clear hE32
        have hRd7 := k1.overRows F N lr.rows (fun a o k => k.1) hRr e7
        have hX7 := lb.hX
        have k37 : ∀ x ∈ xs, ∀ p, x.1 = key2 p → ∃ b vs, x.2.2 = .ref b ∧ ListP (Kr g l₇ (Go :: Lo :: Rd :: ([S, L + 1 + 1, L + 1] ++ rs))) b vs ∧ IntsAre vs (f p) := fun x hx p hp => (k3 x hx p hp).imp fun b h => h.imp fun vs h => ⟨h.1, h.2.1.mono fun a o _ k => k.evs e7 hX7, h.2.2⟩
        clear F N lb lr b1 c1 hLx hGx k1 k3 e7 ki7 ow7
        repeat' (fail_if_success (with_reducible show wpAny _ _ (eval (PySem.Expr.ListComp ..) _) _ _ _)); walk1
        rename Fr _ _ _ _ => F
        refine hideQ fun QB1 qB1 => ?_
        refine comp_at F (tst := some (PySem.Expr.Compare _ _ _ _)) (cl := [(_, _), (_, _)]) rfl (by decide) rfl (by decide) ?_ (fun _ => rfl)
        repeat' (fail_if_success (with_reducible show ∃ _, _)); walk1
        refine hideGoal fun hG33 hE33 => ?_
        obtain ⟨oD, esD, epD, kD, exD, dtD, heD, hTD, ndD⟩ := id hRd7
        refine hE33 ?_
        clear hE33
        have hxN : xs.length = (ac * dn).toNat := by have q := congrArg List.length k2; simpa using q
        have hszD : esD.size = xs.length := by rw [← Array.length_toList, heD, List.length_map]
        refine hideGoal fun hG34 hE34 => ?_
        obtain ⟨esG, hDG, hTG, hkG⟩ := id hGx7
        refine hE34 ?_
        clear hE34
        refine ⟨_, _, _, _, _, CJ4 ac js f xs,
          CoAt.name (Sr.dict rfl loR (kD.get F N7) exD dtD) (by rw [sizeLine_eq, hszD, hxN]; omega) F N7 (src := ?_) (fun _ _ _ _ h x => CJ4.mono h x) (by exact ⟨[], rfl, fun _ h => (nomatch h), rfl, fun _ h => (nomatch h)⟩) (turn := ?_), ?_⟩
        · intro q hq; rw [List.mem_singleton.mp hq]; exact kD
        · intro q v vs' l₃ h₃ tk₃ C oC m₃ D E' hq hm3 hPv hJ hev hoff hoC F₃ N₃
          refine hideGoal fun hG35 hE35 => ?_
          obtain ⟨hp0, e, he, rfl⟩ := hPv
          refine hE35 ?_
          clear hE35
          have hqx : q < xs.length := hszD ▸ hq
          have hek : e.key = .ref xs[q].2.1 := by
            have : esD.toList[q]? = some e := by rw [Array.getElem?_toList]; exact he
            rw [heD, List.getElem?_map, List.getElem?_eq_getElem hqx] at this
            rw [← Option.some.inj this]; rfl
          rw [hek] at hm3
          have hkq : xs[q].1 = key2 (spot ac q) := by
            have e := congrArg (fun l => l[q]?) k2
            have hqN : q < (ac * dn).toNat := hxN ▸ hqx
            simpa [hqx, hqN] using e
          have up3 : ∀ a o, Kn g l₇ a o → Kn g ((C, oC) :: (D, lst vs') :: l₃) a o := fun a o k => (k.sub hev).sub (Ev.of fun p hp => .tail _ (.tail _ hp))
          have hTq := (hTD _ (List.getElem_mem hqx)).mono fun a o _ k => up3 a o k
          have hcR : (L + 1, oR) ∈ l₃ := hev _ b17 List.not_mem_nil (it_cell b2)
          have hcG : (L + 1 + 1, oG) ∈ l₃ := hev _ c17 List.not_mem_nil (it_cell c2)
          have hat := atKey_mem ndD (List.getElem_mem hqx)
          refine hideGoal fun hG36 hE36 => ?_
          obtain ⟨b, bs, hb1, hb2, hb3⟩ := k37 _ (List.getElem_mem hqx) _ hkq
          refine hE36 ?_
          clear hE36
          have hbelow : ∀ p ∈ ((C, oC) :: (D, lst vs') :: l₃), @LT.lt Nat _ p.1 h₃.objs.size := fun p hp => Heap.lt_size (N₃ p hp).1
          show wpAny _ _ _ _ _ _
          clear F
          repeat' (fail_if_success (with_reducible show wpAny _ _ (compareOp _ _ _) _ _ _)); walk1
          refine lnotin (by assumption) (by assumption) (es := esG) (hDG.mono fun a o _ k => up3 a o k) (fun e he => (hTG e he).mono fun a o _ k => up3 a o k) hTq (by first | exact roomU (by assumption) (by decide) | (simp only [units_deeper]; omega)) ?_
          rw [hkG, hkq]
          refine hideGoal fun hG37 hE37 => ?_
          obtain ⟨ts, t1, t2, t3, t4⟩ := hJ
          refine hE37 ?_
          clear hE37
          by_cases hgone : spot ac q ∈ js.map (spot ac)
          · have hmk : key2 (spot ac q) ∈ js.map fun j => key2 (spot ac j) := by
              obtain ⟨j, hj, e⟩ := List.mem_map.mp hgone
              exact List.mem_map.mpr ⟨j, hj, by rw [e]⟩
            rw [decide_eq_true hmk]
            simp only [Bool.not_true]
            k_steps
            refine ⟨_, _, _, rfl, by assumption, by assumption, fun p hp => hp, ts, t1, t2, ?_, t4⟩
            rw [List.range_succ, List.map_append, List.filter_append, List.map_append, t3, show ([q].map (spot ac)) = [spot ac q] from rfl, List.filter_cons_of_neg (fun h => (of_decide_eq_true h) hgone), List.filter_nil, List.map_nil, List.append_nil]
          · have hmk : key2 (spot ac q) ∉ js.map fun j => key2 (spot ac j) := fun hm => by
              obtain ⟨j, hj, e⟩ := List.mem_map.mp hm
              exact hgone (List.mem_map.mpr ⟨j, hj, key2_inj e⟩)
            rw [decide_eq_false hmk]
            simp only [Bool.not_false]
            repeat' (fail_if_success (with_reducible show wpAny _ _ (subscriptTail _ _ _ _) _ _ _)); walk1
            refine dsub (by assumption) (by assumption) (hRd7.mono fun a o _ k => up3 a o k) hTq (by first | exact roomU (by assumption) (by decide) | (simp only [units_deeper]; omega)) hat fun tk₅ => ?_
            rw [hb1]
            repeat' (fail_if_success (with_reducible show wpAny _ _ (subscriptTail _ _ _ _) _ _ _)); walk1
            refine hideGoal fun hG38 hE38 => ?_
            obtain ⟨d, e, hf, _⟩ := hvals _ (spot_in a1 a3 (hxN ▸ hqx))
            refine hE38 ?_
            clear hE38
            have hhd : hdv f (spot ac q) = d := by unfold hdv; rw [hf]; rfl
            rw [hf] at hb3
            refine hideGoal fun hG39 hE39 => ?_
            obtain ⟨td, bs', rfl, _⟩ := hb3.cons_inv
            refine hE39 ?_
            clear hE39
            refine lsub (by assumption) (by assumption) (hb2.mono fun a o _ k => up3 a o k.1) (by decide) (by decide) (v := .int d td) rfl ?_
            repeat' (fail_if_success (with_reducible show TEnd _ _ _ _ _ _ _ _ _)); walk1
            rename Fr _ _ _ _ => F5
            rename News _ _ _ _ => N5
            refine hideGoal fun hG40 hE40 => ?_
            obtain ⟨lE, NE, qT, subE⟩ := one_news N5
            refine hE40 ?_
            clear hE40
            refine ⟨_, _, lE, rfl, F5, NE, subE, ts ++ [(_, key2 (spot ac q), xs[q].2.1, .int d td)], by rw [t1, List.map_append]; rfl, fun t ht => ?_, ?_, fun t ht => ?_⟩
            · rcases List.mem_append.mp ht with ht | ht
              · exact (t2 t ht).imp fun o z => z.imp fun n z => ⟨⟨z.1.1.sub (Ev.of subE), z.1.2⟩, z.2⟩
              · rw [List.mem_singleton.mp ht]
                exact ⟨_, _, ⟨.in qT rfl, fun e => Nat.lt_irrefl _ (e ▸ hbelow _ (.head _)), fun e => Nat.lt_irrefl _ (e ▸ hbelow _ (.tail _ (.head _)))⟩, rfl, rfl⟩
            · rw [List.map_append, List.range_succ, List.map_append, List.filter_append, List.map_append, t3, show ([q].map (spot ac)) = [spot ac q] from rfl, List.filter_cons_of_pos (p := fun p => decide (p ∉ js.map (spot ac))) (decide_eq_true hgone)]
              rfl
            · rcases List.mem_append.mp ht with ht | ht
              · exact t4 t ht
              · rw [List.mem_singleton.mp ht]
                exact ⟨⟨xs[q], List.getElem_mem hqx, hkq.symm, rfl⟩, fun p hp => ⟨td, by rw [← key2_inj hp, hhd]⟩⟩
        · intro D h3' tk3 vs l3 hJ hlen' F3' N3' hoff hk hev
          refine qB1 _ _ ?_
          clear qB1
          obtain ⟨ts, t1, t2, t3, t4⟩ := hJ
          rw [show esD.size = (ac * dn).toNat from hszD.trans hxN] at t3
          have evD : Ev l₇ ((D, lst vs) :: l3) [] := hev.trans (Ev.of fun p hp => .tail _ hp)
          have hnd : (ts.map (·.2.1)).Nodup := by rw [t3]; exact keys_nodup
          have htl : ts.length ≤ 20 := by
            have q := congrArg List.length t3
            rw [List.length_map, List.length_map] at q
            have q2 := List.length_filter_le (fun p => decide (p ∉ js.map (spot ac))) ((List.range (ac * dn).toNat).map (spot ac))
            rw [List.length_map, List.length_range] at q2
            omega
          clear F N7
          dsimp only
          repeat' (fail_if_success (with_reducible show wpAny _ _ (call (Value.type "dict") _) _ _ _)); walk1
          refine dict_pairs (ts := ts) (by assumption) (by assumption) ⟨_, _, .in (.head _) rfl, rfl, by rw [← t1], rfl⟩ (fun t ht => ⟨(t2 t ht).imp fun o z => z.imp fun n z => ⟨z.1.sub (Ev.of fun p hp => .tail _ hp), z.2⟩, ?_⟩) hnd rfl (by first | exact roomU (by assumption) (by decide) | (simp only [units_deeper]; omega)) (by rw [sizeLine_eq]; omega) hbig fun h8 tk8 Dd oDd F8 N8 hlt8 xd id8 lod => ?_
          · obtain ⟨⟨x, hx, e1, e2⟩, _⟩ := t4 t ht
            rw [e1, e2]
            exact (hTD x hx).mono fun a o _ k => k.sub evD
          · have kst := known_start (f := f) a1 a3 t3 fun t ht => (t4 t ht).2
            have ev8 : Ev l₇ ((Dd, oDd) :: (D, lst vs) :: l3) [] := evD.trans (Ev.of fun p hp => .tail _ hp)
            have hcG : (L + 1 + 1, oG) ∈ l3 := hev _ c17 List.not_mem_nil (it_cell c2)
            have hGx8 := hGx7.mono (P' := Kn g ((Dd, oDd) :: (D, lst vs) :: l3)) fun a o _ k => k.sub ev8
            clear F3' N3'
            repeat' (fail_if_success (with_reducible show wpAny _ _ (call (Value.ref 275) _) _ _ _)); walk1
            refine filled_at B (by assumption) X T (by assumption) rfl rfl rfl (by first | exact room2 (by assumption) (by decide) | exact room1 (by assumption) (by decide) | (dsimp only; omega)) (by first | exact room2 (by assumption) (by decide) | exact room1 (by assumption) (by decide) | (dsimp only; omega)) a1 a2 a3 a4 good xd lod kst (by rw [List.map_map]; exact hGx8) fun h9 tk9 Du xe l9 F9 N9 dE hE loE sub9 => ?_
            have ev9 : Ev l₇ l9 [] := ev8.trans (Ev.of sub9)
            have e1 := Fix.eq hfix (fix_end good.inn a1 a3)
            obtain ⟨SE, hSE⟩ : ∃ SE, SE = iterS ac dn (ac + dn).toNat (f, js.map (spot ac)) := ⟨_, rfl⟩
            rw [e1, ← hSE] at hR7
            rw [← hSE] at hE
            have hFin : ∀ p, p ∉ js.map (spot ac) ∨ p ∈ SE.2 → SE.1 p = f p := fun p h => by rw [hSE] at h ⊢; exact final_keep h
            have hFil : ∀ p, p ∈ js.map (spot ac) → p ∉ SE.2 → SE.1 p = [hdv SE.1 p, 0, 0, 0] := fun p h h2 => by rw [hSE] at h2 ⊢; exact filled_row _ h h2
            have hFive : sm = true → ∀ p, In ac dn p → hdv SE.1 p = 5 := fun h p hp => by
              rw [hSE]
              exact all_five (S := (f, js.map (spot ac))) (fun q hq => by obtain ⟨d, e, h1, _, _, h2⟩ := hvals q hq; rw [hdv_of h1]; exact h2 h) _ p hp
            have hSome : ∀ p, In ac dn p → ∃ d r, SE.1 p = d :: r := fun p hp => by
              by_cases h : p ∉ js.map (spot ac) ∨ p ∈ SE.2
              · obtain ⟨d, e, h1, _⟩ := hvals p hp
                exact ⟨_, _, (hFin p h).trans h1⟩
              · rw [not_or, Classical.not_not] at h
                exact ⟨_, _, hFil p h.1 h.2⟩
            have lz : LZ w g L gr rs Rd Gx oD ac dn js f SE.1 xs l9 := LZ.sub ⟨⟨_, b17, b2⟩, ⟨_, c17, c2⟩, lb7.grd.mono fun a o _ _ k => k.1, hR7, kD, hRd7, fun x hx p hp => (k37 x hx p hp).imp fun b h => h.imp fun vs h => ⟨h.1, h.2.1.mono fun a o _ k => k.1, h.2.2⟩, hGx7⟩ ev9
            have hcR9 := ev9 _ b17 List.not_mem_nil (it_cell b2)
            have hjl : js.length ≤ 20 := by
              have := nodup_len (m := List.range (ac * dn).toNat) hjn fun j hm => List.mem_range.mpr (hjb j hm)
              rw [List.length_range] at this
              omega
            clear F8 N8 b17 c17 hR7 hGx7 hRd7 lb7 hGx8 hcG xd hfix e1 hSE kD hTD hDG hTG k37 evD ev8 kst t1 t2 t3 t4 hnd ev9 sub9
            repeat' (fail_if_success (with_reducible show wpAny _ _ (exec (PySem.Stmt.For ..) _) _ _ _)); walk1
            rename Fr _ _ _ _ => F
            refine hideQ fun QA3 qA3 => ?_
            refine For_at F ?_
            repeat' (fail_if_success (with_reducible show ∃ _, _)); walk1
            rename News _ _ _ _ => N
            refine ⟨_, _, _, _, _, fun _ => Inv3 w g L S fr sc gr Rd Gx Du oD rs ac dn sm js f SE.1 xs xe,
              {S := Sr.dict rfl loR (lz.kR.get F N) exD dtD, hL := fun hm => lz.kR.neL F N (List.mem_singleton.mp hm).symm, F := F, N := N, src := ?_, mono := ?_, j0 := ?_, step := ?_, done := ?_}⟩
            · rintro _ _ _ ⟨_, _, z, _⟩ q hq; rw [List.mem_singleton.mp hq]; exact z.kR
            · exact fun _ _ _ _ ev h => h.sub ev
            · exact ⟨⟨by walk_at "m.look", ⟨_, by walk_at "m.look"⟩, ⟨_, by walk_at "m.look"⟩, by walk_at "m.look", by walk_at "m.look", by walk_at "m.look", by walk_at "m.look"⟩, by walk_at "m.look", lz, dE⟩
            · clear F N lz dE hcR9
              intro i v m₂ l₂ h₂ tk₂ hi hPi hI9 hK2 F₂ N₂
              clear qA3
              refine hideGoal fun hG41 hE41 => ?_
              obtain ⟨hmZ, hmD, lz, dE⟩ := hI9
              refine hE41 ?_
              clear hE41
              refine hideAE fun PP3 qP3 => ?_
              refine hideGoal fun hG42 hE42 => ?_
              obtain ⟨hm1, ⟨ta, hm2⟩, ⟨tb, hm3⟩, hm4, hm5, hm6, hm7⟩ := id hmZ
              obtain ⟨e, he, rfl⟩ := hPi
              refine hE42 ?_
              clear hE42
              have hix : i < xs.length := hszD ▸ hi
              have hek : e.key = .ref xs[i].2.1 := by
                have : esD.toList[i]? = some e := by rw [Array.getElem?_toList]; exact he
                rw [heD, List.getElem?_map, List.getElem?_eq_getElem hix] at this
                rw [← Option.some.inj this]; rfl
              rw [hek]
              have hki : xs[i].1 = key2 (spot ac i) := by
                have e := congrArg (fun l => l[i]?) k2
                have hiN : i < (ac * dn).toNat := hxN ▸ hix
                simpa [hix, hiN] using e
              have hin := spot_in a1 a3 (hxN ▸ hix)
              generalize spot ac i = p at hki hin
              have hTi : TupP prg w (Kn g l₂) xs[i].1 xs[i].2.1 := by
                obtain ⟨_, _, _, _, _, _, _, t, _⟩ := lz.dR
                exact t _ (List.getElem_mem hix)
              have hat := atKey_mem ndD (List.getElem_mem hix)
              refine hideGoal fun hG43 hE43 => ?_
              obtain ⟨b, bs, hb1, hb2, hb3⟩ := lz.vR _ (List.getElem_mem hix) _ hki
              refine hE43 ?_
              clear hE43
              clear hek he
              generalize xs[i] = x at *
              obtain ⟨xk, xa, xv⟩ := x
              simp only at hki hTi hat hb1
              subst hki hb1
              refine hideGoal fun hG44 hE44 => ?_
              obtain ⟨oR2, q1, q2⟩ := lz.cR
              obtain ⟨oG2, q3, q4⟩ := lz.cG
              refine hE44 ?_
              clear hE44
              dsimp only
              repeat' (fail_if_success (with_reducible show wpAny _ _ (subscriptTail _ _ _ _) _ _ _)); walk1
              refine dsub (by assumption) (by assumption) lz.dR hTi (by first | exact roomU (by assumption) (by decide) | (simp only [units_deeper]; omega)) hat fun tk₅ => ?_
              dsimp only
              clear F₂ N₂
              repeat' (fail_if_success (with_reducible show wpAny _ _ (exec (PySem.Stmt.If ..) _) _ _ _)); walk1
              rename Fr _ _ _ _ => F3
              rename News _ _ _ _ => N3
              refine wpAny_mono (Q := fun fl s' => Hold (fl = Flow.next ∧ ∃ h' tk m'' l'' r ws, s' = { s with heap := h', toks := tk, gens := gs } ∧ Fr g L h' m'' ∧ News g L h' l'' ∧ KeepIt l₂ l'' ∧ Ev l₂ l'' [] ∧ LM S fr sc gr ac dn sm m'' ∧ m'' (Str.ofString "due") = some (.ref Du) ∧ m'' (Str.ofString "spot") = some (.ref xa) ∧ m'' (Str.ofString "row") = some (.ref r) ∧ ListP (Kn g l'') r ws ∧ IntsAre ws (SE.1 p))) ?_ (fun fl s' h => ?_) fun _ _ e => e
              · obtain ⟨esG, hDG, hTG, hkG⟩ := id lz.gon
                repeat' (fail_if_success (with_reducible show wpAny _ _ (compareOp _ _ _) _ _ _)); walk1
                refine lin (by assumption) (by assumption) hDG hTG hTi (by first | exact roomU (by assumption) (by decide) | (simp only [units_deeper]; omega)) ?_
                rw [hkG]
                by_cases hgone : p ∈ js.map (spot ac)
                · have hmk : key2 p ∈ js.map fun j => key2 (spot ac j) := by
                    obtain ⟨j, hj, e⟩ := List.mem_map.mp hgone
                    exact List.mem_map.mpr ⟨j, hj, by rw [e]⟩
                  rw [decide_eq_true hmk]
                  repeat' (fail_if_success (with_reducible show wpAny _ _ (compareOp _ _ _) _ _ _)); walk1
                  refine din (by assumption) (by assumption) dE hTi (by first | exact roomU (by assumption) (by decide) | (simp only [units_deeper]; omega)) loE fun tk₆ => ?_
                  by_cases hS : p ∈ SE.2
                  · rw [hE.none hS]
                    simp only [Option.isSome_none]
                    k_steps
                    exact ⟨rfl, _, _, _, l₂, _, _, rfl, by assumption, by assumption, KeepIt.refl, Ev.refl, ⟨by walk_at "m.look", ⟨_, by walk_at "m.look"⟩, ⟨_, by walk_at "m.look"⟩, by walk_at "m.look", by walk_at "m.look", by walk_at "m.look", by walk_at "m.look"⟩, by walk_at "m.look", by walk_at "m.look", by walk_at "m.look", hb2, by rw [hFin p (.inr hS)]; exact hb3⟩
                  · obtain ⟨_, _, _, _, _, _, _, _, ndE⟩ := id dE
                    obtain ⟨a, t, ha⟩ := hE.get ndE hin hS
                    rw [ha]
                    simp only [Option.isSome_some]
                    repeat' (fail_if_success (with_reducible show wpAny _ _ (subscriptTail _ _ _ _) _ _ _)); walk1
                    refine dsub (by assumption) (by assumption) dE hTi (by first | exact roomU (by assumption) (by decide) | (simp only [units_deeper]; omega)) ha fun tk₇ => ?_
                    dsimp only
                    k_steps
                    rename News _ _ _ _ => N5
                    exact ⟨rfl, _, _, _, _, _, [.int _ _, .int 0 _, .int 0 _, .int 0 _], rfl, by assumption, by assumption, KeepIt.of fun p hp => .tail _ hp, Ev.of fun p hp => .tail _ hp, ⟨by walk_at "m.look", ⟨_, by walk_at "m.look"⟩, ⟨_, by walk_at "m.look"⟩, by walk_at "m.look", by walk_at "m.look", by walk_at "m.look", by walk_at "m.look"⟩, by walk_at "m.look", by walk_at "m.look", by walk_at "m.look", ⟨_, _, .in (.head _) rfl, rfl, rfl, rfl⟩, by rw [hFil p hgone hS]; exact .cons _ _ (.cons _ _ (.cons _ _ (.cons _ _ .nil)))⟩
                · have hmk : key2 p ∉ js.map fun j => key2 (spot ac j) := fun hm => by
                    obtain ⟨j, hj, e⟩ := List.mem_map.mp hm
                    exact hgone (List.mem_map.mpr ⟨j, hj, key2_inj e⟩)
                  rw [decide_eq_false hmk]
                  k_steps
                  exact ⟨rfl, _, _, _, l₂, _, _, rfl, by assumption, by assumption, KeepIt.refl, Ev.refl, ⟨by walk_at "m.look", ⟨_, by walk_at "m.look"⟩, ⟨_, by walk_at "m.look"⟩, by walk_at "m.look", by walk_at "m.look", by walk_at "m.look", by walk_at "m.look"⟩, by walk_at "m.look", by walk_at "m.look", by walk_at "m.look", hb2, by rw [hFin p (.inl hgone)]; exact hb3⟩
              · obtain ⟨rfl, h4, tk4, m4, l4, r, ws, rfl, F4, N4, k4, ev4, hm4Z, hd4, hs4, hr4, hws, hwi⟩ := h.h
                clear F3 N3 hm1 hm2 hm3 hm4 hm5 hm6 hm7
                have lz4 := lz.sub ev4
                have dE4 := dE.mono (P' := Kn g l4) fun a o _ k => k.sub ev4
                have hTi4 := hTi.mono (P' := Kn g l4) fun a o _ k => k.sub ev4
                refine hideGoal fun hG45 hE45 => ?_
                obtain ⟨t1, t2, hv4⟩ := hTi4.two
                obtain ⟨hm1, ⟨ta, hm2⟩, ⟨tb, hm3⟩, hm4, hm5, hm6, hm7⟩ := id hm4Z
                obtain ⟨oR4, q1', q2'⟩ := lz4.cR
                obtain ⟨oG4, q3', q4'⟩ := lz4.cG
                obtain ⟨gd, pl, p0, gts, kg1, kg2, _⟩ := id lz4.grd
                obtain ⟨rr, cs, ga, gvs, hr1, hr2, hr3, hr5, hr6, _⟩ := lz4.rws.cell (x := p.1) (y := p.2) hin.2 hin.1 rfl
                refine hE45 ?_
                clear hE45
                clear lz dE hTi q1 q3
                dsimp only
                repeat' (fail_if_success (with_reducible show wpAny _ _ (subscriptTail _ _ _ _) _ _ _)); walk1
                refine tsub (by assumption) (by assumption) hv4 (by decide) (by decide) (j := 0) rfl rfl ?_
                repeat' (fail_if_success (with_reducible show wpAny _ _ (subscriptTail _ _ _ _) _ _ _)); walk1
                refine tsub (by assumption) (by assumption) hv4 (by decide) (by decide) (j := 1) rfl rfl ?_
                repeat' (fail_if_success (with_reducible show wpAny _ _ (call (Value.ref 200) _) _ _ _)); walk1
                rename Fr _ _ _ _ => F5
                rename News _ _ _ _ => N5
                refine get_at B F5 X T N5 rfl rfl rfl (by first | exact room2 (by assumption) (by decide) | exact room1 (by assumption) (by decide) | (dsimp only; omega)) (by first | exact room2 (by assumption) (by decide) | exact room1 (by assumption) (by decide) | (dsimp only; omega)) lz4.grd (Int.natCast_nonneg _) (by have := hin.1; omega) (Int.natCast_nonneg _) (by have := hin.2; omega) (by simpa using hr1) hr2 (by simpa using hr3) fun h5 tk5 F6 N6 => ?_
                clear F5 N5
                repeat' (fail_if_success (with_reducible show wpAny _ _ (compareOp _ _ _) _ _ _)); walk1
                rename Fr _ _ _ _ => F5
                rename News _ _ _ _ => N5
                refine ne_intsK (hr5.at F5 N5) hr6 (hws.at F5 N5) hwi (by first | exact roomU (by assumption) (by decide) | (simp only [units_deeper]; omega)) ?_
                rw [show (!decide (SE.1 p = SE.1 p)) = false by simp]
                repeat' (fail_if_success (with_reducible show wpAny _ _ (exec (PySem.Stmt.If (PySem.Expr.BoolOp ..) _ _ _) _) _ _ _)); walk1
                cases sm with
                | false =>
                  k_steps
                  exact qP3 _ _ ⟨_, _, _, l4, rfl, by assumption, by assumption, k4, ⟨by walk_at "m.look", ⟨_, by walk_at "m.look"⟩, ⟨_, by walk_at "m.look"⟩, by walk_at "m.look", by walk_at "m.look", by walk_at "m.look", by walk_at "m.look"⟩, by walk_at "m.look", lz4, dE4⟩
                | true =>
                  refine hideGoal fun hG46 hE46 => ?_
                  obtain ⟨d, r5, h5⟩ := hSome p hin
                  refine hE46 ?_
                  clear hE46
                  have hd5 : d = 5 := by rw [← hFive rfl p hin, hdv_of h5]
                  subst hd5
                  rw [h5] at hwi
                  refine hideGoal fun hG47 hE47 => ?_
                  obtain ⟨t5, ws', rfl, _⟩ := hwi.cons_inv
                  obtain ⟨esG, hDG, hTG, hkG⟩ := id lz4.gon
                  refine hE47 ?_
                  clear hE47
                  have hesl : esG.length = js.length := by have q := congrArg List.length hkG; simpa using q
                  repeat' (fail_if_success (with_reducible show wpAny _ _ (call (Value.builtin "len") _) _ _ _)); walk1
                  refine PySem.Calls.call_len_list (hDG.at (by assumption) (by assumption)) (by simp; omega) ?_
                  repeat' (fail_if_success (with_reducible show wpAny _ _ (call (Value.builtin "len") _) _ _ _)); walk1
                  refine dlen (by assumption) (by assumption) lz4.dR loR (by omega) fun tl tk8 => ?_
                  repeat' (fail_if_success (with_reducible show wpAny _ _ (subscriptTail _ _ _ _) _ _ _)); (fail_if_success (with_reducible show ∃ _, _)); walk1
                  · refine lsub (by assumption) (by assumption) hws (by decide) (by decide) (v := .int 5 t5) rfl ?_
                    k_steps
                    exact qP3 _ _ ⟨_, _, _, l4, rfl, by assumption, by assumption, k4, ⟨by walk_at "m.look", ⟨_, by walk_at "m.look"⟩, ⟨_, by walk_at "m.look"⟩, by walk_at "m.look", by walk_at "m.look", by walk_at "m.look", by walk_at "m.look"⟩, by walk_at "m.look", lz4, dE4⟩
                  · exact qP3 _ _ ⟨_, _, _, l4, rfl, by assumption, by assumption, k4, ⟨by walk_at "m.look", ⟨_, by walk_at "m.look"⟩, ⟨_, by walk_at "m.look"⟩, by walk_at "m.look", by walk_at "m.look", by walk_at "m.look", by walk_at "m.look"⟩, by walk_at "m.look", lz4, dE4⟩
            · intro h' tk m' l' F' N' _ _
              refine qA3 _ _ ?_
              clear F N
              k_steps
              exact hR _ _ _ (Fr.keep (by assumption)) bg
end
end
theorem calm19 : True := by (w_top off); first | walk1 | trivial
theorem word94 : True := by
  k_with_none
  trivial
end Mine
open PySem PySem.W PyProof.Rows PySem.Calls PySem.Spec PyProof.Rows.LCg
theorem PySem.Challenge.cw_nt0554_01_holds : PySem.Challenge.rw_nt0554_01.Holds := by
  refine Mine.hd ?_
  intro w s₀ s₁ mg mb G Y fa o pm cd doc dV kV ho hd hcd hD hmg hg args vals as hpre hlay hrd hwl hlo
  have KX := kIn_of Y
  have X := (Ground.X G).1
  have V := (Ground.X G).2
  refine Ground.open G ?_
  intro T B D TE TW
  clear D
  wrow_args hpre hlay hrd hwl hlo
  have e1 : mg (Str.ofString "law") = some (.ref 280) := mg_of KX T.g (by kernel_rfl)
  have e2 : mg (Str.ofString "law") = some (.ref fa) := hmg
  have e3 : fa = 280 := by
    rw [e1] at e2
    injection e2 with e2
    injection e2 with e2
    exact e2.symm
  subst e3
  clear hmg ho hd hcd hD e1 e2
  have K0 := below_caller (Top.heap T)
  refine wpAny_call (Mine.law_spec (g := s₁.heap) ⟨⟨_, _, K0⟩, KX, ⟨_, _, _, T⟩, rfl⟩ (Mine.Sub.refl _) (by decide) (by decide) (by assumption) (by assumption) (by omega) (AllBare.of_eq hg) fun h' tk gs keep bg => ?_)
  refine ⟨.inl ⟨.bool true, .bool true, [], rfl, fun _ => rfl, .bool _, ?_, fun _ => ⟨.nil, fun _ h => nomatch h⟩⟩, .of_keep keep, rfl, bg⟩
  wrow_post
