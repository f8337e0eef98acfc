import PyProof.Rows.All
import Wide.All
import OpenK.AllK
import Wide.FinOn
import PySem.Challenge.RW_pc0091_01
open PySem PySem.W PyProof.Rows PySem.Calls
set_option Elab.async false
set_option linter.unusedVariables false
namespace Mine
section
local macro_rules | `(tactic| o_head $_) => `(tactic| assumption)
set_option maxRecDepth 100000 in
set_option maxHeartbeats 8000000 in
theorem k0 (x : PySem.Challenge.rw_pc0091_01.row.Holds) : PySem.Challenge.rw_pc0091_01.row.Holds := by k_head
end
section
section
noncomputable def KeepBut (D : List Addr) (h h' : Heap) : Prop := ∀ b o, h.get? b = some o → b ∉ D → h'.get? b = some o
noncomputable def SlotBut (D : List Addr) (h h' : Heap) : Prop := ∀ b o, h.get? b = some o → (∀ vs, o.data ≠ .fields vs) → b ∉ D → ∃ sl, h'.get? b = some { o with slots := sl }
theorem KeepBut.nil {h h' : Heap} (k : KeepBut [] h h') : ∀ b o, h.get? b = some o → h'.get? b = some o := fun b o e => k b o e List.not_mem_nil
theorem News.sub {h₀ h : Heap} {L : Addr} {l l' : List (Addr × Obj)} (N : News h₀ L h l) (hs : ∀ p ∈ l', p ∈ l) : News h₀ L h l' := fun p hp => N p (hs p hp)
theorem News.app {h₀ h : Heap} {L : Addr} {l l' : List (Addr × Obj)} (N : News h₀ L h l) (N' : News h₀ L h l') : News h₀ L h (l ++ l') := fun p hp => (List.mem_append.mp hp).elim (N p) (N' p)
theorem News.kept {h₀ h h' : Heap} {L : Addr} {D : List Addr} {l : List (Addr × Obj)} (N : News h₀ L h l) (k : KeepBut D h h') (hd : ∀ p ∈ l, p.1 ∉ D) : News h₀ L h' l :=
  fun p hp => ⟨k _ _ (N p hp).1 (hd p hp), (N p hp).2.1, (N p hp).2.2⟩
theorem News.kept0 {h₀ h h' : Heap} {L : Addr} {l : List (Addr × Obj)} (N : News h₀ L h l) (k : KeepBut [] h h') : News h₀ L h' l := News.kept N k fun _ _ => List.not_mem_nil
noncomputable abbrev aTop (dp un : Nat) (gd : Option (List Code)) (env : Env) (outer : List Env) : Around := { handled := none, depth := dp, frames := some (env :: outer), guards := gd, units := un }
structure Stands (env : Env) (L : Addr) : Prop where
  frame : env.frame = some L
  kind : env.scope.kind = .function
theorem Stands.of {L' f : Addr} {qual : Str} {scope : Scope} {cdv : Value} (hk : scope.kind = .function := by rfl) : Stands (envOf qual scope L' f cdv) L' := ⟨rfl, hk⟩
noncomputable def Con (w : World) (n : Nat) (t : Sem Value) (core : List (Addr × Obj)) (D : List Addr) (ok : Value → List (Addr × Obj) → Prop) (er : Heap → List Env → Heap → Addr → Heap → Prop) : Prop :=
  ∀ (dp un : Nat) (gd : Option (List Code)) (env : Env) (outer : List Env) (A₀ : Around) (base h₀ : Heap) (L : Addr) (m : Str → Option Value)
    (p : Program) (loose : List Str) (mean : ExcName → Option Value) (mg mb : Str → Option Value) (s : Shared) (Q E : Value → Shared → Prop),
    Below A₀ base outer h₀ → Fr h₀ L s.heap m → Frag.In (Mine.k0.heap_1 w.params) h₀ → News h₀ L s.heap core → Top p loose mean mg mb h₀ → Stands env L → dp + n < recursionLimit → un + 20 * n < cLine →
    (∀ v nw h' tk', ok v nw → Fr h₀ L h' m → News h₀ L h' nw → KeepBut D s.heap h' → (∀ p ∈ nw, p.1 ∈ core.map (·.1) ∨ s.heap.get? p.1 = none) → Q v { s with heap := h', toks := tk' }) →
    (∀ e h' tk', er base (env :: outer) s.heap e h' → E (.ref e) { s with heap := h', toks := tk' }) →
    wpAny (model PySem.Challenge.pw_pc0091_01 w) (aTop dp un gd env outer) t Q E s
noncomputable abbrev noEr : Heap → List Env → Heap → Addr → Heap → Prop := fun _ _ _ _ _ => False
noncomputable abbrev PureC (w : World) (n : Nat) (f : Addr) (vs : List Value) (R : Value → Prop) : Prop := Con w n (call (.ref f) vs) [] [] (fun v nw => R v ∧ nw = []) noEr
section
variable {w : World} {n : Nat} {t : Sem Value} {core rest : List (Addr × Obj)} {D : List Addr} {ok : Value → List (Addr × Obj) → Prop} {er : Heap → List Env → Heap → Addr → Heap → Prop}
  {f : Addr} {vs : List Value} {R : Value → Prop} {dp un : Nat} {gd : Option (List Code)} {env : Env} {outer : List Env} {A₀ : Around} {base h₀ : Heap} {L : Addr} {m : Str → Option Value}
  {p : Program} {loose : List Str} {mean : ExcName → Option Value} {mg mb : Str → Option Value} {led : List (Addr × Obj)} {s : Shared} {Q E : Value → Shared → Prop}
theorem PureC.use (C : PureC w n f vs R)
    (B : Below A₀ base outer h₀) (F : Fr h₀ L s.heap m) (X : Frag.In (Mine.k0.heap_1 w.params) h₀) (N : News h₀ L s.heap led) (T : Top p loose mean mg mb h₀) (hk : Stands env L) (hd : dp + n < recursionLimit) (hu : un + 20 * n < cLine)
    (ret : ∀ v, R v → ∀ h' tk', Fr h₀ L h' m → News h₀ L h' led → Q v { s with heap := h', toks := tk' }) : wpAny (model PySem.Challenge.pw_pc0091_01 w) (aTop dp un gd env outer) (call (.ref f) vs) Q E s :=
  C _ _ _ _ _ _ _ _ _ _ _ _ _ _ _ _ _ _ B F X News.nil T hk hd hu (fun v _ h' tk' hv F' _ k _ => ret v hv.1 h' tk' F' (News.kept0 N k)) fun _ _ _ h => h.elim
theorem Con.use (C : Con w n t core D ok er)
    (B : Below A₀ base outer h₀) (F : Fr h₀ L s.heap m) (X : Frag.In (Mine.k0.heap_1 w.params) h₀) (N : News h₀ L s.heap led) (T : Top p loose mean mg mb h₀) (hk : Stands env L) (hd : dp + n < recursionLimit) (hu : un + 20 * n < cLine)
    (hs : ∀ p ∈ core, p ∈ led)
    (ret : ∀ v nw, ok v nw → ∀ h' tk', Fr h₀ L h' m → News h₀ L h' nw → KeepBut D s.heap h' → (∀ p ∈ nw, p.1 ∈ core.map (·.1) ∨ s.heap.get? p.1 = none) → Q v { s with heap := h', toks := tk' })
    (exc : ∀ e h' tk', er base (env :: outer) s.heap e h' → E (.ref e) { s with heap := h', toks := tk' }) : wpAny (model PySem.Challenge.pw_pc0091_01 w) (aTop dp un gd env outer) t Q E s :=
  C _ _ _ _ _ _ _ _ _ _ _ _ _ _ _ _ _ _ B F X (News.sub N hs) T hk hd hu (fun v nw h' tk' hv F' N' k hn => ret v nw hv h' tk' F' N' k hn) exc
end
structure Ent (s : Shared) (core : List (Addr × Obj)) (g : Heap) : Prop where
  up : ∀ b o, s.heap.get? b = some o → b ∉ core.map (·.1) → g.get? b = some o
  down : ∀ b o, g.get? b = some o → s.heap.get? b = some o
theorem code_defE {prog : Program} {w : World} {A A₀ : Around} {s : Shared} {K : Frag} {L : Addr} {h₀ base : Heap} {m mg mb : Str → Option Value} {news : List (Addr × Obj)} {p : Program} {loose : List Str} {mean : ExcName → Option Value}
    {env : Env} {outer : List Env} {R : Result → Shared → Prop} {name qual : Str} {params : Arguments} {body : List Stmt} {scope : Scope} {dV kV doc pm cdv ct oc : Value} {an od : Option Addr} {osl : Array (Option Value)} {f : Addr} {args : Args} {binds : List (Str × Value)}
    (B : Below A₀ base outer h₀) (F : Fr h₀ L s.heap m) (X₀ : K.In h₀) (N : News h₀ L s.heap news) (T : Top p loose mean mg mb h₀) (hA : A.frames = some (env :: outer)) (hf : env.frame = some L) (hke : env.scope.kind = .function)
    (ho : K.lookup f = some ⟨oc, od, .func (fnOf name qual params body scope dV kV doc pm an cdv ct), osl⟩) (hcd : codeIn K cdv qual = true) (hroom : A.depth < recursionLimit)
    (hbind : BindsTo s (fnOf name qual params body scope dV kV doc pm an cdv ct) args binds) (hloc : ∀ y ∈ binds, scope.names.lookup y.1 = some .local)
    (h : ∀ g L' h₁, Fr h₀ L g m → Fr g L' h₁ (fun y => binds.reverse.lookup y) → News g L' h₁ news → Below A base (env :: outer) g → K.In g → Top p loose mean mg mb g → Ent s news g →
      wpAny (model prog w) (A.deeper (envOf qual scope L' f cdv)) (execs body (envOf qual scope L' f cdv))
        (fun fl s' => LeaveK h₀ L m g R (match fl with | .ret v => v | _ => .none) s')
        (fun e s' => wpAny (model prog w) (A.deeper (envOf qual scope L' f cdv)) (leaving (envOf qual scope L' f cdv) e) (fun _ s'' => R (.error e) s'') (fun e' s'' => R (.error e') s'') s')
        { s with heap := h₁, toks := s.toks + binds.length })
    (hco : scope.isCoroutine = false) (hgen : scope.isGenerator = false) (hk : scope.kind = .function)
    (hcell : ∀ x ∈ scope.names, x.2 ≠ .cell) : codeAny (model prog w) A (.call (.ref f) args) R s := by
  obtain ⟨FG, BG, st, lv⟩ := groundX (R := R) B F N hA hf hke
  refine codeAny_call_def (fd := fnX name qual params body scope [] dV kV doc pm an cdv ct) (body := body) (binds := binds) hroom ((X₀.keeps F.keep) _ _ ho) rfl (T.nolimit.keeps F.keep) (codeRec_of (X₀.keeps F.keep) hcd) rfl hbind hcell hloc (fun h₁ hns hk₁ => ?_) hco hgen hk
  exact wpAny_mono (h _ s.heap.objs.size h₁ FG ⟨hns, fun b o e => hk₁ b o (of_hideAll _ e), Nat.le_of_eq (hideAll_size _ _)⟩
    (fun p hp => ⟨hk₁ _ _ (N p hp).1, Nat.ne_of_lt (Heap.lt_size (N p hp).1), hideAll_none _ (List.mem_map_of_mem hp)⟩) BG (X₀.keeps st) (T.keeps st)
    ⟨fun b o e hb => hideAll_get _ e hb, fun b o e => of_hideAll _ e⟩) (fun fl s' hl => lv _ _ hl) fun _ _ y => y
section
variable {h₀ h' g : Heap} {L L' : Addr} {m m' : Str → Option Value} {s : Shared} {Q : Value → Shared → Prop} {R : Value → Prop} {v : Value} {tk' : Nat} {core nw : List (Addr × Obj)} {D : List Addr} {ok : Value → List (Addr × Obj) → Prop}
theorem Ent.keep (G : Ent s core g) (F : Fr g L' h' m') : KeepBut (core.map (·.1)) s.heap h' := fun b o e hb => F.keep b o (G.up b o e hb)
theorem Ent.fresh (G : Ent s core g) {a : Addr} (e : g.get? a = none) : a ∈ core.map (·.1) ∨ s.heap.get? a = none := by
  by_cases hb : a ∈ core.map (·.1)
  · exact .inl hb
  · refine .inr ?_
    cases q : s.heap.get? a with
    | none => rfl
    | some o => rw [G.up a o q hb] at e; cases e
theorem PureC.fin (ret : ∀ v nw h' tk', (R v ∧ nw = []) → Fr h₀ L h' m → News h₀ L h' nw → KeepBut [] s.heap h' → (∀ p ∈ nw, p.1 ∈ ([] : List (Addr × Obj)).map (·.1) ∨ s.heap.get? p.1 = none) → Q v { s with heap := h', toks := tk' }) (hv : R v)
    (F : Fr h₀ L h' m) (G : Ent s [] g) (F' : Fr g L' h' m') : Q v { s with heap := h', toks := tk' } := ret v [] h' tk' ⟨hv, rfl⟩ F News.nil (G.keep F') fun _ h => nomatch h
theorem Con.fin {led : List (Addr × Obj)} (ret : ∀ v nw h' tk', ok v nw → Fr h₀ L h' m → News h₀ L h' nw → KeepBut D s.heap h' → (∀ p ∈ nw, p.1 ∈ core.map (·.1) ∨ s.heap.get? p.1 = none) → Q v { s with heap := h', toks := tk' })
    (hv : ok v nw) (F : Fr h₀ L h' m) (G : Ent s core g) (N₀ : News h₀ L s.heap core) (F' : Fr g L' h' m') (N' : News g L' h' led) (N : News h₀ L h' led) (hn : ∀ p ∈ nw, p ∈ led) (hc : ∀ p ∈ core, p.1 ∉ D → p ∈ led) : Q v { s with heap := h', toks := tk' } := by
  refine ret v nw h' tk' hv F (News.sub N hn) (fun b o e hb => ?_) fun p hp => G.fresh (N' p (hn p hp)).2.2
  by_cases hm : b ∈ core.map (·.1)
  · obtain ⟨q, hq, rfl⟩ := List.mem_map.mp hm
    have e' := (N₀ q hq).1
    rw [e] at e'
    cases e'
    exact (N' q (hc q hq hb)).1
  · exact F'.keep b o (G.up b o e hm)
end
noncomputable def mvf (xs : List Str) (c m : Str → Option Value) : Str → Option Value := fun y => if xs.contains y then c y else m y
theorem mvf_self (xs : List Str) (m : Str → Option Value) : m = mvf xs m m := by funext y; unfold mvf; split <;> rfl
theorem mvf_of {xs : List Str} {m m' : Str → Option Value} (h : ∀ y, xs.contains y = false → m' y = m y) : m' = mvf xs m' m := by
  funext y; unfold mvf
  cases q : xs.contains y with
  | true => rfl
  | false => exact h y q
theorem mvf_off {xs : List Str} {c m : Str → Option Value} {y : Str} (h : xs.contains y = false) : mvf xs c m y = m y := by unfold mvf; rw [h]; rfl
theorem step_next {h₀ h' : Heap} {L : Addr} {s : Shared} {J : Nat → (Str → Option Value) → List (Addr × Obj) → Prop} {Q : Flow → Shared → Prop} {n n' tk : Nat} {m₂ : Str → Option Value} {news₂ : List (Addr × Obj)}
    (F : Fr h₀ L h' m₂) (N : News h₀ L h' news₂) (hn : n' < n) (hJ : J n' m₂ news₂) : WhileStep2 h₀ L s J Q n .next { s with heap := h', toks := tk } := ⟨h', tk, m₂, news₂, n', rfl, F, N, hn, hJ⟩
theorem step_ret {h₀ : Heap} {L : Addr} {s s₃ : Shared} {J : Nat → (Str → Option Value) → List (Addr × Obj) → Prop} {Q : Flow → Shared → Prop} {n : Nat} {v : Value} (h : Q (.ret v) s₃) : WhileStep2 h₀ L s J Q n (.ret v) s₃ := h
theorem step_brk {h₀ : Heap} {L : Addr} {s s₃ : Shared} {J : Nat → (Str → Option Value) → List (Addr × Obj) → Prop} {Q : Flow → Shared → Prop} {n : Nat} (h : Q .next s₃) : WhileStep2 h₀ L s J Q n .brk s₃ := h
section
variable {prog : Program} {w : World} {A : Around} {E : Value → Shared → Prop} {s : Shared} {x y : Int} {t u : Tok} {Q : Value → Shared → Prop}
theorem gt_int_no (h : ¬ y < x) (q : Q (.bool false) s) : wpAny (model prog w) A (compareOp .Gt (.int x t) (.int y u)) Q E s := gt_int (by rw [show decide (y < x) = false from decide_eq_false h]; exact q)
theorem eq_int_no (h : ¬ x = y) (q : Q (.bool false) s) : wpAny (model prog w) A (compareOp .Eq (.int x t) (.int y u)) Q E s := eq_int (by rw [show (x == y) = false from beq_eq_false_iff_ne.mpr h]; exact q)
end
noncomputable def AllNe (a : Nat) : List (Addr × Obj) → Prop
  | [] => True
  | p :: r => @Ne Nat p.1 a ∧ AllNe a r
theorem allNe_of {h₀ h : Heap} {L a : Addr} : ∀ {l : List (Addr × Obj)}, News h₀ L h l → h.get? a = none → AllNe a l
  | [], _, _ => trivial
  | p :: _, N, e => ⟨fun q => (by have := (N p List.mem_cons_self).1; rw [q, e] at this; cases this), allNe_of (fun q hq => N q (List.mem_cons_of_mem _ hq)) e⟩
theorem upd_mem {d : Addr} {o o' : Obj} {l l' : List (Addr × Obj)} (U : Upd d o o' l l') : ∀ p ∈ l', p = (d, o') ∨ (p ∈ l ∧ p.1 ≠ d) := by
  induction U with
  | head h => intro p hp; rcases List.mem_cons.mp hp with rfl | hp; exact .inl rfl; exact .inr ⟨List.mem_cons_of_mem _ hp, h p hp⟩
  | tail h _ ih =>
    intro p hp
    rcases List.mem_cons.mp hp with rfl | hp
    · exact .inr ⟨List.mem_cons_self, h⟩
    · exact (ih p hp).imp id fun q => ⟨List.mem_cons_of_mem _ q.1, q.2⟩
section
variable {h₀ h h' : Heap} {L d d1 d2 : Addr} {o o' o1 o1' o2 o2' : Obj} {led led1 led2 fresh : List (Addr × Obj)}
theorem News.merge1 (N : News h₀ L h led) (k : KeepBut [d] h h') (N' : News h₀ L h' ((d, o') :: fresh)) (U : Upd d o o' led led1) : News h₀ L h' (fresh ++ led1) := fun p hp => by
  rcases List.mem_append.mp hp with hp | hp
  · exact N' p (List.mem_cons_of_mem _ hp)
  · rcases upd_mem U p hp with rfl | ⟨hp, hd⟩
    · exact N' _ List.mem_cons_self
    · exact ⟨k _ _ (N p hp).1 fun q => hd (List.mem_singleton.mp q), (N p hp).2.1, (N p hp).2.2⟩
theorem News.merge0 (N : News h₀ L h led) (k : KeepBut [] h h') (N' : News h₀ L h' fresh) : News h₀ L h' (fresh ++ led) := News.app N' (News.kept0 N k)
theorem News.merge2 (N : News h₀ L h led) (k : KeepBut [d1, d2] h h') (N' : News h₀ L h' ((d1, o1') :: (d2, o2') :: fresh)) (U : Upd d1 o1 o1' led led1) (U2 : Upd d2 o2 o2' led1 led2) : News h₀ L h' (fresh ++ led2) := fun p hp => by
  rcases List.mem_append.mp hp with hp | hp
  · exact N' p (List.mem_cons_of_mem _ (List.mem_cons_of_mem _ hp))
  · rcases upd_mem U2 p hp with rfl | ⟨hp, hd2⟩
    · exact N' _ (List.mem_cons_of_mem _ List.mem_cons_self)
    · rcases upd_mem U p hp with rfl | ⟨hp, hd⟩
      · exact N' _ List.mem_cons_self
      · exact ⟨k _ _ (N p hp).1 fun q => (List.mem_cons.mp q).elim hd fun q => hd2 (List.mem_singleton.mp q), (N p hp).2.1, (N p hp).2.2⟩
end
theorem fresh2 {a x y : Nat} (h : x < a ∧ y < a) : a ∉ [x, y] := fun q => by
  rcases List.mem_cons.mp q with q | q
  · exact absurd q (Nat.ne_of_gt h.1)
  · exact absurd (List.mem_singleton.mp q) (Nat.ne_of_gt h.2)
theorem room0 {d n R : Nat} {a : Nat} (h : d + n < R) (k : Nat.ble a n = true) : d + a < R := Nat.lt_of_le_of_lt (Nat.add_le_add_left (Nat.le_of_ble_eq_true k) d) h
theorem room1 {d n R a b : Nat} (h : d + n < R) (k : Nat.ble (a + b) n = true) : d + a + b < R := by rw [Nat.add_assoc]; exact room0 h k
theorem room2 {d n R a b c : Nat} (h : d + n < R) (k : Nat.ble (a + b + c) n = true) : d + a + b + c < R := by rw [Nat.add_assoc, Nat.add_assoc, ← Nat.add_assoc a]; exact room0 h k
theorem room3 {d n R a b c e : Nat} (h : d + n < R) (k : Nat.ble (a + b + c + e) n = true) : d + a + b + c + e < R := by rw [show d + a + b + c + e = d + (a + b + c + e) by omega]; exact room0 h k
theorem roomS {d n R : Nat} (h : d + n < R) (k : Nat.ble 1 n = true) : d < R := Nat.lt_of_le_of_lt (Nat.le_add_right d n) h
end
local macro_rules | `(tactic| ktr_room) => `(tactic| ((try simp only [depth_under_make, depth_under_kw, depth_in1, depth_deeper, depth_caller]); (try dsimp only [aTop]); first | exact room0 (by assumption) rfl | exact room1 (by assumption) rfl | exact room2 (by assumption) rfl | exact room3 (by assumption) rfl | exact roomS (by assumption) rfl | omega))
local macro_rules | `(tactic| ktr_units) => `(tactic| ((try simp only [units_in1, units_deeper, Around.mark_units, units_caller]); (try dsimp only [aTop]); first | exact room0 (by assumption) rfl | exact room1 (by assumption) rfl | exact room2 (by assumption) rfl | exact room3 (by assumption) rfl | omega))
local macro_rules | `(tactic| k_ne) => `(tactic| (refine neN ?_; (try dsimp only); first | assumption | exact Ne.symm (by assumption) | exact Nat.ne_of_lt (by assumption) | exact Nat.ne_of_gt (by assumption)))
local macro_rules | `(tactic| k_lt $h) => `(tactic| (replace $h := allLt_of $h; simp only [AllLt, and_true] at $h:ident; (repeat (have l9 := And.left $h; replace $h := And.right $h))))
local macro_rules | `(tactic| k_room) => `(tactic| ktr_room)
local macro_rules | `(tactic| walk_at "m asm") => `(tactic| ((case k1 => k_asm); (case k2 => k_asm); (case k3 => k_asm); (case k4 => k_asm); (case k5 => k_asm); (case k6 => first | assumption | exact Stands.of); (case k7 => ktr_room); (case k8 => ktr_units)))
local macro_rules | `(tactic| walk_at "m back") => `(tactic| (intro v9 hv9 h9 tk9 F9 N9; (try dsimp only at hv9); (first | subst hv9 | (obtain ⟨t9, hv9⟩ := hv9; subst hv9)); (try dsimp only); (try k_fold); (try k_sweep)))
local macro_rules | `(tactic| walk_at "m core") => `(tactic| first | exact List.forall_mem_nil _ | (refine List.forall_mem_cons.mpr ⟨fun hd9 => ?_, ?_⟩; (first | k_mem | exact absurd (by k_mem) hd9); walk_at "m core"))
local macro_rules | `(tactic| walk_at "compareOp Eq int int") => `(tactic| (refine eq_int_no (by assumption) ?_))
local macro_rules | `(tactic| walk_at "m sub") => `(tactic| first | exact List.forall_mem_nil _ | (refine List.forall_mem_cons.mpr ⟨?_, ?_⟩; (first | k_mem | fail "m sub"); walk_at "m sub"))
local macro_rules | `(tactic| walk_at "compareOp Gt int int") => `(tactic| (refine gt_int_no (by omega) ?_))
section
structure FlyD (B : Heap) (l : List Env) (e d : Addr) (h : Heap) : Prop where
  stays : B.StaysIn h
  fresh : B.get? e = none
  frames : h.FunFrames B l
  tr : ∃ oe vs T oT ts, h.get? e = some oe ∧ oe.cls = .ref 371 ∧ oe.dict = some d ∧ oe.data = .fields vs ∧ vs[1]? = some (.ref T) ∧ B.get? T = none ∧ T ≠ e ∧ h.get? T = some oT ∧ oT.data = .fields ts ∧ ts[3]? = some .none
theorem dict_mapFields (o : Obj) (f : Array Value → Array Value) : (Obj.mapFields f o).dict = o.dict := by
  obtain ⟨c, d, dt, sl⟩ := o
  cases dt <;> rfl
section
variable {M : Model} {A : Around} {E : Value → Shared → Prop} {s : Shared} {B : Heap} {env : Env} {outer : List Env} {L e d : Addr} {Q : Unit → Shared → Prop}
theorem entryD {oe : Obj} {vs : Array Value} {head : Value} {hadNext : Bool} (hfr : A.frames = some (env :: outer)) (hl : s.heap.FunFrames B (env :: outer)) (hf : env.frame = some L)
    (he : s.heap.get? e = some oe) (hkb : B.StaysIn s.heap) (hen : B.get? e = none) (hc : oe.cls = .ref 371) (hdd : oe.dict = some d) (hd : oe.data = .fields vs) (hsz : 1 < vs.size)
    (hQ : ∀ h', FlyD B outer e d h' → s.heap.UpToSlots h' → Q () { s with heap := h' }) :
    wpAny M A (do let a ← frameOf env; let pl ← entryPlaceOf L hadNext; let b ← EntryCells.newEntry head a .none (rawInt L) .none pl; setField (.ref e) 1 b) (fun _ s' => wpAny M A (setFlight (.ref e) none) Q E s') E s := by
  have hene : e ∉ (env :: outer).filterMap (·.frame) := fun hm => by
    obtain ⟨_, o, ho, hnf⟩ := hl.mem hm
    rw [he] at ho; cases ho; exact hnf vs hd
  refine wpAny_bind (wpAny_frameOf_fun hfr hl hf fun h₁ hs₁ => ?_)
  refine wpAny_bind (wpAny_entryPlaceOf fun pl hpl => ?_)
  unfold EntryCells.newEntry newFields
  refine wpAny_bind (wpAny_newObj_type ?_ (hpl.sizeOk5 _ _ _ _ _))
  have he₁ : h₁.get? e = some oe := (hs₁.2.1 e hene).trans he
  have kb₁ : B.StaysIn h₁ := fun b o hbo => (hs₁.2.1 b fun hm => by rw [(hl.mem hm).1] at hbo; cases hbo).trans (hkb b o hbo)
  generalize hob : ({ cls := .type "traceback", dict := none, data := .fields ([head, .ref L, .none, rawInt L, .none] ++ (if pl.isEmpty then List.replicate 6 Value.none else pl)).toArray } : Obj) = ob
  have hobf : ob.data = .fields ([head, .ref L, .none, rawInt L, .none] ++ (if pl.isEmpty then List.replicate 6 Value.none else pl)).toArray := by rw [← hob]
  have he₂ := Heap.get?_push_of_some ob he₁
  refine wpAny_setField he₂ hd hsz ?_
  have hTe : h₁.objs.size ≠ e := Nat.ne_of_gt (Heap.lt_size he₁)
  have hd₃ := Obj.data_mapFields hd (·.setIfInBounds 1 (Value.ref h₁.objs.size))
  have he₃ := Heap.get?_update_self (Obj.mapFields (·.setIfInBounds 1 (Value.ref h₁.objs.size))) he₂ (Obj.isFreed_of_fields hd₃)
  have hT₃ := (Heap.get?_update_other (h₁.push ob) (Obj.mapFields (·.setIfInBounds 1 (Value.ref h₁.objs.size))) (Ne.symm hTe)).trans (Heap.get?_push_size h₁ (by rw [← hob]; rfl))
  unfold setFlight
  refine wpAny_bind (wpAny_field he₃ hd₃ (x := .ref h₁.objs.size) (by simp [hsz]) ?_)
  rw [if_pos (show (Value.ref h₁.objs.size != Value.none) = true from by simp)]
  refine wpAny_setField hT₃ hobf (by simp only [List.size_toArray, List.length_append, List.length_cons, List.length_nil]; omega) ?_
  have keep : ∀ b o, b ≠ e → h₁.get? b = some o → (((h₁.push ob).update e (Obj.mapFields (·.setIfInBounds 1 (Value.ref h₁.objs.size)))).update h₁.objs.size
      (Obj.mapFields (·.setIfInBounds 3 ((none : Option Addr).elim Value.none fun f => rawInt f)))).get? b = some o := fun b o hbe hb => by
    rw [Heap.get?_update_other _ _ (Nat.ne_of_gt (Heap.lt_size hb)), Heap.get?_update_other _ _ (Ne.symm hbe)]
    exact Heap.get?_push_of_some _ hb
  have off : ∀ b o, s.heap.get? b = some o → (∀ vs, o.data ≠ .fields vs) → b ≠ e := fun b o hb hnf q => by
    rw [q, he] at hb; cases hb; exact hnf vs hd
  have fr : (((h₁.push ob).update e (Obj.mapFields (·.setIfInBounds 1 (Value.ref h₁.objs.size)))).update h₁.objs.size
      (Obj.mapFields (·.setIfInBounds 3 ((none : Option Addr).elim Value.none fun f => rawInt f)))).FunFrames B (env :: outer) := hl.of_keeps fun b o hb hnf => by
    obtain ⟨sl, hs⟩ := hs₁.2.2 b o hb
    exact ⟨_, keep b _ (off b o hb hnf) hs, rfl⟩
  refine hQ _ ?_ fun b o hb hnf => let ⟨sl, hs⟩ := hs₁.2.2 b o hb; ⟨sl, keep b _ (off b o hb hnf) hs⟩
  refine ⟨fun b o hbo => keep b o (fun q => by rw [q, hen] at hbo; cases hbo) (kb₁ b o hbo), hen, fr.2.2, _, _, h₁.objs.size, _, _, (Heap.get?_update_other _ _ hTe).trans he₃, (Obj.cls_mapFields _ _).trans hc, (dict_mapFields _ _).trans hdd, hd₃, by simp [hsz], kb₁.fresh, hTe,
    Heap.get?_update_self _ hT₃ (Obj.isFreed_of_fields (Obj.data_mapFields hobf _)), Obj.data_mapFields hobf _, ?_⟩
  rcases hpl with rfl | ⟨_, _, _, _, _, _, _, rfl⟩ <;> simp
theorem leave_first {oe : Obj} {vs : Array Value} (hfr : A.frames = some (env :: outer)) (hl : s.heap.FunFrames B (env :: outer)) (hf : env.frame = some L)
    (he : s.heap.get? e = some oe) (hkb : B.StaysIn s.heap) (hen : B.get? e = none) (hc : oe.cls = .ref 371) (hdd : oe.dict = some d) (hd : oe.data = .fields vs) (h1 : vs[1]? = some .none)
    (hQ : ∀ h', FlyD B outer e d h' → s.heap.UpToSlots h' → Q () { s with heap := h' }) : wpAny M A (leaving env (.ref e)) Q E s := by
  unfold leaving noteFrame
  simp only [hf]
  refine wpAny_bind (wpAny_bind (wpAny_field he hd h1 ?_))
  rw [if_neg (by decide)]
  exact entryD hfr hl hf he hkb hen hc hdd hd (Array.getElem?_eq_some_iff.mp h1).1 hQ
theorem leave_next (hfr : A.frames = some (env :: outer)) (hf : env.frame = some L) (x : FlyD B (env :: outer) e d s.heap) (hQ : ∀ h', FlyD B outer e d h' → s.heap.UpToSlots h' → Q () { s with heap := h' }) : wpAny M A (leaving env (.ref e)) Q E s := by
  obtain ⟨hkb, hen, hl, oe, vs, T, oT, ts, he, hc, hdd, hd, h1, hnT, hTe, hT, hdT, h3⟩ := x
  unfold leaving noteFrame
  simp only [hf]
  refine wpAny_bind (wpAny_bind (wpAny_field he hd h1 ?_))
  rw [if_pos (show (Value.ref T != Value.none) = true from by simp)]
  refine wpAny_bind (wpAny_field hT hdT h3 ?_)
  rw [if_neg (show ¬ ((Value.none == rawInt L) = true) from by simp [rawInt])]
  refine wpAny_bind (wpAny_setField hT hdT (Array.getElem?_eq_some_iff.mp h3).1 ?_)
  have other : ∀ b, b ≠ T → (s.heap.update T (Obj.mapFields (·.setIfInBounds 3 Value.none))).get? b = s.heap.get? b := fun b hb => Heap.get?_update_other _ _ (Ne.symm hb)
  have off : ∀ b o, s.heap.get? b = some o → (∀ vs, o.data ≠ .fields vs) → b ≠ T := fun b o hb hnf q => by
    rw [q, hT] at hb; cases hb; exact hnf ts hdT
  exact entryD hfr (hl.of_keeps fun b o hb hnf => ⟨o, (other b (off b o hb hnf)).trans hb, rfl⟩) hf ((other e (Ne.symm hTe)).trans he)
    (fun b o hbo => (other b fun q => by rw [q, hnT] at hbo; cases hbo).trans (hkb b o hbo)) hen hc hdd hd (Array.getElem?_eq_some_iff.mp h1).1 fun h' x' u => hQ h' x' fun b o hb hnf => u b o ((other b (off b o hb hnf)).trans hb) hnf
end
noncomputable abbrev frs (l : List Env) : List Addr := l.filterMap (·.frame)
noncomputable abbrev failDict (w : World) (k1 k2 : Tok) (v : Value) (line : Int) (lt : Tok) : Obj := dictOf [⟨PyData.keyHash w.params (Str.ofString "text"), .str (Str.ofString "text") k1, v⟩, ⟨PyData.keyHash w.params (Str.ofString "line"), .str (Str.ofString "line") k2, .int line lt⟩] 2
noncomputable def Fl (w : World) (D : List Addr) (line : Int) (base : Heap) (l : List Env) (h : Heap) (e : Addr) (h' : Heap) : Prop :=
  ∃ (B : Heap) (d : Addr), base.StaysIn B ∧ (∀ b o, h.get? b = some o → b ∉ D → b ∉ frs l → B.get? b = some o) ∧ FlyD B l e d h' ∧ (∃ k1 k2 v lt, B.get? d = some (failDict w k1 k2 v line lt)) ∧ ∀ b o, h.get? b = some o → b ∉ D → (∀ vs, o.data ≠ .fields vs) → ∃ sl, h'.get? b = some { o with slots := sl }
section
variable {w : World} {M : Model} {A A₁ : Around} {E : Value → Shared → Prop} {E' : Value → Shared → Prop} {s : Shared} {base h₀ g h h9 : Heap} {env envc : Env} {outer : List Env} {L L' e : Addr} {m' : Str → Option Value} {core led : List (Addr × Obj)} {D D' : List Addr} {line : Int} {tk9 : Nat}
theorem kept_over (G : Ent s core g) (F' : Fr g L' h m') (N₀ : News h₀ L s.heap core) (N' : News g L' h led) (hc : ∀ p ∈ core, p.1 ∉ D → p ∈ led) : ∀ b o, s.heap.get? b = some o → b ∉ D → h.get? b = some o ∧ b ≠ L' := fun b o eb hb => by
  by_cases hm : b ∈ core.map (·.1)
  · obtain ⟨q, hq, rfl⟩ := List.mem_map.mp hm
    have e' := (N₀ q hq).1
    rw [eb] at e'
    cases e'
    exact ⟨(N' q (hc q hq hb)).1, (N' q (hc q hq hb)).2.1⟩
  · have e1 := G.up b o eb hm
    exact ⟨F'.keep b o e1, Nat.ne_of_lt (Nat.lt_of_lt_of_le (Heap.lt_size e1) F'.above)⟩
theorem Con.leave (R : Fl w D' line base (envc :: env :: outer) h e h9) (exc : ∀ e h' tk', Fl w D line base (env :: outer) s.heap e h' → E (.ref e) { s with heap := h', toks := tk' })
    (G : Ent s core g) (F' : Fr g L' h m') (N₀ : News h₀ L s.heap core) (N' : News g L' h led) (hc : ∀ p ∈ core, p.1 ∉ D → p ∈ led) (hDD : ∀ b, b ∉ D → b ∉ D') (hA : A.frames = some (envc :: env :: outer)) (hf : envc.frame = some L') :
    wpAny M A (leaving envc (.ref e)) (fun _ s'' => E (.ref e) s'') E' { s with heap := h9, toks := tk9 } := by
  obtain ⟨B, d, hB, hk, x, hd, U⟩ := R
  refine leave_next hA hf x fun h' x' u => exc e h' tk9 ⟨B, d, hB, fun b o eb hb hbf => ?_, x', hd, fun b o eb hb hnf => ?_⟩
  rotate_left
  · obtain ⟨sl, e2⟩ := U b o (kept_over G F' N₀ N' hc b o eb hb).1 (hDD b hb) hnf
    obtain ⟨sl', e3⟩ := u b _ e2 hnf
    exact ⟨sl', e3⟩
  obtain ⟨e1, n1⟩ := kept_over G F' N₀ N' hc b o eb hb
  refine hk b o e1 (hDD b hb) fun hm => ?_
  unfold frs at hm
  rw [List.filterMap_cons, hf] at hm
  rcases List.mem_cons.mp hm with q | q
  · exact n1 q
  · exact hbf q
theorem Con.first {oe : Obj} {vs : Array Value} {d : Addr} {k1 k2 : Tok} {v : Value} {lt : Tok} (exc : ∀ e h' tk', Fl w D line base (env :: outer) s.heap e h' → E (.ref e) { s with heap := h', toks := tk' })
    (Bl : Below A base (envc :: env :: outer) h) (G : Ent s core g) (F' : Fr g L' h m') (N₀ : News h₀ L s.heap core) (N' : News g L' h led) (hc : ∀ p ∈ core, p.1 ∉ D → p ∈ led) (hf : envc.frame = some L')
    (he : h.get? e = some oe) (hce : oe.cls = .ref 371) (hde : oe.dict = some d) (hdd : oe.data = .fields vs) (h1 : vs[1]? = some .none) (hd : (d, failDict w k1 k2 v line lt) ∈ led) (hn : g.get? e = none) (hs : s.heap.get? e = none) (Bg : Below A₁ base (env :: outer) g) :
    wpAny M A (leaving envc (.ref e)) (fun _ s'' => E (.ref e) s'') E' { s with heap := h, toks := tk9 } := by
  have fresh : base.get? e = none := by
    cases q : base.get? e with
    | none => rfl
    | some o => have := Bg.stays e o q; rw [hn] at this; cases this
  have hin : ∀ env' ∈ (envc :: env :: outer), ∀ b, env'.frame = some b → b ∈ e :: frs (envc :: env :: outer) := fun env' h' b hb => List.mem_cons_of_mem _ (List.mem_filterMap.mpr ⟨env', h', hb⟩)
  have nof : ∀ b, b ∈ frs (envc :: env :: outer) → base.get? b = none ∧ ∃ o, h.get? b = some o ∧ ∀ vs, o.data ≠ .fields vs := fun b hb => Bl.frames.mem hb
  refine leave_first (s := { s with heap := h, toks := tk9 }) (B := hideAll h (e :: frs (envc :: env :: outer))) Bl.stack (funFrames_hide Bl.frames hin) hf he (fun b o q => of_hideAll _ q) (hideAll_none _ List.mem_cons_self) hce hde hdd h1 fun h' x' u => exc e h' tk9 ⟨_, d, fun b o q => ?_, fun b o eb hb hbf => ?_, x', ⟨k1, k2, v, lt, ?_⟩, fun b o eb hb hnf => u b o (kept_over G F' N₀ N' hc b o eb hb).1 hnf⟩
  · refine hideAll_get _ (Bl.stays b o q) fun hm => ?_
    rcases List.mem_cons.mp hm with rfl | hm
    · rw [fresh] at q; cases q
    · rw [(nof b hm).1] at q; cases q
  · obtain ⟨e1, n1⟩ := kept_over G F' N₀ N' hc b o eb hb
    refine hideAll_get _ e1 fun hm => ?_
    rcases List.mem_cons.mp hm with rfl | hm
    · rw [hs] at eb; cases eb
    · unfold frs at hm
      rw [List.filterMap_cons, hf] at hm
      rcases List.mem_cons.mp hm with q | q
      · exact n1 q
      · exact hbf q
  · refine hideAll_get _ (N' _ hd).1 fun hm => ?_
    have e1 := (N' _ hd).1
    rcases List.mem_cons.mp hm with q | hm
    · change h.get? d = _ at e1
      rw [show d = e from q, he] at e1
      cases e1
      cases hdd
    · unfold frs at hm
      rw [List.filterMap_cons, hf] at hm
      rcases List.mem_cons.mp hm with q | q
      · exact (N' _ hd).2.1 q
      · obtain ⟨_, o, ho, _⟩ := Bg.frames.mem q
        have := (N' _ hd).2.2
        change g.get? d = _ at this
        rw [this] at ho
        cases ho
end
end
section
section
variable {M : Model} {A : Around} {E : Value → Shared → Prop} {env : Env}
variable {nm q : Str} {C N : Addr} {bs bm : List Value} {hdct : Bool} {sn : List Str} {sub : List Value} {ab : Bool} {col : Option Bool} {dd : Option Addr} {k0 k1 k2 k3 k5 : Option Value} {newId : String}
theorem raiseStmt_own {s : Shared} {x : Sem Value} {Q : Flow → Shared → Prop} (hbase : bm.contains (.type "BaseException") = true) (hh : A.handled = none)
    (h : wpAny M A x (fun v s₁ => ∃ e od vs sl, v = .ref e ∧ vs[1]? = some .none ∧ s₁.heap.get? C = some (excClassObj nm q C N bs bm hdct sn sub ab col dd k0 k1 k2 k3 k5 newId) ∧
      s₁.heap.get? e = some ⟨.ref C, od, .fields vs, sl⟩ ∧ E (.ref e) s₁) E s) :
    wpAny M A (raiseStmt env (some x) none) Q E s := by
  have hcB : (Value.ref C :: bm).contains (.type "BaseException") = true := by rw [List.contains_cons, hbase, Bool.or_true]
  unfold raiseStmt
  refine wpAny_bind (wpAny_mono h (fun v s₁ h₁ => ?_) fun _ _ x => x)
  obtain ⟨e, od, vs, sl, rfl, h1, hC, he, hE⟩ := h₁
  obtain ⟨hp, g, d, tk, os⟩ := s₁
  repeat (first | with_reducible refine wpAny_loadPart_at he ?_ | with_reducible refine wpAny_loadPart_at hC ?_ | (with_reducible refine wpAny_isSubtype_exc hC ?_; rw [hcB]) | rw [h1] | wp_step)
  exact wpAny_raiseNew_none hh hE
theorem Raise_own' {s : Shared} {x : PySem.Expr} {pos : Pos} {Q : Flow → Shared → Prop} (hbase : bm.contains (.type "BaseException") = true) (hh : A.handled = none)
    (h : wpAny M A (eval x env) (fun v s₁ => ∃ e od vs sl, v = .ref e ∧ vs[1]? = some .none ∧ s₁.heap.get? C = some (excClassObj nm q C N bs bm hdct sn sub ab col dd k0 k1 k2 k3 k5 newId) ∧
      s₁.heap.get? e = some ⟨.ref C, od, .fields vs, sl⟩ ∧ E (.ref e) s₁) E s) : wpAny M A (exec (.Raise (some x) none pos) env) Q E s := by
  rw [arm_exec_Raise]
  exact wpAny_bind (wpAny_standAt (raiseStmt_own hbase hh (wpAny_bind (wpAny_mono h (fun v s₁ h₁ => wpAny_bind (wpAny_standAt (wpAny_pure h₁))) fun _ _ x => x))))
end
section
open Builtin Builtin.ObjectAttr
variable {prog : Program} {w : World} {A : Around} {E : Value → Shared → Prop} {K : Frag} {C x : Addr} {s : Shared} {h₀ : Heap} {L : Addr} {m : Str → Option Value} {news : List (Addr × Obj)} {R : Result → Shared → Prop} {name : Str} {tk : Tok} {v : Value} {cd : ClassData}
theorem exc_open {ox : Obj} {od : Option Obj} (X : K.In s.heap) (I : InstAt s.heap x ox C od) (hc : clsIn K C = some cd) (hm : cd.mro = [.ref C, .type "Exception", .type "BaseException", .type "object"]) (ht : takerIn K C name = some none)
    (h : ∀ b, wpAny (model prog w) A.in1 (storeInOwnDict (.ref x) (.ref C) (.str name tk) name v b)
      (fun fin s' => match fin with | .done f => R (.ok f) s' | .again c' => c'.quiet = true ∧ codeAny (model prog w) A c' R s') (fun e s' => R (.error e) s') s) :
    codeAny (model prog w) A (.call (.builtin "object.__setattr__") ⟨[.ref x, .str name tk, v], []⟩) R s := by
  have SF := PySem.F.store_object
  have ne : cd.mro.isEmpty = false := by rw [hm]; rfl
  have hct : cd.mro.contains (.type "object") = true := by rw [hm]; simp
  have sub : Looks (model prog w) s.heap (isInstance (.ref x) (.type "object")) true := I.type.andThen (looks_mroIn X (by unfold mroIn; rw [hc, Option.bind_some, if_neg (by rw [ne]; decide), hct]))
  refine codeAny_call_builtin SF.slot.plain SF.entry (@check_slot (model prog w) _ _ s "object.__setattr__" "object" "__setattr__" (.ref x) [.str name tk, v] [] _ SF.kind SF.split sub (SF.args (.ref x) (.str name tk) v) ?_)
  obtain ⟨attr, ha, hr⟩ := Option.bind_eq_some_iff.mp ht
  have hmm : Looks (model prog w) s.heap (mroOf (.ref C)) cd.mro := (looks_clsIn X hc).andThen .now
  have L3 : Looks (model prog w) s.heap (storeTaker? attr) none := by
    cases attr with
    | none => cases hr; exact .now
    | some a =>
      obtain ⟨b, hb, hbn⟩ := Option.map_eq_some_iff.mp hr
      refine (looks_takesIn X hb).andThen ?_
      cases b
      · exact .now
      · cases hbn
  rw [osa_eq, refuse_eq]
  refine wpAny_bind (wpAny_bind (I.type.here (wpAny_bind (hmm.here ?_))))
  rw [hm, refuseLoop_ref, PySem.F.store_Exception.passes]
  refine wpAny_pure (wpAny_bind (I.type.here (wpAny_bind ((looks_findIn X ha).here (wpAny_bind (L3.here ?_))))))
  exact h _
theorem exc_store {d : Addr} {pre post : List (Addr × Obj)} {es es' : List DictEntry} {n n' : Nat} (F : Fr h₀ L s.heap m) (N : News h₀ L s.heap (pre ++ (d, dictOf es n) :: post)) (hl : (getL name es).isSome = true)
    (h1 : ∀ p ∈ pre, p.1 ≠ d) (h2 : ∀ p ∈ post, p.1 ≠ d) (e : (putL name (PyData.keyHash w.params name) (.str name s.toks) v es, putN name es n) = (es', n')) (hz : es'.length ≤ 1000) {R' : Fin → Shared → Prop}
    (h : ∀ h', Fr h₀ L h' m → News h₀ L h' (pre ++ (d, dictOf es' n') :: post) → R' (.done (.ret .none)) { s with heap := h', toks := s.toks + 1 }) :
    wpAny (model prog w) A (storeInDict d (.str name tk) name v) R' E s := by
  obtain ⟨e1, e2⟩ := Prod.mk.inj e
  obtain ⟨U1, U2⟩ := news_upd (f := Obj.putName name (PyData.keyHash w.params name) (.str name s.toks) v) F N h1 h2 (by rw [putName_dict, e1, e2]) rfl
  have D := (N (d, dictOf es n) (by simp)).1
  have D' := (U2 (d, dictOf es' n') (by simp)).1
  unfold storeInDict newKeyGuard
  refine wpAny_bind (wpAny_pure (wpAny_bind ?_))
  unfold nsSet
  refine wpAny_bind (wpAny_bind (wpAny_askSetting (wpAny_pure (wpAny_bind (wpAny_mkText (wpAny_bind (wpAny_loadPart D ?_)))))))
  dsimp only
  have c : (!es.toArray.any (·.key.isStr name) && es.toArray.any (·.refKey)) = false := by
    unfold getL at hl
    rw [← Array.any_toList, ← Array.any_toList]
    split at hl
    · rename_i en he
      rw [List.any_eq_true.mpr ⟨en, List.mem_of_find?_eq_some he, List.find?_some he⟩]; rfl
    · split at hl
      · cases hl
      · rename_i z; rw [Bool.not_eq_true] at z; rw [z, Bool.and_false]
  rw [aRefKeyMayBeTheName_at, c]
  refine wpAny_updatePart D ?_
  refine wpAny_bind (wpAny_lookBehind D' (pastItsLine_dict (by rw [List.size_toArray, sizeLine_eq]; omega)) ?_)
  exact wpAny_pure (h _ U1 U2)
end
section
open Builtin Builtin.ObjectAttr
variable {prog : Program} {w : World} {A : Around} {E : Value → Shared → Prop} {K : Frag} {C x : Addr} {s : Shared} {h₀ : Heap} {L : Addr} {m : Str → Option Value} {rest : List (Addr × Obj)} {name : Str} {v : Value} {cd : ClassData} {vs : Array Value} {Q : Unit → Shared → Prop}
noncomputable abbrev excO (C : Addr) (od : Option Addr) (vs : Array Value) : Obj := { cls := .ref C, dict := od, data := .fields vs }
theorem exc_set1 (F : Fr h₀ L s.heap m) (N : News h₀ L s.heap ((x, excO C none vs) :: rest)) (X : K.In h₀) (hc : clsIn K C = some cd) (hm : cd.mro = [.ref C, .type "Exception", .type "BaseException", .type "object"]) (hh : cd.hasDict = true)
    (hs : findIn K (.ref C) "__setattr__" = some (some (.builtin "object.__setattr__"))) (ht : takerIn K C name = some none) (hr : ∀ p ∈ rest, p.1 ≠ x)
    (h : ∀ h' d, Fr h₀ L h' m → News h₀ L h' ((d, dictOf [⟨PyData.keyHash w.params name, .str name (s.toks + 1), v⟩] 1) :: (x, excO C (some d) vs) :: rest) → s.heap.get? d = none → Q () { s with heap := h', toks := s.toks + 2 }) :
    wpAny (model prog w) A (setAttr (.ref x) name v) Q E s := by
  have X' : K.In s.heap := X.keeps F.keep
  have I : InstAt s.heap x (excO C none vs) C none := ⟨(N _ List.mem_cons_self).1, rfl, rfl, trivial⟩
  refine set_plain X' I hs (exc_open X' I hc hm ht fun b => ?_)
  obtain ⟨hp, g, d, tk, os⟩ := s
  dsimp only at X' I F N h ⊢
  have hx := (N _ List.mem_cons_self).1
  have Np := (N.push F emptyDict)
  have Fp := F.push emptyDict
  have hne : ∀ p ∈ (x, excO C none vs) :: rest, p.1 ≠ hp.objs.size := fun p q => Nat.ne_of_lt (Heap.lt_size (N p q).1)
  obtain ⟨U1, U2⟩ := news_upd (pre := [(hp.objs.size, emptyDict)]) (f := fun o => { o with dict := some hp.objs.size }) (o' := excO C (some hp.objs.size) vs) Fp Np (fun p q => by obtain rfl := List.mem_singleton.mp q; exact Ne.symm (hne _ List.mem_cons_self)) hr rfl rfl
  unfold storeInOwnDict ownDictForStores instanceDict
  refine wpAny_bind (wpAny_pure (wpAny_bind (wpAny_bind (wpAny_loadPart hx (wpAny_bind ((looks_clsIn (M := model prog w) X' hc).here (s := ⟨hp, g, d, tk + 1, os⟩) ?_))))))
  rw [hh]
  show wpAny _ _ (alloc emptyDict >>= fun dd => update x (fun o => { o with dict := some dd }) >>= fun _ => dictMade (.ref C) x dd) _ _ _
  refine wpAny_bind (wpAny_alloc' ?_)
  refine wpAny_bind (wpAny_update' (Heap.get?_push_of_some _ hx) ?_)
  refine wpAny_pure (a := some hp.objs.size) ?_
  refine exc_store (pre := []) U1 U2 rfl (fun _ q => nomatch q) (fun p q => ?_) rfl (by simp [putL]) fun h' F' N' => ?_
  · rcases List.mem_cons.mp q with rfl | q
    · exact hne (x, excO C none vs) List.mem_cons_self
    · exact hne _ (List.mem_cons_of_mem _ q)
  · exact h _ _ F' N' (Heap.get?_none_of_le (Nat.le_refl _))
theorem exc_set2 {d : Addr} {es es' : List DictEntry} {n n' : Nat} (F : Fr h₀ L s.heap m) (N : News h₀ L s.heap ((d, dictOf es n) :: (x, excO C (some d) vs) :: rest)) (X : K.In h₀) (hc : clsIn K C = some cd) (hm : cd.mro = [.ref C, .type "Exception", .type "BaseException", .type "object"]) (hh : cd.hasDict = true)
    (hs : findIn K (.ref C) "__setattr__" = some (some (.builtin "object.__setattr__"))) (ht : takerIn K C name = some none) (hl : (getL name es).isSome = true) (hr : ∀ p ∈ (x, excO C (some d) vs) :: rest, p.1 ≠ d)
    (e : (putL name (PyData.keyHash w.params name) (.str name (s.toks + 1)) v es, putN name es n) = (es', n')) (hz : es'.length ≤ 1000)
    (h : ∀ h', Fr h₀ L h' m → News h₀ L h' ((d, dictOf es' n') :: (x, excO C (some d) vs) :: rest) → Q () { s with heap := h', toks := s.toks + 2 }) :
    wpAny (model prog w) A (setAttr (.ref x) name v) Q E s := by
  have X' : K.In s.heap := X.keeps F.keep
  have hx := (N _ (List.mem_cons_of_mem _ List.mem_cons_self)).1
  have I : InstAt s.heap x (excO C (some d) vs) C (some (dictOf es n)) := ⟨hx, rfl, rfl, (N _ List.mem_cons_self).1⟩
  refine set_plain X' I hs (exc_open X' I hc hm ht fun b => ?_)
  obtain ⟨hp, g, dr, tk, os⟩ := s
  dsimp only at X' I F N h hx e ⊢
  unfold storeInOwnDict ownDictForStores instanceDict
  refine wpAny_bind (wpAny_pure (wpAny_bind (wpAny_bind (wpAny_loadPart hx (wpAny_bind ((looks_clsIn (M := model prog w) X' hc).here (s := ⟨hp, g, dr, tk + 1, os⟩) ?_))))))
  rw [hh]
  refine wpAny_pure (a := some d) ?_
  exact exc_store (pre := []) F N hl (fun _ q => nomatch q) hr e hz fun h' F' N' => h _ F' N'
end
noncomputable abbrev excMro : List Value := [.type "Exception", .type "BaseException", .type "object"]
noncomputable abbrev failCls : Obj := excClassObj (Str.ofString "SyntaxFail") (Str.ofString "SyntaxFail") 371 370 [.type "Exception"] excMro true [] [] false none none (some (.ref 355)) none (some (.str (Str.ofString "SyntaxFail") 847)) (some (.str (Str.ofString "SyntaxFail") 855)) (some (.bool true)) "Exception.__new__"
theorem failCls_in (w : World) : (Mine.k0.heap_1 w.params).lookup 371 = some failCls := by k_is
section
variable {w : World} {prog : Program} {A : Around} {E : Value → Shared → Prop} {env : Env} {s : Shared}
theorem Raise_fail {x : PySem.Expr} {pos : Pos} {Q : Flow → Shared → Prop} (hh : A.handled = none)
    (h : wpAny (model prog w) A (eval x env) (fun v s₁ => ∃ e od vs, v = .ref e ∧ vs[1]? = some .none ∧ Frag.In (Mine.k0.heap_1 w.params) s₁.heap ∧ s₁.heap.get? e = some (excO 371 od vs) ∧ E (.ref e) s₁) E s) : wpAny (model prog w) A (exec (.Raise (some x) none pos) env) Q E s :=
  Raise_own' (C := 371) (bm := excMro) (by decide) hh (wpAny_mono h (fun v s₁ ⟨e, od, vs, a, b, X, he, hE⟩ => ⟨e, od, vs, _, a, b, X _ _ (failCls_in w), he, hE⟩) fun _ _ x => x)
theorem ns_some_of {K : Frag} {h : Heap} {N : Addr} {mg : Str → Option Value} {n : Str} {v : Value} (X : K.In h) (G : h.Ns N mg) (e : nsIn K N n = some (some v)) : mg n = some v := by
  obtain ⟨o, es, ep, ho, hd, _, hf⟩ := G
  unfold nsIn at e
  split at e
  · rename_i c d es' n' sl q
    have := X _ _ q
    rw [ho] at this
    cases this
    cases hd
    split at e
    · rename_i en he
      cases e
      rw [← hf]
      unfold nsFind findBy
      rw [← Array.find?_toList, he]
      rfl
    · split at e <;> cases e
  · cases e
theorem fail_ns {h : Heap} (X : Frag.In (Mine.k0.heap_1 w.params) h) : h.Ns 370 (h.nsMap 370) ∧ h.nsMap 370 (Str.ofString "__init__") = some (.ref 368) := by
  have e : h.isNs 370 = true := isNs_of_in X (by kernel_rfl)
  exact ⟨.of_isNs e, ns_some_of X (.of_isNs e) (by k_is)⟩
end
end
section
noncomputable def codeAt (x : Str) (i : Int) : Int := if i < (x.length : Int) then ((x.cps.getD i.toNat 0 : Nat) : Int) else -1
set_option maxRecDepth 100000 in
set_option maxHeartbeats 8000000 in
theorem code_at_spec (w : World) (x : Str) (xt : Tok) (i : Int) (ti : Tok) (h0 : 0 ≤ i) (hT : x.length < 1000000) : PureC w 2 209 [.str x xt, .int i ti] (fun v => ∃ t, v = .int (codeAt x i) t) := by
  (intro dp un gd env outer A₀ base h₀ L m p loose mean mg mb s Q E B F X N T hk hd hu ret exc; refine wpAny_call ?_; k_dflt (refine' code_defE ?k1 ?k2 ?k3 ?k4 ?k5 ?kA ?kF ?kK ?k6 ?k7 ?k8 ?k9 ?kB ?_ ?c2 ?c3 ?c4 ?c5; (case kA => exact rfl); (case kF => exact Stands.frame (by assumption)); (case kK => exact Stands.kind (by assumption)); (case k1 => k_asm); (case k2 => k_asm); (case k3 => k_asm); (case k4 => k_asm); (case k5 => k_asm); (case k6 => k_is); (case k7 => k_is); (case k8 => ktr_room); (case k9 => exact BindsTo.of_eq rfl); (case c5 => decide); (case kB => exact locs rfl); (case c2 => exact rfl); (case c3 => exact rfl); (case c4 => exact rfl); k_whole; intro g' L' h' FG' F' N' B' X' T' G'; (try dsimp only); (try k_fold)))
  k_steps
  · rename_i hi _ _ _ _ _
    ((refine PureC.fin (by assumption) ?_ (by assumption) (by assumption) (by assumption)); (try dsimp only))
    exact ⟨_, by rw [PyProof.Rows.item_at h0 hi rfl]; simp only [codeAt, hi, if_true]; rfl⟩
  · rename_i hi _ _ _ _
    ((refine PureC.fin (by assumption) ?_ (by assumption) (by assumption) (by assumption)); (try dsimp only))
    exact ⟨_, by simp only [codeAt, hi, if_false]; rfl⟩
noncomputable def isLineEndI (c : Int) : Bool := decide (c = 10) || (decide (c = 13) || (decide (c = 8232) || (decide (c = 8233) || false)))
noncomputable def isBlankI (c : Int) : Bool := (decide (c = 9) || (decide (c = 11) || (decide (c = 12) || (decide (c = 32) || (decide (c = 160) || (decide (c = 5760) || (decide (c = 6158) || (decide (c = 8239) || (decide (c = 8287) || (decide (c = 12288) || (decide (c = 65279) || false))))))))))) || (decide (8192 ≤ c) && decide (c ≤ 8202))
noncomputable def isIdStartI (c : Int) : Bool := (decide (65 ≤ c) && decide (c ≤ 90)) || ((decide (97 ≤ c) && decide (c ≤ 122)) || (decide (c = 36) || decide (c = 95)))
noncomputable def isDigitI (c : Int) : Bool := decide (48 ≤ c) && decide (c ≤ 57)
noncomputable def isIdPartI (c : Int) : Bool := isIdStartI c || isDigitI c
theorem beqI (a b : Int) : (a == b) = decide (a = b) := rfl
set_option maxRecDepth 100000 in
set_option maxHeartbeats 8000000 in
theorem is_line_end_spec (w : World) (c : Int) (ct : Tok)  : PureC w 2 117 [.int c ct] (fun v => v = .bool (isLineEndI c)) := by
  (intro dp un gd env outer A₀ base h₀ L m p loose mean mg mb s Q E B F X N T hk hd hu ret exc; refine wpAny_call ?_; k_dflt (refine' code_defE ?k1 ?k2 ?k3 ?k4 ?k5 ?kA ?kF ?kK ?k6 ?k7 ?k8 ?k9 ?kB ?_ ?c2 ?c3 ?c4 ?c5; (case kA => exact rfl); (case kF => exact Stands.frame (by assumption)); (case kK => exact Stands.kind (by assumption)); (case k1 => k_asm); (case k2 => k_asm); (case k3 => k_asm); (case k4 => k_asm); (case k5 => k_asm); (case k6 => k_is); (case k7 => k_is); (case k8 => ktr_room); (case k9 => exact BindsTo.of_eq rfl); (case c5 => decide); (case kB => exact locs rfl); (case c2 => exact rfl); (case c3 => exact rfl); (case c4 => exact rfl); k_whole; intro g' L' h' FG' F' N' B' X' T' G'; (try dsimp only); (try k_fold)))
  k_steps
  all_goals (((refine PureC.fin (by assumption) ?_ (by assumption) (by assumption) (by assumption)); (try dsimp only)); (refine congrArg Value.bool ?_); first
  | rfl
  | (simp only [isLineEndI, isBlankI, isIdStartI, isIdPartI, isDigitI, beqI, *]; (first | done | rfl | ((try simp only [decide_true, decide_false, Bool.true_and, Bool.false_and, Bool.true_or, Bool.false_or, Bool.or_false, Bool.or_true, Bool.and_true, Bool.and_false, not_false_eq_true, not_true_eq_false]); (first | done | rfl | decide | (simp (disch := omega) only [decide_eq_false, Bool.false_and, Bool.false_or, Bool.or_false, Bool.and_false]; (first | done | rfl)))))))
set_option maxRecDepth 100000 in
set_option maxHeartbeats 8000000 in
theorem is_white_spec (w : World) (c : Int) (ct : Tok)  : PureC w 2 110 [.int c ct] (fun v => v = .bool (isBlankI c)) := by
  (intro dp un gd env outer A₀ base h₀ L m p loose mean mg mb s Q E B F X N T hk hd hu ret exc; refine wpAny_call ?_; k_dflt (refine' code_defE ?k1 ?k2 ?k3 ?k4 ?k5 ?kA ?kF ?kK ?k6 ?k7 ?k8 ?k9 ?kB ?_ ?c2 ?c3 ?c4 ?c5; (case kA => exact rfl); (case kF => exact Stands.frame (by assumption)); (case kK => exact Stands.kind (by assumption)); (case k1 => k_asm); (case k2 => k_asm); (case k3 => k_asm); (case k4 => k_asm); (case k5 => k_asm); (case k6 => k_is); (case k7 => k_is); (case k8 => ktr_room); (case k9 => exact BindsTo.of_eq rfl); (case c5 => decide); (case kB => exact locs rfl); (case c2 => exact rfl); (case c3 => exact rfl); (case c4 => exact rfl); k_whole; intro g' L' h' FG' F' N' B' X' T' G'; (try dsimp only); (try k_fold)))
  k_steps
  all_goals (((refine PureC.fin (by assumption) ?_ (by assumption) (by assumption) (by assumption)); (try dsimp only)); (refine congrArg Value.bool ?_); first
  | rfl
  | (simp only [isLineEndI, isBlankI, isIdStartI, isIdPartI, isDigitI, beqI, *]; (first | done | rfl | ((try simp only [decide_true, decide_false, Bool.true_and, Bool.false_and, Bool.true_or, Bool.false_or, Bool.or_false, Bool.or_true, Bool.and_true, Bool.and_false, not_false_eq_true, not_true_eq_false]); (first | done | rfl | decide | (simp (disch := omega) only [decide_eq_false, Bool.false_and, Bool.false_or, Bool.or_false, Bool.and_false]; (first | done | rfl)))))))
set_option maxRecDepth 100000 in
set_option maxHeartbeats 8000000 in
theorem is_digit_spec (w : World) (c : Int) (ct : Tok)  : PureC w 2 124 [.int c ct] (fun v => v = .bool (isDigitI c)) := by
  (intro dp un gd env outer A₀ base h₀ L m p loose mean mg mb s Q E B F X N T hk hd hu ret exc; refine wpAny_call ?_; k_dflt (refine' code_defE ?k1 ?k2 ?k3 ?k4 ?k5 ?kA ?kF ?kK ?k6 ?k7 ?k8 ?k9 ?kB ?_ ?c2 ?c3 ?c4 ?c5; (case kA => exact rfl); (case kF => exact Stands.frame (by assumption)); (case kK => exact Stands.kind (by assumption)); (case k1 => k_asm); (case k2 => k_asm); (case k3 => k_asm); (case k4 => k_asm); (case k5 => k_asm); (case k6 => k_is); (case k7 => k_is); (case k8 => ktr_room); (case k9 => exact BindsTo.of_eq rfl); (case c5 => decide); (case kB => exact locs rfl); (case c2 => exact rfl); (case c3 => exact rfl); (case c4 => exact rfl); k_whole; intro g' L' h' FG' F' N' B' X' T' G'; (try dsimp only); (try k_fold)))
  k_steps
  all_goals (((refine PureC.fin (by assumption) ?_ (by assumption) (by assumption) (by assumption)); (try dsimp only)); (refine congrArg Value.bool ?_); first
  | rfl
  | (simp only [isLineEndI, isBlankI, isIdStartI, isIdPartI, isDigitI, beqI, *]; (first | done | rfl | ((try simp only [decide_true, decide_false, Bool.true_and, Bool.false_and, Bool.true_or, Bool.false_or, Bool.or_false, Bool.or_true, Bool.and_true, Bool.and_false, not_false_eq_true, not_true_eq_false]); (first | done | rfl | decide | (simp (disch := omega) only [decide_eq_false, Bool.false_and, Bool.false_or, Bool.or_false, Bool.and_false]; (first | done | rfl)))))))
set_option maxRecDepth 100000 in
set_option maxHeartbeats 8000000 in
theorem is_id_start_spec (w : World) (c : Int) (ct : Tok) (h : c < 128) : PureC w 2 145 [.int c ct] (fun v => v = .bool (isIdStartI c)) := by
  (intro dp un gd env outer A₀ base h₀ L m p loose mean mg mb s Q E B F X N T hk hd hu ret exc; refine wpAny_call ?_; k_dflt (refine' code_defE ?k1 ?k2 ?k3 ?k4 ?k5 ?kA ?kF ?kK ?k6 ?k7 ?k8 ?k9 ?kB ?_ ?c2 ?c3 ?c4 ?c5; (case kA => exact rfl); (case kF => exact Stands.frame (by assumption)); (case kK => exact Stands.kind (by assumption)); (case k1 => k_asm); (case k2 => k_asm); (case k3 => k_asm); (case k4 => k_asm); (case k5 => k_asm); (case k6 => k_is); (case k7 => k_is); (case k8 => ktr_room); (case k9 => exact BindsTo.of_eq rfl); (case c5 => decide); (case kB => exact locs rfl); (case c2 => exact rfl); (case c3 => exact rfl); (case c4 => exact rfl); k_whole; intro g' L' h' FG' F' N' B' X' T' G'; (try dsimp only); (try k_fold)))
  k_steps
  all_goals (((refine PureC.fin (by assumption) ?_ (by assumption) (by assumption) (by assumption)); (try dsimp only)); (refine congrArg Value.bool ?_); first
  | rfl
  | (simp only [isLineEndI, isBlankI, isIdStartI, isIdPartI, isDigitI, beqI, *]; (first | done | rfl | ((try simp only [decide_true, decide_false, Bool.true_and, Bool.false_and, Bool.true_or, Bool.false_or, Bool.or_false, Bool.or_true, Bool.and_true, Bool.and_false, not_false_eq_true, not_true_eq_false]); (first | done | rfl | decide | (simp (disch := omega) only [decide_eq_false, Bool.false_and, Bool.false_or, Bool.or_false, Bool.and_false]; (first | done | rfl)))))))
local macro_rules | `(tactic| walk_at "call ref") => `(tactic| (k_here; (first
  | ((with_reducible show wpAny _ _ (PySem.call (Value.ref 124) _) _ _ _); k_dflt (refine' PureC.use (is_digit_spec _ _ _) ?k1 ?k2 ?k3 ?k4 ?k5 ?k6 ?k7 ?k8 ?_; walk_at "m asm"))
  | ((with_reducible show wpAny _ _ (PySem.call (Value.ref 145) _) _ _ _); k_dflt (refine' PureC.use (is_id_start_spec _ _ _ ?h1) ?k1 ?k2 ?k3 ?k4 ?k5 ?k6 ?k7 ?k8 ?_; walk_at "m asm"; (case h1 => omega)))); walk_at "m back"))
set_option maxRecDepth 100000 in
set_option maxHeartbeats 8000000 in
theorem is_id_part_spec (w : World) (c : Int) (ct : Tok) (h : c < 128) : PureC w 4 152 [.int c ct] (fun v => v = .bool (isIdPartI c)) := by
  have h2 : ¬ (127 < c) := by omega
  (intro dp un gd env outer A₀ base h₀ L m p loose mean mg mb s Q E B F X N T hk hd hu ret exc; refine wpAny_call ?_; k_dflt (refine' code_defE ?k1 ?k2 ?k3 ?k4 ?k5 ?kA ?kF ?kK ?k6 ?k7 ?k8 ?k9 ?kB ?_ ?c2 ?c3 ?c4 ?c5; (case kA => exact rfl); (case kF => exact Stands.frame (by assumption)); (case kK => exact Stands.kind (by assumption)); (case k1 => k_asm); (case k2 => k_asm); (case k3 => k_asm); (case k4 => k_asm); (case k5 => k_asm); (case k6 => k_is); (case k7 => k_is); (case k8 => ktr_room); (case k9 => exact BindsTo.of_eq rfl); (case c5 => decide); (case kB => exact locs rfl); (case c2 => exact rfl); (case c3 => exact rfl); (case c4 => exact rfl); k_whole; intro g' L' h' FG' F' N' B' X' T' G'; (try dsimp only); (try k_fold)))
  k_steps
  all_goals (((refine PureC.fin (by assumption) ?_ (by assumption) (by assumption) (by assumption)); (try dsimp only)); (refine congrArg Value.bool ?_))
  all_goals (simp only [isIdPartI, *, decide_false, Bool.true_or, Bool.false_or, Bool.or_false, Bool.or_true])
theorem is_line_end_val (w : World) (c : Int) (ct : Tok) (b : Bool) (h : isLineEndI c = b) : PureC w 2 117 [.int c ct] (fun v => v = .bool b) := by subst h; exact is_line_end_spec w c ct
theorem is_white_val (w : World) (c : Int) (ct : Tok) (b : Bool) (h : isBlankI c = b) : PureC w 2 110 [.int c ct] (fun v => v = .bool b) := by subst h; exact is_white_spec w c ct
theorem is_digit_val (w : World) (c : Int) (ct : Tok) (b : Bool) (h : isDigitI c = b) : PureC w 2 124 [.int c ct] (fun v => v = .bool b) := by subst h; exact is_digit_spec w c ct
theorem is_id_start_val (w : World) (c : Int) (ct : Tok) (b : Bool) (h : isIdStartI c = b) (h1 : c < 128) : PureC w 2 145 [.int c ct] (fun v => v = .bool b) := by subst h; exact is_id_start_spec w c ct h1
theorem is_id_part_val (w : World) (c : Int) (ct : Tok) (b : Bool) (h : isIdPartI c = b) (h1 : c < 128) : PureC w 4 152 [.int c ct] (fun v => v = .bool b) := by subst h; exact is_id_part_spec w c ct h1
end
local macro_rules | `(tactic| walk_at "call ref") => `(tactic| (k_here; (first
  | (with_reducible show wpAny _ _ (PySem.call (Value.ref 117) _) _ _ _)
  | (with_reducible show wpAny _ _ (PySem.call (Value.ref 110) _) _ _ _)
  | (with_reducible show wpAny _ _ (PySem.call (Value.ref 124) _) _ _ _)
  | (with_reducible show wpAny _ _ (PySem.call (Value.ref 145) _) _ _ _)
  | (with_reducible show wpAny _ _ (PySem.call (Value.ref 152) _) _ _ _)); k_dflt (refine' PureC.use ?hp ?k1 ?k2 ?k3 ?k4 ?k5 ?k6 ?k7 ?k8 ?_; (case hp => first
    | exact is_line_end_val _ _ _ _ (by assumption) | exact is_line_end_spec _ _ _ | exact is_white_val _ _ _ _ (by assumption) | exact is_white_spec _ _ _ | exact is_digit_val _ _ _ _ (by assumption) | exact is_digit_spec _ _ _
    | exact is_id_start_val _ _ _ _ (by assumption) (by omega) | exact is_id_start_spec _ _ _ (by omega) | exact is_id_part_val _ _ _ _ (by assumption) (by omega) | exact is_id_part_spec _ _ _ (by omega)); walk_at "m asm"); walk_at "m back"))
theorem tup_of_K {K : Frag} {h₀ h : Heap} {L : Addr} {m : Str → Option Value} {a : Addr} {d : Option Addr} {items : Array Value} {n : Nat} {sl : Array (Option Value)} (X : K.In h₀) (F : Fr h₀ L h m) (e : K.lookup a = some ⟨.type "tuple", d, .seq items n, sl⟩) : IsTup h a items :=
  ⟨_, F.keep _ _ (X _ _ e), rfl, n, rfl⟩
noncomputable def kwList : List Str := [⟨#[98, 114, 101, 97, 107]⟩, ⟨#[99, 97, 115, 101]⟩, ⟨#[99, 97, 116, 99, 104]⟩, ⟨#[99, 111, 110, 116, 105, 110, 117, 101]⟩, ⟨#[100, 101, 98, 117, 103, 103, 101, 114]⟩, ⟨#[100, 101, 102, 97, 117, 108, 116]⟩, ⟨#[100, 101, 108, 101, 116, 101]⟩, ⟨#[100, 111]⟩, ⟨#[101, 108, 115, 101]⟩, ⟨#[102, 105, 110, 97, 108, 108, 121]⟩, ⟨#[102, 111, 114]⟩, ⟨#[102, 117, 110, 99, 116, 105, 111, 110]⟩, ⟨#[105, 102]⟩, ⟨#[105, 110]⟩, ⟨#[105, 110, 115, 116, 97, 110, 99, 101, 111, 102]⟩, ⟨#[110, 101, 119]⟩, ⟨#[114, 101, 116, 117, 114, 110]⟩, ⟨#[115, 119, 105, 116, 99, 104]⟩, ⟨#[116, 104, 105, 115]⟩, ⟨#[116, 104, 114, 111, 119]⟩, ⟨#[116, 114, 121]⟩, ⟨#[116, 121, 112, 101, 111, 102]⟩, ⟨#[118, 97, 114]⟩, ⟨#[118, 111, 105, 100]⟩, ⟨#[119, 104, 105, 108, 101]⟩, ⟨#[119, 105, 116, 104]⟩, ⟨#[99, 108, 97, 115, 115]⟩, ⟨#[99, 111, 110, 115, 116]⟩, ⟨#[101, 110, 117, 109]⟩, ⟨#[101, 120, 112, 111, 114, 116]⟩, ⟨#[101, 120, 116, 101, 110, 100, 115]⟩, ⟨#[105, 109, 112, 111, 114, 116]⟩, ⟨#[115, 117, 112, 101, 114]⟩, ⟨#[110, 117, 108, 108]⟩, ⟨#[116, 114, 117, 101]⟩, ⟨#[102, 97, 108, 115, 101]⟩]
noncomputable def puList : List Str := [⟨#[62, 62, 62, 61]⟩, ⟨#[61, 61, 61]⟩, ⟨#[33, 61, 61]⟩, ⟨#[62, 62, 62]⟩, ⟨#[60, 60, 61]⟩, ⟨#[62, 62, 61]⟩, ⟨#[60, 61]⟩, ⟨#[62, 61]⟩, ⟨#[61, 61]⟩, ⟨#[33, 61]⟩, ⟨#[43, 43]⟩, ⟨#[45, 45]⟩, ⟨#[60, 60]⟩, ⟨#[62, 62]⟩, ⟨#[38, 38]⟩, ⟨#[124, 124]⟩, ⟨#[43, 61]⟩, ⟨#[45, 61]⟩, ⟨#[42, 61]⟩, ⟨#[37, 61]⟩, ⟨#[38, 61]⟩, ⟨#[124, 61]⟩, ⟨#[94, 61]⟩, ⟨#[47, 61]⟩, ⟨#[123]⟩, ⟨#[125]⟩, ⟨#[40]⟩, ⟨#[41]⟩, ⟨#[91]⟩, ⟨#[93]⟩, ⟨#[46]⟩, ⟨#[59]⟩, ⟨#[44]⟩, ⟨#[60]⟩, ⟨#[62]⟩, ⟨#[43]⟩, ⟨#[45]⟩, ⟨#[42]⟩, ⟨#[37]⟩, ⟨#[38]⟩, ⟨#[124]⟩, ⟨#[94]⟩, ⟨#[33]⟩, ⟨#[126]⟩, ⟨#[63]⟩, ⟨#[58]⟩, ⟨#[61]⟩, ⟨#[47]⟩]
noncomputable def inKw (x : Str) : Bool := kwList.any fun k => decide (x = k)
noncomputable def inPu (x : Str) : Bool := puList.any fun k => decide (x = k)
noncomputable def inTg (k : Str) : Bool := [Str.ofString "Name", Str.ofString "Member", Str.ofString "Index"].any fun x => x == k
set_option maxRecDepth 100000 in
set_option maxHeartbeats 8000000 in
theorem pu_in {w : World} {A : Around} {E : Value → Shared → Prop} {s : Shared} {h₀ : Heap} {L : Addr} {m : Str → Option Value} {x : Str} {u : Tok} {Q : Value → Shared → Prop} (F : Fr h₀ L s.heap m) (X : Frag.In (Mine.k0.heap_1 w.params) h₀)
    (h : ∀ tk, Q (.bool (inPu x)) { s with toks := tk }) : wpAny (model PySem.Challenge.pw_pc0091_01 w) A (compareOp .In (.str x u) (.ref 314)) Q E s := by
  kt_k
  k_dflt kt_at_in
  exact h _
local macro_rules | `(tactic| walk_at "compareOp NotIn str ref") => `(tactic| (k_here; k_dflt (refine' notin_tuple_strs (tup_of_K ?X ?F ?e) ?hs ?_; (case X => k_asm); (case F => k_asm); (case e => k_is); (case hs => kde_strs); k_whole)))
local macro_rules | `(tactic| walk_at "compareOp In str ref") => `(tactic| (k_here; k_dflt (refine' in_tuple_strs (tup_of_K ?X ?F ?e) ?hs ?_; (case X => k_asm); (case F => k_asm); (case e => k_is); (case hs => kde_strs); k_whole)))
local macro_rules | `(tactic| walk_at "compareOp In str ref") => `(tactic| (k_here; (with_reducible show wpAny _ _ (compareOp CmpOp.In (Value.str _ _) (Value.ref 314)) _ _ _); k_dflt (refine' pu_in ?F ?X ?_; (case F => k_asm); (case X => k_asm); k_whole; intro tk9; (try dsimp only); (try k_fold))))
set_option maxRecDepth 100000 in
set_option maxHeartbeats 8000000 in
theorem is_keyword_spec (w : World) (x : Str) (xt : Tok)  : PureC w 2 347 [.str x xt] (fun v => v = .bool (inKw x)) := by
  (intro dp un gd env outer A₀ base h₀ L m p loose mean mg mb s Q E B F X N T hk hd hu ret exc; refine wpAny_call ?_; k_dflt (refine' code_defE ?k1 ?k2 ?k3 ?k4 ?k5 ?kA ?kF ?kK ?k6 ?k7 ?k8 ?k9 ?kB ?_ ?c2 ?c3 ?c4 ?c5; (case kA => exact rfl); (case kF => exact Stands.frame (by assumption)); (case kK => exact Stands.kind (by assumption)); (case k1 => k_asm); (case k2 => k_asm); (case k3 => k_asm); (case k4 => k_asm); (case k5 => k_asm); (case k6 => k_is); (case k7 => k_is); (case k8 => ktr_room); (case k9 => exact BindsTo.of_eq rfl); (case c5 => decide); (case kB => exact locs rfl); (case c2 => exact rfl); (case c3 => exact rfl); (case c4 => exact rfl); k_whole; intro g' L' h' FG' F' N' B' X' T' G'; (try dsimp only); (try k_fold)))
  k_steps
  ((refine PureC.fin (by assumption) ?_ (by assumption) (by assumption) (by assumption)); (try dsimp only))
  exact rfl
set_option maxRecDepth 100000 in
set_option maxHeartbeats 8000000 in
theorem name_fault_spec (w : World) (n : Value)  : PureC w 2 531 [n, .bool false] (fun v => v = .none) := by
  (intro dp un gd env outer A₀ base h₀ L m p loose mean mg mb s Q E B F X N T hk hd hu ret exc; refine wpAny_call ?_; k_dflt (refine' code_defE ?k1 ?k2 ?k3 ?k4 ?k5 ?kA ?kF ?kK ?k6 ?k7 ?k8 ?k9 ?kB ?_ ?c2 ?c3 ?c4 ?c5; (case kA => exact rfl); (case kF => exact Stands.frame (by assumption)); (case kK => exact Stands.kind (by assumption)); (case k1 => k_asm); (case k2 => k_asm); (case k3 => k_asm); (case k4 => k_asm); (case k5 => k_asm); (case k6 => k_is); (case k7 => k_is); (case k8 => ktr_room); (case k9 => exact BindsTo.of_eq rfl); (case c5 => decide); (case kB => exact locs rfl); (case c2 => exact rfl); (case c3 => exact rfl); (case c4 => exact rfl); k_whole; intro g' L' h' FG' F' N' B' X' T' G'; (try dsimp only); (try k_fold)))
  k_steps
  ((refine PureC.fin (by assumption) ?_ (by assumption) (by assumption) (by assumption)); (try dsimp only))
set_option maxRecDepth 100000 in
set_option maxHeartbeats 8000000 in
theorem punct_at_spec (w : World) (x : Str) (xt : Tok) (i : Int) (it : Tok) (h0 : 0 ≤ i) (h1 : i < x.length) (hT : x.length < 1000000)
    (p4 : inPu (Txt.slice x (some i) (some (i + 4))) = false) (p3 : inPu (Txt.slice x (some i) (some (i + 3))) = false) (p2 : inPu (Txt.slice x (some i) (some (i + 2))) = false) (p1 : inPu (Txt.slice x (some i) (some (i + 1))) = true) : PureC w 2 354 [.str x xt, .int i it] (fun v => ∃ t, v = .str (Txt.slice x (some i) (some (i + 1))) t) := by
  (intro dp un gd env outer A₀ base h₀ L m p loose mean mg mb s Q E B F X N T hk hd hu ret exc; refine wpAny_call ?_; k_dflt (refine' code_defE ?k1 ?k2 ?k3 ?k4 ?k5 ?kA ?kF ?kK ?k6 ?k7 ?k8 ?k9 ?kB ?_ ?c2 ?c3 ?c4 ?c5; (case kA => exact rfl); (case kF => exact Stands.frame (by assumption)); (case kK => exact Stands.kind (by assumption)); (case k1 => k_asm); (case k2 => k_asm); (case k3 => k_asm); (case k4 => k_asm); (case k5 => k_asm); (case k6 => k_is); (case k7 => k_is); (case k8 => ktr_room); (case k9 => exact BindsTo.of_eq rfl); (case c5 => decide); (case kB => exact locs rfl); (case c2 => exact rfl); (case c3 => exact rfl); (case c4 => exact rfl); k_whole; intro g' L' h' FG' F' N' B' X' T' G'; (try dsimp only); (try k_fold)))
  k_steps
  all_goals first
    | ((rename (_ || _) = true => q); first | exact absurd (p4.symm.trans q) Bool.false_ne_true | exact absurd (p3.symm.trans q) Bool.false_ne_true | exact absurd (p2.symm.trans q) Bool.false_ne_true)
    | (((refine PureC.fin (by assumption) ?_ (by assumption) (by assumption) (by assumption)); (try dsimp only)); exact ⟨_, rfl⟩)
    | ((rename (_ || _) = false => q); exact absurd (q.symm.trans p1) Bool.false_ne_true)
set_option maxRecDepth 100000 in
set_option maxHeartbeats 8000000 in
theorem punct_at_end (w : World) (x : Str) (xt : Tok) (i : Int) (it : Tok) (h0 : 0 ≤ i) (h1 : i < x.length) (hT : x.length < 1000000) (p4 : inPu (Txt.slice x (some i) (some (i + 4))) = true) :
    PureC w 2 354 [.str x xt, .int i it] (fun v => ∃ t, v = .str (Txt.slice x (some i) (some (i + 4))) t) := by
  (intro dp un gd env outer A₀ base h₀ L m p loose mean mg mb s Q E B F X N T hk hd hu ret exc; refine wpAny_call ?_; k_dflt (refine' code_defE ?k1 ?k2 ?k3 ?k4 ?k5 ?kA ?kF ?kK ?k6 ?k7 ?k8 ?k9 ?kB ?_ ?c2 ?c3 ?c4 ?c5; (case kA => exact rfl); (case kF => exact Stands.frame (by assumption)); (case kK => exact Stands.kind (by assumption)); (case k1 => k_asm); (case k2 => k_asm); (case k3 => k_asm); (case k4 => k_asm); (case k5 => k_asm); (case k6 => k_is); (case k7 => k_is); (case k8 => ktr_room); (case k9 => exact BindsTo.of_eq rfl); (case c5 => decide); (case kB => exact locs rfl); (case c2 => exact rfl); (case c3 => exact rfl); (case c4 => exact rfl); k_whole; intro g' L' h' FG' F' N' B' X' T' G'; (try dsimp only); (try k_fold)))
  k_steps
  all_goals first
    | (((refine PureC.fin (by assumption) ?_ (by assumption) (by assumption) (by assumption)); (try dsimp only)); exact ⟨_, rfl⟩)
    | ((rename (_ || _) = false => q); exact absurd (q.symm.trans p4) Bool.false_ne_true)
set_option maxRecDepth 100000 in
set_option maxHeartbeats 8000000 in
theorem target_fault_spec (w : World) (k : Str) (kt : Tok) (n : Value)  : PureC w 4 545 [.str k kt, n, .bool false] (fun v => (inTg k = true ∧ v = .none) ∨ (inTg k = false ∧ ∃ t, v = .str (Str.ofString "invalid target of an assignment") t)) := by
  (intro dp un gd env outer A₀ base h₀ L m p loose mean mg mb s Q E B F X N T hk hd hu ret exc; refine wpAny_call ?_; k_dflt (refine' code_defE ?k1 ?k2 ?k3 ?k4 ?k5 ?kA ?kF ?kK ?k6 ?k7 ?k8 ?k9 ?kB ?_ ?c2 ?c3 ?c4 ?c5; (case kA => exact rfl); (case kF => exact Stands.frame (by assumption)); (case kK => exact Stands.kind (by assumption)); (case k1 => k_asm); (case k2 => k_asm); (case k3 => k_asm); (case k4 => k_asm); (case k5 => k_asm); (case k6 => k_is); (case k7 => k_is); (case k8 => ktr_room); (case k9 => exact BindsTo.of_eq rfl); (case c5 => decide); (case kB => exact locs rfl); (case c2 => exact rfl); (case c3 => exact rfl); (case c4 => exact rfl); k_whole; intro g' L' h' FG' F' N' B' X' T' G'; (try dsimp only); (try k_fold)))
  k_steps
  · ((refine PureC.fin (by assumption) ?_ (by assumption) (by assumption) (by assumption)); (try dsimp only))
    (rename List.any _ _ = true => q)
    exact .inl ⟨q, rfl⟩
  · ((refine PureC.fin (by assumption) ?_ (by assumption) (by assumption) (by assumption)); (try dsimp only))
    (rename List.any _ _ = true => q)
    exact .inl ⟨q, rfl⟩
  · ((refine PureC.fin (by assumption) ?_ (by assumption) (by assumption) (by assumption)); (try dsimp only))
    (rename List.any _ _ = false => q)
    exact .inr ⟨q, _, rfl⟩
theorem is_keyword_val (w : World) (x : Str) (xt : Tok) (b : Bool) (h : inKw x = b) : PureC w 2 347 [.str x xt] (fun v => v = .bool b) := by subst h; exact is_keyword_spec w x xt
section
variable {prog : Program} {w : World} {A : Around} {E : Value → Shared → Prop} {s : Shared} {D : Addr} {x y y2 y3 : Str} {t u u2 u3 : Tok} {Q : Value → Shared → Prop}
end
local macro_rules | `(tactic| walk_at "call ref") => `(tactic| (k_here; (with_reducible show wpAny _ _ (PySem.call (Value.ref 354) _) _ _ _); k_dflt (refine' PureC.use ?hp ?k1 ?k2 ?k3 ?k4 ?k5 ?k6 ?k7 ?k8 ?_; (case hp => assumption); walk_at "m asm"); walk_at "m back"))
noncomputable abbrev ent (w : World) (nm : String) (k : Tok) (v : Value) : DictEntry := ⟨PyData.keyHash w.params (Str.ofString nm), .str (Str.ofString nm) k, v⟩
structure Fx where
  (R Rd X Xd : Nat)
  (k1 k2 k3 k4 k5 k6 k7 k8 : Tok)
  (l1 l2 l3 : Tok)
  (J P : Nat)
  text : Str
  tt : Tok
  dtok : Tok
noncomputable abbrev lxDict (w : World) (f : Fx) (i : Int) (it : Tok) (l : Int) (lt : Tok) : Obj := dictOf [ent w "text" f.l1 (.str f.text f.tt), ent w "at" f.l2 (.int i it), ent w "line" f.l3 (.int l lt)] 3
noncomputable abbrev lxLed (w : World) (f : Fx) (i : Int) (it : Tok) (l : Int) (lt : Tok) : List (Addr × Obj) := [(f.X, instObj 517 f.Xd), (f.Xd, lxDict w f i it l lt)]
structure At (x : Str) (i : Int) (rest : List Nat) : Prop where
  nonneg : 0 ≤ i
  le : i ≤ (x.length : Int)
  eq : x.cps.toList.drop i.toNat = rest
  small : ∀ c ∈ rest, c < 128
  size : x.length < 100000
theorem At.nil {x : Str} {i : Int} (h : At x i []) : codeAt x i = -1 := by
  have h1 := h.eq
  have h2 := List.drop_eq_nil_iff.mp h1
  have h3 : ¬ (i < (x.length : Int)) := by
    have : x.cps.toList.length = x.length := Array.length_toList
    have := h.nonneg
    omega
  simp only [codeAt, h3, if_false]
theorem At.cons {x : Str} {i : Int} {c : Nat} {r : List Nat} (h : At x i (c :: r)) : codeAt x i = (c : Int) ∧ i < (x.length : Int) ∧ At x (i + 1) r ∧ c < 128 := by
  have h1 := h.eq
  have hn := h.nonneg
  have hl : x.cps.toList.length = x.length := Array.length_toList
  have h3 : i < (x.length : Int) := by
    have := congrArg List.length h1
    rw [List.length_drop, List.length_cons] at this
    omega
  have h4 : x.cps.toList[i.toNat]? = some c := by
    have : (x.cps.toList.drop i.toNat)[0]? = some c := by rw [h1]; rfl
    rwa [List.getElem?_drop, Nat.add_zero] at this
  refine ⟨?_, h3, ⟨by omega, by omega, ?_, fun d hd => h.small d (List.mem_cons_of_mem _ hd), h.size⟩, h.small c List.mem_cons_self⟩
  · simp only [codeAt, h3, if_true]
    rw [Array.getElem?_toList] at h4
    rw [Array.getD_eq_getD_getElem?, h4]
    rfl
  · have : (i + 1).toNat = i.toNat + 1 := by omega
    rw [this, ← List.drop_drop, h1]
    rfl
theorem At.lt {x : Str} {i : Int} {r : List Nat} (h : At x i r) : x.length < 1000000 := by have := h.size; omega
theorem code_nil_spec (w : World) (x : Str) (xt : Tok) (i : Int) (ti : Tok) (h : At x i []) : PureC w 2 209 [.str x xt, .int i ti] (fun v => ∃ t, v = .int (-1) t) := by
  have := code_at_spec w x xt i ti h.nonneg h.lt
  rwa [h.nil] at this
theorem code_cons_spec (w : World) (x : Str) (xt : Tok) (i : Int) (ti : Tok) (c : Nat) (r : List Nat) (h : At x i (c :: r)) : PureC w 2 209 [.str x xt, .int i ti] (fun v => ∃ t, v = .int (c : Int) t) := by
  have := code_at_spec w x xt i ti h.nonneg h.lt
  rwa [h.cons.1] at this
theorem sw3 {x y : Str} {i : Int} {r t : List Nat} (h : At x i r) (hn : r.head? ≠ some 47) (hy : y.cps.toList = 47 :: t) : Txt.startswith3 x y i = false := by
  have hn0 := h.nonneg
  have hl := h.le
  have hf : fromIndex x.length i = i.toNat := by unfold fromIndex; (repeat' split) <;> omega
  unfold Txt.startswith3
  rw [hf, PySem.StrLaws.subAt_eq, h.eq, hy]
  have hy2 : y.length = t.length + 1 := by
    have : y.cps.toList.length = y.length := Array.length_toList
    rw [← this, hy, List.length_cons]
  rw [hy2]
  cases r with
  | nil => simp
  | cons a r =>
    have : a ≠ 47 := fun e => hn (by rw [e]; rfl)
    simp [this]
theorem sw_false {prog : Program} {w : World} {A : Around} {E : Value → Shared → Prop} {s : Shared} {x y : Str} {i : Int} {t u v : Tok} {r yt : List Nat} {Q : Value → Shared → Prop} (h : At x i r) (hn : r.head? ≠ some 47) (hy : y.cps.toList = 47 :: yt) (hq : Q (.bool false) s) :
    wpAny (model prog w) A (call (.builtin "str.startswith") [.str x t, .str y u, .int i v]) Q E s := SC.startswith3 (by rw [sw3 h hn hy]; exact hq)
local macro_rules | `(tactic| walk_at "call ref") => `(tactic| (k_here; (first
  | ((with_reducible show wpAny _ _ (PySem.call (Value.ref 209) _) _ _ _); k_dflt (first
     | (refine' PureC.use (code_cons_spec _ _ _ _ _ _ _ ?h1) ?k1 ?k2 ?k3 ?k4 ?k5 ?k6 ?k7 ?k8 ?_; (case h1 => assumption); walk_at "m asm")
     | (refine' PureC.use (code_nil_spec _ _ _ _ _ ?h1) ?k1 ?k2 ?k3 ?k4 ?k5 ?k6 ?k7 ?k8 ?_; (case h1 => assumption); walk_at "m asm")))); walk_at "m back"))
local macro_rules | `(tactic| walk_at "call builtin:str.startswith") => `(tactic| (k_here; k_dflt (refine' sw_false ?h ?hn ?hy ?_; (case hn => assumption); (case h => assumption); (case hy => exact rfl))))
set_option maxRecDepth 100000 in
set_option maxHeartbeats 8000000 in
theorem end_line_spec (w : World) (f : Fx) (i : Int) (it : Tok) (l : Int) (lt : Tok) (r : List Nat) (h : At f.text i (10 :: r)) (hX : f.Xd < f.X) :
    Con w 5 (call (.ref 409) [.ref f.X]) (lxLed w f i it l lt) [f.Xd] (fun v nw => v = .none ∧ ∃ it' lt', nw = [(f.Xd, lxDict w f (i + 1) it' (l + 1) lt')]) noEr := by
  (intro dp un gd env outer A₀ base h₀ L m p loose mean mg mb s Q E B F X N T hk hd hu ret exc; refine wpAny_call ?_; k_dflt (refine' code_defE ?k1 ?k2 ?k3 ?k4 ?k5 ?kA ?kF ?kK ?k6 ?k7 ?k8 ?k9 ?kB ?_ ?c2 ?c3 ?c4 ?c5; (case kA => exact rfl); (case kF => exact Stands.frame (by assumption)); (case kK => exact Stands.kind (by assumption)); (case k1 => k_asm); (case k2 => k_asm); (case k3 => k_asm); (case k4 => k_asm); (case k5 => k_asm); (case k6 => k_is); (case k7 => k_is); (case k8 => ktr_room); (case k9 => exact BindsTo.of_eq rfl); (case c5 => decide); (case kB => exact locs rfl); (case c2 => exact rfl); (case c3 => exact rfl); (case c4 => exact rfl); k_whole; intro g' L' h' FG' F' N' B' X' T' G'; (try dsimp only); (try k_fold)))
  k_steps
  (refine' Con.fin (by assumption) ?_ (by assumption) (by assumption) (by assumption) (by assumption) (by assumption) (by assumption) ?_ ?_; rotate_left)
  refine' ⟨rfl, ?_, ?_, rfl⟩
  rotate_left 2
  · walk_at "m sub"
  · walk_at "m core"
local macro_rules | `(tactic| walk_at "call ref") => `(tactic| (k_here; (with_reducible show wpAny _ _ (PySem.call (Value.ref 409) _) _ _ _); k_dflt (refine' Con.use (end_line_spec _ _ _ _ _ _ _ ?h1 ?h2) ?k1 ?k2 ?k3 ?k4 ?k5 ?k6 ?k7 ?k8 ?hr ?_ ?ex; (case h1 => assumption); (case h2 => assumption); walk_at "m asm"; (case hr => walk_at "m sub"); (case ex => exact fun _ _ _ q9 => q9.elim); intro v9 nw9 hv9 h9 tk9 F9 M9 K9 n9; obtain ⟨hv9, it9, lt9, hn9⟩ := hv9; subst hv9; subst hn9; clear n9; (have N9 := News.merge1 (by assumption) K9 M9 (by k_upd)); clear M9 K9; (try simp only [List.nil_append, List.cons_append] at N9); (try dsimp only); (try k_fold); (try k_sweep))))
section
noncomputable def isBlankN (c : Nat) : Bool := c == 32 || c == 9 || c == 11 || c == 12
noncomputable def skip : List Nat → Nat → Option (List Nat × Nat)
  | [], l => some ([], l)
  | c :: r, l =>
    if c = 10 then skip r (l + 1)
    else if c = 13 || c = 47 then none
    else if isBlankN c then skip r l
    else some (c :: r, l)
structure SkipJ (w : World) (f : Fx) (res : List Nat × Nat) (m0 : Str → Option Value) (n : Nat) (m : Str → Option Value) (news : List (Addr × Obj)) : Prop where
  go : ∃ (c : Str → Option Value) (i : Int) (it : Tok) (l : Nat) (lt : Tok) (r : List Nat), m = mvf [Str.ofString "code"] c m0 ∧ news = lxLed w f i it l lt ∧ At f.text i r ∧ skip r l = some res ∧ n = r.length
theorem SkipJ.start {w : World} {f : Fx} {res : List Nat × Nat} {m0 : Str → Option Value} {i : Int} {it : Tok} {l : Nat} {lt : Tok} {r : List Nat} (h : At f.text i r) (hs : skip r l = some res) : SkipJ w f res m0 r.length m0 (lxLed w f i it l lt) :=
  ⟨m0, i, it, l, lt, r, mvf_self _ _, rfl, h, hs, rfl⟩
set_option maxRecDepth 100000 in
set_option maxHeartbeats 8000000 in
theorem skip_blanks_spec (w : World) (f : Fx) (i : Int) (it : Tok) (l : Nat) (lt : Tok) (r : List Nat) (h : At f.text i r) (hX : f.Xd < f.X) (res : List Nat × Nat) (hs : skip r l = some res) :
    Con w 10 (call (.ref 416) [.ref f.X]) (lxLed w f i it l lt) [f.Xd] (fun v nw => v = .bool (decide ((l : Int) < res.2)) ∧ ∃ i' it' lt', At f.text i' res.1 ∧ nw = [(f.Xd, lxDict w f i' it' res.2 lt')]) noEr := by
  (intro dp un gd env outer A₀ base h₀ L m p loose mean mg mb s Q E B F X N T hk hd hu ret exc; refine wpAny_call ?_; k_dflt (refine' code_defE ?k1 ?k2 ?k3 ?k4 ?k5 ?kA ?kF ?kK ?k6 ?k7 ?k8 ?k9 ?kB ?_ ?c2 ?c3 ?c4 ?c5; (case kA => exact rfl); (case kF => exact Stands.frame (by assumption)); (case kK => exact Stands.kind (by assumption)); (case k1 => k_asm); (case k2 => k_asm); (case k3 => k_asm); (case k4 => k_asm); (case k5 => k_asm); (case k6 => k_is); (case k7 => k_is); (case k8 => ktr_room); (case k9 => exact BindsTo.of_eq rfl); (case c5 => decide); (case kB => exact locs rfl); (case c2 => exact rfl); (case c3 => exact rfl); (case c4 => exact rfl); k_whole; intro g' L' h' FG' F' N' B' X' T' G'; (try dsimp only); (try k_fold)))
  (repeat (first | (k_unfold; (try dsimp only)) | ((fail_if_success (with_reducible show wpAny _ _ (exec (Stmt.While _ _ _ _) _) _ _ _)); walk1) | ((fail_if_success (with_reducible show wpAny _ _ (exec (Stmt.While _ _ _ _) _) _ _ _)); dsimp only; walk1)))
  refine While_inv2 (SkipJ w f res _) (by assumption) (by assumption) (SkipJ.start h hs) ?_
  rintro n m₁ news₁ h₁ tk₁ F₁ N₁ ⟨c, i, it, l₁, lt, r, rfl, rfl, h, hs, rfl⟩
  have hAt := h
  cases r with
  | nil =>
    have e1 : isLineEndI (-1) = false := rfl
    have e2 : isBlankI (-1) = false := rfl
    have e3 : ([] : List Nat).head? ≠ some 47 := fun q => nomatch q
    obtain rfl : ([], l₁) = res := Option.some.inj hs
    k_steps
    refine step_ret ?_
    dsimp only
    k_steps
    (refine' Con.fin (by assumption) ?_ (by assumption) (by assumption) (by assumption) (by assumption) (by assumption) (by assumption) ?_ ?_; rotate_left)
    · exact ⟨rfl, _, it, lt, hAt, rfl⟩
    · walk_at "m sub"
    · walk_at "m core"
  | cons a r =>
    have ha := h.cons.2.2.2
    have hA := h.cons.2.2.1
    unfold skip at hs
    by_cases h10 : a = 10
    · subst h10
      rw [if_pos rfl] at hs
      have e1 : isLineEndI (10 : Nat) = true := rfl
      k_steps
      exact step_next (by assumption) (by assumption) (Nat.lt_succ_self _) ⟨_, _, _, _, _, _, mvf_of (by (intro y9 hy9; (repeat (refine Eq.trans (if_neg (fun e9 => by (subst e9; simp only [List.contains_cons, beq_self_eq_true, Bool.true_or, Bool.or_true, reduceCtorEq] at hy9))) ?_)); exact mvf_off hy9)), rfl, hA, hs, rfl⟩
    · rw [if_neg h10] at hs
      by_cases hb : (a = 13 || a = 47) = true
      · rw [if_pos hb] at hs; cases hs
      rw [if_neg hb] at hs
      simp only [Bool.or_eq_true, decide_eq_true_eq, not_or] at hb
      have e1 : isLineEndI (a : Int) = false := by
        unfold isLineEndI
        rw [decide_eq_false (by omega), decide_eq_false (by omega), decide_eq_false (by omega), decide_eq_false (by omega)]; rfl
      have e3 : (a :: r).head? ≠ some 47 := fun q => hb.2 (Option.some.inj q)
      by_cases hw : isBlankN a = true
      · rw [if_pos hw] at hs
        have e2 : isBlankI (a : Int) = true := by
          simp only [isBlankN, Bool.or_eq_true, beq_iff_eq] at hw
          rcases hw with ((rfl | rfl) | rfl) | rfl <;> rfl
        k_steps
        exact step_next (by assumption) (by assumption) (Nat.lt_succ_self _) ⟨_, _, _, _, _, _, mvf_of (by (intro y9 hy9; (repeat (refine Eq.trans (if_neg (fun e9 => by (subst e9; simp only [List.contains_cons, beq_self_eq_true, Bool.true_or, Bool.or_true, reduceCtorEq] at hy9))) ?_)); exact mvf_off hy9)), rfl, hA, hs, rfl⟩
      · rw [if_neg hw] at hs
        have e2 : isBlankI (a : Int) = false := by
          simp only [isBlankN, Bool.or_eq_true, beq_iff_eq, not_or] at hw
          unfold isBlankI
          simp (disch := omega) only [decide_eq_false, Bool.or_false, Bool.false_and]
        obtain rfl : (a :: r, l₁) = res := Option.some.inj hs
        k_steps
        refine step_ret ?_
        dsimp only
        k_steps
        (refine' Con.fin (by assumption) ?_ (by assumption) (by assumption) (by assumption) (by assumption) (by assumption) (by assumption) ?_ ?_; rotate_left)
        · exact ⟨rfl, _, it, lt, hAt, rfl⟩
        · walk_at "m sub"
        · walk_at "m core"
end
section
noncomputable def sgn (first : Bool) : List Nat → Option Nat
  | [] => none
  | c :: _ => if (if first then isIdStartI c else isIdPartI c) = true then some c else none
set_option maxRecDepth 100000 in
set_option maxHeartbeats 8000000 in
theorem name_sign_no (w : World) (f : Fx) (i : Int) (it : Tok) (l : Int) (lt : Tok) (r : List Nat) (b : Bool) (h : At f.text i r) (h92 : r.head? ≠ some 92) (hs : sgn b r = none) :
    Con w 7 (call (.ref 430) [.ref f.X, .bool b]) (lxLed w f i it l lt) [] (fun v nw => v = .none ∧ nw = []) noEr := by
  (intro dp un gd env outer A₀ base h₀ L m p loose mean mg mb s Q E B F X N T hk hd hu ret exc; refine wpAny_call ?_; k_dflt (refine' code_defE ?k1 ?k2 ?k3 ?k4 ?k5 ?kA ?kF ?kK ?k6 ?k7 ?k8 ?k9 ?kB ?_ ?c2 ?c3 ?c4 ?c5; (case kA => exact rfl); (case kF => exact Stands.frame (by assumption)); (case kK => exact Stands.kind (by assumption)); (case k1 => k_asm); (case k2 => k_asm); (case k3 => k_asm); (case k4 => k_asm); (case k5 => k_asm); (case k6 => k_is); (case k7 => k_is); (case k8 => ktr_room); (case k9 => exact BindsTo.of_eq rfl); (case c5 => decide); (case kB => exact locs rfl); (case c2 => exact rfl); (case c3 => exact rfl); (case c4 => exact rfl); k_whole; intro g' L' h' FG' F' N' B' X' T' G'; (try dsimp only); (try k_fold)))
  have hAt := h
  cases r with
  | nil =>
    k_steps
    (refine' Con.fin (by assumption) ?_ (by assumption) (by assumption) (by assumption) (by assumption) (by assumption) (by assumption) ?_ ?_; rotate_left)
    · exact ⟨rfl, rfl⟩
    · walk_at "m sub"
    · walk_at "m core"
  | cons c r =>
    have hc := h.cons.2.2.2
    have n92 : ¬ (c : Int) = 92 := fun q => h92 (by rw [show c = 92 by omega]; rfl)
    cases b with
    | false =>
      have e1 : isIdPartI c = false := by
        cases q : isIdPartI c with
        | false => rfl
        | true => simp only [sgn, q, if_true, Bool.false_eq_true, if_false, reduceCtorEq] at hs
      k_steps
      (refine' Con.fin (by assumption) ?_ (by assumption) (by assumption) (by assumption) (by assumption) (by assumption) (by assumption) ?_ ?_; rotate_left)
      · exact ⟨rfl, rfl⟩
      · walk_at "m sub"
      · walk_at "m core"
    | true =>
      have e1 : isIdStartI c = false := by
        cases q : isIdStartI c with
        | false => rfl
        | true => simp only [sgn, q, if_true, reduceCtorEq] at hs
      k_steps
      (refine' Con.fin (by assumption) ?_ (by assumption) (by assumption) (by assumption) (by assumption) (by assumption) (by assumption) ?_ ?_; rotate_left)
      · exact ⟨rfl, rfl⟩
      · walk_at "m sub"
      · walk_at "m core"
set_option maxRecDepth 100000 in
set_option maxHeartbeats 8000000 in
theorem name_sign_yes (w : World) (f : Fx) (i : Int) (it : Tok) (l : Int) (lt : Tok) (c : Nat) (r : List Nat) (b : Bool) (h : At f.text i (c :: r)) (h92 : c ≠ 92) (hs : (if b then isIdStartI c else isIdPartI c) = true) :
    Con w 7 (call (.ref 430) [.ref f.X, .bool b]) (lxLed w f i it l lt) [] (fun v nw => ∃ (a : Nat) (t1 t2 : Tok), v = .ref a ∧ (f.X < a ∧ f.Xd < a) ∧ nw = (a, ({ cls := .type "tuple", data := .seq #[.str ⟨#[c]⟩ t1, .int (i + 1) t2] } : Obj)) :: []) noEr := by
  (intro dp un gd env outer A₀ base h₀ L m p loose mean mg mb s Q E B F X N T hk hd hu ret exc; refine wpAny_call ?_; k_dflt (refine' code_defE ?k1 ?k2 ?k3 ?k4 ?k5 ?kA ?kF ?kK ?k6 ?k7 ?k8 ?k9 ?kB ?_ ?c2 ?c3 ?c4 ?c5; (case kA => exact rfl); (case kF => exact Stands.frame (by assumption)); (case kK => exact Stands.kind (by assumption)); (case k1 => k_asm); (case k2 => k_asm); (case k3 => k_asm); (case k4 => k_asm); (case k5 => k_asm); (case k6 => k_is); (case k7 => k_is); (case k8 => ktr_room); (case k9 => exact BindsTo.of_eq rfl); (case c5 => decide); (case kB => exact locs rfl); (case c2 => exact rfl); (case c3 => exact rfl); (case c4 => exact rfl); k_whole; intro g' L' h' FG' F' N' B' X' T' G'; (try dsimp only); (try k_fold)))
  have hAt := h
  have hc := h.cons.2.2.2
  have n92 : ¬ (c : Int) = 92 := by omega
  cases b with
  | false =>
    have e1 : isIdPartI c = true := hs
    k_steps
    (refine' Con.fin (by assumption) ?_ (by assumption) (by assumption) (by assumption) (by assumption) (by assumption) (by assumption) ?_ ?_; rotate_left)
    refine' ⟨_, ?_, ?_, rfl, ⟨by omega, by omega⟩, rfl⟩
    rotate_left 2
    · walk_at "m sub"
    · walk_at "m core"
  | true =>
    have e1 : isIdStartI c = true := hs
    k_steps
    (refine' Con.fin (by assumption) ?_ (by assumption) (by assumption) (by assumption) (by assumption) (by assumption) (by assumption) ?_ ?_; rotate_left)
    refine' ⟨_, ?_, ?_, rfl, ⟨by omega, by omega⟩, rfl⟩
    rotate_left 2
    · walk_at "m sub"
    · walk_at "m core"
theorem name_sign_yesT (w : World) (f : Fx) (i : Int) (it : Tok) (l : Int) (lt : Tok) (c : Nat) (r : List Nat) (h : At f.text i (c :: r)) (h92 : c ≠ 92) (hs : isIdStartI c = true) :
    Con w 7 (call (.ref 430) [.ref f.X, .bool true]) (lxLed w f i it l lt) [] (fun v nw => ∃ (a : Nat) (t1 t2 : Tok), v = .ref a ∧ (f.X < a ∧ f.Xd < a) ∧ nw = (a, ({ cls := .type "tuple", data := .seq #[.str ⟨#[c]⟩ t1, .int (i + 1) t2] } : Obj)) :: []) noEr := name_sign_yes w f i it l lt c r true h h92 hs
theorem name_sign_yesF (w : World) (f : Fx) (i : Int) (it : Tok) (l : Int) (lt : Tok) (c : Nat) (r : List Nat) (h : At f.text i (c :: r)) (h92 : c ≠ 92) (hs : isIdPartI c = true) :
    Con w 7 (call (.ref 430) [.ref f.X, .bool false]) (lxLed w f i it l lt) [] (fun v nw => ∃ (a : Nat) (t1 t2 : Tok), v = .ref a ∧ (f.X < a ∧ f.Xd < a) ∧ nw = (a, ({ cls := .type "tuple", data := .seq #[.str ⟨#[c]⟩ t1, .int (i + 1) t2] } : Obj)) :: []) noEr := name_sign_yes w f i it l lt c r false h h92 hs
end
theorem make_KK {prog : Program} {w : World} {A : Around} {K : Frag} {C : Addr} {s : Shared} {h₀ : Heap} {L : Addr} {m : Str → Option Value} {R : Result → Shared → Prop} {rest : List Value} {kw : List (Str × Value)} {fI : Addr} (F : Fr h₀ L s.heap m) (X : K.In h₀) (hm : makesIn K C = true)
    (hi : findIn K (.ref C) "__init__" = some (some (.ref fI))) (hf : typeIn K (.ref fI) = some (.type "function"))
    (h : ∀ x dx h', Fr h₀ L h' m → News h₀ L h' [(x, instObj C dx), (dx, emptyDict)] → (∀ b o, s.heap.get? b = some o → h'.get? b = some o) → s.heap.get? x = none → s.heap.get? dx = none → dx < x →
      codeAny (model prog w) (A.under (.builtin "type.__call__" ⟨.ref C :: rest, kw⟩)) (.call (.ref fI) ⟨.ref x :: rest, kw⟩) (InitBack x R) { s with heap := h' }) :
    codeAny (model prog w) A (.call (.ref C) ⟨rest, kw⟩) R s := by
  obtain ⟨hh, g, d, t, os⟩ := s
  have X' : K.In hh := X.keeps F.keep
  refine make_core (makes_of X' hm) (looks_findIn X' hi) (fun self => bind_fn X' self hf) (.inl rfl) (h _ hh.objs.size _ ((F.push _).push _) ?_ (fun b o e => Heap.get?_push_of_some _ (Heap.get?_push_of_some _ e)) (Heap.get?_none_of_le (Nat.le_succ _)) (Heap.get?_none_of_le (Nat.le_refl _)) (Nat.lt_succ_self _))
  have := ((News.nil (h := hh)).push F emptyDict).push (F.push _) (instObj C hh.objs.size)
  rwa [Heap.size_push] at this
structure TkO where
  (T Td : Nat)
  (k1 k2 k3 k4 k5 k6 k7 k8 : Tok)
  (kind : Str) (kt : Tok)
  (val : Str) (vt : Tok)
  (line : Int) (lt : Tok)
  (bl : Bool)
  (st : Int) (stt : Tok)
  (en : Int) (ent : Tok)
noncomputable abbrev tkDict (w : World) (t : TkO) : Obj := dictOf [ent w "kind" t.k1 (.str t.kind t.kt), ent w "value" t.k2 (.str t.val t.vt), ent w "line" t.k3 (.int t.line t.lt), ent w "is_behind_line" t.k4 (.bool t.bl), ent w "start" t.k5 (.int t.st t.stt), ent w "end" t.k6 (.int t.en t.ent), ent w "is_octal" t.k7 (.bool false), ent w "is_plain" t.k8 (.bool true)] 8
noncomputable abbrev tkLed (w : World) (t : TkO) : List (Addr × Obj) := [(t.T, instObj 336 t.Td), (t.Td, tkDict w t)]
theorem Made.fin {x : Addr} {g h' h₀ h₁ : Heap} {L L' : Addr} {m m' : Str → Option Value} {s : Shared} {Q : Value → Shared → Prop} {tk' : Nat} {core led nw : List (Addr × Obj)} {ok : Value → List (Addr × Obj) → Prop}
    (ret : ∀ v nw h' tk', ok v nw → Fr h₀ L h' m → News h₀ L h' nw → KeepBut [] s.heap h' → (∀ p ∈ nw, p.1 ∈ ([] : List (Addr × Obj)).map (·.1) ∨ s.heap.get? p.1 = none) → Q v { s with heap := h', toks := tk' })
    (k : ∀ b o, s.heap.get? b = some o → h₁.get? b = some o) (G : Ent { s with heap := h₁ } core g) (hx : ∀ p ∈ core, s.heap.get? p.1 = none) (F : Fr h₀ L h' m) (F' : Fr g L' h' m') (N : News h₀ L h' led) (hv : ok (.ref x) nw) (hn : ∀ p ∈ nw, p ∈ led) (hc : ∀ p ∈ nw, p.1 ∈ core.map (·.1)) :
    Q (.ref x) { s with heap := h', toks := tk' } := by
  refine ret _ nw h' tk' hv F (News.sub N hn) (fun b o e _ => F'.keep _ _ (G.up b o (k b o e) fun hm => ?_)) fun p hp => .inr ?_
  · obtain ⟨q, hq, rfl⟩ := List.mem_map.mp hm
    rw [hx q hq] at e; cases e
  · obtain ⟨q, hq, e⟩ := List.mem_map.mp (hc p hp)
    rw [← e]; exact hx q hq
set_option maxRecDepth 100000 in
set_option maxHeartbeats 8000000 in
theorem mk_token (w : World) (kind : Str) (kt : Tok) (val : Str) (vt : Tok) (line : Int) (lt : Tok) (bl : Bool) (st : Int) (stt : Tok) (en : Int) (et : Tok) :
    Con w 4 (call (.ref 336) [.str kind kt, .str val vt, .int line lt, .bool bl, .int st stt, .int en et]) [] []
      (fun v nw => ∃ t : TkO, v = .ref t.T ∧ t.Td < t.T ∧ nw = tkLed w t ∧ t.kind = kind ∧ t.val = val ∧ t.line = line ∧ t.bl = bl) noEr := by
  (intro dp un gd env outer A₀ base h₀ L m p loose mean mg mb s Q E B F X N T hk hd hu ret exc; refine wpAny_call ?_; (refine' make_KK F X ?m1 ?m2 ?m3 ?_; (case m1 => k_is); (case m2 => k_is); (case m3 => k_is)); intro x9 dx9 h9 F9 N9 kp9 nx9 nd9 lt9; (k_dflt (refine' code_defE ?k1 ?k2 ?k3 ?k4 ?k5 ?kA ?kF ?kK ?k6 ?k7 ?k8 ?k9 ?kB ?_ ?c2 ?c3 ?c4 ?c5; (case kA => exact rfl); (case kF => exact Stands.frame (by assumption)); (case kK => exact Stands.kind (by assumption)); (case k1 => k_asm); (case k2 => k_asm); (case k3 => k_asm); (case k4 => k_asm); (case k5 => k_asm); (case k6 => k_is); (case k7 => k_is); (case k8 => ktr_room); (case k9 => exact BindsTo.of_eq rfl); (case c5 => decide); (case kB => exact locs rfl); (case c2 => exact rfl); (case c3 => exact rfl); (case c4 => exact rfl); k_whole; intro g' L' h' FG' F' N' B' X' T' G'; (try dsimp only); (try k_fold))))
  k_steps
  (refine' Made.fin (by assumption) (by assumption) (by assumption) (List.forall_mem_cons.mpr ⟨by assumption, List.forall_mem_cons.mpr ⟨by assumption, List.forall_mem_nil _⟩⟩) (by assumption) (by assumption) (by assumption) ?_ ?_ ?_; rotate_left)
  refine' ⟨⟨_, _, ?_, ?_, ?_, ?_, ?_, ?_, ?_, ?_, kind, kt, val, vt, line, lt, bl, st, stt, en, et⟩, rfl, by assumption, rfl, rfl, rfl, rfl, rfl⟩
  rotate_left 8
  · walk_at "m sub"
  · (exact List.forall_mem_cons.mpr ⟨List.mem_cons_self, List.forall_mem_cons.mpr ⟨List.mem_cons_of_mem _ List.mem_cons_self, List.forall_mem_nil _⟩⟩)
section
variable {α : Type} {M : Model} {A : Around} {E : Value → Shared → Prop} {σ : Shared} {t : Sem α} {Q : α → Shared → Prop}
noncomputable def hold (t : Sem α) : Sem α := t
theorem hold_ (h : wpAny M A (hold t) Q E σ) : wpAny M A t Q E σ := h
end
theorem unhold {α : Type} {M : Model} {A : Around} {E : Value → Shared → Prop} {σ : Shared} {t : Sem α} {Q : α → Shared → Prop} (h : wpAny M A t Q E σ) : wpAny M A (hold t) Q E σ := h
section
theorem Fr.grow {h₀ h h' : Heap} {L : Addr} {m : Str → Option Value} (F : Fr h₀ L h m) (k : ∀ b o, h.get? b = some o → h'.get? b = some o) : Fr h₀ L h' m := by
  obtain ⟨oL, a1, a2, hL, a3⟩ := F.ns
  exact ⟨⟨oL, a1, a2, k _ _ hL, a3⟩, fun b o e => k _ _ (F.keep b o e), F.above⟩
theorem fresh_news {h₀ h h' : Heap} {L a : Addr} {m : Str → Option Value} {o : Obj} (F : Fr h₀ L h m) (hn : h.get? a = none) (ha : h'.get? a = some o) : News h₀ L h' [(a, o)] := fun p hp => by
  obtain rfl := List.mem_singleton.mp hp
  refine ⟨ha, fun q => ?_, ?_⟩
  · obtain ⟨oL, a1, a2, hL, a3⟩ := F.ns
    change a = L at q
    rw [q, hL] at hn; cases hn
  · cases q : h₀.get? a with
    | none => rfl
    | some o' => rw [F.keep _ _ q] at hn; cases hn
theorem apart2 {h₀ h : Heap} {L d x : Addr} {o1 o2 : Obj} (N : News h₀ L h [(d, o1), (x, o2)]) (hne : o1.data = o2.data → False) : ∀ p ∈ [(x, o2)], p.1 ≠ d := fun p hp e => by
  obtain rfl := List.mem_singleton.mp hp
  have h1 := (N _ List.mem_cons_self).1
  have h2 := (N _ (List.mem_cons_of_mem _ List.mem_cons_self)).1
  change x = d at e
  rw [e] at h2
  exact hne (congrArg Obj.data (Option.some.inj (h1.symm.trans h2)))
theorem Made.fin2 {v : Value} {g h' h₀ : Heap} {L L' : Addr} {m m' : Str → Option Value} {s s₁ : Shared} {Q : Value → Shared → Prop} {tk' : Nat} {core nw : List (Addr × Obj)} {ok : Value → List (Addr × Obj) → Prop}
    (ret : ∀ v nw h' tk', ok v nw → Fr h₀ L h' m → News h₀ L h' nw → KeepBut [] s.heap h' → (∀ p ∈ nw, p.1 ∈ ([] : List (Addr × Obj)).map (·.1) ∨ s.heap.get? p.1 = none) → Q v { s with heap := h', toks := tk' })
    (k : ∀ b o, s.heap.get? b = some o → s₁.heap.get? b = some o) (G : Ent s₁ core g) (hx : ∀ p ∈ core, s.heap.get? p.1 = none) (F : Fr h₀ L h' m) (F' : Fr g L' h' m') (N : News h₀ L h' nw) (N' : News g L' h' nw) (hv : ok v nw) :
    Q v { s with heap := h', toks := tk' } := by
  have hc : ∀ b, b ∈ core.map (·.1) → s.heap.get? b = none := fun b hb => by
    obtain ⟨q, hq, rfl⟩ := List.mem_map.mp hb
    exact hx q hq
  refine ret _ nw h' tk' hv F N (fun b o e _ => F'.keep _ _ (G.up b o (k b o e) fun hm => by rw [hc b hm] at e; cases e)) fun p hp => .inr ?_
  rcases G.fresh (N' p hp).2.2 with q | q
  · exact hc _ q
  · cases e : s.heap.get? p.1 with
    | none => rfl
    | some o => rw [k _ _ e] at q; cases q
set_option maxRecDepth 100000 in
set_option maxHeartbeats 8000000 in
theorem mk_fail (w : World) (x : Str) (xt : Tok) (l : Int) (lt : Tok) :
    Con w 4 (call (.ref 371) [.str x xt, .int l lt]) [] [] (fun v nw => ∃ (e d t : Nat) (k1 k2 : Tok), v = .ref e ∧ nw = [(d, failDict w k1 k2 (.str x xt) l lt), (e, excO 371 (some d) #[.ref t, .none, .none, .none, .bool false, .none])]) noEr := by
  intro dp un gd env outer A₀ base h₀ L m p loose mean mg mb s Q E B F X N T hk hd hu ret exc
  obtain ⟨hp, g, dr, tk, os⟩ := s
  have X1 : Frag.In (Mine.k0.heap_1 w.params) hp := X.keeps F.keep
  have hns := fail_ns X1
  refine wpAny_call_exc_init PySem.F.excBase_Exception (X1 _ _ (failCls_in w)) hns.1 hns.2 (X1 368 _ (by k_is)) rfl (fun h9 e9 hm => ?_) (Nat.le_of_ble_eq_true rfl)
  obtain ⟨t9, he9, -, -⟩ := hm.there
  have F9 := Fr.grow F hm.keeps
  have N9 := fresh_news F hm.new he9
  refine wpAny_call ?_
  k_dflt (refine' code_defE ?k1 ?k2 ?k3 ?k4 ?k5 ?kA ?kF ?kK ?k6 ?k7 ?k8 ?k9 ?kB ?_ ?c2 ?c3 ?c4 ?c5; (case kA => exact rfl); (case kF => exact Stands.frame (by assumption)); (case kK => exact Stands.kind (by assumption)); (case k1 => k_asm); (case k2 => k_asm); (case k3 => k_asm); (case k4 => k_asm); (case k5 => k_asm); (case k6 => k_is); (case k7 => k_is); (case k8 => ktr_room); (case k9 => exact BindsTo.of_eq rfl); (case c5 => decide); (case kB => exact locs rfl); (case c2 => exact rfl); (case c3 => exact rfl); (case c4 => exact rfl); k_whole; intro g' L' h' FG' F' N' B' X' T' G'; (try dsimp only); (try k_fold))
  k_steps
  refine' exc_set1 (K := Mine.k0.heap_1 w.params) ?F ?N ?X ?hc ?hm ?hh ?hs ?ht ?hr ?_
  case F => assumption
  case N => assumption
  case X => assumption
  case hc => k_is
  case hs => k_is
  case ht => k_is
  case hm => exact rfl
  case hh => exact rfl
  case hr => exact fun _ q => nomatch q
  intro h8 d8 F8 N8 n8
  k_sweep
  k_steps
  refine' exc_set2 (K := Mine.k0.heap_1 w.params) ?F ?N ?X ?hc ?hm ?hh ?hs ?ht ?hl ?hr ?he ?hz ?_
  case F => assumption
  case N => assumption
  case X => assumption
  case hc => k_is
  case hs => k_is
  case ht => k_is
  case hm => exact rfl
  case hh => exact rfl
  case hl => exact rfl
  case he => exact rfl
  case hz => exact Nat.le_of_ble_eq_true rfl
  case hr => exact apart2 (by assumption) Data.noConfusion
  intro h7 F7 N7
  k_sweep
  k_steps
  exact Made.fin2 (s := ⟨hp, g, dr, tk, os⟩) ret hm.keeps (by assumption) (fun p q => by obtain rfl := List.mem_singleton.mp q; exact hm.new) (by assumption) (by assumption) (by assumption) (by assumption) ⟨e9, d8, t9, _, _, rfl, rfl⟩
end
section
set_option genSizeOf false
set_option genInjectivity false
inductive Kd where | nm | kw | sg | fin
  deriving DecidableEq
structure Tk where
  kind : Kd
  val : List Nat
  line : Nat
  bl : Bool
structure St where
  tk : Tk
  rest : List Nat
  line : Nat
  nest : Nat
inductive R (α : Type) where
  | ok (a : α) (s : St)
  | fail (line : Nat)
  | oos
noncomputable def R.bind {α β : Type} (r : R α) (f : α → St → R β) : R β :=
  match r with
  | .ok a s => f a s
  | .fail n => .fail n
  | .oos => .oos
inductive NK where | name | member | index | other
  deriving DecidableEq
inductive Tree where
  | node (k : NK) (kids : List Tree)
noncomputable def Tree.kids : Tree → List Tree | .node _ ks => ks
noncomputable def Tree.kind : Tree → NK | .node k _ => k
noncomputable def spanName : List Nat → List Nat × List Nat
  | [] => ([], [])
  | c :: r => if isIdPartI (c : Int) then let (a, b) := spanName r; (c :: a, b) else ([], c :: r)
noncomputable def signOk (r : List Nat) : Bool := match r with
  | [] => true
  | c :: _ => c == 10 || c == 32 || c == 41 || c == 93 || c == 97
noncomputable def sg1 (c : Nat) : Bool := c == 40 || c == 41 || c == 91 || c == 93 || c == 46 || c == 44 || c == 43 || c == 45 || c == 63 || c == 58 || c == 61
noncomputable def next (rest : List Nat) (line : Nat) : Option (Tk × List Nat × Nat) :=
  match skip rest line with
  | none => none
  | some ([], l) => some (⟨.fin, [], l, decide (line < l)⟩, [], l)
  | some (c :: r, l) =>
    if isIdStartI (c : Int) then
      let p := spanName r
      if p.2.head? = some 92 then none else some (⟨if inKw ⟨(c :: p.1).toArray⟩ then .kw else .nm, c :: p.1, l, decide (line < l)⟩, p.2, l)
    else if sg1 c && signOk r then some (⟨.sg, [c], l, decide (line < l)⟩, r, l)
    else none
noncomputable def take (s : St) : R Tk := match next s.rest s.line with
  | none => .oos
  | some (t, r, l) => .ok s.tk { s with tk := t, rest := r, line := l }
noncomputable def isSign (s : St) (c : Nat) : Bool := s.tk.kind == .sg && s.tk.val == [c]
noncomputable def isNew (s : St) : Bool := s.tk.kind == .kw && s.tk.val == [110, 101, 119]
noncomputable def fail {α : Type} (s : St) : R α := .fail s.tk.line
noncomputable def eat (s : St) (c : Nat) : R Bool := if isSign s c then (take s).bind fun _ s => .ok true s else .ok false s
noncomputable def need (s : St) (c : Nat) : R Unit := (eat s c).bind fun b s => if b then .ok () s else fail s
noncomputable def goIn (s : St) : R Unit := if s.nest + 1 > 40 then fail s else .ok () { s with nest := s.nest + 1 }
noncomputable def goOut (s : St) : St := { s with nest := s.nest - 1 }
noncomputable def needTarget (s : St) (t : Tree) : R Unit := match t.kind with
  | .other => fail s
  | _ => .ok () s
mutual
noncomputable def expression : Nat → St → R Tree
  | 0, _ => .oos
  | n + 1, s => (assignment n s).bind fun t s => if isSign s 44 then exprLoop n [t] s else .ok t s
noncomputable def exprLoop : Nat → List Tree → St → R Tree
  | 0, _, _ => .oos
  | n + 1, found, s => (eat s 44).bind fun b s => if b then (assignment n s).bind fun t s => exprLoop n (found ++ [t]) s else .ok (.node .other found) s
noncomputable def assignment : Nat → St → R Tree
  | 0, _ => .oos
  | n + 1, s => (goIn s).bind fun _ s => (conditional n s).bind fun t s =>
      if isSign s 61 then (needTarget s t).bind fun _ s => (take s).bind fun _ s => (assignment n s).bind fun u s => .ok (.node .other [t, u]) (goOut s)
      else .ok t (goOut s)
noncomputable def conditional : Nat → St → R Tree
  | 0, _ => .oos
  | n + 1, s => (binary n 1 s).bind fun t s => (eat s 63).bind fun b s => if b then
      (assignment n s).bind fun u s => (need s 58).bind fun _ s => (assignment n s).bind fun v s => .ok (.node .other [t, u, v]) s
      else .ok t s
noncomputable def binary : Nat → Nat → St → R Tree
  | 0, _, _ => .oos
  | n + 1, least, s => (unary n s).bind fun t s => binLoop n least t s
noncomputable def binLoop : Nat → Nat → Tree → St → R Tree
  | 0, _, _, _ => .oos
  | n + 1, least, left, s =>
    if s.tk.kind == .kw && !isNew s then .oos
    else if (isSign s 43 || isSign s 45) && decide (9 ≥ least) then
      (take s).bind fun _ s => (binary n 10 s).bind fun t s => binLoop n least (.node .other [left, t]) s
    else if decide (0 ≥ least) then .oos else .ok left s
noncomputable def unary : Nat → St → R Tree
  | 0, _ => .oos
  | n + 1, s => if isSign s 45 || isSign s 43 then (operandBehind n s).bind fun t s => .ok (.node .other [t]) s
    else if s.tk.kind == .kw && !isNew s then .oos
    else leftHand n s
noncomputable def operandBehind : Nat → St → R Tree
  | 0, _ => .oos
  | n + 1, s => (take s).bind fun _ s => (goIn s).bind fun _ s => (unary n s).bind fun t s => .ok t (goOut s)
noncomputable def leftHand : Nat → St → R Tree
  | 0, _ => .oos
  | n + 1, s => (if isNew s then creation n s else primary n s).bind fun t s => (members n t s).bind fun t s => callLoop n t s
noncomputable def callLoop : Nat → Tree → St → R Tree
  | 0, _, _ => .oos
  | n + 1, t, s => if isSign s 40 then (arguments n s).bind fun as s => (members n (.node .other (t :: as)) s).bind fun t s => callLoop n t s else .ok t s
noncomputable def members : Nat → Tree → St → R Tree
  | 0, _, _ => .oos
  | n + 1, t, s =>
    if isSign s 46 then (take s).bind fun _ s => (match s.tk.kind with
      | .nm | .kw => (take s).bind fun _ s => members n (.node .member [t]) s
      | _ => fail s)
    else if isSign s 91 then (take s).bind fun _ s => (expression n s).bind fun k s => (need s 93).bind fun _ s => members n (.node .index [t, k]) s
    else .ok t s
noncomputable def creation : Nat → St → R Tree
  | 0, _ => .oos
  | n + 1, s => (take s).bind fun _ s => (goIn s).bind fun _ s => (if isNew s then creation n s else primary n s).bind fun t s =>
      (members n t s).bind fun t s => if isSign s 40 then (arguments n (goOut s)).bind fun as s => .ok (.node .other (t :: as)) s else .ok (.node .other [t]) (goOut s)
noncomputable def arguments : Nat → St → R (List Tree)
  | 0, _ => .oos
  | n + 1, s => (need s 40).bind fun _ s => argLoop n [] s
noncomputable def argLoop : Nat → List Tree → St → R (List Tree)
  | 0, _, _ => .oos
  | n + 1, found, s => if isSign s 41 then (need s 41).bind fun _ s => .ok found s
    else (assignment n s).bind fun t s => (eat s 44).bind fun b s =>
      if b then (if isSign s 41 then fail s else argLoop n (found ++ [t]) s)
      else (need s 41).bind fun _ s => .ok (found ++ [t]) s
noncomputable def primary : Nat → St → R Tree
  | 0, _ => .oos
  | n + 1, s => match s.tk.kind with
    | .nm => (take s).bind fun _ s => .ok (.node .name []) s
    | .kw => .oos
    | .fin => fail s
    | .sg => if isSign s 40 then (take s).bind fun _ s => (expression n s).bind fun t s => (need s 41).bind fun _ s => .ok t s
      else if isSign s 91 then (take s).bind fun _ s => arrLoop n [] s
      else fail s
noncomputable def arrLoop : Nat → List Tree → St → R Tree
  | 0, _, _ => .oos
  | n + 1, found, s => if isSign s 93 then (need s 93).bind fun _ s => .ok (.node .other found) s
    else if isSign s 44 then .oos
    else (assignment n s).bind fun t s => if isSign s 93 then arrLoop n (found ++ [t]) s
      else (need s 44).bind fun _ s => arrLoop n (found ++ [t]) s
end
noncomputable def tooHigh : Nat → Nat → List Tree → Bool
  | 0, _, _ => true
  | n + 1, many, level => if level.isEmpty then false else if many + 1 > 120 then true else tooHigh n (many + 1) (level.flatMap Tree.kids)
end
section
theorem At.length {x : Str} {i : Int} {r : List Nat} (h : At x i r) : (r.length : Int) = x.length - i := by
  have e := congrArg List.length h.eq
  rw [List.length_drop, Array.length_toList] at e
  have e1 : i.toNat ≤ x.cps.size := Int.toNat_le.mpr h.le
  rw [← e, Int.ofNat_sub e1, Int.toNat_of_nonneg h.nonneg]
  rfl
theorem slice_at {x : Str} {i : Int} {r : List Nat} (h : At x i r) (k : Nat) : Txt.slice x (some i) (some (i + k)) = ⟨(r.take k).toArray⟩ := by
  have h0 := h.nonneg
  have h1 := h.le
  have hr := h.length
  have hk : (0 : Int) ≤ k := Int.natCast_nonneg k
  by_cases h2 : i + k ≤ x.length
  · have e := eq_of_beq (PyProof.Rows.slice_closesL (x := x) h0 (Int.le_add_of_nonneg_right hk) h2)
    rw [e, h.eq, Int.add_comm, Int.add_sub_cancel, Int.toNat_natCast]
  · have h3 : (x.length : Int) ≤ i + k := Int.le_of_lt (Int.not_le.mp h2)
    have e : Txt.slice x (some i) (some (i + k)) = Txt.slice x (some i) (some (x.length : Int)) := by
      unfold Txt.slice Builtin.Str.strSliceIndices
      simp only [Int.not_lt.mpr (Int.add_nonneg h0 hk), Int.not_lt.mpr (Int.natCast_nonneg x.length), if_false, show (1 : Int) > 0 by decide, if_true, Int.min_eq_right h3, Int.min_self]
    have e2 := eq_of_beq (PyProof.Rows.slice_closesL (x := x) h0 h1 (Int.le_refl _))
    rw [e, e2, h.eq, ← hr, Int.toNat_natCast, List.take_of_length_le (Nat.le_refl _), List.take_of_length_le]
    exact Int.ofNat_le.mp (by rw [hr]; exact Int.sub_left_le_of_le_add h3)
theorem pu_one {c : Nat} (h : sg1 c = true) : inPu ⟨#[c]⟩ = true := by
  simp only [sg1, Bool.or_eq_true, beq_iff_eq] at h
  rcases h with (((((((((rfl | rfl) | rfl) | rfl) | rfl) | rfl) | rfl) | rfl) | rfl) | rfl) | rfl <;> decide +kernel
noncomputable def pu2 (x : Str) : Bool := match x.cps.toList with
  | _ :: d :: _ => d == 62 || d == 61 || d == 43 || d == 45 || d == 60 || d == 38 || d == 124
  | _ => true
theorem pu_two {x : Str} (h : pu2 x = false) : inPu x = false := by
  cases q : inPu x with
  | false => rfl
  | true =>
    have : ∀ k ∈ puList, pu2 k = true := by decide +kernel
    obtain ⟨k, hk, e⟩ := List.any_eq_true.mp q
    rw [of_decide_eq_true e] at h
    rw [this k hk] at h
    cases h
theorem punct_val (w : World) (x : Str) (xt : Tok) (i : Int) (it : Tok) (c : Nat) (r : List Nat) (h : At x i (c :: r)) (h1 : sg1 c = true) (h2 : signOk r = true) :
    PureC w 2 354 [.str x xt, .int i it] (fun v => ∃ t, v = .str ⟨#[c]⟩ t) := by
  have e (k : Nat) := slice_at h k
  cases r with
  | nil =>
    have p := punct_at_end w x xt i it h.nonneg h.cons.2.1 h.lt (by rw [show (4 : Int) = ((4 : Nat) : Int) from rfl, e 4]; exact pu_one h1)
    rwa [show (4 : Int) = ((4 : Nat) : Int) from rfl, e 4] at p
  | cons d r =>
    have hd : ∀ k, pu2 ⟨((c :: d :: r).take (k + 2)).toArray⟩ = false := fun k => by
      simp only [signOk, Bool.or_eq_true, beq_iff_eq] at h2
      show pu2 ⟨(c :: d :: r.take k).toArray⟩ = false
      rcases h2 with (((rfl | rfl) | rfl) | rfl) | rfl <;> rfl
    have p := punct_at_spec w x xt i it h.nonneg h.cons.2.1 h.lt (by rw [show (4 : Int) = ((4 : Nat) : Int) from rfl, e 4]; exact pu_two (hd 2))
      (by rw [show (3 : Int) = ((3 : Nat) : Int) from rfl, e 3]; exact pu_two (hd 1)) (by rw [show (2 : Int) = ((2 : Nat) : Int) from rfl, e 2]; exact pu_two (hd 0))
      (by rw [show (1 : Int) = ((1 : Nat) : Int) from rfl, e 1]; exact pu_one h1)
    rwa [show (1 : Int) = ((1 : Nat) : Int) from rfl, e 1] at p
end
section
noncomputable abbrev tup2 (c : Nat) (t1 : Tok) (i : Int) (t2 : Tok) : Obj := { cls := .type "tuple", data := .seq #[.str ⟨#[c]⟩ t1, .int i t2] }
noncomputable abbrev one (c : Nat) : Str := ⟨#[c]⟩
theorem upd_upd (x : Str) (v v' : Option Value) (m : Str → Option Value) : (fun y => if y = x then v' else (if y = x then v else m y)) = fun y => if y = x then v' else m y := by
  funext y; by_cases h : y = x <;> simp only [h, if_true, if_false]
theorem upd_swap {x x' : Str} (h : x ≠ x') (v v' : Option Value) (m : Str → Option Value) : (fun y => if y = x then v else if y = x' then v' else m y) = fun y => if y = x' then v' else if y = x then v else m y := by
  funext y; by_cases h1 : y = x
  · subst h1; simp only [if_true, h, if_false]
  · simp only [h1, if_false]
theorem ones_join (x : Str) (hx : x.cps = #[]) : ∀ (l : List Nat), (Str.join x (l.map one)).cps.toList = l
  | [] => rfl
  | [a] => rfl
  | a :: b :: l => by
    have ih := ones_join x hx (b :: l)
    show (one a ++ x ++ Str.join x ((b :: l).map one)).cps.toList = _
    rw [Str.cps_append, Str.cps_append, hx, Array.toList_append, ih]
    rfl
theorem At.len {x : Str} {i : Int} {r : List Nat} (h : At x i r) : r.length ≤ 100000 := by
  have h1 := congrArg List.length h.eq
  rw [List.length_drop] at h1
  have : x.cps.toList.length = x.length := Array.length_toList
  have := h.size
  omega
theorem ones_sum : ∀ l : List Nat, ((l.map one).map (·.length)).sum + (l.map one).length = 2 * l.length
  | [] => rfl
  | a :: l => by
    have := ones_sum l
    have e : (one a).length = 1 := rfl
    simp only [List.map_cons, List.sum_cons, List.length_cons, e] at this ⊢
    omega
theorem join_name {prog : Program} {w : World} {A : Around} {E : Value → Shared → Prop} {s : Shared} {D : Addr} {t : Tok} {its : Array Value} {l : List Nat} {Q : Value → Shared → Prop} (hl : s.heap.IsList D its) (hi : StrsAre its.toList (l.map one)) (hz : l.length ≤ 100000)
    (h : ∀ t' k, Q (.str ⟨l.toArray⟩ t') { s with toks := k }) : wpAny (model prog w) A (call (.builtin "str.join") [.str (Str.ofString "") t, .ref D]) Q E s :=
  join_listW hl hi (by decide) (by rw [ones_sum]; omega) (by
    have e : Txt.join (Str.ofString "") (l.map one) = ⟨l.toArray⟩ := by
      show Builtin.Str.glued _ _ = _
      rw [PySem.StrLaws.glued_eq_join]
      have := ones_join (Str.ofString "") (by decide +kernel) l
      cases hj : Str.join (Str.ofString "") (l.map one) with
      | mk cps =>
        rw [hj] at this
        subst this
        rfl
    rw [e]; exact h)
theorem strs_push {its : Array Value} {l : List Nat} {d : Nat} {t : Tok} (h : StrsAre its.toList (l.map one)) : StrsAre (its.push (.str (one d) t)).toList ((l ++ [d]).map one) := by
  rw [Array.toList_push, List.map_append]
  exact h.append' (.cons _ _ .nil)
structure NameJ (w : World) (f : Fx) (t : TkO) (name r : List Nat) (fd : Nat) (l : Int) (lt : Tok) (m0 : Str → Option Value) (n : Nat) (m : Str → Option Value) (news : List (Addr × Obj)) : Prop where
  go : ∃ (v : Value) (i : Int) (it : Tok) (done left : List Nat) (its : Array Value) (k : Nat) (tl : List (Addr × Obj)), m = (fun y => if y = Str.ofString "told" then some v else m0 y) ∧
    news = tl ++ [(fd, listOf its k), (f.X, instObj 517 f.Xd), (f.Xd, lxDict w f i it l lt), (t.T, instObj 336 t.Td), (t.Td, tkDict w t)] ∧ At f.text i (left ++ r) ∧ done ++ left = name ∧ StrsAre its.toList (done.map one) ∧ n = left.length ∧
    ((left = [] ∧ v = .none ∧ tl = []) ∨ ∃ (c : Nat) (left' : List Nat) (a : Nat) (t1 t2 : Tok), left = c :: left' ∧ v = .ref a ∧ tl = [(a, tup2 c t1 (i + 1) t2)] ∧ (a ≠ fd ∧ a ≠ f.X ∧ a ≠ f.Xd ∧ a ≠ t.T ∧ a ≠ t.Td))
local macro_rules | `(tactic| size_fits) => `(tactic| assumption)
local macro_rules | `(tactic| walk_at "call ref") => `(tactic| (k_here; (first | (with_reducible show wpAny _ _ (PySem.call (Value.ref 430) _) _ _ _) | (with_reducible show wpAny _ _ (PySem.call (Value.ref 347) _) _ _ _)); refine hold_ ?_))
local macro_rules | `(tactic| walk_at "call builtin:str.join") => `(tactic| (k_here; k_dflt (refine' join_name ?hl ?hi ?hz ?_; (case hl => exact News.isList (by k_asm) (by k_mem)); (case hi => assumption); (case hz => assumption); intro t9 k9; (try dsimp only); (try k_fold))))
set_option maxRecDepth 100000 in
set_option maxHeartbeats 8000000 in
theorem read_name_spec (w : World) (f : Fx) (i : Int) (it : Tok) (l : Int) (lt : Tok) (c : Nat) (cs r : List Nat) (t : TkO) (h : At f.text i (c :: cs ++ r)) (h1 : @Ne Nat f.Xd f.X) (h2 : @Ne Nat f.X t.Td) (h3 : @Ne Nat t.Td t.T) (h4 : @Ne Nat f.Xd t.Td) (h5 : @Ne Nat f.Xd t.T) (h6 : @Ne Nat f.X t.T)
    (hc : c ≠ 92 ∧ ∀ d ∈ cs, d ≠ 92) (hs : isIdStartI c = true) (hp : ∀ d ∈ cs, isIdPartI d = true) (h92 : r.head? ≠ some 92) (hn : sgn false r = none) (kw : Bool) (hkw : inKw ⟨(c :: cs).toArray⟩ = kw) :
    Con w 10 (call (.ref 437) [.ref f.X, .ref t.T]) [(f.X, instObj 517 f.Xd), (f.Xd, lxDict w f i it l lt), (t.T, instObj 336 t.Td), (t.Td, tkDict w t)] [f.Xd, t.Td]
      (fun v nw => v = .none ∧ ∃ i' it' kt' vt', At f.text i' r ∧ nw = [(f.Xd, lxDict w f i' it' l lt), (t.Td, tkDict w { t with kind := if kw then Str.ofString "keyword" else Str.ofString "name", kt := kt', val := ⟨(c :: cs).toArray⟩, vt := vt' })]) noEr := by
  (intro dp un gd env outer A₀ base h₀ L m p loose mean mg mb s Q E B F X N T hk hd hu ret exc; refine wpAny_call ?_; k_dflt (refine' code_defE ?k1 ?k2 ?k3 ?k4 ?k5 ?kA ?kF ?kK ?k6 ?k7 ?k8 ?k9 ?kB ?_ ?c2 ?c3 ?c4 ?c5; (case kA => exact rfl); (case kF => exact Stands.frame (by assumption)); (case kK => exact Stands.kind (by assumption)); (case k1 => k_asm); (case k2 => k_asm); (case k3 => k_asm); (case k4 => k_asm); (case k5 => k_asm); (case k6 => k_is); (case k7 => k_is); (case k8 => ktr_room); (case k9 => exact BindsTo.of_eq rfl); (case c5 => decide); (case kB => exact locs rfl); (case c2 => exact rfl); (case c3 => exact rfl); (case c4 => exact rfl); k_whole; intro g' L' h' FG' F' N' B' X' T' G'; (try dsimp only); (try k_fold)))
  have hA : At f.text i (c :: (cs ++ r)) := h
  have hc1 := hc.1
  (repeat (first | (k_unfold; (try dsimp only)) | ((fail_if_success (with_reducible show wpAny _ _ (exec (Stmt.While _ _ _ _) _) _ _ _)); walk1) | ((fail_if_success (with_reducible show wpAny _ _ (exec (Stmt.While _ _ _ _) _) _ _ _)); dsimp only; walk1)))
  (refine unhold ?_; k_dflt (first | ((first | (refine' Con.use (name_sign_yesT _ _ _ _ _ _ _ _ ?h1 ?h2 ?h3) ?k1 ?k2 ?k3 ?k4 ?k5 ?k6 ?k7 ?k8 ?hr ?_ ?ex; (case h1 => assumption); (case h2 => assumption); (case h3 => assumption)) | (refine' Con.use (name_sign_yesF _ _ _ _ _ _ _ _ ?h1 ?h2 ?h3) ?k1 ?k2 ?k3 ?k4 ?k5 ?k6 ?k7 ?k8 ?hr ?_ ?ex; (case h1 => assumption); (case h2 => assumption); (case h3 => assumption))); walk_at "m asm"; ((case hr => walk_at "m sub"); (case ex => exact fun _ _ _ q9 => q9.elim)); intro v9 nw9 hv9 h9 tk9 F9 M9 K9 n9; obtain ⟨a9, t19, t29, hv9, hl9, hn9⟩ := hv9; subst hv9; subst hn9; (have e9 := Or.resolve_left (n9 _ List.mem_cons_self) (fresh2 hl9)); (have A9 := allNe_of (by assumption) e9); (simp only [AllNe, and_true] at A9); clear e9 n9; (repeat (have A8 := And.left A9; replace A9 := And.right A9)); (have l8 := And.left hl9); (replace hl9 := And.right hl9); (have N9 := News.merge0 (by assumption) K9 M9); clear M9 K9; (try simp only [List.nil_append, List.cons_append] at N9); (try dsimp only); (try k_fold); (try k_sweep)) | (refine' Con.use (name_sign_no _ _ _ _ _ _ _ _ ?h1 ?h2 ?h3) ?k1 ?k2 ?k3 ?k4 ?k5 ?k6 ?k7 ?k8 ?hr ?_ ?ex; (case h1 => assumption); (case h2 => assumption); (case h3 => assumption); walk_at "m asm"; ((case hr => walk_at "m sub"); (case ex => exact fun _ _ _ q9 => q9.elim)); intro v9 nw9 hv9 h9 tk9 F9 M9 K9 n9; obtain ⟨hv9, hn9⟩ := hv9; subst hv9; subst hn9; clear n9; (have N9 := News.merge0 (by assumption) K9 M9); clear M9 K9; (try simp only [List.nil_append, List.cons_append] at N9); (try dsimp only); (try k_fold); (try k_sweep))))
  (repeat (first | (k_unfold; (try dsimp only)) | ((fail_if_success (with_reducible show wpAny _ _ (exec (Stmt.While _ _ _ _) _) _ _ _)); walk1) | ((fail_if_success (with_reducible show wpAny _ _ (exec (Stmt.While _ _ _ _) _) _ _ _)); dsimp only; walk1)))
  (rename Fr _ _ _ _ => F0)
  (rename News _ _ _ _ => N0)
  rw [upd_swap (show Str.ofString "found" ≠ Str.ofString "told" by decide +kernel)] at F0
  refine' While_inv2 (NameJ w f t (c :: cs) r ?fd l lt ?m0) (n₀ := (c :: cs).length) F0 (News.sub N0 ?hs) ⟨_, i, _, [], c :: cs, #[], 0, [(?a, tup2 c ?t1 (i + 1) ?t2)], rfl, rfl, h, rfl, .nil, rfl, .inr ⟨c, cs, ?a, ?t1, ?t2, rfl, rfl, rfl, ?ne⟩⟩ ?turn
  case hs => walk_at "m sub"
  case ne => exact ⟨Ne.symm (by assumption), Ne.symm (by assumption), Ne.symm (by assumption), Ne.symm (by assumption), Ne.symm (by assumption)⟩
  case turn =>
    rintro n m₁ news₁ h₁ tk₁ F₁ N₁ ⟨v, i₁, it₁, done, left, its, k, tl, rfl, rfl, hA₁, hdl, hst, rfl, hcase⟩
    have hsz : its.size ≤ sizeLine := by
      have e1 := hst.len_eq
      have e2 := congrArg List.length hdl
      have e3 := h.len
      rw [Array.length_toList, List.length_map] at e1
      rw [List.length_append] at e2
      rw [List.length_append] at e3
      rw [sizeLine_eq]
      omega
    rcases hcase with ⟨rfl, rfl, rfl⟩ | ⟨d, left', a, t1, t2, rfl, rfl, rfl, n1, n2, n3, n4, n5⟩
    · simp only [List.nil_append] at N₁ hA₁
      rw [List.append_nil] at hdl
      subst hdl
      have hz : (c :: cs).length ≤ 100000 := by
        have := h.len
        rw [List.length_append] at this
        omega
      cases kw
      all_goals (
        k_steps
        (refine unhold ?_; k_dflt (refine' PureC.use (is_keyword_val _ _ _ _ ?h2) ?k1 ?k2 ?k3 ?k4 ?k5 ?k6 ?k7 ?k8 ?_; (case h2 => assumption); walk_at "m asm"); walk_at "m back")
        k_steps
        (refine' Con.fin (by assumption) ?_ (by assumption) (by assumption) (by assumption) (by assumption) (by assumption) (by assumption) ?_ ?_; rotate_left)
        refine' ⟨rfl, _, ?_, ?_, ?_, hA₁, rfl⟩
        rotate_left 3
        · walk_at "m sub"
        · walk_at "m core")
    · simp only [List.cons_append, List.nil_append] at N₁ hA₁
      have hB := hA₁.cons.2.2.1
      cases left' with
      | nil =>
        simp only [List.nil_append] at hB
        k_steps
        (refine unhold ?_; k_dflt (first | ((first | (refine' Con.use (name_sign_yesT _ _ _ _ _ _ _ _ ?h1 ?h2 ?h3) ?k1 ?k2 ?k3 ?k4 ?k5 ?k6 ?k7 ?k8 ?hr ?_ ?ex; (case h1 => assumption); (case h2 => assumption); (case h3 => assumption)) | (refine' Con.use (name_sign_yesF _ _ _ _ _ _ _ _ ?h1 ?h2 ?h3) ?k1 ?k2 ?k3 ?k4 ?k5 ?k6 ?k7 ?k8 ?hr ?_ ?ex; (case h1 => assumption); (case h2 => assumption); (case h3 => assumption))); walk_at "m asm"; ((case hr => walk_at "m sub"); (case ex => exact fun _ _ _ q9 => q9.elim)); intro v9 nw9 hv9 h9 tk9 F9 M9 K9 n9; obtain ⟨a9, t19, t29, hv9, hl9, hn9⟩ := hv9; subst hv9; subst hn9; (have e9 := Or.resolve_left (n9 _ List.mem_cons_self) (fresh2 hl9)); (have A9 := allNe_of (by assumption) e9); (simp only [AllNe, and_true] at A9); clear e9 n9; (repeat (have A8 := And.left A9; replace A9 := And.right A9)); (have l8 := And.left hl9); (replace hl9 := And.right hl9); (have N9 := News.merge0 (by assumption) K9 M9); clear M9 K9; (try simp only [List.nil_append, List.cons_append] at N9); (try dsimp only); (try k_fold); (try k_sweep)) | (refine' Con.use (name_sign_no _ _ _ _ _ _ _ _ ?h1 ?h2 ?h3) ?k1 ?k2 ?k3 ?k4 ?k5 ?k6 ?k7 ?k8 ?hr ?_ ?ex; (case h1 => assumption); (case h2 => assumption); (case h3 => assumption); walk_at "m asm"; ((case hr => walk_at "m sub"); (case ex => exact fun _ _ _ q9 => q9.elim)); intro v9 nw9 hv9 h9 tk9 F9 M9 K9 n9; obtain ⟨hv9, hn9⟩ := hv9; subst hv9; subst hn9; clear n9; (have N9 := News.merge0 (by assumption) K9 M9); clear M9 K9; (try simp only [List.nil_append, List.cons_append] at N9); (try dsimp only); (try k_fold); (try k_sweep))))
        k_steps
        refine' step_next (by assumption) (News.sub (by assumption) ?hs) (Nat.lt_succ_self _) ⟨_, _, _, done ++ [d], [], its.push (.str (one d) t1), k + 1, [], upd_upd _ _ _ _, rfl, hB, ?_, strs_push hst, rfl, .inl ⟨rfl, rfl, rfl⟩⟩
        case hs => walk_at "m sub"
        rw [List.append_assoc]; exact hdl
      | cons e left'' =>
        simp only [List.cons_append] at hB
        have hin : e ∈ cs := by
          have : e ∈ (c :: cs).tail := by
            rw [← hdl]
            cases done with
            | nil => exact List.mem_cons_self
            | cons _ _ => exact List.mem_append_right _ (List.mem_cons_of_mem _ List.mem_cons_self)
          exact this
        have he : e ≠ 92 := hc.2 e hin
        have hpe : isIdPartI e = true := hp e hin
        k_steps
        (refine unhold ?_; k_dflt (first | ((first | (refine' Con.use (name_sign_yesT _ _ _ _ _ _ _ _ ?h1 ?h2 ?h3) ?k1 ?k2 ?k3 ?k4 ?k5 ?k6 ?k7 ?k8 ?hr ?_ ?ex; (case h1 => assumption); (case h2 => assumption); (case h3 => assumption)) | (refine' Con.use (name_sign_yesF _ _ _ _ _ _ _ _ ?h1 ?h2 ?h3) ?k1 ?k2 ?k3 ?k4 ?k5 ?k6 ?k7 ?k8 ?hr ?_ ?ex; (case h1 => assumption); (case h2 => assumption); (case h3 => assumption))); walk_at "m asm"; ((case hr => walk_at "m sub"); (case ex => exact fun _ _ _ q9 => q9.elim)); intro v9 nw9 hv9 h9 tk9 F9 M9 K9 n9; obtain ⟨a9, t19, t29, hv9, hl9, hn9⟩ := hv9; subst hv9; subst hn9; (have e9 := Or.resolve_left (n9 _ List.mem_cons_self) (fresh2 hl9)); (have A9 := allNe_of (by assumption) e9); (simp only [AllNe, and_true] at A9); clear e9 n9; (repeat (have A8 := And.left A9; replace A9 := And.right A9)); (have l8 := And.left hl9); (replace hl9 := And.right hl9); (have N9 := News.merge0 (by assumption) K9 M9); clear M9 K9; (try simp only [List.nil_append, List.cons_append] at N9); (try dsimp only); (try k_fold); (try k_sweep)) | (refine' Con.use (name_sign_no _ _ _ _ _ _ _ _ ?h1 ?h2 ?h3) ?k1 ?k2 ?k3 ?k4 ?k5 ?k6 ?k7 ?k8 ?hr ?_ ?ex; (case h1 => assumption); (case h2 => assumption); (case h3 => assumption); walk_at "m asm"; ((case hr => walk_at "m sub"); (case ex => exact fun _ _ _ q9 => q9.elim)); intro v9 nw9 hv9 h9 tk9 F9 M9 K9 n9; obtain ⟨hv9, hn9⟩ := hv9; subst hv9; subst hn9; clear n9; (have N9 := News.merge0 (by assumption) K9 M9); clear M9 K9; (try simp only [List.nil_append, List.cons_append] at N9); (try dsimp only); (try k_fold); (try k_sweep))))
        k_steps
        (rename Fr _ _ _ _ => F0)
        (rename News _ _ _ _ => N0)
        refine' step_next F0 (News.sub N0 ?hs2) (Nat.lt_succ_self _) ⟨_, _, _, done ++ [d], e :: left'', its.push (.str (one d) t1), k + 1, [(?a2, tup2 e ?u1 (i₁ + 1 + 1) ?u2)], upd_upd _ _ _ _, rfl, hB, ?_, strs_push hst, rfl, .inr ⟨_, _, ?a2, ?u1, ?u2, rfl, rfl, rfl, ?ne2⟩⟩
        case hs2 => walk_at "m sub"
        case ne2 => exact ⟨Ne.symm (by assumption), Ne.symm (by assumption), Ne.symm (by assumption), Ne.symm (by assumption), Ne.symm (by assumption)⟩
        all_goals (rw [List.append_assoc]; exact hdl)
end
section
set_option maxRecDepth 100000 in
set_option maxHeartbeats 8000000 in
theorem read_punct_spec (w : World) (f : Fx) (i : Int) (it : Tok) (l : Int) (lt : Tok) (c : Nat) (r : List Nat) (t : TkO) (h : At f.text i (c :: r)) (h1 : @Ne Nat f.Xd f.X) (h2 : @Ne Nat f.X t.Td) (h3 : @Ne Nat t.Td t.T) (h4 : @Ne Nat f.Xd t.Td) (h5 : @Ne Nat f.Xd t.T) (h6 : @Ne Nat f.X t.T)
    (hp : PureC w 2 354 [.str f.text f.tt, .int i it] (fun v => ∃ t, v = .str ⟨#[c]⟩ t)) :
    Con w 10 (call (.ref 514) [.ref f.X, .ref t.T]) [(f.X, instObj 517 f.Xd), (f.Xd, lxDict w f i it l lt), (t.T, instObj 336 t.Td), (t.Td, tkDict w t)] [f.Xd, t.Td]
      (fun v nw => v = .none ∧ ∃ it' kt' vt', nw = [(f.Xd, lxDict w f (i + 1) it' l lt), (t.Td, tkDict w { t with kind := Str.ofString "punct", kt := kt', val := ⟨#[c]⟩, vt := vt' })]) noEr := by
  (intro dp un gd env outer A₀ base h₀ L m p loose mean mg mb s Q E B F X N T hk hd hu ret exc; refine wpAny_call ?_; k_dflt (refine' code_defE ?k1 ?k2 ?k3 ?k4 ?k5 ?kA ?kF ?kK ?k6 ?k7 ?k8 ?k9 ?kB ?_ ?c2 ?c3 ?c4 ?c5; (case kA => exact rfl); (case kF => exact Stands.frame (by assumption)); (case kK => exact Stands.kind (by assumption)); (case k1 => k_asm); (case k2 => k_asm); (case k3 => k_asm); (case k4 => k_asm); (case k5 => k_asm); (case k6 => k_is); (case k7 => k_is); (case k8 => ktr_room); (case k9 => exact BindsTo.of_eq rfl); (case c5 => decide); (case kB => exact locs rfl); (case c2 => exact rfl); (case c3 => exact rfl); (case c4 => exact rfl); k_whole; intro g' L' h' FG' F' N' B' X' T' G'; (try dsimp only); (try k_fold)))
  k_steps
  (refine' Con.fin (by assumption) ?_ (by assumption) (by assumption) (by assumption) (by assumption) (by assumption) (by assumption) ?_ ?_; rotate_left)
  refine' ⟨rfl, ?_, ?_, ?_, rfl⟩
  rotate_left 3
  · walk_at "m sub"
  · walk_at "m core"
end
section
noncomputable def kdS : Kd → Str | .nm => Str.ofString "name" | .kw => Str.ofString "keyword" | .sg => Str.ofString "punct" | .fin => Str.ofString "end"
structure TkIs (t : TkO) (tk : Tk) : Prop where
  kind : t.kind = kdS tk.kind
  val : t.val = ⟨tk.val.toArray⟩
  line : t.line = tk.line
  bl : t.bl = tk.bl
theorem spanName_spec : ∀ r : List Nat, (spanName r).1 ++ (spanName r).2 = r ∧ (∀ d ∈ (spanName r).1, isIdPartI (d : Int) = true) ∧ sgn false (spanName r).2 = none
  | [] => ⟨rfl, (fun _ h => nomatch h), rfl⟩
  | c :: r => by
    have ⟨a, b, d⟩ := spanName_spec r
    unfold spanName
    by_cases h : isIdPartI (c : Int) = true
    · rw [if_pos h]
      refine ⟨congrArg (c :: ·) a, fun x hx => ?_, d⟩
      rcases List.mem_cons.mp hx with rfl | hx
      · exact h
      · exact b x hx
    · rw [if_neg h]
      refine ⟨rfl, (fun _ h => nomatch h), ?_⟩
      unfold sgn
      simp only [Bool.false_eq_true, if_false, h]
theorem idPart_ne {c : Nat} (h : isIdPartI (c : Int) = true) : c ≠ 92 := by rintro rfl; revert h; decide
theorem idStart_ne {c : Nat} (h : isIdStartI (c : Int) = true) : c ≠ 92 := by rintro rfl; revert h; decide
noncomputable def hdI : List Nat → Int | [] => -1 | c :: _ => (c : Int)
theorem code_any_spec (w : World) (x : Str) (xt : Tok) (i : Int) (ti : Tok) (r : List Nat) (h : At x i r) : PureC w 2 209 [.str x xt, .int i ti] (fun v => ∃ t, v = .int (hdI r) t) := by
  cases r with
  | nil => exact code_nil_spec w x xt i ti h
  | cons c r => exact code_cons_spec w x xt i ti c r h
theorem kdS_kw (b : Bool) : (if b = true then Str.ofString "keyword" else Str.ofString "name") = kdS (if b = true then .kw else .nm) := by cases b <;> rfl
theorem sg_apart {c : Nat} (h : sg1 c = true) : isDigitI (c : Int) = false ∧ ¬ (c : Int) = 92 ∧ ¬ (c : Int) = 34 ∧ ¬ (c : Int) = 39 := by
  simp only [sg1, Bool.or_eq_true, beq_iff_eq] at h
  rcases h with (((((((((rfl | rfl) | rfl) | rfl) | rfl) | rfl) | rfl) | rfl) | rfl) | rfl) | rfl <;> decide
theorem sg_behind {r : List Nat} (h : signOk r = true) : isDigitI (hdI r) = false := by
  cases r with
  | nil => rfl
  | cons c r =>
    simp only [signOk, Bool.or_eq_true, beq_iff_eq] at h
    rcases h with (((rfl | rfl) | rfl) | rfl) | rfl <;> rfl
local macro_rules | `(tactic| walk_at "call ref") => `(tactic| (k_here; (with_reducible show wpAny _ _ (PySem.call (Value.ref 209) _) _ _ _); k_dflt (refine' PureC.use (code_any_spec _ _ _ _ _ _ ?h1) ?k1 ?k2 ?k3 ?k4 ?k5 ?k6 ?k7 ?k8 ?_; (case h1 => assumption); walk_at "m asm"); walk_at "m back"))
local macro_rules | `(tactic| walk_at "call ref") => `(tactic| (k_here; (first | (with_reducible show wpAny _ _ (PySem.call (Value.ref 416) _) _ _ _) | (with_reducible show wpAny _ _ (PySem.call (Value.ref 336) _) _ _ _) | (with_reducible show wpAny _ _ (PySem.call (Value.ref 437) _) _ _ _) | (with_reducible show wpAny _ _ (PySem.call (Value.ref 514) _) _ _ _)); refine hold_ ?_))
set_option maxRecDepth 100000 in
set_option maxHeartbeats 8000000 in
theorem next_spec (w : World) (f : Fx) (i : Int) (it : Tok) (l : Nat) (lt : Tok) (r : List Nat) (tk : Tk) (r' : List Nat) (l' : Nat) (h : At f.text i r) (h1 : f.Xd < f.X) (hn : next r l = some (tk, r', l')) :
    Con w 14 (call (.ref 395) [.ref f.X]) (lxLed w f i it l lt) [f.Xd] (fun v nw => ∃ (t : TkO) (i' : Int) (it' lt' : Tok), v = .ref t.T ∧ At f.text i' r' ∧ TkIs t tk ∧ (@Ne Nat f.X t.T ∧ @Ne Nat f.Xd t.T ∧ @Ne Nat f.X t.Td ∧ @Ne Nat f.Xd t.Td) ∧ nw = (f.Xd, lxDict w f i' it' l' lt') :: tkLed w t) noEr := by
  cases hs : skip r l with
  | none => unfold next at hn; rw [hs] at hn; cases hn
  | some res =>
    obtain ⟨rr, ll⟩ := res
    unfold next at hn
    rw [hs] at hn
    (intro dp un gd env outer A₀ base h₀ L m p loose mean mg mb s Q E B F X N T hk hd hu ret exc; refine wpAny_call ?_; k_dflt (refine' code_defE ?k1 ?k2 ?k3 ?k4 ?k5 ?kA ?kF ?kK ?k6 ?k7 ?k8 ?k9 ?kB ?_ ?c2 ?c3 ?c4 ?c5; (case kA => exact rfl); (case kF => exact Stands.frame (by assumption)); (case kK => exact Stands.kind (by assumption)); (case k1 => k_asm); (case k2 => k_asm); (case k3 => k_asm); (case k4 => k_asm); (case k5 => k_asm); (case k6 => k_is); (case k7 => k_is); (case k8 => ktr_room); (case k9 => exact BindsTo.of_eq rfl); (case c5 => decide); (case kB => exact locs rfl); (case c2 => exact rfl); (case c3 => exact rfl); (case c4 => exact rfl); k_whole; intro g' L' h' FG' F' N' B' X' T' G'; (try dsimp only); (try k_fold)))
    (repeat (first | (k_unfold; (try dsimp only)) | ((fail_if_success (with_reducible show wpAny _ _ (exec (Stmt.If _ _ _ _) _) _ _ _)); walk1) | ((fail_if_success (with_reducible show wpAny _ _ (exec (Stmt.If _ _ _ _) _) _ _ _)); dsimp only; walk1)))
    (refine unhold ?_; k_dflt (refine' Con.use (skip_blanks_spec _ _ _ _ _ _ _ ?h1 ?h2 _ ?h3) ?k1 ?k2 ?k3 ?k4 ?k5 ?k6 ?k7 ?k8 ?hr ?_ ?ex; (case h1 => assumption); (case h2 => assumption); (case h3 => assumption); walk_at "m asm"; (case hr => walk_at "m sub"); (case ex => exact fun _ _ _ q9 => q9.elim); intro v9 nw9 hv9 h9 tk9 F9 M9 K9 n9; obtain ⟨hv9, i9, it9, lt9, at9, hn9⟩ := hv9; subst hv9; subst hn9; clear n9; (have N9 := News.merge1 (by assumption) K9 M9 (by k_upd)); clear M9 K9; (try simp only [List.nil_append, List.cons_append] at N9); (try dsimp only at N9 at9); (try dsimp only); (try k_fold); (try k_sweep)))
    (repeat (first | (k_unfold; (try dsimp only)) | ((fail_if_success (with_reducible show wpAny _ _ (exec (Stmt.If _ _ _ _) _) _ _ _)); walk1) | ((fail_if_success (with_reducible show wpAny _ _ (exec (Stmt.If _ _ _ _) _) _ _ _)); dsimp only; walk1)))
    (refine unhold ?_; k_dflt (refine' Con.use (mk_token _ _ _ _ _ _ _ _ _ _ _ _) ?k1 ?k2 ?k3 ?k4 ?k5 ?k6 ?k7 ?k8 ?hr ?_ ?ex; walk_at "m asm"; (case hr => exact fun _ q9 => nomatch q9); (case ex => exact fun _ _ _ q9 => q9.elim)); intro v9 nw9 hv9 h9 tk9 F9 M9 K9 n9; obtain ⟨t9, hv9, lt9, hn9, qa9, qb9, qc9, qd9⟩ := hv9; subst hv9; subst hn9; (have e9 := Or.resolve_left (n9 _ List.mem_cons_self) List.not_mem_nil); (have d9 := Or.resolve_left (n9 _ (List.mem_cons_of_mem _ List.mem_cons_self)) List.not_mem_nil); (have A9 := allNe_of (by assumption) e9); (have D9 := allNe_of (by assumption) d9); (simp only [AllNe, and_true] at A9 D9); clear e9 d9 n9; (repeat (have A8 := And.left A9; replace A9 := And.right A9)); (repeat (have D8 := And.left D9; replace D9 := And.right D9)); (have N9 := News.merge0 (by assumption) K9 M9); clear M9 K9; (try simp only [List.nil_append, List.cons_append] at N9); (try dsimp only); (try k_fold); (try k_sweep))
    (repeat (first | (k_unfold; (try dsimp only)) | ((fail_if_success (with_reducible show wpAny _ _ (exec (Stmt.If _ _ _ _) _) _ _ _)); walk1) | ((fail_if_success (with_reducible show wpAny _ _ (exec (Stmt.If _ _ _ _) _) _ _ _)); dsimp only; walk1)))
    (rename At _ _ rr => hAt)
    (rename TkO.kind _ = _ => qk1)
    (rename TkO.val _ = _ => qk2)
    (rename TkO.line _ = _ => qk3)
    (rename TkO.bl _ = _ => qk4)
    generalize hh : hdI rr = cd at *
    cases rr with
    | nil =>
      obtain rfl : (-1 : Int) = cd := hh
      simp only [Option.some.injEq, Prod.mk.injEq] at hn
      obtain ⟨rfl, rfl, rfl⟩ := hn
      k_steps
      (refine' Con.fin (by assumption) ?_ (by assumption) (by assumption) (by assumption) (by assumption) (by assumption) (by assumption) ?_ ?_; rotate_left)
      refine' ⟨_, _, ?_, ?_, rfl, hAt, ⟨qk1, qk2.trans rfl, qk3, qk4.trans (decide_eq_decide.mpr Int.ofNat_lt)⟩, ⟨by assumption, by assumption, by assumption, by assumption⟩, rfl⟩
      rotate_left 2
      · walk_at "m sub"
      · walk_at "m core"
    | cons c rr =>
      obtain rfl : (c : Int) = cd := hh
      dsimp only at hn
      have hc := hAt.cons.2.2.2
      by_cases hid : isIdStartI (c : Int) = true
      · rw [if_pos hid] at hn
        have hsp := spanName_spec rr
        cases hab : spanName rr with
        | mk a b =>
          rw [hab] at hn hsp
          dsimp only at hn hsp
          obtain ⟨rfl, hp, hq⟩ := hsp
          by_cases h92 : b.head? = some 92
          · rw [if_pos h92] at hn; cases hn
          rw [if_neg h92] at hn
          simp only [Option.some.injEq, Prod.mk.injEq] at hn
          obtain ⟨rfl, rfl, rfl⟩ := hn
          have hcs : c ≠ 92 ∧ ∀ d ∈ a, d ≠ 92 := ⟨idStart_ne hid, fun d hd => idPart_ne (hp d hd)⟩
          have hAt' : At f.text _ (c :: a ++ b) := hAt
          k_steps
          (refine unhold ?_; k_dflt (refine' Con.use (read_name_spec _ _ _ _ _ _ _ _ _ _ ?h0 ?h1 ?h2 ?h3 ?h4 ?h5 ?h6 ?h7 ?h8 ?h9 ?ha ?hb _ rfl) ?k1 ?k2 ?k3 ?k4 ?k5 ?k6 ?k7 ?k8 ?hr ?_ ?ex; (case h0 => assumption); (case h1 => (first | assumption | exact Ne.symm (by assumption) | exact Nat.ne_of_lt (by assumption) | exact Nat.ne_of_gt (by assumption))); (case h2 => (first | assumption | exact Ne.symm (by assumption) | exact Nat.ne_of_lt (by assumption) | exact Nat.ne_of_gt (by assumption))); (case h3 => (first | assumption | exact Ne.symm (by assumption) | exact Nat.ne_of_lt (by assumption) | exact Nat.ne_of_gt (by assumption))); (case h4 => (first | assumption | exact Ne.symm (by assumption) | exact Nat.ne_of_lt (by assumption) | exact Nat.ne_of_gt (by assumption))); (case h5 => (first | assumption | exact Ne.symm (by assumption) | exact Nat.ne_of_lt (by assumption) | exact Nat.ne_of_gt (by assumption))); (case h6 => (first | assumption | exact Ne.symm (by assumption) | exact Nat.ne_of_lt (by assumption) | exact Nat.ne_of_gt (by assumption))); (case h7 => assumption); (case h8 => assumption); (case h9 => assumption); (case ha => assumption); (case hb => assumption); walk_at "m asm"; (case hr => walk_at "m sub"); (case ex => exact fun _ _ _ q9 => q9.elim)); intro v9 nw9 hv9 h9 tk9 F9 M9 K9 n9; obtain ⟨hv9, i9, it9, kt9, vt9, at9, hn9⟩ := hv9; subst hv9; subst hn9; clear n9; (have N9 := News.merge2 (by assumption) K9 M9 (by k_upd) (by k_upd)); clear M9 K9; (try simp only [List.nil_append, List.cons_append] at N9); (try dsimp only [tkDict] at N9); (try dsimp only); (try k_fold); (try k_sweep))
          k_steps
          (refine' Con.fin (by assumption) ?_ (by assumption) (by assumption) (by assumption) (by assumption) (by assumption) (by assumption) ?_ ?_; rotate_left)
          (rename TkO => tt)
          refine' ⟨{ tt with kind := if inKw ⟨(c :: a).toArray⟩ = true then Str.ofString "keyword" else Str.ofString "name", kt := ?_, val := ⟨(c :: a).toArray⟩, vt := ?_, en := ?_, ent := ?_ }, _, ?_, ?_, rfl, by assumption, ⟨kdS_kw _, rfl, qk3, qk4.trans (decide_eq_decide.mpr Int.ofNat_lt)⟩, ⟨by assumption, by assumption, by assumption, by assumption⟩, rfl⟩
          rotate_left 6
          · walk_at "m sub"
          · walk_at "m core"
      · rw [if_neg hid] at hn
        by_cases hsg : (sg1 c && signOk rr) = true
        · rw [if_pos hsg] at hn
          simp only [Option.some.injEq, Prod.mk.injEq] at hn
          obtain ⟨rfl, rfl, rfl⟩ := hn
          simp only [Bool.and_eq_true] at hsg
          have hsg1 := hsg.1
          have hsg2 := hsg.2
          obtain ⟨e1, e2, e3, e4⟩ := sg_apart hsg.1
          have hid' := Bool.eq_false_iff.mpr hid
          have hAt2 := hAt.cons.2.2.1
          have hdg := sg_behind hsg.2
          k_steps
          all_goals ((refine unhold ?_; k_dflt (refine' Con.use (read_punct_spec _ _ _ _ _ _ _ _ _ ?h0 ?h1 ?h2 ?h3 ?h4 ?h5 ?h6 (punct_val _ _ _ _ _ _ _ ?h0 ?h7 ?h8)) ?k1 ?k2 ?k3 ?k4 ?k5 ?k6 ?k7 ?k8 ?hr ?_ ?ex; (case h0 => assumption); (case h1 => (first | assumption | exact Ne.symm (by assumption) | exact Nat.ne_of_lt (by assumption) | exact Nat.ne_of_gt (by assumption))); (case h2 => (first | assumption | exact Ne.symm (by assumption) | exact Nat.ne_of_lt (by assumption) | exact Nat.ne_of_gt (by assumption))); (case h3 => (first | assumption | exact Ne.symm (by assumption) | exact Nat.ne_of_lt (by assumption) | exact Nat.ne_of_gt (by assumption))); (case h4 => (first | assumption | exact Ne.symm (by assumption) | exact Nat.ne_of_lt (by assumption) | exact Nat.ne_of_gt (by assumption))); (case h5 => (first | assumption | exact Ne.symm (by assumption) | exact Nat.ne_of_lt (by assumption) | exact Nat.ne_of_gt (by assumption))); (case h6 => (first | assumption | exact Ne.symm (by assumption) | exact Nat.ne_of_lt (by assumption) | exact Nat.ne_of_gt (by assumption))); (case h7 => assumption); (case h8 => assumption); walk_at "m asm"; (case hr => walk_at "m sub"); (case ex => exact fun _ _ _ q9 => q9.elim)); intro v9 nw9 hv9 h9 tk9 F9 M9 K9 n9; obtain ⟨hv9, it9, kt9, vt9, hn9⟩ := hv9; subst hv9; subst hn9; clear n9; (have N9 := News.merge2 (by assumption) K9 M9 (by k_upd) (by k_upd)); clear M9 K9; (try simp only [List.nil_append, List.cons_append] at N9); (try dsimp only [tkDict] at N9); (try dsimp only); (try k_fold); (try k_sweep)))
          all_goals k_steps
          all_goals (
            (refine' Con.fin (by assumption) ?_ (by assumption) (by assumption) (by assumption) (by assumption) (by assumption) (by assumption) ?_ ?_; rotate_left)
            (rename TkO => tt)
            refine' ⟨{ tt with kind := Str.ofString "punct", kt := ?_, val := ⟨#[c]⟩, vt := ?_, en := ?_, ent := ?_ }, _, ?_, ?_, rfl, by assumption, ⟨rfl, rfl, qk3, qk4.trans (decide_eq_decide.mpr Int.ofNat_lt)⟩, ⟨by assumption, by assumption, by assumption, by assumption⟩, rfl⟩
            rotate_left 6
            · walk_at "m sub"
            · walk_at "m core")
        · rw [if_neg hsg] at hn; cases hn
end
end
section
local macro_rules | `(tactic| k_ne) => `(tactic| (refine neN ?_; (try dsimp only); first | assumption | exact Ne.symm (by assumption) | exact Nat.ne_of_lt (by assumption) | exact Nat.ne_of_gt (by assumption)))
local macro_rules | `(tactic| k_lt $h) => `(tactic| (replace $h := allLt_of $h; simp only [AllLt, and_true] at $h:ident; (repeat (have l9 := And.left $h; replace $h := And.right $h))))
section
set_option genSizeOf false
set_option genInjectivity false
structure RS where
  (i : Int) (it : Tok)
  (l : Nat) (lt : Tok)
  t : TkO
  (n : Int) (nt : Tok)
noncomputable abbrev rdEs (w : World) (f : Fx) (T : Nat) (n : Int) (nt : Tok) : List DictEntry := [ent w "lexer" f.k1 (.ref f.X), ent w "token" f.k2 (.ref T), ent w "later" f.k3 .none, ent w "is_strict" f.k4 (.bool false), ent w "depth" f.k5 (.int 0 f.dtok), ent w "nested" f.k6 (.int n nt), ent w "jumps" f.k7 (.ref f.J), ent w "pending" f.k8 (.ref f.P)]
noncomputable abbrev rdDict (w : World) (f : Fx) (T : Nat) (n : Int) (nt : Tok) : Obj := dictOf (rdEs w f T n nt) 8
noncomputable abbrev rdL (w : World) (f : Fx) (S : RS) (r : List (Addr × Obj)) : List (Addr × Obj) :=
  (f.R, instObj 883 f.Rd) :: (f.Rd, rdDict w f S.t.T S.n S.nt) :: (f.X, instObj 517 f.Xd) :: (f.Xd, lxDict w f S.i S.it S.l S.lt) :: (S.t.T, instObj 336 S.t.Td) :: (S.t.Td, tkDict w S.t) :: r
structure Ap (f : Fx) (t : TkO) : Prop where
  a1 : @Ne Nat f.R f.Rd
  a2 : @Ne Nat f.R f.X
  a3 : @Ne Nat f.R f.Xd
  a4 : @Ne Nat f.R t.T
  a5 : @Ne Nat f.R t.Td
  b1 : @Ne Nat f.Rd f.X
  b2 : @Ne Nat f.Rd f.Xd
  b3 : @Ne Nat f.Rd t.T
  b4 : @Ne Nat f.Rd t.Td
  c1 : f.Xd < f.X
  c2 : @Ne Nat f.X t.T
  c3 : @Ne Nat f.X t.Td
  d1 : @Ne Nat f.Xd t.T
  d2 : @Ne Nat f.Xd t.Td
structure Rep (f : Fx) (S : RS) (s : St) : Prop where
  at_ : At f.text S.i s.rest
  line : S.l = s.line
  tk : TkIs S.t s.tk
  nest : S.n = s.nest
  ap : Ap f S.t
  tok : s.tk.kind = .sg → ∃ c, s.tk.val = [c] ∧ sg1 c = true
  tmost : s.tk.val.length ≤ 100000
noncomputable def Off (f : Fx) (l : List (Addr × Obj)) : Prop := ∀ p ∈ l, p.1 ≠ f.Rd ∧ p.1 ≠ f.Xd
theorem Off.nil {f : Fx} : Off f [] := fun _ h => nomatch h
theorem Off.app {f : Fx} {a b : List (Addr × Obj)} (x : Off f a) (y : Off f b) : Off f (a ++ b) := fun p h => (List.mem_append.mp h).elim (x p) (y p)
theorem Off.cons {f : Fx} {p : Addr × Obj} {a : List (Addr × Obj)} (x : p.1 ≠ f.Rd ∧ p.1 ≠ f.Xd) (y : Off f a) : Off f (p :: a) := fun q h => (List.mem_cons.mp h).elim (fun e => e ▸ x) (y q)
theorem Ap.off {f : Fx} {t : TkO} (a : Ap f t) (w : World) : Off f (tkLed w t) := Off.cons ⟨Ne.symm a.b3, Ne.symm a.d1⟩ (Off.cons ⟨Ne.symm a.b4, Ne.symm a.d2⟩ Off.nil)
structure Lg (w : World) (f : Fx) (S₀ : RS) (e₀ : List (Addr × Obj)) (S : RS) (tail : List (Addr × Obj)) : Prop where
  off : Off f tail
  keep : ∀ p ∈ tkLed w S₀.t ++ e₀, p ∈ tkLed w S.t ++ tail
theorem Lg.ext {w : World} {f : Fx} {S : RS} {e₀ : List (Addr × Obj)} (h : Off f e₀) : Lg w f S e₀ S e₀ := ⟨h, fun _ h => h⟩
theorem Lg.nil {w : World} {f : Fx} {S : RS} : Lg w f S [] S [] := Lg.ext Off.nil
theorem mem_rdL {w : World} {f : Fx} {S : RS} {tail : List (Addr × Obj)} {p : Addr × Obj} (h : p ∈ tkLed w S.t ++ tail) : p ∈ rdL w f S tail := .tail _ (.tail _ (.tail _ (.tail _ h)))
theorem rdL_mono {w : World} {f : Fx} {S : RS} {a b : List (Addr × Obj)} (h : ∀ p ∈ a, p ∈ b) : ∀ p ∈ rdL w f S a, p ∈ rdL w f S b := fun p hp => by
  have : rdL w f S a = rdL w f S [] ++ a := rfl
  rw [this] at hp
  have : rdL w f S b = rdL w f S [] ++ b := rfl
  rw [this]
  exact List.mem_append.mpr ((List.mem_append.mp hp).imp id (h p))
noncomputable abbrev RdEr {α : Type} (w : World) (f : Fx) (r : R α) : Heap → List Env → Heap → Addr → Heap → Prop := fun base l h e h' => ∃ line : Nat, r = .fail line ∧ Fl w [f.Rd, f.Xd] line base l h e h'
noncomputable def PCok {α : Type} (w : World) (f : Fx) (s : St) (d : Nat → Nat) (V : α → Value → List (Addr × Obj) → Prop) (r : R α) (v : Value) (nw : List (Addr × Obj)) : Prop :=
  ∃ a S' s' tl, r = .ok a s' ∧ s'.nest = d s.nest ∧ Rep f S' s' ∧ V a v tl ∧ Off f tl ∧ nw = rdL w f S' tl
noncomputable def PCx {α : Type} (w : World) (f : Fx) (n : Nat) (S : RS) (ext : List (Addr × Obj)) (s : St) (d : Nat → Nat) (t : Sem Value) (V : α → Value → List (Addr × Obj) → Prop) (r : R α) : Prop :=
  Con w n t (rdL w f S ext) [f.Rd, f.Xd] (PCok w f s d V r) (RdEr w f r)
noncomputable abbrev PC {α : Type} (w : World) (f : Fx) (n : Nat) (S : RS) (s : St) (d : Nat → Nat) (t : Sem Value) (V : α → Value → List (Addr × Obj) → Prop) (r : R α) : Prop := PCx w f n S [] s d t V r
theorem bind_ok {α β : Type} {x : R α} {g : α → St → R β} {r : R β} {a : α} {s : St} (h : x.bind g = r) (e : x = .ok a s) : g a s = r := by rw [e] at h; exact h
theorem bind_fail {α β : Type} {x : R α} {g : α → St → R β} {r : R β} {l : Nat} (h : x.bind g = r) (e : x = .fail l) : r = .fail l := by rw [e] at h; exact h.symm
theorem bind_no {α β : Type} {x : R α} {g : α → St → R β} {r : R β} (h : x.bind g = r) (hO : r ≠ .oos) : x ≠ .oos := fun e => by rw [e] at h; exact hO h.symm
section
variable {w : World} {f : Fx} {n : Nat} {S S₀ : RS} {s : St} {d : Nat → Nat} {t : Sem Value} {α β : Type} {V : α → Value → List (Addr × Obj) → Prop} {x : R α} {g : α → St → R β} {r : R β}
  {dp un : Nat} {gd : Option (List Code)} {env : Env} {outer : List Env} {A₀ : Around} {base h₀ : Heap} {L : Addr} {m : Str → Option Value}
  {p : Program} {loose : List Str} {mean : ExcName → Option Value} {mg mb : Str → Option Value} {pre tail e₀ : List (Addr × Obj)} {σ : Shared} {Q E : Value → Shared → Prop}
structure Aft (w : World) (f : Fx) (S₀ : RS) (e₀ : List (Addr × Obj)) (S : RS) (tail : List (Addr × Obj)) (h : Heap) (S' : RS) (tail' : List (Addr × Obj)) : Prop where
  lg : Lg w f S₀ e₀ S' tail'
  sub : ∀ p ∈ tail, p ∈ tail'
  old : ∀ p ∈ tkLed w S.t, p ∈ tail'
  apart : ∀ a, (∀ q ∈ rdL w f S tail, q.1 ≠ a) → h.get? a ≠ none → ∀ q ∈ rdL w f S' tail', q.1 ≠ a
theorem PC.usex {ext : List (Addr × Obj)} (C : x ≠ .oos → PCx w f n S ext s d t V x) (hx : ∀ p ∈ ext, p ∈ tail) (hV : ∀ a v l l', (∀ p ∈ l, p ∈ l') → V a v l → V a v l') (hr : x.bind g = r) (hO : r ≠ .oos)
    (B : Below A₀ base outer h₀) (F : Fr h₀ L σ.heap m) (X : Frag.In (Mine.k0.heap_1 w.params) h₀) (N : News h₀ L σ.heap (pre ++ rdL w f S tail)) (T : Top p loose mean mg mb h₀) (hk : Stands env L) (hd : dp + n < recursionLimit) (hu : un + 20 * n < cLine)
    (lg : Lg w f S₀ e₀ S tail) (rep : Rep f S s) (op : Off f pre)
    (ret : ∀ a S' s' tail' v h' tk', g a s' = r → s'.nest = d s.nest → Rep f S' s' → V a v tail' → Aft w f S₀ e₀ S tail σ.heap S' tail' → Fr h₀ L h' m → News h₀ L h' (pre ++ rdL w f S' tail') → Q v { σ with heap := h', toks := tk' })
    (exc : ∀ line, r = .fail line → ∀ e h' tk', Fl w [f.Rd, f.Xd] line base (env :: outer) σ.heap e h' → E (.ref e) { σ with heap := h', toks := tk' }) :
    wpAny (model PySem.Challenge.pw_pc0091_01 w) (aTop dp un gd env outer) t Q E σ := by
  refine Con.use (C (bind_no hr hO)) B F X N T hk hd hu (fun p hp => List.mem_append_right _ (rdL_mono hx p hp)) (fun v nw hv h' tk' F' N' k hn => ?_) fun e h' tk' ⟨line, q, z⟩ => exc line (bind_fail hr q) e h' tk' z
  obtain ⟨a, S', s', tl, q, hn', rep', hv, ot, rfl⟩ := hv
  have kb : ∀ l, Off f l → ∀ p ∈ l, p.1 ∉ [f.Rd, f.Xd] := fun l o p hp hm => by
    rcases List.mem_cons.mp hm with e | e
    · exact (o p hp).1 e
    · exact (o p hp).2 (List.mem_singleton.mp e)
  have os := rep.ap.off w
  have Nt : News h₀ L h' (tkLed w S.t ++ tail) := News.kept (News.sub N fun p hp => List.mem_append_right _ (mem_rdL hp)) k (kb _ (os.app lg.off))
  have Np : News h₀ L h' pre := News.kept (News.sub N fun p hp => List.mem_append_left _ hp) k (kb _ op)
  have e1 : rdL w f S' (tl ++ (tkLed w S.t ++ tail)) = rdL w f S' tl ++ (tkLed w S.t ++ tail) := rfl
  refine ret a S' s' (tl ++ (tkLed w S.t ++ tail)) v h' tk' (bind_ok hr q) hn' rep' (hV _ _ _ _ (fun p hp => List.mem_append_left _ hp) hv)
    ⟨⟨ot.app (os.app lg.off), fun p hp => List.mem_append_right _ (List.mem_append_right _ (lg.keep p hp))⟩, fun p hp => List.mem_append_right _ (List.mem_append_right _ hp), fun p hp => List.mem_append_right _ (List.mem_append_left _ hp), fun a ha he q hq => ?_⟩
    F' (News.app Np (by rw [e1]; exact News.app N' Nt))
  rw [e1] at hq
  rcases List.mem_append.mp hq with hq | hq
  · rcases hn q hq with z | z
    · obtain ⟨y, hy, e⟩ := List.mem_map.mp z
      rw [← e]
      exact ha y (rdL_mono hx y hy)
    · exact fun e => he (e ▸ z)
  · exact ha q (mem_rdL hq)
theorem PC.use (C : x ≠ .oos → PC w f n S s d t V x) (hV : ∀ a v l l', (∀ p ∈ l, p ∈ l') → V a v l → V a v l') (hr : x.bind g = r) (hO : r ≠ .oos)
    (B : Below A₀ base outer h₀) (F : Fr h₀ L σ.heap m) (X : Frag.In (Mine.k0.heap_1 w.params) h₀) (N : News h₀ L σ.heap (pre ++ rdL w f S tail)) (T : Top p loose mean mg mb h₀) (hk : Stands env L) (hd : dp + n < recursionLimit) (hu : un + 20 * n < cLine)
    (lg : Lg w f S₀ e₀ S tail) (rep : Rep f S s) (op : Off f pre)
    (ret : ∀ a S' s' tail' v h' tk', g a s' = r → s'.nest = d s.nest → Rep f S' s' → V a v tail' → Aft w f S₀ e₀ S tail σ.heap S' tail' → Fr h₀ L h' m → News h₀ L h' (pre ++ rdL w f S' tail') → Q v { σ with heap := h', toks := tk' })
    (exc : ∀ line, r = .fail line → ∀ e h' tk', Fl w [f.Rd, f.Xd] line base (env :: outer) σ.heap e h' → E (.ref e) { σ with heap := h', toks := tk' }) :
    wpAny (model PySem.Challenge.pw_pc0091_01 w) (aTop dp un gd env outer) t Q E σ := PC.usex (ext := []) C (fun _ h => nomatch h) hV hr hO B F X N T hk hd hu lg rep op ret exc
end
section
variable {w : World} {f : Fx} {S S₀ : RS} {s s₀ : St} {d : Nat → Nat} {α : Type} {V : α → Value → List (Addr × Obj) → Prop} {r : R α} {h₀ h' g : Heap} {L L' : Addr} {m m' : Str → Option Value} {σ : Shared} {Q : Value → Shared → Prop} {pre tail e₀ : List (Addr × Obj)} {v : Value} {tk' : Nat} {a : α}
theorem PC.fin (ret : ∀ v nw h' tk', PCok w f s₀ d V r v nw → Fr h₀ L h' m → News h₀ L h' nw → KeepBut [f.Rd, f.Xd] σ.heap h' → (∀ p ∈ nw, p.1 ∈ (rdL w f S₀ e₀).map (·.1) ∨ σ.heap.get? p.1 = none) → Q v { σ with heap := h', toks := tk' })
    (hr : R.ok a s = r) (hn : s.nest = d s₀.nest) (rep : Rep f S s) (hv : V a v (pre ++ tail)) (lg : Lg w f S₀ e₀ S tail) (op : Off f pre)
    (F : Fr h₀ L h' m) (G : Ent σ (rdL w f S₀ e₀) g) (N₀ : News h₀ L σ.heap (rdL w f S₀ e₀)) (F' : Fr g L' h' m') (N' : News g L' h' (pre ++ rdL w f S tail)) (N : News h₀ L h' (pre ++ rdL w f S tail)) :
    Q v { σ with heap := h', toks := tk' } := by
  have sw : ∀ p ∈ rdL w f S (pre ++ tail), p ∈ pre ++ rdL w f S tail := fun p hp => by
    have e1 : rdL w f S (pre ++ tail) = rdL w f S [] ++ (pre ++ tail) := rfl
    have e2 : rdL w f S tail = rdL w f S [] ++ tail := rfl
    rw [e1] at hp
    rw [e2]
    simp only [List.mem_append] at hp ⊢
    rcases hp with h | h | h
    · exact .inr (.inl h)
    · exact .inl h
    · exact .inr (.inr h)
  refine Con.fin ret ⟨a, S, s, pre ++ tail, hr.symm, hn, rep, hv, op.app lg.off, rfl⟩ F G N₀ F' N' N sw fun p hp hd => ?_
  have nd : ∀ {b : Nat}, b ∉ [f.Rd, f.Xd] → b ≠ f.Rd ∧ b ≠ f.Xd := fun h => ⟨fun e => h (e ▸ List.mem_cons_self), fun e => h (e ▸ List.mem_cons_of_mem _ List.mem_cons_self)⟩
  refine List.mem_append_right _ ?_
  rcases List.mem_cons.mp hp with rfl | hp
  · exact List.mem_cons_self
  rcases List.mem_cons.mp hp with rfl | hp
  · exact absurd rfl (nd hd).1
  rcases List.mem_cons.mp hp with rfl | hp
  · exact .tail _ (.tail _ (.head _))
  rcases List.mem_cons.mp hp with rfl | hp
  · exact absurd rfl (nd hd).2
  exact mem_rdL (lg.keep p hp)
theorem PC.leave {M : Model} {A : Around} {E E' : Value → Shared → Prop} {base : Heap} {env envc : Env} {outer : List Env} {σ' : Shared} (exc : ∀ e h' tk', RdEr w f r base (env :: outer) σ.heap e h' → E (.ref e) { σ with heap := h', toks := tk' })
    (G : Ent σ (rdL w f S₀ e₀) g) (N₀ : News h₀ L σ.heap (rdL w f S₀ e₀)) (F' : Fr g L' σ'.heap m') (N' : News g L' σ'.heap (pre ++ rdL w f S tail)) (lg : Lg w f S₀ e₀ S tail) (hA : A.frames = some (envc :: env :: outer)) (hf : envc.frame = some L')
    (line : Nat) (q : r = .fail line) (e : Addr) (h9 : Heap) (tk9 : Nat) (Z : Fl w [f.Rd, f.Xd] line base (envc :: env :: outer) σ'.heap e h9) :
    wpAny M A (leaving envc (.ref e)) (fun _ s'' => E (.ref e) s'') E' { σ with heap := h9, toks := tk9 } := by
  refine Con.leave (D := [f.Rd, f.Xd]) Z (fun e h' tk' z => exc e h' tk' ⟨line, q, z⟩) G F' N₀ N' (fun p hp hd => ?_) (fun _ h => h) hA hf
  have nd : ∀ {b : Nat}, b ∉ [f.Rd, f.Xd] → b ≠ f.Rd ∧ b ≠ f.Xd := fun h => ⟨fun e => h (e ▸ List.mem_cons_self), fun e => h (e ▸ List.mem_cons_of_mem _ List.mem_cons_self)⟩
  refine List.mem_append_right _ ?_
  rcases List.mem_cons.mp hp with rfl | hp
  · exact List.mem_cons_self
  rcases List.mem_cons.mp hp with rfl | hp
  · exact absurd rfl (nd hd).1
  rcases List.mem_cons.mp hp with rfl | hp
  · exact .tail _ (.tail _ (.head _))
  rcases List.mem_cons.mp hp with rfl | hp
  · exact absurd rfl (nd hd).2
  exact mem_rdL (lg.keep p hp)
end
end
section
section
variable {prog : Program} {w : World} {A : Around} {E : Value → Shared → Prop} {s : Shared} {x y : Str} {t u : Tok} {Q : Value → Shared → Prop} {b : Bool}
theorem eqs (h : (x == y) = b) (q : Q (.bool b) s) : wpAny (model prog w) A (compareOp .Eq (.str x t) (.str y u)) Q E s := PyProof.Rows.eq_str (by rw [h]; exact q)
theorem nes (h : (x == y) = true) (q : Q (.bool false) s) : wpAny (model prog w) A (compareOp .NotEq (.str x t) (.str y u)) Q E s := PyProof.Rows.ne_str (by unfold bne; rw [h]; exact q)
theorem nes' (h : (x == y) = false) (q : Q (.bool true) s) : wpAny (model prog w) A (compareOp .NotEq (.str x t) (.str y u)) Q E s := PyProof.Rows.ne_str (by unfold bne; rw [h]; exact q)
end
structure Meth (w : World) (name : Str) (fn : Addr) : Prop where
  pg : plainGet (Mine.k0.heap_1 w.params) 883 name = true
  fi : findIn (Mine.k0.heap_1 w.params) (.ref 883) name = some (some (.ref fn))
  fnc : isFn (Mine.k0.heap_1 w.params) (.ref fn) = true
  kp : keepIn (Mine.k0.heap_1 w.params) (.ref fn) = true
  no : ∀ f T n nt, getL name (rdEs w f T n nt) = some none
noncomputable def ArgsTo (w : World) (A : Around) (env : Env) (E : Value → Shared → Prop) (σ : Shared) (fn R : Addr) (args : List PySem.Expr) (vs : Tok → List Value) : Prop :=
  ∀ (pos : Pos) (Q : Value → Shared → Prop), (∀ tk tk', wpAny (model PySem.Challenge.pw_pc0091_01 w) A (call (.ref fn) (.ref R :: vs tk)) Q E { σ with toks := tk' }) →
    wpAny (model PySem.Challenge.pw_pc0091_01 w) A (callWith pos (.ref fn) [.ref R] (backTo pos (starEach args env)) []) Q E σ
section
variable {w : World} {A : Around} {E : Value → Shared → Prop} {σ : Shared} {h₀ g : Heap} {L a : Addr} {m : Str → Option Value} {fn R : Addr} {cn : Str} {cs : Scope} {ccd : Value}
theorem args0 {env : Env} (X : Frag.In (Mine.k0.heap_1 w.params) h₀) (F : Fr h₀ L σ.heap m) (kp : keepIn (Mine.k0.heap_1 w.params) (.ref fn) = true) : ArgsTo w A env E σ fn R [] (fun _ => []) := fun _ _ h =>
  callWith_K0 (X.keeps F.keep) kp (h 0 σ.toks)
theorem argsS {env : Env} {x : Str} {k : Nat} {p : Pos} (X : Frag.In (Mine.k0.heap_1 w.params) h₀) (F : Fr h₀ L σ.heap m) (kp : keepIn (Mine.k0.heap_1 w.params) (.ref fn) = true) : ArgsTo w A env E σ fn R [.Constant (.str x) k p] (fun tk => [.str x tk]) := fun _ _ h =>
  callWith_K X kp (args_cons (Constant_str (args_nil ⟨X.keeps F.keep, h _ _⟩)))
theorem argsB {env : Env} {c : Bool} {k : Nat} {p : Pos} (X : Frag.In (Mine.k0.heap_1 w.params) h₀) (F : Fr h₀ L σ.heap m) (kp : keepIn (Mine.k0.heap_1 w.params) (.ref fn) = true) : ArgsTo w A env E σ fn R [.Constant (.bool c) k p] (fun _ => [.bool c]) := fun _ _ h =>
  callWith_K X kp (args_cons (Constant_bool (args_nil ⟨X.keeps F.keep, h 0 σ.toks⟩)))
theorem argsN {x : Str} {p : Pos} {v : Value} (hv : m x = some v) (hk : cs.kind = .function) (hl : (envX cn cs L a ccd []).kindOf x = some .local) (hd : (x == Str.ofString "__debug__") = false) (X : Frag.In (Mine.k0.heap_1 w.params) h₀) (F : Fr h₀ L σ.heap m) (kp : keepIn (Mine.k0.heap_1 w.params) (.ref fn) = true) :
    ArgsTo w A (envOf cn cs L a ccd) E σ fn R [.Name x p] (fun _ => [v]) := fun _ _ h =>
  callWith_K X kp (args_cons (nameX_L (cl := []) F hv (args_nil ⟨X.keeps F.keep, h 0 σ.toks⟩) hk hl hd))
end
section
variable {w : World} {f : Fx} {name : Str} {fn : Addr} {A : Around} {E : Value → Shared → Prop} {σ : Shared} {g : Heap} {L a : Addr} {m : Str → Option Value} {cn : Str} {cs : Scope} {ccd : Value} {Q : Value → Shared → Prop} {led pre tail : List (Addr × Obj)} {S S₀ : RS}
  {args : List PySem.Expr} {vs : Tok → List Value} {p1 p2 p3 : Pos}
noncomputable def CallIs (env : Env) (name : Str) (p1 p2 p3 : Pos) (args : List PySem.Expr) (pl : Sem Bool) : Prop := eval (.Call (.Attribute (.Name (Str.ofString "self") p1) name p2) args [] p3) env = (do
          let ov ← eval (.Name (Str.ofString "self") p1) env
          standAt (Pos.atName p2)
          let __x ← holding [ov] (getMethod ov name pl)
          match __x with
            | (f, first) => callWith p3 f first (backTo p3 (starEach args env)) [])
theorem self_call {pl : Sem Bool} (he : CallIs (envOf cn cs L a ccd) name p1 p2 p3 args pl) (Mt : Meth w name fn) (F : Fr g L σ.heap m) (X : Frag.In (Mine.k0.heap_1 w.params) g) (N : News g L σ.heap (pre ++ rdL w f S tail)) (hs : m (Str.ofString "self") = some (.ref f.R)) (hk : cs.kind = .function) (hl : (envX cn cs L a ccd []).kindOf (Str.ofString "self") = some .local)
    (ha : ArgsTo w A (envOf cn cs L a ccd) E σ fn f.R args vs) (q : ∀ tk tk', wpAny (model PySem.Challenge.pw_pc0091_01 w) A (call (.ref fn) (.ref f.R :: vs tk)) Q E { σ with toks := tk' }) :
    wpAny (model PySem.Challenge.pw_pc0091_01 w) A (eval (.Call (.Attribute (.Name (Str.ofString "self") p1) name p2) args [] p3) (envOf cn cs L a ccd)) Q E σ :=
  MethodCall_ (nameX_L (cl := []) F hs (method_inst F X (InstAt.of_news N (List.mem_append_right _ (.head _)) (List.mem_append_right _ (.tail _ (.head _)))) Mt.pg Mt.fi Mt.fnc (Mt.no _ _ _ _) (ha _ _ q)) hk hl (by decide +kernel)) he
end
theorem room_in {dp n n' R : Nat} (hd : dp + n < R) (h : n' + 1 ≤ n) : dp + 1 + n' < R := Nat.lt_of_le_of_lt (by rw [Nat.add_assoc, Nat.add_comm 1]; exact Nat.add_le_add_left h dp) hd
theorem unit_in {un n n' R : Nat} (hd : un + 20 * n < R) (h : n' + 1 ≤ n) : un + 3 + 20 * n' < R := Nat.lt_of_le_of_lt (by rw [Nat.add_assoc]; exact Nat.add_le_add_left (Nat.le_trans (Nat.le_trans (Nat.add_le_add_right (show 3 ≤ 20 by decide) _) (Nat.le_of_eq (by rw [Nat.mul_succ, Nat.add_comm]))) (Nat.mul_le_mul_left 20 h)) _) hd
noncomputable abbrev rm (s : St) (c : Nat) : Nat := 9 * (40 - s.nest) + c
theorem rm_leaf {s : St} {a c : Nat} (h : Nat.ble a c = true) : a ≤ rm s c := Nat.le_trans (Nat.le_of_ble_eq_true h) (Nat.le_add_left _ _)
theorem rm_same {s s1 : St} {c c' : Nat} (e : s1.nest = s.nest) (h : Nat.ble (c' + 1) c = true) : rm s1 c' + 1 ≤ rm s c := by
  have := Nat.le_of_ble_eq_true h
  unfold rm; rw [e]; exact Nat.add_le_add_left this _
theorem rm_down {s s1 : St} {c c' : Nat} (e : s1.nest = s.nest + 1) (k : s1.nest ≤ 40) (h : Nat.ble (c' + 1) (c + 9) = true) : rm s1 c' + 1 ≤ rm s c := by
  have h1 := Nat.le_of_ble_eq_true h
  have h2 : 9 * (40 - s.nest) = 9 * (40 - s1.nest) + 9 := by
    rw [e] at k ⊢
    rw [show 40 - s.nest = (40 - (s.nest + 1)) + 1 from (Nat.sub_add_cancel (Nat.le_sub_of_add_le (Nat.add_comm _ _ ▸ k))).symm, Nat.mul_succ]
  unfold rm; rw [h2, Nat.add_assoc, Nat.add_assoc, Nat.add_comm 9 c]; exact Nat.add_le_add_left h1 _
section
variable {w : World} {f : Fx} {n n₀ : Nat} {S S₀ : RS} {s : St} {d : Nat → Nat} {α β : Type} {V : α → Value → List (Addr × Obj) → Prop} {x : R α} {g : α → St → R β} {r : R β}
  {dp un : Nat} {gd : Option (List Code)} {env : Env} {outer : List Env} {A₀ : Around} {base h₀ : Heap} {L a : Addr} {m : Str → Option Value} {cn : Str} {cs : Scope} {ccd : Value}
  {p : Program} {loose : List Str} {mean : ExcName → Option Value} {mg mb : Str → Option Value} {pre tail e₀ : List (Addr × Obj)} {σ : Shared} {Q E : Value → Shared → Prop}
  {name : Str} {fn : Addr} {args : List PySem.Expr} {vs : Tok → List Value} {p1 p2 p3 : Pos}
theorem PC.methx {ext : List (Addr × Obj)} {pl : Sem Bool} (he : CallIs (envOf cn cs L a ccd) name p1 p2 p3 args pl) (Mt : Meth w name fn) (ha : ArgsTo w ((aTop dp un gd env outer).deeper (envOf cn cs L a ccd)) (envOf cn cs L a ccd) E σ fn f.R args vs) (C : ∀ tk, x ≠ .oos → PCx w f n S ext s d (call (.ref fn) (.ref f.R :: vs tk)) V x) (hx : ∀ p ∈ ext, p ∈ tail) (hV : ∀ a v l l', (∀ p ∈ l, p ∈ l') → V a v l → V a v l')
    (hr : x.bind g = r) (hO : r ≠ .oos) (hn : n + 1 ≤ n₀)
    (B : Below A₀ base (env :: outer) h₀) (F : Fr h₀ L σ.heap m) (X : Frag.In (Mine.k0.heap_1 w.params) h₀) (N : News h₀ L σ.heap (pre ++ rdL w f S tail)) (T : Top p loose mean mg mb h₀) (hd : dp + n₀ < recursionLimit) (hu : un + 20 * n₀ < cLine)
    (lg : Lg w f S₀ e₀ S tail) (rep : Rep f S s) (op : Off f pre) (hs : m (Str.ofString "self") = some (.ref f.R)) (hk : cs.kind = .function) (hl : (envX cn cs L a ccd []).kindOf (Str.ofString "self") = some .local)
    (ret : ∀ a S' s' tail' v h' tk', g a s' = r → s'.nest = d s.nest → Rep f S' s' → V a v tail' → Aft w f S₀ e₀ S tail σ.heap S' tail' → Fr h₀ L h' m → News h₀ L h' (pre ++ rdL w f S' tail') → Q v { σ with heap := h', toks := tk' })
    (exc : ∀ line, r = .fail line → ∀ e h' tk', Fl w [f.Rd, f.Xd] line base (envOf cn cs L a ccd :: env :: outer) σ.heap e h' → E (.ref e) { σ with heap := h', toks := tk' }) :
    wpAny (model PySem.Challenge.pw_pc0091_01 w) ((aTop dp un gd env outer).deeper (envOf cn cs L a ccd)) (eval (.Call (.Attribute (.Name (Str.ofString "self") p1) name p2) args [] p3) (envOf cn cs L a ccd)) Q E σ := by
  refine self_call he Mt F X N hs hk hl ha fun tk tk' => ?_
  exact PC.usex (dp := dp + 1) (un := un + 3) (σ := { σ with toks := tk' }) (C tk) hx hV hr hO B F X N T ⟨rfl, hk⟩ (room_in hd hn) (unit_in hu hn) lg rep op
    (fun a S' s' tail' v h' tk'' e1 e2 e3 e4 e5 e6 e7 => ret a S' s' tail' v h' tk'' e1 e2 e3 e4 e5 e6 e7) fun line q e h' tk'' z => exc line q e h' tk'' z
theorem PC.meth {pl : Sem Bool} (he : CallIs (envOf cn cs L a ccd) name p1 p2 p3 args pl) (Mt : Meth w name fn) (ha : ArgsTo w ((aTop dp un gd env outer).deeper (envOf cn cs L a ccd)) (envOf cn cs L a ccd) E σ fn f.R args vs) (C : ∀ tk, x ≠ .oos → PC w f n S s d (call (.ref fn) (.ref f.R :: vs tk)) V x) (hV : ∀ a v l l', (∀ p ∈ l, p ∈ l') → V a v l → V a v l')
    (hr : x.bind g = r) (hO : r ≠ .oos) (hn : n + 1 ≤ n₀)
    (B : Below A₀ base (env :: outer) h₀) (F : Fr h₀ L σ.heap m) (X : Frag.In (Mine.k0.heap_1 w.params) h₀) (N : News h₀ L σ.heap (pre ++ rdL w f S tail)) (T : Top p loose mean mg mb h₀) (hd : dp + n₀ < recursionLimit) (hu : un + 20 * n₀ < cLine)
    (lg : Lg w f S₀ e₀ S tail) (rep : Rep f S s) (op : Off f pre) (hs : m (Str.ofString "self") = some (.ref f.R)) (hk : cs.kind = .function) (hl : (envX cn cs L a ccd []).kindOf (Str.ofString "self") = some .local)
    (ret : ∀ a S' s' tail' v h' tk', g a s' = r → s'.nest = d s.nest → Rep f S' s' → V a v tail' → Aft w f S₀ e₀ S tail σ.heap S' tail' → Fr h₀ L h' m → News h₀ L h' (pre ++ rdL w f S' tail') → Q v { σ with heap := h', toks := tk' })
    (exc : ∀ line, r = .fail line → ∀ e h' tk', Fl w [f.Rd, f.Xd] line base (envOf cn cs L a ccd :: env :: outer) σ.heap e h' → E (.ref e) { σ with heap := h', toks := tk' }) :
    wpAny (model PySem.Challenge.pw_pc0091_01 w) ((aTop dp un gd env outer).deeper (envOf cn cs L a ccd)) (eval (.Call (.Attribute (.Name (Str.ofString "self") p1) name p2) args [] p3) (envOf cn cs L a ccd)) Q E σ := PC.methx (ext := []) he Mt ha C (fun _ h => nomatch h) hV hr hO hn B F X N T hd hu lg rep op hs hk hl ret exc
end
end
local macro_rules | `(tactic| walk_at "call ref") => `(tactic| (k_here; refine hold_ ?_))
local macro_rules | `(tactic| walk_at "eval Call Attribute") => `(tactic| (k_here; (with_reducible show wpAny _ _ (eval (Expr.Call (Expr.Attribute (Expr.Name (Str.ofString "self") _) _ _) _ [] _) _) _ _ _); refine hold_ ?_))
local macro_rules | `(tactic| walk_at "compareOp Eq str str") => `(tactic| refine eqs (by assumption) ?_)
local macro_rules | `(tactic| walk_at "compareOp NotEq str str") => `(tactic| first | refine nes (by assumption) ?_ | refine nes' (by assumption) ?_)
local macro_rules | `(tactic| walk_at "eval Attribute Call") => `(tactic| (k_here; (with_reducible show wpAny _ _ (eval (Expr.Attribute (Expr.Call (Expr.Attribute (Expr.Name (Str.ofString "self") _) (Str.ofString "take") _) _ _ _) _ _) _) _ _ _); refine hold_ ?_))
local macro_rules | `(tactic| walk_at "call builtin:list.append") => `(tactic| (k_here; refine hold_ ?_))
section
noncomputable abbrev QC (w : World) (f : Fx) (n : Nat) (S : RS) (t : Sem Value) (R : Value → Prop) : Prop := Con w n t (rdL w f S []) [] (fun v nw => R v ∧ nw = []) noEr
section
variable {w : World} {f : Fx} {S S₀ : RS} {h₀ h' g : Heap} {L L' : Addr} {m m' : Str → Option Value} {σ : Shared} {Q : Value → Shared → Prop} {pre : List (Addr × Obj)} {v : Value} {R : Value → Prop} {tk' : Nat}
theorem QC.fin (ret : ∀ v nw h' tk', (R v ∧ nw = []) → Fr h₀ L h' m → News h₀ L h' nw → KeepBut [] σ.heap h' → (∀ p ∈ nw, p.1 ∈ (rdL w f S []).map (·.1) ∨ σ.heap.get? p.1 = none) → Q v { σ with heap := h', toks := tk' })
    (hv : R v) (F : Fr h₀ L h' m) (G : Ent σ (rdL w f S []) g) (N₀ : News h₀ L σ.heap (rdL w f S [])) (F' : Fr g L' h' m') (N' : News g L' h' (rdL w f S [])) : Q v { σ with heap := h', toks := tk' } := by
  refine ret v [] h' tk' ⟨hv, rfl⟩ F News.nil (fun b o e hb => ?_) fun _ h => nomatch h
  by_cases hm : b ∈ (rdL w f S []).map (·.1)
  · obtain ⟨q, hq, rfl⟩ := List.mem_map.mp hm
    have e' := (N₀ q hq).1
    rw [e] at e'
    cases e'
    exact (N' q hq).1
  · exact F'.keep b o (G.up b o e hm)
end
section
variable {w : World} {f : Fx} {n n₀ : Nat} {S S₀ : RS} {dp un : Nat} {gd : Option (List Code)} {env : Env} {outer : List Env} {A₀ : Around} {base h₀ : Heap} {L a : Addr} {m : Str → Option Value} {cn : Str} {cs : Scope} {ccd : Value}
  {p : Program} {loose : List Str} {mean : ExcName → Option Value} {mg mb : Str → Option Value} {pre tail : List (Addr × Obj)} {σ : Shared} {Q E : Value → Shared → Prop} {R : Value → Prop}
  {name : Str} {fn : Addr} {args : List PySem.Expr} {vs : Tok → List Value} {p1 p2 p3 : Pos}
theorem QC.meth {pl : Sem Bool} (he : CallIs (envOf cn cs L a ccd) name p1 p2 p3 args pl) (Mt : Meth w name fn) (ha : ArgsTo w ((aTop dp un gd env outer).deeper (envOf cn cs L a ccd)) (envOf cn cs L a ccd) E σ fn f.R args vs) (C : ∀ tk, QC w f n S (call (.ref fn) (.ref f.R :: vs tk)) R) (hn : n + 1 ≤ n₀)
    (B : Below A₀ base (env :: outer) h₀) (F : Fr h₀ L σ.heap m) (X : Frag.In (Mine.k0.heap_1 w.params) h₀) (N : News h₀ L σ.heap (pre ++ rdL w f S tail)) (T : Top p loose mean mg mb h₀) (hd : dp + n₀ < recursionLimit) (hu : un + 20 * n₀ < cLine)
    (hs : m (Str.ofString "self") = some (.ref f.R)) (hk : cs.kind = .function) (hl : (envX cn cs L a ccd []).kindOf (Str.ofString "self") = some .local)
    (ret : ∀ v, R v → ∀ h' tk', Fr h₀ L h' m → News h₀ L h' (pre ++ rdL w f S tail) → Q v { σ with heap := h', toks := tk' }) :
    wpAny (model PySem.Challenge.pw_pc0091_01 w) ((aTop dp un gd env outer).deeper (envOf cn cs L a ccd)) (eval (.Call (.Attribute (.Name (Str.ofString "self") p1) name p2) args [] p3) (envOf cn cs L a ccd)) Q E σ := by
  refine self_call he Mt F X N hs hk hl ha fun tk tk' => ?_
  refine Con.use (dp := dp + 1) (un := un + 3) (s := { σ with toks := tk' }) (C tk) B F X N T ⟨rfl, hk⟩ (room_in hd hn) (unit_in hu hn) (fun p hp => List.mem_append_right _ (rdL_mono (a := []) (fun _ h => nomatch h) p hp)) (fun v nw hv h' tk'' F' _ k _ => ?_) fun _ _ _ h => h.elim
  obtain ⟨hv, rfl⟩ := hv
  exact ret v hv h' tk'' F' (News.kept0 N k)
end
theorem mt_is_sign (w : World) : Meth w (Str.ofString "is_sign") 636 := ⟨by k_is, by k_is, by k_is, by k_is, fun _ _ _ _ => rfl⟩
theorem mt_is_word (w : World) : Meth w (Str.ofString "is_word") 643 := ⟨by k_is, by k_is, by k_is, by k_is, fun _ _ _ _ => rfl⟩
theorem mt_take (w : World) : Meth w (Str.ofString "take") 622 := ⟨by k_is, by k_is, by k_is, by k_is, fun _ _ _ _ => rfl⟩
theorem mt_eat (w : World) : Meth w (Str.ofString "eat") 650 := ⟨by k_is, by k_is, by k_is, by k_is, fun _ _ _ _ => rfl⟩
noncomputable def signIs (t : TkO) (x : Str) : Bool := (t.kind == Str.ofString "punct") && (t.val == x)
noncomputable def wordIs (t : TkO) (x : Str) : Bool := (t.kind == Str.ofString "keyword") && (t.val == x)
set_option maxRecDepth 100000 in
set_option maxHeartbeats 8000000 in
theorem is_sign_q (w : World) (f : Fx) (S : RS) (x : Str) (xt : Tok) : QC w f 3 S (call (.ref 636) [.ref f.R, .str x xt]) (· = .bool (signIs S.t x)) := by
  ((intro dp un gd env outer A₀ base h₀ L m p loose mean mg mb s Q E B F X N T hk hd hu ret exc; refine wpAny_call ?_; k_dflt (refine' code_defE ?k1 ?k2 ?k3 ?k4 ?k5 ?kA ?kF ?kK ?k6 ?k7 ?k8 ?k9 ?kB ?_ ?c2 ?c3 ?c4 ?c5; (case kA => exact rfl); (case kF => exact Stands.frame (by assumption)); (case kK => exact Stands.kind (by assumption)); (case k1 => k_asm); (case k2 => k_asm); (case k3 => k_asm); (case k4 => k_asm); (case k5 => k_asm); (case k6 => k_is); (case k7 => k_is); (case k8 => exact Nat.lt_of_le_of_lt (Nat.le_add_right _ _) hd); (case k9 => exact BindsTo.of_eq rfl); (case c5 => decide); (case kB => exact locs rfl); (case c2 => exact rfl); (case c3 => exact rfl); (case c4 => exact rfl); k_whole; intro g L' h' FG F' N' B' X' T' G; (try dsimp only); (try k_fold))))
  k_steps
  all_goals (
    (rename (S.t.kind == Str.ofString "punct") = _ => q)
    (refine' QC.fin ret ?qv ?qF G N ?qF2 ?qN; (case qv => exact congrArg Value.bool (by unfold signIs; rw [q]; rfl)); (case qF => assumption); (case qF2 => assumption); (case qN => assumption)))
set_option maxRecDepth 100000 in
set_option maxHeartbeats 8000000 in
theorem is_word_q (w : World) (f : Fx) (S : RS) (x : Str) (xt : Tok) : QC w f 3 S (call (.ref 643) [.ref f.R, .str x xt]) (· = .bool (wordIs S.t x)) := by
  ((intro dp un gd env outer A₀ base h₀ L m p loose mean mg mb s Q E B F X N T hk hd hu ret exc; refine wpAny_call ?_; k_dflt (refine' code_defE ?k1 ?k2 ?k3 ?k4 ?k5 ?kA ?kF ?kK ?k6 ?k7 ?k8 ?k9 ?kB ?_ ?c2 ?c3 ?c4 ?c5; (case kA => exact rfl); (case kF => exact Stands.frame (by assumption)); (case kK => exact Stands.kind (by assumption)); (case k1 => k_asm); (case k2 => k_asm); (case k3 => k_asm); (case k4 => k_asm); (case k5 => k_asm); (case k6 => k_is); (case k7 => k_is); (case k8 => exact Nat.lt_of_le_of_lt (Nat.le_add_right _ _) hd); (case k9 => exact BindsTo.of_eq rfl); (case c5 => decide); (case kB => exact locs rfl); (case c2 => exact rfl); (case c3 => exact rfl); (case c4 => exact rfl); k_whole; intro g L' h' FG F' N' B' X' T' G; (try dsimp only); (try k_fold))))
  k_steps
  all_goals (
    (rename (S.t.kind == Str.ofString "keyword") = _ => q)
    (refine' QC.fin ret ?qv ?qF G N ?qF2 ?qN; (case qv => exact congrArg Value.bool (by unfold wordIs; simp only [*, Bool.true_and, Bool.false_and])); (case qF => assumption); (case qF2 => assumption); (case qN => assumption)))
theorem kdS_sg (k : Kd) : (kdS k == Str.ofString "punct") = (k == .sg) := by cases k <;> decide +kernel
theorem kdS_kw' (k : Kd) : (kdS k == Str.ofString "keyword") = (k == .kw) := by cases k <;> decide +kernel
theorem val_beq (a b : List Nat) : ((⟨a.toArray⟩ : Str) == ⟨b.toArray⟩) = (a == b) := by
  rw [Bool.eq_iff_iff, beq_iff_eq, beq_iff_eq, Str.mk.injEq]
  exact ⟨fun h => congrArg Array.toList h, fun h => congrArg List.toArray h⟩
theorem Rep.sign {f : Fx} {S : RS} {s : St} (h : Rep f S s) {x : Str} {c : Nat} (hx : x = ⟨#[c]⟩) : signIs S.t x = isSign s c := by
  unfold signIs isSign
  rw [h.tk.kind, h.tk.val, kdS_sg, hx, ← val_beq]
theorem Rep.newW {f : Fx} {S : RS} {s : St} (h : Rep f S s) : wordIs S.t (Str.ofString "new") = isNew s := by
  unfold wordIs isNew
  rw [h.tk.kind, h.tk.val, kdS_kw', ← val_beq]
  rfl
theorem sign_c {w : World} {f : Fx} {S : RS} {s : St} {x : Str} {c : Nat} {b : Bool} (h : Rep f S s) (hx : x = ⟨#[c]⟩) (hb : isSign s c = b) (xt : Tok) : QC w f 3 S (call (.ref 636) [.ref f.R, .str x xt]) (· = .bool b) := by
  rw [← hb, ← h.sign hx]; exact is_sign_q w f S x xt
theorem new_c {w : World} {f : Fx} {S : RS} {s : St} {b : Bool} (h : Rep f S s) (hb : isNew s = b) (xt : Tok) : QC w f 3 S (call (.ref 643) [.ref f.R, .str (Str.ofString "new") xt]) (· = .bool b) := by
  rw [← hb, ← h.newW]; exact is_word_q w f S _ xt
end
section
noncomputable abbrev penO (l0 : Nat) (i : Nat) (t1 : Tok) (z : Int) (t2 : Tok) (n : Nat) : Obj := listOf #[.ref l0, .int i t1, .int z t2] n
noncomputable def Picked (pn l0 i : Nat) (z : Int) (t2 : Tok) (k : Nat) (v : Value) (nw : List (Addr × Obj)) : Prop := ∃ (r : Nat) (rt t1 : Tok) (n : Nat), r < k ∧ v = Value.int (r : Nat) rt ∧ nw = [(pn, penO l0 (i + 1) t1 z t2 n)]
theorem Picked.of {pn l0 i : Nat} {z : Int} {t1 t2 rt : Tok} {k : Nat} {x : Int} {n : Nat} (hk : 0 < k) : Picked pn l0 i z t2 k (.int (x.fmod k) rt) [(pn, listOf #[.ref l0, .int ((i : Int) + 1) t1, .int z t2] n)] := by
  have h0 : (0 : Int) < k := Int.ofNat_lt.mpr hk
  obtain ⟨r, hr⟩ := Int.eq_ofNat_of_zero_le (fmod_lo x h0)
  have h1 := fmod_hi x h0
  rw [hr] at h1 ⊢
  exact ⟨r, rt, t1, n, Int.ofNat_lt.mp h1, rfl, rfl⟩
set_option maxRecDepth 100000 in
set_option maxHeartbeats 8000000 in
theorem law_pick_c (w : World) (pn l0 : Nat) (i : Nat) (t1 t2 : Tok) (z : Int) (n n2 : Nat) (vs : List Value) (ns : List Int) (k : Nat) (kt : Tok) (hi : IntsAre vs ns) (hz : ns.length ≤ 20) (hk0 : 0 < k) (h30 : i < 1000) (hne : pn ≠ l0) :
    Con w 5 (call (.ref 899) [.ref pn, .int k kt]) [(pn, penO l0 i t1 z t2 n), (l0, listOf vs.toArray n2)] [pn] (Picked pn l0 i z t2 k) noEr := by
  have hk2 : (0 : Int) < k := Int.ofNat_lt.mpr hk0
  ((intro dp un gd env outer A₀ base h₀ L m p loose mean mg mb s Q E B F X N T hk hd hu ret exc; refine wpAny_call ?_; k_dflt (refine' code_defE ?k1 ?k2 ?k3 ?k4 ?k5 ?kA ?kF ?kK ?k6 ?k7 ?k8 ?k9 ?kB ?_ ?c2 ?c3 ?c4 ?c5; (case kA => exact rfl); (case kF => exact Stands.frame (by assumption)); (case kK => exact Stands.kind (by assumption)); (case k1 => k_asm); (case k2 => k_asm); (case k3 => k_asm); (case k4 => k_asm); (case k5 => k_asm); (case k6 => k_is); (case k7 => k_is); (case k8 => exact Nat.lt_of_le_of_lt (Nat.le_add_right _ _) hd); (case k9 => exact BindsTo.of_eq rfl); (case c5 => decide); (case kB => exact locs rfl); (case c2 => exact rfl); (case c3 => exact rfl); (case c4 => exact rfl); k_whole; intro g L' h' FG F' N' B' X' T' G; (try dsimp only); (try k_fold))))
  k_steps
  all_goals (
    refine' Con.fin ret (Picked.of (t1 := ?y1) (n := ?y2) hk0) ?qF G N ?qF2 ?qN2 ?qN ?qn ?qc
    case qF => assumption
    case qF2 => assumption
    case qN2 => assumption
    case qN => assumption
    case qn => exact List.forall_mem_cons.mpr ⟨by k_mem, List.forall_mem_nil _⟩
    case qc => exact List.forall_mem_cons.mpr ⟨fun h => absurd List.mem_cons_self h, List.forall_mem_cons.mpr ⟨fun _ => by k_mem, List.forall_mem_nil _⟩⟩)
end
section
theorem News.rot {h₀ h : Heap} {L : Addr} {a b c : List (Addr × Obj)} (N : News h₀ L h (a ++ (b ++ c))) : News h₀ L h (b ++ (a ++ c)) := News.sub N fun p hp => by
  simp only [List.mem_append] at hp ⊢
  rcases hp with h | h | h
  · exact .inr (.inl h)
  · exact .inl h
  · exact .inr (.inr h)
theorem fresh2' {a x y : Nat} (h : @Ne Nat x a) (k : @Ne Nat y a) : a ∉ [x, y] := fun q => by
  rcases List.mem_cons.mp q with q | q
  · exact h q.symm
  · exact k (List.mem_singleton.mp q).symm
theorem take_cases (s : St) : take s = .oos ∨ ∃ tk r l, next s.rest s.line = some (tk, r, l) ∧ take s = .ok s.tk { s with tk := tk, rest := r, line := l } := by
  unfold take
  cases next s.rest s.line with
  | none => exact .inl rfl
  | some p => exact .inr ⟨p.1, p.2.1, p.2.2, rfl, rfl⟩
theorem span_len : ∀ r : List Nat, (spanName r).1.length ≤ r.length
  | [] => Nat.le_refl _
  | c :: r => by
    have := span_len r
    unfold spanName
    split
    · exact Nat.succ_le_succ this
    · exact Nat.zero_le _
theorem skip_len : ∀ (r : List Nat) (l : Nat) {x : List Nat} {k : Nat}, skip r l = some (x, k) → x.length ≤ r.length
  | [], l, x, k, h => by cases h; exact Nat.le_refl _
  | c :: r, l, x, k, h => by
    unfold skip at h
    split at h
    · exact Nat.le_succ_of_le (skip_len r _ h)
    · split at h
      · cases h
      · split at h
        · exact Nat.le_succ_of_le (skip_len r _ h)
        · cases h; exact Nat.le_refl _
theorem next_tok {r : List Nat} {l : Nat} {tk : Tk} {r' : List Nat} {l' : Nat} (h : next r l = some (tk, r', l')) : (tk.kind = .sg → ∃ c, tk.val = [c] ∧ sg1 c = true) ∧ tk.val.length ≤ r.length := by
  unfold next at h
  split at h
  · cases h
  · cases h; exact ⟨(fun q => nomatch q), Nat.zero_le _⟩
  · rename_i c r1 l1 hs
    have hl := skip_len _ _ hs
    by_cases h1 : isIdStartI (c : Int) = true
    · rw [if_pos h1] at h
      by_cases h2 : (spanName r1).2.head? = some 92
      · rw [if_pos h2] at h; cases h
      · rw [if_neg h2] at h
        cases h
        refine ⟨fun q => ?_, Nat.le_trans (Nat.succ_le_succ (span_len _)) hl⟩
        by_cases h3 : inKw ⟨(c :: (spanName r1).1).toArray⟩ = true
        · rw [if_pos h3] at q; cases q
        · rw [if_neg h3] at q; cases q
    · rw [if_neg h1] at h
      by_cases h2 : (sg1 c && signOk r1) = true
      · rw [if_pos h2] at h
        cases h
        exact ⟨fun _ => ⟨c, rfl, (Bool.and_eq_true_iff.mp h2).1⟩, Nat.le_trans (Nat.succ_le_succ (Nat.zero_le _)) hl⟩
      · rw [if_neg h2] at h; cases h
noncomputable abbrev vTk (S : RS) (s : St) (a : Tk) (v : Value) (_ : List (Addr × Obj)) : Prop := a = s.tk ∧ v = .ref S.t.T
set_option maxRecDepth 100000 in
set_option maxHeartbeats 8000000 in
theorem take_pc (w : World) (f : Fx) (S : RS) (s₀ : St) (rep : Rep f S s₀) (hO : take s₀ ≠ .oos) : PC w f 18 S s₀ id (call (.ref 622) [.ref f.R]) (vTk S s₀) (take s₀) := by
  obtain ⟨tk1, r, l, q1, q2⟩ := (take_cases s₀).resolve_left hO
  rw [q2]
  obtain ⟨a1, a2, a3, a4, a5, b1, b2, b3, b4, c1, c2, c3, d1, d2⟩ := rep.ap
  ((intro dp un gd env outer A₀ base h₀ L m p loose mean mg mb s Q E B F X N T hk hd hu ret exc; refine wpAny_call ?_; k_dflt (refine' code_defE ?k1 ?k2 ?k3 ?k4 ?k5 ?kA ?kF ?kK ?k6 ?k7 ?k8 ?k9 ?kB ?_ ?c2 ?c3 ?c4 ?c5; (case kA => exact rfl); (case kF => exact Stands.frame (by assumption)); (case kK => exact Stands.kind (by assumption)); (case k1 => k_asm); (case k2 => k_asm); (case k3 => k_asm); (case k4 => k_asm); (case k5 => k_asm); (case k6 => k_is); (case k7 => k_is); (case k8 => exact Nat.lt_of_le_of_lt (Nat.le_add_right _ _) hd); (case k9 => exact BindsTo.of_eq rfl); (case c5 => decide); (case kB => exact locs rfl); (case c2 => exact rfl); (case c3 => exact rfl); (case c4 => exact rfl); k_whole; intro g L' h' FG F' N' B' X' T' G; (try dsimp only); (try k_fold))))
  k_steps
  k_dflt refine' Con.use (next_spec w f S.i S.it S.l S.lt _ _ _ _ rep.at_ c1 ((congrArg _ rep.line).trans q1)) ?k1 ?k2 ?k3 ?k4 ?k5 ?k6 ?k7 ?k8 ?hr ?_ ?ex
  ((case k1 => k_asm); (case k2 => k_asm); (case k3 => k_asm); (case k4 => k_asm); (case k5 => k_asm); (case k6 => first | assumption | exact Stands.of); (case k7 => exact room_in hd (Nat.le_of_ble_eq_true rfl)); (case k8 => exact unit_in hu (Nat.le_of_ble_eq_true rfl)))
  ((case hr => exact List.forall_mem_cons.mpr ⟨.tail _ (.tail _ (.head _)), List.forall_mem_cons.mpr ⟨.tail _ (.tail _ (.tail _ (.head _))), List.forall_mem_nil _⟩⟩); (case ex => exact fun _ _ _ q9 => q9.elim))
  rintro v9 nw9 ⟨t9, i9, it9, lt9, rfl, at9, tkq9, ⟨f1, f2, f3, f4⟩, rfl⟩ h9 tk9 F9 M9 K9 n9
  have e9 := (n9 _ (.tail _ (.head _))).resolve_left (fresh2' f1 f2)
  have d9 := (n9 _ (.tail _ (.tail _ (.head _)))).resolve_left (fresh2' f3 f4)
  (rename News _ _ _ (rdL w f S []) => N1)
  obtain ⟨⟨A1, A2, A3, A4, A5, A6, -⟩, D1, D2, D3, D4, D5, D6, -⟩ := And.intro (allNe_of N1 e9) (allNe_of N1 d9)
  clear e9 d9 n9
  have N9 := News.merge1 N1 K9 M9 (by k_upd)
  clear M9 K9 N1
  k_sweep
  k_steps
  refine' PC.fin (S := ⟨i9, it9, l, lt9, t9, S.n, S.nt⟩) (tail := tkLed w S.t) (pre := []) ret rfl rfl ⟨at9, rfl, tkq9, rep.nest, ⟨a1, a2, a3, A1, D1, b1, b2, A2, D2, c1, f1, f3, f2, f4⟩, (next_tok q1).1, Nat.le_trans (next_tok q1).2 rep.at_.len⟩ ⟨rfl, rfl⟩ ⟨rep.ap.off w, fun p hp => List.mem_append_right _ hp⟩ Off.nil ?qF G N ?qF2 (News.rot (a := tkLed w t9) (b := [_, _, _, _]) ?qN2) (News.rot (a := tkLed w t9) (b := [_, _, _, _]) ?qN)
  case qF => assumption
  case qF2 => assumption
  case qN2 => assumption
  case qN => assumption
end
section
set_option maxRecDepth 100000 in
set_option maxHeartbeats 8000000 in
theorem mk_lexer (w : World) (text : Str) (tt : Tok) : Con w 4 (call (.ref 517) [.str text tt]) [] [] (fun v nw => ∃ (X Xd : Nat) (l1 l2 l3 it lt : Tok), v = .ref X ∧ Xd < X ∧ nw = [(X, instObj 517 Xd), (Xd, dictOf [ent w "text" l1 (.str text tt), ent w "at" l2 (.int 0 it), ent w "line" l3 (.int (1 : Nat) lt)] 3)]) noEr := by
  (intro dp un gd env outer A₀ base h₀ L m p loose mean mg mb s Q E B F X N T hk hd hu ret exc; refine wpAny_call ?_; (refine' make_KK F X ?m1 ?m2 ?m3 ?_; (case m1 => k_is); (case m2 => k_is); (case m3 => k_is)); intro x9 dx9 h9 F9 N9 kp9 nx9 nd9 lt9; k_dflt (refine' code_defE ?k1 ?k2 ?k3 ?k4 ?k5 ?kA ?kF ?kK ?k6 ?k7 ?k8 ?k9 ?kB ?_ ?c2 ?c3 ?c4 ?c5; (case kA => exact rfl); (case kF => exact Stands.frame (by assumption)); (case kK => exact Stands.kind (by assumption)); (case k1 => k_asm); (case k2 => k_asm); (case k3 => k_asm); (case k4 => k_asm); (case k5 => k_asm); (case k6 => k_is); (case k7 => k_is); (case k8 => exact room0 hd rfl); (case k9 => exact BindsTo.of_eq rfl); (case c5 => decide); (case kB => exact locs rfl); (case c2 => exact rfl); (case c3 => exact rfl); (case c4 => exact rfl); k_whole; intro g L' h' FG F' N' B' X' T' G; (try dsimp only); (try k_fold)))
  k_steps
  (refine' Made.fin2 (s := s) (s₁ := { s with heap := h9 }) ret kp9 G (List.forall_mem_cons.mpr ⟨nx9, List.forall_mem_cons.mpr ⟨nd9, List.forall_mem_nil _⟩⟩) ?z1 ?z2 ?z3 ?z4 ?z5; (case z1 => assumption); (case z2 => assumption); (case z3 => assumption); (case z4 => assumption))
  exact ⟨x9, dx9, _, _, _, _, _, rfl, lt9, rfl⟩
set_option maxRecDepth 100000 in
set_option maxHeartbeats 8000000 in
theorem mk_jumps (w : World) : Con w 4 (call (.ref 597) []) [] [] (fun v nw => (∃ J : Nat, v = .ref J) ∧ nw = []) noEr := by
  (intro dp un gd env outer A₀ base h₀ L m p loose mean mg mb s Q E B F X N T hk hd hu ret exc; refine wpAny_call ?_; (refine' make_KK F X ?m1 ?m2 ?m3 ?_; (case m1 => k_is); (case m2 => k_is); (case m3 => k_is)); intro x9 dx9 h9 F9 N9 kp9 nx9 nd9 lt9; k_dflt (refine' code_defE ?k1 ?k2 ?k3 ?k4 ?k5 ?kA ?kF ?kK ?k6 ?k7 ?k8 ?k9 ?kB ?_ ?c2 ?c3 ?c4 ?c5; (case kA => exact rfl); (case kF => exact Stands.frame (by assumption)); (case kK => exact Stands.kind (by assumption)); (case k1 => k_asm); (case k2 => k_asm); (case k3 => k_asm); (case k4 => k_asm); (case k5 => k_asm); (case k6 => k_is); (case k7 => k_is); (case k8 => exact room0 hd rfl); (case k9 => exact BindsTo.of_eq rfl); (case c5 => decide); (case kB => exact locs rfl); (case c2 => exact rfl); (case c3 => exact rfl); (case c4 => exact rfl); k_whole; intro g L' h' FG F' N' B' X' T' G; (try dsimp only); (try k_fold)))
  k_steps
  refine' Made.fin2 (s := s) (s₁ := { s with heap := h9 }) (nw := []) ret kp9 G (List.forall_mem_cons.mpr ⟨nx9, List.forall_mem_cons.mpr ⟨nd9, List.forall_mem_nil _⟩⟩) ?z1 ?z2 (fun _ h => nomatch h) (fun _ h => nomatch h) ⟨⟨x9, rfl⟩, rfl⟩
  case z1 => assumption
  case z2 => assumption
theorem rd_sw {h₀ h : Heap} {L : Addr} {a b c d e x y : Addr × Obj} (N : News h₀ L h [a, b, c, d, e, x, y]) : News h₀ L h [x, y, d, e, b, c] := News.sub N (by simp only [List.mem_cons, List.not_mem_nil, or_false]; intro p h; rcases h with h | h | h | h | h | h <;> simp only [h, true_or, or_true])
theorem unit2 {un n n₀ k : Nat} (h : un + 20 * n₀ < k) (hn : n + 1 ≤ n₀) : un + 1 + 3 + 20 * n < k := by
  rw [Nat.add_assoc, Nat.add_assoc]
  refine Nat.lt_of_le_of_lt (Nat.add_le_add_left (Nat.le_trans ?_ (Nat.mul_le_mul_left 20 hn)) un) h
  rw [Nat.mul_succ, ← Nat.add_assoc, Nat.add_comm]
  exact Nat.add_le_add_left (Nat.le_of_ble_eq_true rfl) _
set_option maxRecDepth 100000 in
set_option maxHeartbeats 8000000 in
theorem mk_reader (w : World) (text : Str) (tt : Tok) (r0 : List Nat) (tk : Tk) (r : List Nat) (l : Nat) (h0 : At text 0 r0) (hn : next r0 1 = some (tk, r, l)) :
    Con w 20 (call (.ref 883) [.str text tt]) [] [] (fun v nw => ∃ f S, v = .ref f.R ∧ Rep f S ⟨tk, r, l, 0⟩ ∧ nw = rdL w f S []) noEr := by
  (intro dp un gd env outer A₀ base h₀ L m p loose mean mg mb s Q E B F X N T hk hd hu ret exc; refine wpAny_call ?_; (refine' make_KK F X ?m1 ?m2 ?m3 ?_; (case m1 => k_is); (case m2 => k_is); (case m3 => k_is)); intro x9 dx9 h9 F9 N9 kp9 nx9 nd9 lt9; k_dflt (refine' code_defE ?k1 ?k2 ?k3 ?k4 ?k5 ?kA ?kF ?kK ?k6 ?k7 ?k8 ?k9 ?kB ?_ ?c2 ?c3 ?c4 ?c5; (case kA => exact rfl); (case kF => exact Stands.frame (by assumption)); (case kK => exact Stands.kind (by assumption)); (case k1 => k_asm); (case k2 => k_asm); (case k3 => k_asm); (case k4 => k_asm); (case k5 => k_asm); (case k6 => k_is); (case k7 => k_is); (case k8 => exact room0 hd rfl); (case k9 => exact BindsTo.of_eq rfl); (case c5 => decide); (case kB => exact locs rfl); (case c2 => exact rfl); (case c3 => exact rfl); (case c4 => exact rfl); k_whole; intro g L' h' FG F' N' B' X' T' G; (try dsimp only); (try k_fold)))
  k_steps
  k_dflt refine' Con.use (dp := dp + 1 + 1) (un := un + 1 + 3) (mk_lexer w text tt) ?k1 ?k2 ?k3 ?k4 ?k5 ?k6 ?k7 ?k8 ?hr ?_ ?ex
  ((case k1 => k_asm); (case k2 => k_asm); (case k3 => k_asm); (case k4 => k_asm); (case k5 => k_asm); (case k6 => first | assumption | exact Stands.of); (case k7 => exact room2 hd rfl); (case k8 => exact unit2 hu (Nat.le_of_ble_eq_true rfl)))
  ((case hr => exact fun _ h => nomatch h); (case ex => exact fun _ _ _ q9 => q9.elim))
  rintro v9 nw9 ⟨X1, Xd1, l1, l2, l3, i1, t1, rfl, lt1, rfl⟩ h1 tk1 F1 M1 K1 n1
  have e1 := (n1 _ (.head _)).resolve_left List.not_mem_nil
  have e2 := (n1 _ (.tail _ (.head _))).resolve_left List.not_mem_nil
  obtain ⟨⟨A1, A2, -⟩, D1, D2, -⟩ := And.intro (allNe_of N' e1) (allNe_of N' e2)
  have N1 := News.app M1 (News.kept0 N' K1)
  clear M1 K1 e1 e2 n1
  simp only [List.cons_append, List.nil_append] at N1
  replace A1 : @Ne Nat x9 X1 := A1
  replace A2 : @Ne Nat dx9 X1 := A2
  replace D1 : @Ne Nat x9 Xd1 := D1
  replace D2 : @Ne Nat dx9 Xd1 := D2
  ((try dsimp only); (try k_fold); (try k_sweep))
  k_steps
  (rename News g _ _ _ => N3)
  k_dflt refine' Con.use (dp := dp + 1 + 1) (un := un + 1 + 3) (next_spec w ⟨x9, dx9, X1, Xd1, 0, 0, 0, 0, 0, 0, 0, 0, l1, l2, l3, 0, 0, text, tt, 0⟩ 0 i1 1 t1 _ _ _ _ h0 lt1 hn) ?k1 ?k2 ?k3 ?k4 ?k5 ?k6 ?k7 ?k8 ?hr ?_ ?ex
  ((case k1 => k_asm); (case k2 => k_asm); (case k3 => k_asm); (case k4 => k_asm); (case k5 => k_asm); (case k6 => first | assumption | exact Stands.of); (case k7 => exact room2 hd rfl); (case k8 => exact unit2 hu (Nat.le_of_ble_eq_true rfl)))
  ((case hr => exact List.forall_mem_cons.mpr ⟨by k_mem, List.forall_mem_cons.mpr ⟨by k_mem, List.forall_mem_nil _⟩⟩); (case ex => exact fun _ _ _ q9 => q9.elim))
  rintro v9 nw9 ⟨t9, i9, it9, lt9', rfl, at9, tkq9, ⟨f1, f2, f3, f4⟩, rfl⟩ h2 tk2 F2 M2 K2 n2
  have e1 := (n2 _ (.tail _ (.head _))).resolve_left (fresh2' f1 f2)
  have e2 := (n2 _ (.tail _ (.tail _ (.head _)))).resolve_left (fresh2' f3 f4)
  obtain ⟨⟨A4, A5, A6, A7, -⟩, D4, D5, D6, D7, -⟩ := And.intro (allNe_of N3 e1) (allNe_of N3 e2)
  have N4 := News.merge1 N3 K2 M2 (by k_upd)
  clear M2 K2 e1 e2 n2 N3
  k_sweep
  k_steps
  replace A4 : @Ne Nat X1 t9.T := A4
  replace A6 : @Ne Nat x9 t9.T := A6
  replace A7 : @Ne Nat dx9 t9.T := A7
  replace D4 : @Ne Nat X1 t9.Td := D4
  replace D6 : @Ne Nat x9 t9.Td := D6
  replace D7 : @Ne Nat dx9 t9.Td := D7
  (rename News g _ _ _ => N5)
  k_dflt refine' Con.use (dp := dp + 1 + 1) (un := un + 1 + 3) (mk_jumps w) ?k1 ?k2 ?k3 ?k4 ?k5 ?k6 ?k7 ?k8 ?hr ?_ ?ex
  ((case k1 => k_asm); (case k2 => k_asm); (case k3 => k_asm); (case k4 => k_asm); (case k5 => k_asm); (case k6 => first | assumption | exact Stands.of); (case k7 => exact room2 hd rfl); (case k8 => exact unit2 hu (Nat.le_of_ble_eq_true rfl)))
  ((case hr => exact fun _ h => nomatch h); (case ex => exact fun _ _ _ q9 => q9.elim))
  rintro v9 nw9 ⟨⟨J, rfl⟩, rfl⟩ h3 tk3 F3 M3 K3 n3
  have N6 := News.kept0 N5 K3
  clear M3 K3 n3 N5
  ((try dsimp only); (try k_fold); (try k_sweep))
  k_steps
  refine' Made.fin2 (s := s) (s₁ := { s with heap := h9 }) (nw := rdL w ⟨x9, dx9, X1, Xd1, ?y1, ?y2, ?y3, ?y4, ?y5, ?y6, ?y7, ?y8, l1, l2, l3, J, ?y9, text, tt, ?ya⟩ ⟨i9, it9, l, lt9', t9, 0, ?yb⟩ []) ret kp9 G (List.forall_mem_cons.mpr ⟨nx9, List.forall_mem_cons.mpr ⟨nd9, List.forall_mem_nil _⟩⟩) ?z1 ?z2 (rd_sw ?z3) (rd_sw ?z4) ⟨_, _, rfl, ?z5, rfl⟩
  case z1 => assumption
  case z2 => assumption
  case z3 => assumption
  case z4 => assumption
  case z5 => exact ⟨at9, rfl, tkq9, rfl, ⟨Nat.ne_of_gt lt9, A1, D1, A6, D6, A2, D2, A7, D7, lt1, A4, D4, f2, f4⟩, (next_tok hn).1, Nat.le_trans (next_tok hn).2 h0.len⟩
end
section
theorem eat_no {s : St} {c : Nat} (h : isSign s c = false) : eat s c = .ok false s := by unfold eat; rw [h]; rfl
theorem eat_yes {s : St} {c : Nat} (h : isSign s c = true) : eat s c = (take s).bind fun _ s => .ok true s := by unfold eat; rw [h]; rfl
noncomputable abbrev vb (a : Bool) (v : Value) (_ : List (Addr × Obj)) : Prop := v = .bool a
theorem vb_mono : ∀ a v l l', (∀ p ∈ l, p ∈ l') → vb a v l → vb a v l' := fun _ _ _ _ _ h => h
theorem Rep.refl {f : Fx} {S : RS} {s s' : St} (h : Rep f S s) (e : s = s') : Rep f S s' := e ▸ h
set_option maxRecDepth 100000 in
set_option maxHeartbeats 8000000 in
theorem eat_pc (w : World) (f : Fx) (S : RS) (s₀ : St) (rep : Rep f S s₀) (c : Nat) (x : Str) (hx : x = ⟨#[c]⟩) (xt : Tok) (hO : eat s₀ c ≠ .oos) : PC w f 20 S s₀ id (call (.ref 650) [.ref f.R, .str x xt]) vb (eat s₀ c) := by
  generalize hr : eat s₀ c = r at hO ⊢
  cases hb : isSign s₀ c with
  | false =>
    rw [eat_no hb] at hr
    ((intro dp un gd env outer A₀ base h₀ L m p loose mean mg mb s Q E B F X N T hk hd hu ret exc; refine wpAny_call ?_; k_dflt (refine' code_defE ?k1 ?k2 ?k3 ?k4 ?k5 ?kA ?kF ?kK ?k6 ?k7 ?k8 ?k9 ?kB ?_ ?c2 ?c3 ?c4 ?c5; (case kA => exact rfl); (case kF => exact Stands.frame (by assumption)); (case kK => exact Stands.kind (by assumption)); (case k1 => k_asm); (case k2 => k_asm); (case k3 => k_asm); (case k4 => k_asm); (case k5 => k_asm); (case k6 => k_is); (case k7 => k_is); (case k8 => exact Nat.lt_of_le_of_lt (Nat.le_add_right _ _) hd); (case k9 => exact BindsTo.of_eq rfl); (case c5 => decide); (case kB => exact locs rfl); (case c2 => exact rfl); (case c3 => exact rfl); (case c4 => exact rfl); k_whole; intro g L' h' FG F' N' B' X' T' G; (try dsimp only); (try k_fold))))
    k_steps
    (k_dflt refine' QC.meth (pre := []) ?q1 (mt_is_sign w) ((argsN ?ar ?ak ?al ?am) X' ?q4 (mt_is_sign w).kp) ?q2 ?q0 B' ?q4 X' ?q6 T' hd hu ?q7 rfl ?q8 ?_; (case q4 => k_asm); (case q6 => k_asm); (case q7 => exact rfl); (case q8 => exact rfl); ((try (case ak => exact rfl)); (try (case al => exact rfl)); (try (case am => decide +kernel)); (try (case ar => exact rfl))); (case q2 => exact fun tk => sign_c rep hx hb _); (case q1 => exact rfl); (case q0 => exact Nat.le_of_ble_eq_true rfl); rintro v9 rfl h9 tk9 F9 N9; ((try dsimp only); (try k_fold); (try k_sweep)))
    k_steps
    (refine' PC.fin (pre := []) ret hr rfl rep rfl Lg.nil Off.nil ?qF G N ?qF2 ?qN2 ?qN; (case qF => assumption); (case qF2 => assumption); (case qN2 => assumption); (case qN => assumption))
  | true =>
    rw [eat_yes hb] at hr
    ((intro dp un gd env outer A₀ base h₀ L m p loose mean mg mb s Q E B F X N T hk hd hu ret exc; refine wpAny_call ?_; k_dflt (refine' code_defE ?k1 ?k2 ?k3 ?k4 ?k5 ?kA ?kF ?kK ?k6 ?k7 ?k8 ?k9 ?kB ?_ ?c2 ?c3 ?c4 ?c5; (case kA => exact rfl); (case kF => exact Stands.frame (by assumption)); (case kK => exact Stands.kind (by assumption)); (case k1 => k_asm); (case k2 => k_asm); (case k3 => k_asm); (case k4 => k_asm); (case k5 => k_asm); (case k6 => k_is); (case k7 => k_is); (case k8 => exact Nat.lt_of_le_of_lt (Nat.le_add_right _ _) hd); (case k9 => exact BindsTo.of_eq rfl); (case c5 => decide); (case kB => exact locs rfl); (case c2 => exact rfl); (case c3 => exact rfl); (case c4 => exact rfl); k_whole; intro g L' h' FG F' N' B' X' T' G; (try dsimp only); (try k_fold))))
    k_steps
    (k_dflt refine' QC.meth (pre := []) ?q1 (mt_is_sign w) ((argsN ?ar ?ak ?al ?am) X' ?q4 (mt_is_sign w).kp) ?q2 ?q0 B' ?q4 X' ?q6 T' hd hu ?q7 rfl ?q8 ?_; (case q4 => k_asm); (case q6 => k_asm); (case q7 => exact rfl); (case q8 => exact rfl); ((try (case ak => exact rfl)); (try (case al => exact rfl)); (try (case am => decide +kernel)); (try (case ar => exact rfl))); (case q2 => exact fun tk => sign_c rep hx hb _); (case q1 => exact rfl); (case q0 => exact Nat.le_of_ble_eq_true rfl); rintro v9 rfl h9 tk9 F9 N9; ((try dsimp only); (try k_fold); (try k_sweep)))
    k_steps
    (k_dflt refine' PC.meth (pre := []) ?q1 (mt_take w) ((args0) X' ?q4 (mt_take w).kp) ?q2 ?qv ?qr hO ?q0 B' ?q4 X' ?q6 T' hd hu Lg.nil rep Off.nil ?q7 rfl ?q8 ?_ ?qe; (case q4 => k_asm); (case q6 => k_asm); (case q7 => exact rfl); (case q8 => exact rfl); ((try (case ak => exact rfl)); (try (case al => exact rfl)); (try (case am => decide +kernel)); (try (case ar => exact rfl))); (case qr => exact hr); (case q2 => exact fun _ => take_pc w f S s₀ rep); (case qv => exact fun _ _ _ _ _ h => h); (case q1 => exact rfl); (case q0 => exact Nat.le_of_ble_eq_true rfl); (case qe => exact PC.leave (σ := s) exc G N (by k_asm) (pre := []) (by k_asm) Lg.nil rfl rfl); clear hr)
    intro a S1 s1 tl1 v h1 tk1 hr hn1 rep1 hv1 aft F1 N1
    ((try dsimp only); (try k_fold); (try k_sweep))
    k_steps
    (refine' PC.fin (pre := []) ret hr hn1 rep1 rfl aft.lg Off.nil ?qF G N ?qF2 ?qN2 ?qN; (case qF => assumption); (case qF2 => assumption); (case qN2 => assumption); (case qN => assumption))
end
section
section
variable {w : World} {M : Model} {A A₁ : Around} {E E' : Value → Shared → Prop} {s : Shared} {base h₀ g h h1 : Heap} {env : Env} {outer : List Env} {L L' e d a : Addr} {m' : Str → Option Value} {core : List (Addr × Obj)} {line : Int} {tk9 : Nat} {name : Str} {scope : Scope} {cd : Value}
theorem Con.raise {k1 k2 : Tok} {v : Value} {lt : Tok} {vs : Array Value} (exc : ∀ e h' tk', Fl w [] line base (env :: outer) s.heap e h' → E (.ref e) { s with heap := h', toks := tk' })
    (B : Below A₁ base (env :: outer) g) (G : Ent s core g) (N₀ : News h₀ L s.heap core) (N1 : News g L' h1 core) (F' : Fr g L' h m') (K : KeepBut [] h1 h) (N' : News g L' h [(d, failDict w k1 k2 v line lt), (e, excO 371 (some d) vs)])
    (n9 : ∀ p ∈ [(d, failDict w k1 k2 v line lt), (e, excO 371 (some d) vs)], p.1 ∈ ([] : List (Addr × Obj)).map (·.1) ∨ h1.get? p.1 = none) (h1v : vs[1]? = some .none) (hk : scope.kind = .function) :
    wpAny M (A₁.deeper (envOf name scope L' a cd)) (leaving (envOf name scope L' a cd) (.ref e)) (fun _ s'' => E (.ref e) s'') E' { s with heap := h, toks := tk9 } := by
  have he := N' _ (List.mem_cons_of_mem _ List.mem_cons_self)
  have hs : s.heap.get? e = none := by
    rcases G.fresh he.2.2 with q | q
    · obtain ⟨p, hp, rfl⟩ := List.mem_map.mp q
      have := (n9 _ (List.mem_cons_of_mem _ List.mem_cons_self)).resolve_left List.not_mem_nil
      rw [(N1 p hp).1] at this; cases this
    · exact q
  exact Con.first exc (B.push F' hk) G F' N₀ (News.app N' (News.kept0 N1 K)) (fun p hp _ => List.mem_append_right _ hp) rfl he.1 rfl rfl rfl h1v List.mem_cons_self he.2.2 hs B
end
theorem Fl.imp {w : World} {D : List Addr} {line : Int} {base : Heap} {l : List Env} {h h' : Heap} {e : Addr} (R : Fl w [] line base l h e h') : Fl w D line base l h e h' := by
  obtain ⟨B, d, a, b, c, k, u⟩ := R
  exact ⟨B, d, a, fun b' o e1 _ e2 => b b' o e1 List.not_mem_nil e2, c, k, fun b o e1 _ => u b o e1 List.not_mem_nil⟩
noncomputable abbrev vF {α : Type} (_ : α) (_ : Value) (_ : List (Addr × Obj)) : Prop := False
set_option maxRecDepth 100000 in
set_option maxHeartbeats 8000000 in
theorem fail_pc {α : Type} (w : World) (f : Fx) (S : RS) (s₀ : St) (rep : Rep f S s₀) (x : Str) (xt : Tok) : PC w f 12 S s₀ id (call (.ref 671) [.ref f.R, .str x xt]) vF (fail s₀ : R α) := by
  ((intro dp un gd env outer A₀ base h₀ L m p loose mean mg mb s Q E B F X N T hk hd hu ret exc; refine wpAny_call ?_; k_dflt (refine' code_defE ?k1 ?k2 ?k3 ?k4 ?k5 ?kA ?kF ?kK ?k6 ?k7 ?k8 ?k9 ?kB ?_ ?c2 ?c3 ?c4 ?c5; (case kA => exact rfl); (case kF => exact Stands.frame (by assumption)); (case kK => exact Stands.kind (by assumption)); (case k1 => k_asm); (case k2 => k_asm); (case k3 => k_asm); (case k4 => k_asm); (case k5 => k_asm); (case k6 => k_is); (case k7 => k_is); (case k8 => exact Nat.lt_of_le_of_lt (Nat.le_add_right _ _) hd); (case k9 => exact BindsTo.of_eq rfl); (case c5 => decide); (case kB => exact locs rfl); (case c2 => exact rfl); (case c3 => exact rfl); (case c4 => exact rfl); k_whole; intro g L' h' FG F' N' B' X' T' G; (try dsimp only); (try k_fold))))
  repeat ((fail_if_success (with_reducible show wpAny _ _ (exec (Stmt.Raise _ _ _) _) _ _ _)); first | walk1 | (dsimp only; walk1))
  refine' Raise_fail rfl ?_
  k_steps
  k_dflt refine' Con.use (mk_fail _ _ _ _ _) ?k1 ?k2 ?k3 ?k4 ?k5 ?k6 ?k7 ?k8 ?hr ?_ ?ex
  ((case k1 => k_asm); (case k2 => k_asm); (case k3 => k_asm); (case k4 => k_asm); (case k5 => k_asm); (case k6 => first | assumption | exact Stands.of); (case k7 => exact room_in hd (Nat.le_of_ble_eq_true rfl)); (case k8 => exact unit_in hu (Nat.le_of_ble_eq_true rfl)))
  ((case hr => exact fun _ q9 => nomatch q9); (case ex => exact fun _ _ _ q9 => q9.elim))
  rintro v9 nw9 ⟨e9, d9, t9, k19, k29, rfl, rfl⟩ h9 tk9 F9 M9 K9 n9
  refine' ⟨e9, _, _, rfl, rfl, Frag.In.keeps X' F9.keep, (M9 _ (List.mem_cons_of_mem _ List.mem_cons_self)).1, ?_⟩
  k_unfold
  refine' Con.raise (s := s) (fun e h' tk' z => exc e h' tk' ⟨s₀.tk.line, rfl, ?z1⟩) B' G N ?z2 F9 K9 M9 n9 rfl rfl
  case z2 => assumption
  case z1 => rw [← rep.tk.line]; exact Fl.imp z
theorem mt_fail (w : World) : Meth w (Str.ofString "fail") 671 := ⟨by k_is, by k_is, by k_is, by k_is, fun _ _ _ _ => rfl⟩
theorem mt_unexpected (w : World) : Meth w (Str.ofString "unexpected") 685 := ⟨by k_is, by k_is, by k_is, by k_is, fun _ _ _ _ => rfl⟩
set_option maxRecDepth 100000 in
set_option maxHeartbeats 8000000 in
theorem unexpected_pc {α : Type} (w : World) (f : Fx) (S : RS) (s₀ : St) (rep : Rep f S s₀) : PC w f 15 S s₀ id (call (.ref 685) [.ref f.R]) vF (fail s₀ : R α) := by
  have hz : S.t.val.length ≤ 100000 := by rw [rep.tk.val]; exact rep.tmost
  have hO : (fail s₀ : R α) ≠ .oos := fun q => nomatch q
  have hr : (fail s₀ : R α).bind (fun a s => .ok a s) = fail s₀ := rfl
  ((intro dp un gd env outer A₀ base h₀ L m p loose mean mg mb s Q E B F X N T hk hd hu ret exc; refine wpAny_call ?_; k_dflt (refine' code_defE ?k1 ?k2 ?k3 ?k4 ?k5 ?kA ?kF ?kK ?k6 ?k7 ?k8 ?k9 ?kB ?_ ?c2 ?c3 ?c4 ?c5; (case kA => exact rfl); (case kF => exact Stands.frame (by assumption)); (case kK => exact Stands.kind (by assumption)); (case k1 => k_asm); (case k2 => k_asm); (case k3 => k_asm); (case k4 => k_asm); (case k5 => k_asm); (case k6 => k_is); (case k7 => k_is); (case k8 => exact Nat.lt_of_le_of_lt (Nat.le_add_right _ _) hd); (case k9 => exact BindsTo.of_eq rfl); (case c5 => decide); (case kB => exact locs rfl); (case c2 => exact rfl); (case c3 => exact rfl); (case c4 => exact rfl); k_whole; intro g L' h' FG F' N' B' X' T' G; (try dsimp only); (try k_fold))))
  k_steps
  refine MethodCall_ ?_
  k_steps
  all_goals (
    (k_dflt refine' PC.use (pre := []) ?q2 ?qv ?qr hO B' ?q4 X' ?q6 T' ⟨rfl, rfl⟩ (room_in hd ?q0) (unit_in hu ?q0) Lg.nil rep Off.nil ?_ ?qe; (case q4 => k_asm); (case q6 => k_asm); (case qr => exact hr); (case q2 => exact fun _ => fail_pc w f S s₀ rep _ _); (case qv => exact fun _ _ _ _ _ h => h); (case q0 => exact Nat.le_of_ble_eq_true rfl); (case qe => exact PC.leave (σ := s) exc G N (by k_asm) (pre := []) (by k_asm) Lg.nil rfl rfl); clear hr)
    exact fun _ _ _ _ _ _ _ _ _ _ hv => hv.elim)
end
section
theorem mt_go_in (w : World) : Meth w (Str.ofString "go_in") 692 := ⟨by k_is, by k_is, by k_is, by k_is, fun _ _ _ _ => rfl⟩
theorem mt_go_out (w : World) : Meth w (Str.ofString "go_out") 699 := ⟨by k_is, by k_is, by k_is, by k_is, fun _ _ _ _ => rfl⟩
theorem mt_need (w : World) : Meth w (Str.ofString "need") 657 := ⟨by k_is, by k_is, by k_is, by k_is, fun _ _ _ _ => rfl⟩
noncomputable abbrev vN {α : Type} (_ : α) (v : Value) (_ : List (Addr × Obj)) : Prop := v = .none
set_option maxRecDepth 100000 in
set_option maxHeartbeats 8000000 in
theorem go_out_pc (w : World) (f : Fx) (S : RS) (s₀ : St) (rep : Rep f S s₀) (hn : 1 ≤ s₀.nest) : PC w f 3 S s₀ Nat.pred (call (.ref 699) [.ref f.R]) vN (R.ok () (goOut s₀)) := by
  obtain ⟨a1, a2, a3, a4, a5, b1, b2, b3, b4, c1, c2, c3, d1, d2⟩ := rep.ap
  ((intro dp un gd env outer A₀ base h₀ L m p loose mean mg mb s Q E B F X N T hk hd hu ret exc; refine wpAny_call ?_; k_dflt (refine' code_defE ?k1 ?k2 ?k3 ?k4 ?k5 ?kA ?kF ?kK ?k6 ?k7 ?k8 ?k9 ?kB ?_ ?c2 ?c3 ?c4 ?c5; (case kA => exact rfl); (case kF => exact Stands.frame (by assumption)); (case kK => exact Stands.kind (by assumption)); (case k1 => k_asm); (case k2 => k_asm); (case k3 => k_asm); (case k4 => k_asm); (case k5 => k_asm); (case k6 => k_is); (case k7 => k_is); (case k8 => exact Nat.lt_of_le_of_lt (Nat.le_add_right _ _) hd); (case k9 => exact BindsTo.of_eq rfl); (case c5 => decide); (case kB => exact locs rfl); (case c2 => exact rfl); (case c3 => exact rfl); (case c4 => exact rfl); k_whole; intro g L' h' FG F' N' B' X' T' G; (try dsimp only); (try k_fold))))
  k_steps
  (refine' PC.fin (pre := []) ret rfl rfl (show Rep f { S with n := S.n - 1, nt := _ } (goOut s₀) from ⟨rep.at_, rep.line, rep.tk, (by rw [rep.nest]; exact (Int.ofNat_sub hn).symm), rep.ap, rep.tok, rep.tmost⟩) rfl ⟨Off.nil, fun _ h => h⟩ Off.nil ?qF G N ?qF2 ?qN2 ?qN; (case qF => assumption); (case qF2 => assumption); (case qN2 => assumption); (case qN => assumption))
noncomputable abbrev vIn (s : St) (_ : Unit) (v : Value) (_ : List (Addr × Obj)) : Prop := v = .none ∧ s.nest < 40
theorem goIn_ok {s : St} (h : s.nest < 40) : goIn s = .ok () { s with nest := s.nest + 1 } := by unfold goIn; rw [if_neg (Nat.not_lt.mpr h)]
theorem goIn_no {s : St} (h : ¬ s.nest < 40) : goIn s = (fail s : R Unit).bind fun a s => .ok a s := by unfold goIn; rw [if_pos (Nat.lt_succ_of_le (Nat.not_lt.mp h))]; rfl
set_option maxRecDepth 100000 in
set_option maxHeartbeats 8000000 in
theorem go_in_pc (w : World) (f : Fx) (S : RS) (s₀ : St) (rep : Rep f S s₀) : PC w f 15 S s₀ Nat.succ (call (.ref 692) [.ref f.R]) (vIn s₀) (goIn s₀) := by
  obtain ⟨a1, a2, a3, a4, a5, b1, b2, b3, b4, c1, c2, c3, d1, d2⟩ := rep.ap
  have hl : S.n = (s₀.nest : Int) := rep.nest
  by_cases hn : s₀.nest < 40
  · rw [goIn_ok hn]
    ((intro dp un gd env outer A₀ base h₀ L m p loose mean mg mb s Q E B F X N T hk hd hu ret exc; refine wpAny_call ?_; k_dflt (refine' code_defE ?k1 ?k2 ?k3 ?k4 ?k5 ?kA ?kF ?kK ?k6 ?k7 ?k8 ?k9 ?kB ?_ ?c2 ?c3 ?c4 ?c5; (case kA => exact rfl); (case kF => exact Stands.frame (by assumption)); (case kK => exact Stands.kind (by assumption)); (case k1 => k_asm); (case k2 => k_asm); (case k3 => k_asm); (case k4 => k_asm); (case k5 => k_asm); (case k6 => k_is); (case k7 => k_is); (case k8 => exact Nat.lt_of_le_of_lt (Nat.le_add_right _ _) hd); (case k9 => exact BindsTo.of_eq rfl); (case c5 => decide); (case kB => exact locs rfl); (case c2 => exact rfl); (case c3 => exact rfl); (case c4 => exact rfl); k_whole; intro g L' h' FG F' N' B' X' T' G; (try dsimp only); (try k_fold))))
    k_steps
    (refine' PC.fin (pre := []) ret rfl rfl (show Rep f { S with n := S.n + 1, nt := _ } { s₀ with nest := s₀.nest + 1 } from ⟨rep.at_, rep.line, rep.tk, (by rw [rep.nest]; rfl), rep.ap, rep.tok, rep.tmost⟩) ⟨rfl, hn⟩ ⟨Off.nil, fun _ h => h⟩ Off.nil ?qF G N ?qF2 ?qN2 ?qN; (case qF => assumption); (case qF2 => assumption); (case qN2 => assumption); (case qN => assumption))
  · generalize hr : goIn s₀ = r
    rw [goIn_no hn] at hr
    have hO : r ≠ .oos := fun q => by rw [q] at hr; cases hr
    have rep' : ∀ nt, Rep f { S with n := S.n + 1, nt := nt } { s₀ with nest := s₀.nest + 1 } := fun nt => ⟨rep.at_, rep.line, rep.tk, (by rw [rep.nest]; rfl), rep.ap, rep.tok, rep.tmost⟩
    replace hr : (fail { s₀ with nest := s₀.nest + 1 } : R Unit).bind (fun a s => .ok a s) = r := hr
    ((intro dp un gd env outer A₀ base h₀ L m p loose mean mg mb s Q E B F X N T hk hd hu ret exc; refine wpAny_call ?_; k_dflt (refine' code_defE ?k1 ?k2 ?k3 ?k4 ?k5 ?kA ?kF ?kK ?k6 ?k7 ?k8 ?k9 ?kB ?_ ?c2 ?c3 ?c4 ?c5; (case kA => exact rfl); (case kF => exact Stands.frame (by assumption)); (case kK => exact Stands.kind (by assumption)); (case k1 => k_asm); (case k2 => k_asm); (case k3 => k_asm); (case k4 => k_asm); (case k5 => k_asm); (case k6 => k_is); (case k7 => k_is); (case k8 => exact Nat.lt_of_le_of_lt (Nat.le_add_right _ _) hd); (case k9 => exact BindsTo.of_eq rfl); (case c5 => decide); (case kB => exact locs rfl); (case c2 => exact rfl); (case c3 => exact rfl); (case c4 => exact rfl); k_whole; intro g L' h' FG F' N' B' X' T' G; (try dsimp only); (try k_fold))))
    k_steps
    (k_dflt refine' PC.meth (pre := []) ?q1 (mt_fail w) ((argsS) X' ?q4 (mt_fail w).kp) ?q2 ?qv ?qr hO ?q0 B' ?q4 X' ?q6 T' hd hu (show Lg w f S [] { S with n := S.n + 1, nt := _ } _ from ⟨Off.nil, fun _ h => h⟩) (rep' _) Off.nil ?q7 rfl ?q8 ?_ ?qe; (case q4 => k_asm); (case q6 => k_asm); (case q7 => exact rfl); (case q8 => exact rfl); ((try (case ak => exact rfl)); (try (case al => exact rfl)); (try (case am => decide +kernel)); (try (case ar => exact rfl))); (case qr => exact hr); (case q2 => exact fun _ _ => fail_pc w f _ _ (rep' _) _ _); (case qv => exact fun _ _ _ _ _ h => h); (case q1 => exact rfl); (case q0 => exact Nat.le_of_ble_eq_true rfl); (case qe => exact PC.leave (σ := s) exc G N (by k_asm) (pre := []) (by k_asm) (show Lg w f S [] { S with n := S.n + 1, nt := _ } _ from ⟨Off.nil, fun _ h => h⟩) rfl rfl); clear hr)
    exact fun _ _ _ _ _ _ _ _ _ _ hv => hv.elim
end
section
set_option maxRecDepth 100000 in
set_option maxHeartbeats 8000000 in
theorem need_pc (w : World) (f : Fx) (S : RS) (s₀ : St) (rep : Rep f S s₀) (c : Nat) (x : Str) (hx : x = ⟨#[c]⟩) (xt : Tok) (hO : need s₀ c ≠ .oos) : PC w f 22 S s₀ id (call (.ref 657) [.ref f.R, .str x xt]) vN (need s₀ c) := by
  generalize hr : need s₀ c = r at hO ⊢
  unfold need at hr
  ((intro dp un gd env outer A₀ base h₀ L m p loose mean mg mb s Q E B F X N T hk hd hu ret exc; refine wpAny_call ?_; k_dflt (refine' code_defE ?k1 ?k2 ?k3 ?k4 ?k5 ?kA ?kF ?kK ?k6 ?k7 ?k8 ?k9 ?kB ?_ ?c2 ?c3 ?c4 ?c5; (case kA => exact rfl); (case kF => exact Stands.frame (by assumption)); (case kK => exact Stands.kind (by assumption)); (case k1 => k_asm); (case k2 => k_asm); (case k3 => k_asm); (case k4 => k_asm); (case k5 => k_asm); (case k6 => k_is); (case k7 => k_is); (case k8 => exact Nat.lt_of_le_of_lt (Nat.le_add_right _ _) hd); (case k9 => exact BindsTo.of_eq rfl); (case c5 => decide); (case kB => exact locs rfl); (case c2 => exact rfl); (case c3 => exact rfl); (case c4 => exact rfl); k_whole; intro g L' h' FG F' N' B' X' T' G; (try dsimp only); (try k_fold))))
  k_steps
  (k_dflt refine' PC.meth (pre := []) ?q1 (mt_eat w) ((argsN ?ar ?ak ?al ?am) X' ?q4 (mt_eat w).kp) ?q2 ?qv ?qr hO ?q0 B' ?q4 X' ?q6 T' hd hu Lg.nil rep Off.nil ?q7 rfl ?q8 ?_ ?qe; (case q4 => k_asm); (case q6 => k_asm); (case q7 => exact rfl); (case q8 => exact rfl); ((try (case ak => exact rfl)); (try (case al => exact rfl)); (try (case am => decide +kernel)); (try (case ar => exact rfl))); (case qr => exact hr); (case q2 => exact fun tk => eat_pc w f S s₀ rep c x hx _); (case qv => exact fun _ _ _ _ _ h => h); (case q1 => exact rfl); (case q0 => exact Nat.le_of_ble_eq_true rfl); (case qe => exact PC.leave (σ := s) exc G N (by k_asm) (pre := []) (by k_asm) Lg.nil rfl rfl); clear hr)
  rintro a S1 s1 tl1 v h1 tk1 hr hn1 rep1 rfl aft F1 N1
  ((try dsimp only); (try k_fold); (try k_sweep))
  cases a
  · replace hr : (fail s1 : R Unit).bind (fun a s => .ok a s) = r := hr
    k_steps
    (k_dflt refine' PC.meth (pre := []) ?q1 (mt_unexpected w) ((args0) X' ?q4 (mt_unexpected w).kp) ?q2 ?qv ?qr hO ?q0 B' ?q4 X' ?q6 T' hd hu aft.lg rep1 Off.nil ?q7 rfl ?q8 ?_ ?qe; (case q4 => k_asm); (case q6 => k_asm); (case q7 => exact rfl); (case q8 => exact rfl); ((try (case ak => exact rfl)); (try (case al => exact rfl)); (try (case am => decide +kernel)); (try (case ar => exact rfl))); (case qr => exact hr); (case q2 => exact fun _ _ => unexpected_pc w f S1 s1 rep1); (case qv => exact fun _ _ _ _ _ h => h); (case q1 => exact rfl); (case q0 => exact Nat.le_of_ble_eq_true rfl); (case qe => exact PC.leave (σ := s) exc G N (by k_asm) (pre := []) (by k_asm) aft.lg rfl rfl); clear hr)
    exact fun _ _ _ _ _ _ _ _ _ _ hv => hv.elim
  · k_steps
    (refine' PC.fin (pre := []) ret hr hn1 rep1 rfl aft.lg Off.nil ?qF G N ?qF2 ?qN2 ?qN; (case qF => assumption); (case qF2 => assumption); (case qN2 => assumption); (case qN => assumption))
noncomputable abbrev tkEs (w : World) (t : TkO) : List DictEntry := [ent w "kind" t.k1 (.str t.kind t.kt), ent w "value" t.k2 (.str t.val t.vt), ent w "line" t.k3 (.int t.line t.lt), ent w "is_behind_line" t.k4 (.bool t.bl), ent w "start" t.k5 (.int t.st t.stt), ent w "end" t.k6 (.int t.en t.ent), ent w "is_octal" t.k7 (.bool false), ent w "is_plain" t.k8 (.bool true)]
structure TokAttr (w : World) (name : Str) (val : TkO → Value) : Prop where
  pg : plainGet (Mine.k0.heap_1 w.params) 336 name = true
  hd : hasDictIn (Mine.k0.heap_1 w.params) 336 = true
  fi : ∃ a, findIn (Mine.k0.heap_1 w.params) (.ref 336) name = some a ∧ noGet (Mine.k0.heap_1 w.params) a = true
  hl : ∀ t, getL name (tkEs w t) = some (some (val t))
  hv : ∀ t, handedIn (val t) = true
theorem ta_value (w : World) : TokAttr w (Str.ofString "value") (fun t => .str t.val t.vt) := ⟨by k_is, by k_is, ⟨_, by k_is, by k_is⟩, fun _ => rfl, fun _ => rfl⟩
theorem ta_line (w : World) : TokAttr w (Str.ofString "line") (fun t => .int t.line t.lt) := ⟨by k_is, by k_is, ⟨_, by k_is, by k_is⟩, fun _ => rfl, fun _ => rfl⟩
noncomputable def AttrIs (env : Env) (value : PySem.Expr) (attr : Str) (pos : Pos) : Prop := eval (.Attribute value attr pos) env = (do
          let o ← eval value env
          standAt (Pos.atName pos)
          let r ← holding [o] (getAttr o attr true)
          letTemporaryGo value o r
          pure r)
section
variable {w : World} {f : Fx} {n₀ : Nat} {S S₀ : RS} {s : St} {β : Type} {g : Tk → St → R β} {r : R β}
  {dp un : Nat} {gd : Option (List Code)} {env : Env} {outer : List Env} {A₀ : Around} {base h₀ : Heap} {L a : Addr} {m : Str → Option Value} {cn : Str} {cs : Scope} {ccd : Value}
  {p : Program} {loose : List Str} {mean : ExcName → Option Value} {mg mb : Str → Option Value} {pre tail e₀ : List (Addr × Obj)} {σ : Shared} {Q E : Value → Shared → Prop}
  {attr : Str} {val : TkO → Value} {p1 p2 p3 p4 : Pos}
theorem PC.takeAttr {pl : Sem Bool} (he : CallIs (envOf cn cs L a ccd) (Str.ofString "take") p1 p2 p3 [] pl) (ha : AttrIs (envOf cn cs L a ccd) (.Call (.Attribute (.Name (Str.ofString "self") p1) (Str.ofString "take") p2) [] [] p3) attr p4) (Ta : TokAttr w attr val)
    (hr : (take s).bind g = r) (hO : r ≠ .oos) (hn : 19 ≤ n₀)
    (B : Below A₀ base (env :: outer) h₀) (F : Fr h₀ L σ.heap m) (X : Frag.In (Mine.k0.heap_1 w.params) h₀) (N : News h₀ L σ.heap (pre ++ rdL w f S tail)) (T : Top p loose mean mg mb h₀) (hd : dp + n₀ < recursionLimit) (hu : un + 20 * n₀ < cLine)
    (lg : Lg w f S₀ e₀ S tail) (rep : Rep f S s) (op : Off f pre) (hs : m (Str.ofString "self") = some (.ref f.R)) (hk : cs.kind = .function) (hl : (envX cn cs L a ccd []).kindOf (Str.ofString "self") = some .local)
    (ret : ∀ S' s' tail' h' tk', g s.tk s' = r → s'.nest = s.nest → Rep f S' s' → Aft w f S₀ e₀ S tail σ.heap S' tail' → Fr h₀ L h' m → News h₀ L h' (pre ++ rdL w f S' tail') → Q (val S.t) { σ with heap := h', toks := tk' })
    (exc : ∀ line, r = .fail line → ∀ e h' tk', Fl w [f.Rd, f.Xd] line base (envOf cn cs L a ccd :: env :: outer) σ.heap e h' → E (.ref e) { σ with heap := h', toks := tk' }) :
    wpAny (model PySem.Challenge.pw_pc0091_01 w) ((aTop dp un gd env outer).deeper (envOf cn cs L a ccd)) (eval (.Attribute (.Call (.Attribute (.Name (Str.ofString "self") p1) (Str.ofString "take") p2) [] [] p3) attr p4) (envOf cn cs L a ccd)) Q E σ := by
  refine Attribute_any_ (PC.meth he (mt_take w) (args0 X F (mt_take w).kp) (fun _ => take_pc w f S s rep) (fun _ _ _ _ _ h => h) hr hO hn B F X N T hd hu lg rep op hs hk hl (fun b S' s' tail' v h' tk' e1 e2 e3 e4 e5 e6 e7 => ?_) exc) ha
  obtain ⟨rfl, rfl⟩ := e4
  obtain ⟨at', fa, fb⟩ := Ta.fi
  exact get_own e6 X (InstAt.of_news (News.sub e7 fun p hp => List.mem_append_right _ (mem_rdL (List.mem_append_right _ (e5.old p hp)))) (.head _) (.tail _ (.head _))) Ta.pg Ta.hd fa fb (Ta.hl S.t) (Ta.hv S.t) (ret S' s' tail' h' _ e1 e2 e3 e5 e6 e7)
end
end
section
noncomputable abbrev nodeD (w : World) (k1 k2 k3 k4 : Tok) (kv lv pv : Value) : Obj := dictOf [ent w "kind" k1 kv, ent w "line" k2 lv, ent w "parts" k3 pv, ent w "scope" k4 .none] 4
noncomputable def KindOk : NK → Str → Array Value → Prop
  | .name, kd, its => kd = Str.ofString "Name" ∧ ∃ v, its = #[v]
  | .member, kd, _ => kd = Str.ofString "Member"
  | .index, kd, _ => kd = Str.ofString "Index"
  | .other, kd, _ => inTg kd = false ∧ (kd == Str.ofString "Name") = false
set_option genSizeOf false
set_option genInjectivity false
structure NodeO where
  (a d p : Nat)
  (k1 k2 k3 k4 kt lt : Tok)
  kd : Str
  l : Int
  its : Array Value
  (n c : Nat)
noncomputable abbrev noLed (w : World) (o : NodeO) : List (Addr × Obj) := [(o.a, instObj 38 o.d), (o.d, nodeD w o.k1 o.k2 o.k3 o.k4 (.str o.kd o.kt) (.int o.l o.lt) (.ref o.p)), (o.p, listOf o.its o.n)]
inductive WL (w : World) (led : List (Addr × Obj)) : Nat → List Value → List Tree → Prop
  | nil : WL w led 0 [] []
  | plain {n : Nat} {x : Str} {t : Tok} {vs : List Value} {ts : List Tree} : WL w led n vs ts → WL w led (n + 1) (.str x t :: vs) ts
  | node (o : NodeO) {n : Nat} {t : Tree} {vs : List Value} {ts : List Tree} : (∀ p ∈ noLed w o, p ∈ led) → KindOk t.kind o.kd o.its → o.c ≤ 300000 → WL w led o.c o.its.toList t.kids → WL w led n vs ts → WL w led (n + 1) (.ref o.a :: vs) (t :: ts)
  | list {p : Nat} {its : Array Value} {n i j : Nat} {vs : List Value} {ts₁ ts₂ : List Tree} : (p, listOf its n) ∈ led → WL w led i its.toList ts₁ → WL w led j vs ts₂ → WL w led (i + j + 1) (.ref p :: vs) (ts₁ ++ ts₂)
theorem WL.mono {w : World} {l l' : List (Addr × Obj)} (h : ∀ p ∈ l, p ∈ l') {n : Nat} {vs : List Value} {ts : List Tree} (x : WL w l n vs ts) : WL w l' n vs ts := by
  induction x with
  | nil => exact .nil
  | plain _ ih => exact .plain ih
  | node o a d b _ _ i1 i2 => exact .node o (fun p hp => h p (a p hp)) d b i1 i2
  | list a _ _ i1 i2 => exact .list (h _ a) i1 i2
noncomputable def TreeV (w : World) (t : Tree) (v : Value) (led : List (Addr × Obj)) : Prop := ∃ o : NodeO, v = .ref o.a ∧ (∀ p ∈ noLed w o, p ∈ led) ∧ KindOk t.kind o.kd o.its ∧ WL w led o.c o.its.toList t.kids ∧ o.c ≤ 300000
theorem TreeV.mono {w : World} {t : Tree} {v : Value} {l l' : List (Addr × Obj)} (h : ∀ p ∈ l, p ∈ l') (x : TreeV w t v l) : TreeV w t v l' := Exists.elim x fun o y => ⟨o, y.1, fun p hp => h p (y.2.1 p hp), y.2.2.1, y.2.2.2.1.mono h, y.2.2.2.2⟩
theorem TreeV.wl {w : World} {t : Tree} {v : Value} {led : List (Addr × Obj)} {n : Nat} {vs : List Value} {ts : List Tree} (x : TreeV w t v led) (y : WL w led n vs ts) : WL w led (n + 1) (v :: vs) (t :: ts) := by
  obtain ⟨o, rfl, e1, e2, e3, e4⟩ := x
  exact .node o e1 e2 e4 e3 y
theorem treeV_mono (w : World) : ∀ (a : Tree) v l l', (∀ p ∈ l, p ∈ l') → TreeV w a v l → TreeV w a v l' := fun _ _ _ _ h x => x.mono h
set_option maxRecDepth 100000 in
set_option maxHeartbeats 8000000 in
theorem mk_node (w : World) (kv lv pv : Value) : Con w 4 (call (.ref 38) [kv, lv, pv]) [] [] (fun v nw => ∃ (a d : Nat) (k1 k2 k3 k4 : Tok), v = .ref a ∧ nw = [(a, instObj 38 d), (d, nodeD w k1 k2 k3 k4 kv lv pv)]) noEr := by
  intro dp un gd env outer A₀ base h₀ L m p loose mean mg mb s Q E B F X N T hk hd hu ret exc
  refine wpAny_call ?_
  (refine' make_KK F X ?m1 ?m2 ?m3 ?_; (case m1 => k_is); (case m2 => k_is); (case m3 => k_is))
  intro x9 dx9 h9 F9 N9 kp9 nx9 nd9 lt9
  k_dflt (refine' code_defE ?k1 ?k2 ?k3 ?k4 ?k5 ?kA ?kF ?kK ?k6 ?k7 ?k8 ?k9 ?kB ?_ ?c2 ?c3 ?c4 ?c5; (case kA => exact rfl); (case kF => exact Stands.frame (by assumption)); (case kK => exact Stands.kind (by assumption)); (case k1 => k_asm); (case k2 => k_asm); (case k3 => k_asm); (case k4 => k_asm); (case k5 => k_asm); (case k6 => k_is); (case k7 => k_is); (case k8 => exact room0 hd rfl); (case k9 => exact BindsTo.of_eq rfl); (case c5 => decide); (case kB => exact locs rfl); (case c2 => exact rfl); (case c3 => exact rfl); (case c4 => exact rfl); k_whole; intro g L' h' FG F' N' B' X' T' G; (try dsimp only); (try k_fold))
  k_steps
  refine' Made.fin2 (s := s) (s₁ := { s with heap := h9 }) ret kp9 G (List.forall_mem_cons.mpr ⟨nx9, List.forall_mem_cons.mpr ⟨nd9, List.forall_mem_nil _⟩⟩) ?z1 ?z2 ?z3 ?z4 ⟨x9, dx9, _, _, _, _, rfl, rfl⟩
  case z1 => assumption
  case z2 => assumption
  case z3 => assumption
  case z4 => assumption
end
section
theorem News.tl {h₀ h : Heap} {L : Addr} {x : Addr × Obj} {l : List (Addr × Obj)} (N : News h₀ L h (x :: l)) : News h₀ L h l := News.sub N fun _ h => .tail _ h
noncomputable def dcount (o : Obj) : Nat := match o.data with | .dict _ n => n + 1 | _ => 0
theorem Off.new {w : World} {f : Fx} {S : RS} {h₀ h : Heap} {L : Addr} {led tail l : List (Addr × Obj)} (N : News h₀ L h led) (hr : ∀ p ∈ rdL w f S tail, p ∈ led) (hl : ∀ p ∈ l, p ∈ led) (hc : (l.all fun p => dcount p.2 != 9 && dcount p.2 != 4) = true) : Off f l := fun p hp => by
  have q := List.all_eq_true.mp hc p hp
  rw [Bool.and_eq_true, bne_iff_ne, bne_iff_ne] at q
  have hg := (N p (hl p hp)).1
  have h1 : dcount (rdDict w f S.t.T S.n S.nt) = 9 := rfl
  have h2 : dcount (lxDict w f S.i S.it S.l S.lt) = 4 := rfl
  have g1 := (N _ (hr _ (.tail _ (.head _)))).1
  have g2 := (N _ (hr _ (.tail _ (.tail _ (.tail _ (.head _)))))).1
  refine ⟨fun e => q.1 ?_, fun e => q.2 ?_⟩
  · rw [e] at hg; rw [← h1]; exact congrArg dcount (Option.some.inj (hg.symm.trans g1))
  · rw [e] at hg; rw [← h2]; exact congrArg dcount (Option.some.inj (hg.symm.trans g2))
section
variable {w : World} {f : Fx} {n₀ : Nat} {dp un : Nat} {gd : Option (List Code)} {env : Env} {outer : List Env} {A₀ : Around} {base h₀ : Heap} {L a : Addr} {m : Str → Option Value} {cn : Str} {cs : Scope} {ccd : Value}
  {p : Program} {loose : List Str} {mean : ExcName → Option Value} {mg mb : Str → Option Value} {led : List (Addr × Obj)} {σ : Shared} {Q E : Value → Shared → Prop} {kv lv pv : Value}
theorem Node.use (B : Below A₀ base (env :: outer) h₀) (F : Fr h₀ L σ.heap m) (X : Frag.In (Mine.k0.heap_1 w.params) h₀) (N : News h₀ L σ.heap led) (T : Top p loose mean mg mb h₀) (hd : dp + n₀ < recursionLimit) (hu : un + 20 * n₀ < cLine) (hn : 5 ≤ n₀) (hk : cs.kind = .function)
    (ret : ∀ a d k1 k2 k3 k4 h' tk', Fr h₀ L h' m → News h₀ L h' ((a, instObj 38 d) :: (d, nodeD w k1 k2 k3 k4 kv lv pv) :: led) → Q (.ref a) { σ with heap := h', toks := tk' }) :
    wpAny (model PySem.Challenge.pw_pc0091_01 w) ((aTop dp un gd env outer).deeper (envOf cn cs L a ccd)) (call (.ref 38) [kv, lv, pv]) Q E σ := by
  refine Con.use (dp := dp + 1) (un := un + 3) (mk_node w kv lv pv) B F X N T ⟨rfl, hk⟩ (room_in hd hn) (unit_in hu hn) (fun _ h => nomatch h) (fun v nw hv h' tk'' F' M' k _ => ?_) fun _ _ _ h => h.elim
  obtain ⟨a, d, k1, k2, k3, k4, rfl, rfl⟩ := hv
  exact ret a d k1 k2 k3 k4 h' tk'' F' (News.app M' (News.kept0 N k))
end
section
variable {w : World} {f : Fx} {S S₀ : RS} {s s₀ : St} {d : Nat → Nat} {r : R Tree} {h₀ h' g : Heap} {L L' : Addr} {m m' : Str → Option Value} {σ : Shared} {Q : Value → Shared → Prop} {pre tail e₀ : List (Addr × Obj)} {tk' : Nat} {t : Tree}
theorem PC.finNode {a dn pn : Nat} {k1 k2 k3 k4 kt lt : Tok} {kd : Str} {l : Int} {its : Array Value} {n : Nat} (ret : ∀ v nw h' tk', PCok w f s₀ d (TreeV w) r v nw → Fr h₀ L h' m → News h₀ L h' nw → KeepBut [f.Rd, f.Xd] σ.heap h' → (∀ p ∈ nw, p.1 ∈ (rdL w f S₀ e₀).map (·.1) ∨ σ.heap.get? p.1 = none) → Q v { σ with heap := h', toks := tk' })
    (hr : R.ok t s = r) (hn : s.nest = d s₀.nest) (rep : Rep f S s) (hk : KindOk t.kind kd its) {cn : Nat} (hw : WL w (pre ++ tail) cn its.toList t.kids) (hb : cn ≤ 300000) (lg : Lg w f S₀ e₀ S tail) (op : Off f pre)
    (F : Fr h₀ L h' m) (G : Ent σ (rdL w f S₀ e₀) g) (N₀ : News h₀ L σ.heap (rdL w f S₀ e₀)) (F' : Fr g L' h' m') (N' : News g L' h' ((a, instObj 38 dn) :: (dn, nodeD w k1 k2 k3 k4 (.str kd kt) (.int l lt) (.ref pn)) :: (pn, listOf its n) :: (pre ++ rdL w f S tail)))
    (N : News h₀ L h' ((a, instObj 38 dn) :: (dn, nodeD w k1 k2 k3 k4 (.str kd kt) (.int l lt) (.ref pn)) :: (pn, listOf its n) :: (pre ++ rdL w f S tail))) : Q (.ref a) { σ with heap := h', toks := tk' } := by
  have ho : Off f [(a, instObj 38 dn), (dn, nodeD w k1 k2 k3 k4 (.str kd kt) (.int l lt) (.ref pn)), (pn, listOf its n)] :=
    Off.new N' (fun p hp => .tail _ (.tail _ (.tail _ (List.mem_append_right _ hp)))) (fun p hp => List.mem_append_left (as := [(a, instObj 38 dn), (dn, nodeD w k1 k2 k3 k4 (.str kd kt) (.int l lt) (.ref pn)), (pn, listOf its n)]) _ hp) rfl
  exact PC.fin (pre := (a, instObj 38 dn) :: (dn, nodeD w k1 k2 k3 k4 (.str kd kt) (.int l lt) (.ref pn)) :: (pn, listOf its n) :: pre) ret hr hn rep
    ⟨⟨a, dn, pn, k1, k2, k3, k4, kt, lt, kd, l, its, n, cn⟩, rfl, fun p hp => List.mem_append_left (as := [(a, instObj 38 dn), (dn, nodeD w k1 k2 k3 k4 (.str kd kt) (.int l lt) (.ref pn)), (pn, listOf its n)]) _ hp, hk, hw.mono (fun p hp => .tail _ (.tail _ (.tail _ hp))), hb⟩
    lg (ho.app op) F G N₀ F' N' N
end
section
variable {w : World} {f : Fx} {n n₀ : Nat} {S : RS} {dp un : Nat} {gd : Option (List Code)} {env : Env} {outer : List Env} {A₀ : Around} {base h₀ : Heap} {L a : Addr} {m : Str → Option Value} {cn : Str} {cs : Scope} {ccd : Value}
  {p : Program} {loose : List Str} {mean : ExcName → Option Value} {mg mb : Str → Option Value} {pre tail led : List (Addr × Obj)} {σ : Shared} {Q E : Value → Shared → Prop} {t : Sem Value} {fn : Addr} {vs : List Value} {R : Value → Prop}
theorem QC.use (C : QC w f n S t R) (hn : n + 1 ≤ n₀) (B : Below A₀ base (env :: outer) h₀) (F : Fr h₀ L σ.heap m) (X : Frag.In (Mine.k0.heap_1 w.params) h₀) (N : News h₀ L σ.heap (pre ++ rdL w f S tail)) (T : Top p loose mean mg mb h₀) (hd : dp + n₀ < recursionLimit) (hu : un + 20 * n₀ < cLine) (hk : cs.kind = .function)
    (ret : ∀ v, R v → ∀ h' tk', Fr h₀ L h' m → News h₀ L h' (pre ++ rdL w f S tail) → Q v { σ with heap := h', toks := tk' }) :
    wpAny (model PySem.Challenge.pw_pc0091_01 w) ((aTop dp un gd env outer).deeper (envOf cn cs L a ccd)) t Q E σ := by
  refine Con.use (dp := dp + 1) (un := un + 3) C B F X N T ⟨rfl, hk⟩ (room_in hd hn) (unit_in hu hn) (fun p hp => List.mem_append_right _ (rdL_mono (a := []) (fun _ h => nomatch h) p hp)) (fun v nw hv h' tk'' F' _ k _ => ?_) fun _ _ _ h => h.elim
  obtain ⟨hv, rfl⟩ := hv
  exact ret v hv h' tk'' F' (News.kept0 N k)
theorem Pure.use (C : PureC w n fn vs R) (hn : n + 1 ≤ n₀) (B : Below A₀ base (env :: outer) h₀) (F : Fr h₀ L σ.heap m) (X : Frag.In (Mine.k0.heap_1 w.params) h₀) (N : News h₀ L σ.heap led) (T : Top p loose mean mg mb h₀) (hd : dp + n₀ < recursionLimit) (hu : un + 20 * n₀ < cLine) (hk : cs.kind = .function)
    (ret : ∀ v, R v → ∀ h' tk', Fr h₀ L h' m → News h₀ L h' led → Q v { σ with heap := h', toks := tk' }) :
    wpAny (model PySem.Challenge.pw_pc0091_01 w) ((aTop dp un gd env outer).deeper (envOf cn cs L a ccd)) (call (.ref fn) vs) Q E σ :=
  PureC.use (dp := dp + 1) (un := un + 3) C B F X N T ⟨rfl, hk⟩ (room_in hd hn) (unit_in hu hn) ret
end
theorem mem_rot {α : Type} {a b c : List α} {p : α} (h : p ∈ b ++ (a ++ c)) : p ∈ a ++ (b ++ c) := by
  simp only [List.mem_append] at h ⊢
  rcases h with h | h | h
  · exact .inr (.inl h)
  · exact .inl h
  · exact .inr (.inr h)
theorem Lg.fold {w : World} {f : Fx} {S₀ S : RS} {e₀ pre tail : List (Addr × Obj)} (lg : Lg w f S₀ e₀ S tail) (op : Off f pre) : Lg w f S₀ e₀ S (pre ++ tail) := ⟨op.app lg.off, fun p hp => mem_rot (List.mem_append_right pre (lg.keep p hp))⟩
theorem News.fold {w : World} {f : Fx} {S : RS} {h₀ h : Heap} {L : Addr} {pre tail : List (Addr × Obj)} (N : News h₀ L h (pre ++ rdL w f S tail)) : News h₀ L h (rdL w f S (pre ++ tail)) := News.rot (a := pre) (b := rdL w f S []) (c := tail) N
theorem Node.fold {w : World} {f : Fx} {S₀ S : RS} {e₀ pre tail : List (Addr × Obj)} {h₀ h : Heap} {L : Addr} {a dn pn : Nat} {k1 k2 k3 k4 kt lt : Tok} {kd : Str} {l : Int} {its : Array Value} {n : Nat} {t : Tree}
    (N : News h₀ L h ((a, instObj 38 dn) :: (dn, nodeD w k1 k2 k3 k4 (.str kd kt) (.int l lt) (.ref pn)) :: (pn, listOf its n) :: (pre ++ rdL w f S tail))) (hk : KindOk t.kind kd its) {cn : Nat} (hw : WL w (pre ++ tail) cn its.toList t.kids) (hb : cn ≤ 300000) (lg : Lg w f S₀ e₀ S tail) (op : Off f pre) :
    ∃ tail', News h₀ L h (rdL w f S tail') ∧ Lg w f S₀ e₀ S tail' ∧ TreeV w t (.ref a) tail' ∧ ∀ p ∈ tail, p ∈ tail' := by
  have ho : Off f [(a, instObj 38 dn), (dn, nodeD w k1 k2 k3 k4 (.str kd kt) (.int l lt) (.ref pn)), (pn, listOf its n)] :=
    Off.new N (fun p hp => .tail _ (.tail _ (.tail _ (List.mem_append_right _ hp)))) (fun p hp => List.mem_append_left (as := [(a, instObj 38 dn), (dn, nodeD w k1 k2 k3 k4 (.str kd kt) (.int l lt) (.ref pn)), (pn, listOf its n)]) _ hp) rfl
  refine ⟨_, News.fold (pre := (a, instObj 38 dn) :: (dn, nodeD w k1 k2 k3 k4 (.str kd kt) (.int l lt) (.ref pn)) :: (pn, listOf its n) :: pre) N, lg.fold (ho.app op), ⟨⟨a, dn, pn, k1, k2, k3, k4, kt, lt, kd, l, its, n, cn⟩, rfl, fun p hp => List.mem_append_left _ (List.mem_append_left (as := [(a, instObj 38 dn), (dn, nodeD w k1 k2 k3 k4 (.str kd kt) (.int l lt) (.ref pn)), (pn, listOf its n)]) _ hp), hk, hw.mono (fun p hp => .tail _ (.tail _ (.tail _ hp))), hb⟩, fun p hp => List.mem_append_right _ hp⟩
theorem mt_need_name (w : World) : Meth w (Str.ofString "need_name") 706 := ⟨by k_is, by k_is, by k_is, by k_is, fun _ _ _ _ => rfl⟩
theorem mt_property_name (w : World) : Meth w (Str.ofString "property_name") 720 := ⟨by k_is, by k_is, by k_is, by k_is, fun _ _ _ _ => rfl⟩
theorem mt_need_target (w : World) : Meth w (Str.ofString "need_target") 782 := ⟨by k_is, by k_is, by k_is, by k_is, fun _ _ _ _ => rfl⟩
set_option maxRecDepth 100000 in
set_option maxHeartbeats 8000000 in
theorem fail_for_q (w : World) (f : Fx) (S : RS) : QC w f 3 S (call (.ref 678) [.ref f.R, .none]) (· = .none) := by
  ((intro dp un gd env outer A₀ base h₀ L m p loose mean mg mb s Q E B F X N T hk hd hu ret exc; refine wpAny_call ?_; k_dflt (refine' code_defE ?k1 ?k2 ?k3 ?k4 ?k5 ?kA ?kF ?kK ?k6 ?k7 ?k8 ?k9 ?kB ?_ ?c2 ?c3 ?c4 ?c5; (case kA => exact rfl); (case kF => exact Stands.frame (by assumption)); (case kK => exact Stands.kind (by assumption)); (case k1 => k_asm); (case k2 => k_asm); (case k3 => k_asm); (case k4 => k_asm); (case k5 => k_asm); (case k6 => k_is); (case k7 => k_is); (case k8 => exact Nat.lt_of_le_of_lt (Nat.le_add_right _ _) hd); (case k9 => exact BindsTo.of_eq rfl); (case c5 => decide); (case kB => exact locs rfl); (case c2 => exact rfl); (case c3 => exact rfl); (case c4 => exact rfl); k_whole; intro g L' h' FG F' N' B' X' T' G; (try dsimp only); (try k_fold))))
  k_steps
  (refine' QC.fin ret ?qv ?qF G N ?qF2 ?qN; (case qv => exact rfl); (case qF => assumption); (case qF2 => assumption); (case qN => assumption))
noncomputable abbrev vVal (S : RS) (s : St) (a : Tk) (v : Value) (_ : List (Addr × Obj)) : Prop := a = s.tk ∧ v = .str S.t.val S.t.vt
set_option maxRecDepth 100000 in
set_option maxHeartbeats 8000000 in
theorem need_name_pc (w : World) (f : Fx) (S : RS) (s₀ : St) (rep : Rep f S s₀) (hk1 : s₀.tk.kind = .nm) (hO : take s₀ ≠ .oos) : PC w f 24 S s₀ id (call (.ref 706) [.ref f.R]) (vVal S s₀) (take s₀) := by
  have hkn : (S.t.kind == Str.ofString "name") = true := by rw [rep.tk.kind, hk1]; exact beq_self_eq_true _
  generalize hr : take s₀ = r at hO ⊢
  ((intro dp un gd env outer A₀ base h₀ L m p loose mean mg mb s Q E B F X N T hk hd hu ret exc; refine wpAny_call ?_; k_dflt (refine' code_defE ?k1 ?k2 ?k3 ?k4 ?k5 ?kA ?kF ?kK ?k6 ?k7 ?k8 ?k9 ?kB ?_ ?c2 ?c3 ?c4 ?c5; (case kA => exact rfl); (case kF => exact Stands.frame (by assumption)); (case kK => exact Stands.kind (by assumption)); (case k1 => k_asm); (case k2 => k_asm); (case k3 => k_asm); (case k4 => k_asm); (case k5 => k_asm); (case k6 => k_is); (case k7 => k_is); (case k8 => exact Nat.lt_of_le_of_lt (Nat.le_add_right _ _) hd); (case k9 => exact BindsTo.of_eq rfl); (case c5 => decide); (case kB => exact locs rfl); (case c2 => exact rfl); (case c3 => exact rfl); (case c4 => exact rfl); k_whole; intro g L' h' FG F' N' B' X' T' G; (try dsimp only); (try k_fold))))
  k_steps
  refine MethodCall_ ?_
  k_steps
  (k_dflt refine' Pure.use (name_fault_spec w _) ?q0 B' ?q4 X' ?q6 T' hd hu rfl ?_; (case q4 => k_asm); (case q6 => k_asm); (case q0 => exact Nat.le_of_ble_eq_true rfl))
  rintro v9 rfl h9 tk9 F9 N9
  ((try dsimp only); (try k_fold); (try k_sweep))
  k_steps
  (k_dflt refine' QC.use (pre := []) (fail_for_q w f S) ?q0 B' ?q4 X' ?q6 T' hd hu rfl ?_; (case q4 => k_asm); (case q6 => k_asm); (case q0 => exact Nat.le_of_ble_eq_true rfl); rintro v9 rfl h9 tk9 F9 N9; ((try dsimp only); (try k_fold); (try k_sweep)))
  k_steps
  replace hr : (take s₀).bind (fun a s => .ok a s) = r := by rw [← hr]; cases take s₀ <;> rfl
  (k_dflt refine' PC.takeAttr (pre := []) ?q1 ?qa (ta_value w) ?qr hO ?q0 B' ?q4 X' ?q6 T' hd hu Lg.nil rep Off.nil ?q7 rfl ?q8 ?_ ?qe; (case q4 => k_asm); (case q6 => k_asm); (case q7 => exact rfl); (case q8 => exact rfl); (case qr => exact hr); (case q1 => exact rfl); (case qa => exact rfl); (case q0 => exact Nat.le_of_ble_eq_true rfl); (case qe => exact PC.leave (σ := s) exc G N (by k_asm) (pre := []) (by k_asm) Lg.nil rfl rfl); clear hr)
  intro S1 s1 tl1 h1 tk1 hr hn1 rep1 aft F1 N1
  ((try dsimp only); (try k_fold); (try k_sweep))
  k_steps
  (refine' PC.fin (pre := []) ret hr hn1 rep1 ⟨rfl, rfl⟩ aft.lg Off.nil ?qF G N ?qF2 ?qN2 ?qN; (case qF => assumption); (case qF2 => assumption); (case qN2 => assumption); (case qN => assumption))
end
section
noncomputable def propName (s : St) : R Tk := match s.tk.kind with
  | .nm | .kw => take s
  | _ => fail s
theorem propName_yes {s : St} (h : s.tk.kind = .nm ∨ s.tk.kind = .kw) : propName s = (take s).bind fun a s => .ok a s := by
  unfold propName
  rcases h with h | h <;> (rw [h]; cases take s <;> rfl)
theorem propName_no {s : St} (h : ¬ (s.tk.kind = .nm ∨ s.tk.kind = .kw)) : propName s = (fail s : R Tk).bind fun a s => .ok a s := by
  unfold propName
  cases q : s.tk.kind with
  | nm => exact absurd (.inl q) h
  | kw => exact absurd (.inr q) h
  | sg => rfl
  | fin => rfl
theorem kind_any (k : Kd) : ([Str.ofString "name", Str.ofString "keyword"].any fun x => x == kdS k) = decide (k = .nm ∨ k = .kw) := by cases k <;> decide +kernel
set_option maxRecDepth 100000 in
set_option maxHeartbeats 8000000 in
theorem property_name_pc (w : World) (f : Fx) (S : RS) (s₀ : St) (rep : Rep f S s₀) (hO : propName s₀ ≠ .oos) : PC w f 24 S s₀ id (call (.ref 720) [.ref f.R]) (vVal S s₀) (propName s₀) := by
  generalize hr : propName s₀ = r at hO ⊢
  have hka := kind_any s₀.tk.kind
  rw [← rep.tk.kind] at hka
  ((intro dp un gd env outer A₀ base h₀ L m p loose mean mg mb s Q E B F X N T hk hd hu ret exc; refine wpAny_call ?_; k_dflt (refine' code_defE ?k1 ?k2 ?k3 ?k4 ?k5 ?kA ?kF ?kK ?k6 ?k7 ?k8 ?k9 ?kB ?_ ?c2 ?c3 ?c4 ?c5; (case kA => exact rfl); (case kF => exact Stands.frame (by assumption)); (case kK => exact Stands.kind (by assumption)); (case k1 => k_asm); (case k2 => k_asm); (case k3 => k_asm); (case k4 => k_asm); (case k5 => k_asm); (case k6 => k_is); (case k7 => k_is); (case k8 => exact Nat.lt_of_le_of_lt (Nat.le_add_right _ _) hd); (case k9 => exact BindsTo.of_eq rfl); (case c5 => decide); (case kB => exact locs rfl); (case c2 => exact rfl); (case c3 => exact rfl); (case c4 => exact rfl); k_whole; intro g L' h' FG F' N' B' X' T' G; (try dsimp only); (try k_fold))))
  k_steps
  all_goals (
    (rename List.any _ _ = _ => q)
    replace q := hka.symm.trans q
    (rename News _ _ _ (_ :: rdL _ _ _ _) => N1)
    have N2 := News.tl N1
    clear N1)
  · rw [propName_yes (of_decide_eq_true q)] at hr
    (k_dflt refine' PC.takeAttr (pre := []) ?q1 ?qa (ta_value w) ?qr hO ?q0 B' ?q4 X' ?q6 T' hd hu Lg.nil rep Off.nil ?q7 rfl ?q8 ?_ ?qe; (case q4 => k_asm); (case q6 => k_asm); (case q7 => exact rfl); (case q8 => exact rfl); (case qr => exact hr); (case q1 => exact rfl); (case qa => exact rfl); (case q0 => exact Nat.le_of_ble_eq_true rfl); (case qe => exact PC.leave (σ := s) exc G N (by k_asm) (pre := []) (by k_asm) Lg.nil rfl rfl); clear hr)
    intro S1 s1 tl1 h1 tk1 hr hn1 rep1 aft F1 N1
    ((try dsimp only); (try k_fold); (try k_sweep))
    k_steps
    (refine' PC.fin (pre := []) ret hr hn1 rep1 ⟨rfl, rfl⟩ aft.lg Off.nil ?qF G N ?qF2 ?qN2 ?qN; (case qF => assumption); (case qF2 => assumption); (case qN2 => assumption); (case qN => assumption))
  · rw [propName_no (of_decide_eq_false q)] at hr
    (k_dflt refine' PC.meth (pre := []) ?q1 (mt_unexpected w) ((args0) X' ?q4 (mt_unexpected w).kp) ?q2 ?qv ?qr hO ?q0 B' ?q4 X' ?q6 T' hd hu Lg.nil rep Off.nil ?q7 rfl ?q8 ?_ ?qe; (case q4 => k_asm); (case q6 => k_asm); (case q7 => exact rfl); (case q8 => exact rfl); ((try (case ak => exact rfl)); (try (case al => exact rfl)); (try (case am => decide +kernel)); (try (case ar => exact rfl))); (case qr => exact hr); (case q2 => exact fun _ _ => unexpected_pc w f S s₀ rep); (case qv => exact fun _ _ _ _ _ h => h); (case q1 => exact rfl); (case q0 => exact Nat.le_of_ble_eq_true rfl); (case qe => exact PC.leave (σ := s) exc G N (by k_asm) (pre := []) (by k_asm) Lg.nil rfl rfl); clear hr)
    exact fun _ _ _ _ _ _ _ _ _ _ hv => hv.elim
end
section
set_option maxRecDepth 100000 in
set_option maxHeartbeats 8000000 in
theorem fail_for_pc {α : Type} (w : World) (f : Fx) (S : RS) (s₀ : St) (rep : Rep f S s₀) (x : Str) (xt : Tok) : PC w f 18 S s₀ id (call (.ref 678) [.ref f.R, .str x xt]) vF (fail s₀ : R α) := by
  have hO : (fail s₀ : R α) ≠ .oos := fun q => nomatch q
  have hr : (fail s₀ : R α).bind (fun a s => .ok a s) = fail s₀ := rfl
  ((intro dp un gd env outer A₀ base h₀ L m p loose mean mg mb s Q E B F X N T hk hd hu ret exc; refine wpAny_call ?_; k_dflt (refine' code_defE ?k1 ?k2 ?k3 ?k4 ?k5 ?kA ?kF ?kK ?k6 ?k7 ?k8 ?k9 ?kB ?_ ?c2 ?c3 ?c4 ?c5; (case kA => exact rfl); (case kF => exact Stands.frame (by assumption)); (case kK => exact Stands.kind (by assumption)); (case k1 => k_asm); (case k2 => k_asm); (case k3 => k_asm); (case k4 => k_asm); (case k5 => k_asm); (case k6 => k_is); (case k7 => k_is); (case k8 => exact Nat.lt_of_le_of_lt (Nat.le_add_right _ _) hd); (case k9 => exact BindsTo.of_eq rfl); (case c5 => decide); (case kB => exact locs rfl); (case c2 => exact rfl); (case c3 => exact rfl); (case c4 => exact rfl); k_whole; intro g L' h' FG F' N' B' X' T' G; (try dsimp only); (try k_fold))))
  k_steps
  (k_dflt refine' PC.meth (pre := []) ?q1 (mt_fail w) ((argsN ?ar ?ak ?al ?am) X' ?q4 (mt_fail w).kp) ?q2 ?qv ?qr hO ?q0 B' ?q4 X' ?q6 T' hd hu Lg.nil rep Off.nil ?q7 rfl ?q8 ?_ ?qe; (case q4 => k_asm); (case q6 => k_asm); (case q7 => exact rfl); (case q8 => exact rfl); ((try (case ak => exact rfl)); (try (case al => exact rfl)); (try (case am => decide +kernel)); (try (case ar => exact rfl))); (case qr => exact hr); (case q2 => exact fun _ _ => fail_pc w f S s₀ rep _ _); (case qv => exact fun _ _ _ _ _ h => h); (case q1 => exact rfl); (case q0 => exact Nat.le_of_ble_eq_true rfl); (case qe => exact PC.leave (σ := s) exc G N (by k_asm) (pre := []) (by k_asm) Lg.nil rfl rfl); clear hr)
  exact fun _ _ _ _ _ _ _ _ _ _ hv => hv.elim
theorem PCx.fin {α : Type} {w : World} {f : Fx} {S : RS} {s s₀ : St} {d : Nat → Nat} {V : α → Value → List (Addr × Obj) → Prop} {r : R α} {h₀ h' g : Heap} {L L' : Addr} {m m' : Str → Option Value} {σ : Shared} {Q : Value → Shared → Prop} {ext : List (Addr × Obj)} {v : Value} {tk' : Nat} {a : α}
    (ret : ∀ v nw h' tk', PCok w f s₀ d V r v nw → Fr h₀ L h' m → News h₀ L h' nw → KeepBut [f.Rd, f.Xd] σ.heap h' → (∀ p ∈ nw, p.1 ∈ (rdL w f S ext).map (·.1) ∨ σ.heap.get? p.1 = none) → Q v { σ with heap := h', toks := tk' })
    (hr : R.ok a s = r) (hn : s.nest = d s₀.nest) (rep : Rep f S s) (hv : V a v []) (F : Fr h₀ L h' m) (G : Ent σ (rdL w f S ext) g) (N₀ : News h₀ L σ.heap (rdL w f S ext)) (F' : Fr g L' h' m') (N' : News g L' h' (rdL w f S ext)) (N : News h₀ L h' (rdL w f S ext)) :
    Q v { σ with heap := h', toks := tk' } :=
  Con.fin ret ⟨a, S, s, [], hr.symm, hn, rep, hv, Off.nil, rfl⟩ F G N₀ F' N' N (rdL_mono fun _ h => nomatch h) fun _ hp _ => hp
theorem PCx.leave {α : Type} {w : World} {f : Fx} {S : RS} {r : R α} {h₀ g : Heap} {L L' : Addr} {m' : Str → Option Value} {σ : Shared} {ext : List (Addr × Obj)} {M : Model} {A : Around} {E E' : Value → Shared → Prop} {base : Heap} {env envc : Env} {outer : List Env} {σ' : Shared} (exc : ∀ e h' tk', RdEr w f r base (env :: outer) σ.heap e h' → E (.ref e) { σ with heap := h', toks := tk' })
    (G : Ent σ (rdL w f S ext) g) (N₀ : News h₀ L σ.heap (rdL w f S ext)) (F' : Fr g L' σ'.heap m') (N' : News g L' σ'.heap (rdL w f S ext)) (hA : A.frames = some (envc :: env :: outer)) (hf : envc.frame = some L')
    (line : Nat) (q : r = .fail line) (e : Addr) (h9 : Heap) (tk9 : Nat) (Z : Fl w [f.Rd, f.Xd] line base (envc :: env :: outer) σ'.heap e h9) :
    wpAny M A (leaving envc (.ref e)) (fun _ s'' => E (.ref e) s'') E' { σ with heap := h9, toks := tk9 } :=
  Con.leave (D := [f.Rd, f.Xd]) Z (fun e h' tk' z => exc e h' tk' ⟨line, q, z⟩) G F' N₀ N' (fun _ hp _ => hp) (fun _ h => h) hA hf
theorem Off.no {w : World} {f : Fx} {S : RS} {h₀ h : Heap} {L : Addr} {o : NodeO} (N : News h₀ L h (rdL w f S (noLed w o))) : Off f (noLed w o) :=
  Off.new (tail := noLed w o) N (fun _ h => h) (fun p h => mem_rdL (List.mem_append_right _ h)) rfl
set_option maxRecDepth 100000 in
set_option maxHeartbeats 8000000 in
theorem need_target_pc (w : World) (f : Fx) (S : RS) (s₀ : St) (rep : Rep f S s₀) (o : NodeO) (t : Tree) (ho : KindOk t.kind o.kd o.its) : PCx w f 24 S (noLed w o) s₀ id (call (.ref 782) [.ref f.R, .ref o.a]) vN (needTarget s₀ t) := by
  obtain ⟨a, d, p, k1, k2, k3, k4, kt, lt, kd, l, its, n, c⟩ := o
  have hO : needTarget s₀ t ≠ .oos := by unfold needTarget; cases t.kind <;> exact fun q => nomatch q
  generalize hr : needTarget s₀ t = r at hO
  unfold needTarget at hr
  generalize t.kind = kk at ho hr
  replace ho : KindOk kk kd its := ho
  have e2 : inTg kd = true → R.ok () s₀ = r := fun h => by
    cases kk
    · exact hr
    · exact hr
    · exact hr
    · rw [ho.1] at h; cases h
  have e3 : inTg kd = false → (fail s₀ : R Unit).bind (fun a s => .ok a s) = r := fun h => by
    cases kk
    · rw [ho.1] at h; exact absurd h (by decide +kernel)
    · rw [show kd = _ from ho] at h; exact absurd h (by decide +kernel)
    · rw [show kd = _ from ho] at h; exact absurd h (by decide +kernel)
    · exact hr
  have e4 : (∃ v, its = #[v] ∧ (kd == Str.ofString "Name") = true) ∨ (kd == Str.ofString "Name") = false := by
    cases kk
    · exact .inl (Exists.elim ho.2 fun v hv => ⟨v, hv, by rw [ho.1]; exact beq_self_eq_true _⟩)
    · rw [show kd = _ from ho]; exact .inr (by decide +kernel)
    · rw [show kd = _ from ho]; exact .inr (by decide +kernel)
    · exact .inr ho.2
  clear hr ho
  rcases e4 with ⟨v, rfl, e1⟩ | e1
  all_goals (
    ((intro dp un gd env outer A₀ base h₀ L m p loose mean mg mb s Q E B F X N T hk hd hu ret exc; refine wpAny_call ?_; k_dflt (refine' code_defE ?k1 ?k2 ?k3 ?k4 ?k5 ?kA ?kF ?kK ?k6 ?k7 ?k8 ?k9 ?kB ?_ ?c2 ?c3 ?c4 ?c5; (case kA => exact rfl); (case kF => exact Stands.frame (by assumption)); (case kK => exact Stands.kind (by assumption)); (case k1 => k_asm); (case k2 => k_asm); (case k3 => k_asm); (case k4 => k_asm); (case k5 => k_asm); (case k6 => k_is); (case k7 => k_is); (case k8 => exact Nat.lt_of_le_of_lt (Nat.le_add_right _ _) hd); (case k9 => exact BindsTo.of_eq rfl); (case c5 => decide); (case kB => exact locs rfl); (case c2 => exact rfl); (case c3 => exact rfl); (case c4 => exact rfl); k_whole; intro g L' h' FG F' N' B' X' T' G; (try dsimp only); (try k_fold))))
    k_steps
    refine MethodCall_ ?_
    k_steps
    (k_dflt refine' Pure.use (target_fault_spec w kd kt _) ?q0 B' ?q4 X' ?q6 T' hd hu rfl ?_; (case q4 => k_asm); (case q6 => k_asm); (case q0 => exact Nat.le_of_ble_eq_true rfl))
    rintro v9 (⟨q, rfl⟩ | ⟨q, t9, rfl⟩) h9 tk9 F9 N9
    · ((try dsimp only); (try k_fold); (try k_sweep))
      k_steps
      (k_dflt refine' QC.use (pre := []) (fail_for_q w f S) ?q0 B' ?q4 X' ?q6 T' hd hu rfl ?_; (case q4 => k_asm); (case q6 => k_asm); (case q0 => exact Nat.le_of_ble_eq_true rfl); rintro v9 rfl h9 tk9 F9 N9; ((try dsimp only); (try k_fold); (try k_sweep)))
      k_steps
      refine' PCx.fin ret (e2 q) rfl rep rfl ?qF G N ?qF2 ?qN2 ?qN
      case qF => assumption
      case qF2 => assumption
      case qN2 => assumption
      case qN => assumption
    · ((try dsimp only); (try k_fold); (try k_sweep))
      k_steps
      have hr := e3 q
      k_dflt refine' PC.use (pre := []) (fun _ => fail_for_pc w f S s₀ rep _ _) (fun _ _ _ _ _ h => h) hr hO B' ?q4 X' ?q6 T' ⟨rfl, rfl⟩ (room_in hd (Nat.le_of_ble_eq_true rfl)) (unit_in hu (Nat.le_of_ble_eq_true rfl)) (Lg.ext ?qo) rep Off.nil (fun _ _ _ _ _ _ _ _ _ _ hv => hv.elim) ?qe
      case q4 => k_asm
      case q6 => k_asm
      case qo => exact Off.no (by k_asm)
      case qe => exact PCx.leave (σ := s) exc G N (by k_asm) (by k_asm) rfl rfl)
end
section
noncomputable def TupHas (w : World) (a : Addr) (x : Str) (b : Bool) : Prop := ∃ d items n sl ys, (Mine.k0.heap_1 w.params).lookup a = some ⟨.type "tuple", d, .seq items n, sl⟩ ∧ StrsAre items.toList ys ∧ (ys.any fun y => y == x) = b
section
variable {prog : Program} {w : World} {A : Around} {E : Value → Shared → Prop} {s : Shared} {h₀ : Heap} {L a : Addr} {m : Str → Option Value} {x : Str} {u : Tok} {b : Bool} {Q : Value → Shared → Prop}
theorem TupHas.tup (T : TupHas w a x b) (F : Fr h₀ L s.heap m) (X : Frag.In (Mine.k0.heap_1 w.params) h₀) : ∃ items ys, IsTup s.heap a items ∧ StrsAre items.toList ys ∧ (ys.any fun y => y == x) = b := by
  obtain ⟨d, items, n, sl, ys, e, hi, hb⟩ := T
  exact ⟨items, ys, ⟨_, F.keep _ _ (X _ _ e), rfl, n, rfl⟩, hi, hb⟩
theorem in_tup (T : TupHas w a x b) (F : Fr h₀ L s.heap m) (X : Frag.In (Mine.k0.heap_1 w.params) h₀) (q : Q (.bool b) s) : wpAny (model prog w) A (compareOp .In (.str x u) (.ref a)) Q E s := by
  obtain ⟨items, ys, h1, h2, h3⟩ := T.tup F X
  exact in_tuple_strs h1 h2 (by rw [h3]; exact q)
theorem notin_tup (T : TupHas w a x b) (F : Fr h₀ L s.heap m) (X : Frag.In (Mine.k0.heap_1 w.params) h₀) (q : Q (.bool (!b)) s) : wpAny (model prog w) A (compareOp .NotIn (.str x u) (.ref a)) Q E s := by
  obtain ⟨items, ys, h1, h2, h3⟩ := T.tup F X
  exact notin_tuple_strs h1 h2 (by rw [h3]; exact q)
end
noncomputable def sgList : List Nat := [40, 41, 91, 93, 46, 44, 43, 45, 63, 58, 61]
theorem sg_mem {c : Nat} (h : sg1 c = true) : c ∈ sgList := by
  simp only [sg1, Bool.or_eq_true, beq_iff_eq] at h
  rcases h with (((((((((rfl | rfl) | rfl) | rfl) | rfl) | rfl) | rfl) | rfl) | rfl) | rfl) | rfl <;> decide
theorem Rep.sgv {f : Fx} {S : RS} {s : St} (rep : Rep f S s) (h : s.tk.kind = .sg) : ∃ c, c ∈ sgList ∧ S.t.val = ⟨#[c]⟩ ∧ ∀ k, isSign s k = (c == k) := by
  obtain ⟨c, hc, h1⟩ := rep.tok h
  refine ⟨c, sg_mem h1, by rw [rep.tk.val, hc], fun k => ?_⟩
  unfold isSign
  rw [h, hc]
  show ((c == k) && true) = _
  rw [Bool.and_true]
theorem kindS {f : Fx} {S : RS} {s : St} (rep : Rep f S s) {k : Kd} (h : s.tk.kind = k) {y : Str} {b : Bool} (hb : (kdS k == y) = b) : (S.t.kind == y) = b := by rw [rep.tk.kind, h]; exact hb
theorem has_assign {w : World} {f : Fx} {S : RS} {s : St} (rep : Rep f S s) (h : s.tk.kind = .sg) : TupHas w 744 S.t.val (isSign s 61) := by
  obtain ⟨c, hc, hv, hk⟩ := rep.sgv h
  refine ⟨_, _, _, _, _, by k_is, by (repeat constructor), ?_⟩
  rw [hk, hv]
  clear hv hk
  revert hc c
  decide +kernel
theorem has_signs {w : World} {f : Fx} {S : RS} {s : St} (rep : Rep f S s) (h : s.tk.kind = .sg) : TupHas w 745 S.t.val (isSign s 45 || isSign s 43) := by
  obtain ⟨c, hc, hv, hk⟩ := rep.sgv h
  refine ⟨_, _, _, _, _, by k_is, by (repeat constructor), ?_⟩
  rw [hk, hk, hv]
  clear hv hk
  revert hc c
  decide +kernel
theorem has_steps {w : World} {f : Fx} {S : RS} {s : St} (rep : Rep f S s) (h : s.tk.kind = .sg) : TupHas w 747 S.t.val false := by
  obtain ⟨c, hc, hv, hk⟩ := rep.sgv h
  refine ⟨_, _, _, _, _, by k_is, by (repeat constructor), ?_⟩
  rw [hv]
  clear hv hk
  revert hc c
  decide +kernel
theorem has_words {w : World} {f : Fx} {S : RS} {s : St} (rep : Rep f S s) (h : isNew s = true) : TupHas w 746 S.t.val false := by
  have hv : S.t.val = ⟨#[110, 101, 119]⟩ := by
    unfold isNew at h
    rw [rep.tk.val, beq_iff_eq.mp (Bool.and_eq_true_iff.mp h).2]
  refine ⟨_, _, _, _, _, by k_is, by (repeat constructor), ?_⟩
  rw [hv]
  decide +kernel
theorem mt_priority (w : World) : Meth w (Str.ofString "priority") 796 := ⟨by k_is, by k_is, by k_is, by k_is, fun _ _ _ _ => rfl⟩
noncomputable def prio (s : St) : Int := if isSign s 43 || isSign s 45 then 9 else 0
theorem isSign_ne {s : St} {k : Kd} (h : s.tk.kind = k) (hk : (k == .sg) = false) (c : Nat) : isSign s c = false := by unfold isSign; rw [h, hk]; rfl
theorem prio_other {s : St} {k : Kd} (h : s.tk.kind = k) (hk : (k == .sg) = false) : prio s = 0 := by unfold prio; rw [isSign_ne h hk, isSign_ne h hk]; rfl
theorem word_no {f : Fx} {S : RS} {s : St} (rep : Rep f S s) (hk : s.tk.kind = .kw → isNew s = true) {x : Str} (hx : (⟨#[110, 101, 119]⟩ == x) = false) : wordIs S.t x = false := by
  unfold wordIs
  rw [rep.tk.kind, kdS_kw']
  cases q : s.tk.kind with
  | kw =>
    have h := hk q
    unfold isNew at h
    rw [rep.tk.val, beq_iff_eq.mp (Bool.and_eq_true_iff.mp h).2]
    exact hx
  | nm => rfl
  | sg => rfl
  | fin => rfl
theorem word_c {w : World} {f : Fx} {S : RS} {x : Str} {b : Bool} (hb : wordIs S.t x = b) (xt : Tok) : QC w f 3 S (call (.ref 643) [.ref f.R, .str x xt]) (· = .bool b) := by
  rw [← hb]; exact is_word_q w f S _ xt
set_option maxRecDepth 100000 in
set_option maxHeartbeats 8000000 in
theorem priority_q (w : World) (f : Fx) (S : RS) (s₀ : St) (rep : Rep f S s₀) (hk : s₀.tk.kind = .kw → isNew s₀ = true) : QC w f 8 S (call (.ref 796) [.ref f.R, .bool true]) (fun v => ∃ t, v = .int (prio s₀) t) := by
  by_cases h : s₀.tk.kind = .sg
  · have h1 : (S.t.kind == Str.ofString "punct") = true := kindS rep h (beq_self_eq_true _)
    obtain ⟨c, hc, hv, hs⟩ := rep.sgv h
    ((intro dp un gd env outer A₀ base h₀ L m p loose mean mg mb s Q E B F X N T hk hd hu ret exc; refine wpAny_call ?_; k_dflt (refine' code_defE ?k1 ?k2 ?k3 ?k4 ?k5 ?kA ?kF ?kK ?k6 ?k7 ?k8 ?k9 ?kB ?_ ?c2 ?c3 ?c4 ?c5; (case kA => exact rfl); (case kF => exact Stands.frame (by assumption)); (case kK => exact Stands.kind (by assumption)); (case k1 => k_asm); (case k2 => k_asm); (case k3 => k_asm); (case k4 => k_asm); (case k5 => k_asm); (case k6 => k_is); (case k7 => k_is); (case k8 => exact Nat.lt_of_le_of_lt (Nat.le_add_right _ _) hd); (case k9 => exact BindsTo.of_eq rfl); (case c5 => decide); (case kB => exact locs rfl); (case c2 => exact rfl); (case c3 => exact rfl); (case c4 => exact rfl); k_whole; intro g L' h' FG F' N' B' X' T' G; (try dsimp only); (try k_fold))))
    k_steps
    (rename PyProof.V.Flat _ _ => hf)
    clear h1
    (refine' QC.fin ret ?qw ?qF G N ?qF2 ?qN; (case qF => assumption); (case qF2 => assumption); (case qN => assumption))
    unfold prio
    rw [hs, hs]
    rw [hv] at hf
    clear hs hv
    simp only [sgList, List.mem_cons, List.not_mem_nil, or_false] at hc
    rcases hc with rfl | rfl | rfl | rfl | rfl | rfl | rfl | rfl | rfl | rfl | rfl <;> exact PyProof.V.Flat.int_inv hf
  · have h1 : (S.t.kind == Str.ofString "punct") = false := by rw [rep.tk.kind, kdS_sg]; exact beq_eq_false_iff_ne.mpr h
    have h2 := word_no rep hk (x := Str.ofString "in") (by decide +kernel)
    have h3 := word_no rep hk (x := Str.ofString "instanceof") (by decide +kernel)
    ((intro dp un gd env outer A₀ base h₀ L m p loose mean mg mb s Q E B F X N T hk hd hu ret exc; refine wpAny_call ?_; k_dflt (refine' code_defE ?k1 ?k2 ?k3 ?k4 ?k5 ?kA ?kF ?kK ?k6 ?k7 ?k8 ?k9 ?kB ?_ ?c2 ?c3 ?c4 ?c5; (case kA => exact rfl); (case kF => exact Stands.frame (by assumption)); (case kK => exact Stands.kind (by assumption)); (case k1 => k_asm); (case k2 => k_asm); (case k3 => k_asm); (case k4 => k_asm); (case k5 => k_asm); (case k6 => k_is); (case k7 => k_is); (case k8 => exact Nat.lt_of_le_of_lt (Nat.le_add_right _ _) hd); (case k9 => exact BindsTo.of_eq rfl); (case c5 => decide); (case kB => exact locs rfl); (case c2 => exact rfl); (case c3 => exact rfl); (case c4 => exact rfl); k_whole; intro g L' h' FG F' N' B' X' T' G; (try dsimp only); (try k_fold))))
    k_steps
    (k_dflt refine' QC.meth (pre := []) ?q1 (mt_is_word w) ((argsS) X' ?q4 (mt_is_word w).kp) ?q2 ?q0 B' ?q4 X' ?q6 T' hd hu ?q7 rfl ?q8 ?_; (case q4 => k_asm); (case q6 => k_asm); (case q7 => exact rfl); (case q8 => exact rfl); ((try (case ak => exact rfl)); (try (case al => exact rfl)); (try (case am => decide +kernel)); (try (case ar => exact rfl))); (case q2 => exact fun tk => word_c h2 _); (case q1 => exact rfl); (case q0 => exact Nat.le_of_ble_eq_true rfl); rintro v9 rfl h9 tk9 F9 N9; ((try dsimp only); (try k_fold); (try k_sweep)))
    k_steps
    (k_dflt refine' QC.meth (pre := []) ?q1 (mt_is_word w) ((argsS) X' ?q4 (mt_is_word w).kp) ?q2 ?q0 B' ?q4 X' ?q6 T' hd hu ?q7 rfl ?q8 ?_; (case q4 => k_asm); (case q6 => k_asm); (case q7 => exact rfl); (case q8 => exact rfl); ((try (case ak => exact rfl)); (try (case al => exact rfl)); (try (case am => decide +kernel)); (try (case ar => exact rfl))); (case q2 => exact fun tk => word_c h3 _); (case q1 => exact rfl); (case q0 => exact Nat.le_of_ble_eq_true rfl); rintro v9 rfl h9 tk9 F9 N9; ((try dsimp only); (try k_fold); (try k_sweep)))
    k_steps
    (refine' QC.fin ret ?qv ?qF G N ?qF2 ?qN; (case qv => exact ⟨_, by rw [prio_other rfl (beq_eq_false_iff_ne.mpr h)]⟩); (case qF => assumption); (case qF2 => assumption); (case qN => assumption))
end
local macro_rules | `(tactic| k_lt $h) => `(tactic| skip)
local macro_rules | `(tactic| walk_at "compareOp In str ref") => `(tactic| (k_here; refine in_tup (by assumption) (by k_asm) (by k_asm) ?_))
local macro_rules | `(tactic| walk_at "compareOp NotIn str ref") => `(tactic| (k_here; refine notin_tup (by assumption) (by k_asm) (by k_asm) ?_))
section
set_option genSizeOf false
set_option genInjectivity false
noncomputable def SpF (w : World) (f : Fx) (c : Nat) (fn : Addr) (vs : List Value) (M : Nat → St → R Tree) (n : Nat) : Prop :=
  ∀ S s, Rep f S s → M n s ≠ .oos → PC w f (rm s c) S s id (call (.ref fn) (.ref f.R :: vs)) (TreeV w) (M n s)
noncomputable def ListV (w : World) (ts : List Tree) (v : Value) (led : List (Addr × Obj)) : Prop := ∃ (p : Nat) (its : Array Value) (n c : Nat), v = .ref p ∧ (p, listOf its n) ∈ led ∧ WL w led c its.toList ts ∧ c ≤ 200000
theorem listV_mono (w : World) : ∀ (a : List Tree) v l l', (∀ p ∈ l, p ∈ l') → ListV w a v l → ListV w a v l' := fun _ _ _ _ h x => Exists.elim x fun p y => Exists.elim y fun its z => Exists.elim z fun n u => Exists.elim u fun c u => ⟨p, its, n, c, u.1, h _ u.2.1, u.2.2.1.mono h, u.2.2.2⟩
noncomputable def arrayM (n : Nat) (s : St) : R Tree := (take s).bind fun _ s => arrLoop n [] s
structure Sp (w : World) (f : Fx) (n : Nat) : Prop where
  ex : SpF w f 26 768 [.bool true] expression n
  asg : SpF w f 25 775 [.bool true] assignment n
  co : SpF w f 33 789 [.bool true] conditional n
  b1 : ∀ t, SpF w f 32 803 [.int 1 t, .bool true] (fun n => binary n 1) n
  b10 : ∀ t, SpF w f 31 803 [.int 10 t, .bool true] (fun n => binary n 10) n
  un : SpF w f 30 810 [] unary n
  ob : SpF w f 29 817 [] operandBehind n
  po : SpF w f 29 824 [] leftHand n
  lh : SpF w f 28 831 [] leftHand n
  me : ∀ S s t v l, Rep f S s → Off f l → TreeV w t v l → members n t s ≠ .oos → PCx w f (rm s 27) S l s id (call (.ref 838) [.ref f.R, v]) (TreeV w) (members n t s)
  cr : SpF w f 27 845 [] creation n
  ar : ∀ S s, Rep f S s → arguments n s ≠ .oos → PC w f (rm s 26) S s id (call (.ref 852) [.ref f.R]) (ListV w) (arguments n s)
  pr : SpF w f 27 859 [] primary n
  aw : SpF w f 26 873 [] arrayM n
theorem mt_assignment (w : World) : Meth w (Str.ofString "assignment") 775 := ⟨by k_is, by k_is, by k_is, by k_is, fun _ _ _ _ => rfl⟩
noncomputable abbrev Ih (w : World) (f : Fx) (n : Nat) : Prop := ∀ k, k ≤ n → Sp w f k
noncomputable def LJ {α : Type} (w : World) (f : Fx) (S₀ : RS) (s₀ : St) (r : R α) (n : Nat) (M : Nat → List Tree → St → R α) (fd : Nat) (P : List (Addr × Obj) → Prop) (m0 : Str → Option Value) (k : Nat) (m : Str → Option Value) (news : List (Addr × Obj)) : Prop :=
  ∃ S s tail its c ts i, m = m0 ∧ news = (fd, listOf its c) :: rdL w f S tail ∧ Rep f S s ∧ s.nest = s₀.nest ∧ Lg w f S₀ [] S tail ∧ P tail ∧ WL w tail i its.toList ts ∧ (∀ q ∈ rdL w f S tail, q.1 ≠ fd) ∧ M k ts s = r ∧ k ≤ n ∧ its.size ≤ i ∧ i + k ≤ 200000
theorem WL.push {w : World} {l : List (Addr × Obj)} {v : Value} {t : Tree} (hv : TreeV w t v l) : ∀ {n : Nat} {vs : List Value} {ts : List Tree}, WL w l n vs ts → WL w l (n + 1) (vs ++ [v]) (ts ++ [t]) := fun x => by
  induction x with
  | nil => exact hv.wl .nil
  | plain _ ih => exact .plain ih
  | node o a d e b _ _ ih => exact .node o a d e b ih
  | list a b _ _ ih => rw [List.append_assoc]; have z := WL.list a b ih; exact z
theorem size_line {a i k : Nat} (h0 : a ≤ i) (h : i + k ≤ 200000) : a ≤ sizeLine := by rw [sizeLine_eq]; exact Nat.le_trans (Nat.le_trans h0 (Nat.le_trans (Nat.le_add_right i k) h)) (Nat.le_of_ble_eq_true rfl)
theorem Off.fd {w : World} {f : Fx} {S : RS} {tail : List (Addr × Obj)} {x : Addr × Obj} (h : ∀ q ∈ rdL w f S tail, q.1 ≠ x.1) : Off f [x] := Off.cons ⟨Ne.symm (h _ (.tail _ (.head _))), Ne.symm (h _ (.tail _ (.tail _ (.tail _ (.head _)))))⟩ Off.nil
theorem News.no {w : World} {o : NodeO} {h₀ h : Heap} {L : Addr} {led : List (Addr × Obj)} (N : News h₀ L h led) (k : ∀ p ∈ noLed w o, p ∈ led) : News h₀ L h ((o.a, instObj 38 o.d) :: (o.d, nodeD w o.k1 o.k2 o.k3 o.k4 (.str o.kd o.kt) (.int o.l o.lt) (.ref o.p)) :: (o.p, listOf o.its o.n) :: led) := News.app (News.sub N k) N
theorem ne_none {α : Type} {x : Option α} {a : α} (h : x = some a) : x ≠ none := fun e => by rw [h] at e; cases e
theorem WL.one {w : World} {l : List (Addr × Obj)} {p : Nat} {its : Array Value} {n : Nat} {ts : List Tree} {i : Nat} (h : (p, listOf its n) ∈ l) (x : WL w l i its.toList ts) : WL w l (i + 1) [.ref p] ts := by
  have := WL.list h x .nil
  rwa [List.append_nil] at this
theorem size_push {its : Array Value} {v : Value} {i : Nat} (h : its.size ≤ i) : (its.push v).size ≤ i + 1 := by rw [Array.size_push]; exact Nat.succ_le_succ h
theorem count_up {i k n : Nat} (h : i + (k + 1) ≤ n) : i + 1 + k ≤ n := by rw [Nat.add_assoc, Nat.add_comm 1]; exact h
theorem le_top {i k : Nat} (h : i + k ≤ 200000) : i ≤ 200000 := Nat.le_trans (Nat.le_add_right i k) h
theorem WL.pusha {w : World} {l l' : List (Addr × Obj)} {its : Array Value} {v : Value} {t : Tree} {ts : List Tree} {i : Nat} (x : WL w l i its.toList ts) (h : ∀ p ∈ l, p ∈ l') (hv : TreeV w t v l') : WL w l' (i + 1) (its.push v).toList (ts ++ [t]) := by rw [Array.toList_push]; exact (x.mono h).push hv
set_option maxRecDepth 100000 in
set_option maxHeartbeats 8000000 in
theorem ex_step (w : World) (f : Fx) (n : Nat) (hn0 : n ≤ 100000) (ih : Ih w f n) : SpF w f 26 768 [.bool true] expression (n + 1) := by
  intro S s₀ rep hO
  generalize hr : expression (n + 1) s₀ = r at hO ⊢
  unfold expression at hr
  ((intro dp un gd env outer A₀ base h₀ L m p loose mean mg mb s Q E B F X N T hk hd hu ret exc; refine wpAny_call ?_; k_dflt (refine' code_defE ?k1 ?k2 ?k3 ?k4 ?k5 ?kA ?kF ?kK ?k6 ?k7 ?k8 ?k9 ?kB ?_ ?c2 ?c3 ?c4 ?c5; (case kA => exact rfl); (case kF => exact Stands.frame (by assumption)); (case kK => exact Stands.kind (by assumption)); (case k1 => k_asm); (case k2 => k_asm); (case k3 => k_asm); (case k4 => k_asm); (case k5 => k_asm); (case k6 => k_is); (case k7 => k_is); (case k8 => exact Nat.lt_of_le_of_lt (Nat.le_add_right _ _) hd); (case k9 => exact BindsTo.of_eq rfl); (case c5 => decide); (case kB => exact locs rfl); (case c2 => exact rfl); (case c3 => exact rfl); (case c4 => exact rfl); k_whole; intro g L' h' FG F' N' B' X' T' G; (try dsimp only); (try k_fold))))
  k_steps
  (k_dflt refine' PC.meth (pre := []) ?q1 (mt_assignment w) ((argsN ?ar ?ak ?al ?am) X' ?q4 (mt_assignment w).kp) ?q2 ?qv ?qr hO ?q0 B' ?q4 X' ?q6 T' hd hu Lg.nil rep Off.nil ?q7 rfl ?q8 ?_ ?qe; (case q4 => k_asm); (case q6 => k_asm); (case q7 => exact rfl); (case q8 => exact rfl); ((try (case ak => exact rfl)); (try (case al => exact rfl)); (try (case am => decide +kernel)); (try (case ar => exact rfl))); (case qr => exact hr); (case q2 => exact fun _ => (ih n (Nat.le_refl _)).asg S s₀ rep); (case qv => exact treeV_mono w); (case q1 => exact rfl); (case q0 => exact rm_same rfl rfl); (case qe => exact PC.leave (σ := s) exc G N (by k_asm) (pre := []) (by k_asm) Lg.nil rfl rfl); clear hr)
  intro t1 S1 s1 tl1 v1 h1 tk1 hr hn1 rep1 hv1 aft1 F1 N1
  ((try dsimp only); (try k_fold); (try k_sweep))
  k_steps
  (k_dflt refine' QC.meth (pre := []) ?q1 (mt_is_sign w) ((argsS) X' ?q4 (mt_is_sign w).kp) ?q2 ?q0 B' ?q4 X' ?q6 T' hd hu ?q7 rfl ?q8 ?_; (case q4 => k_asm); (case q6 => k_asm); (case q7 => exact rfl); (case q8 => exact rfl); ((try (case ak => exact rfl)); (try (case al => exact rfl)); (try (case am => decide +kernel)); (try (case ar => exact rfl))); (case q2 => exact fun tk => sign_c rep1 (c := 44) (by decide +kernel) rfl _); (case q1 => exact rfl); (case q0 => exact rm_leaf rfl); rintro v9 rfl h9 tk9 F9 N9; ((try dsimp only); (try k_fold); (try k_sweep)))
  cases hb : isSign s1 44 with
  | false =>
    rw [hb] at hr
    k_steps
    (refine' PC.fin (pre := []) ret hr hn1 rep1 hv1 aft1.lg Off.nil ?qF G N ?qF2 ?qN2 ?qN; (case qF => assumption); (case qF2 => assumption); (case qN2 => assumption); (case qN => assumption))
  | true =>
    rw [hb] at hr
    replace hr : exprLoop n [t1] s1 = r := hr
    (repeat (first | (k_unfold; (try dsimp only)) | ((fail_if_success (with_reducible show wpAny _ _ (exec (Stmt.While _ _ _ _) _) _ _ _)); walk1) | ((fail_if_success (with_reducible show wpAny _ _ (exec (Stmt.While _ _ _ _) _) _ _ _)); dsimp only; walk1)))
    (rename Fr _ _ _ _ => F0)
    (rename News _ _ _ _ => N0)
    (rename (∀ q : Addr × Obj, q ∈ rdL _ _ _ _ → _) => lD)
    refine While_inv2 (LJ w f S s₀ r n exprLoop _ (TreeV w t1 v1) _) F0 N0 ⟨S1, s1, tl1, _, _, [t1], _, rfl, rfl, rep1, hn1, aft1.lg, hv1, hv1.wl .nil, fun q hq => Nat.ne_of_lt (lD q hq), hr, Nat.le_refl _, Nat.le_refl 1, Nat.add_le_add (show 1 ≤ 100000 by decide) hn0⟩ ?_
    clear F0 N0 lD hr aft1 rep1 hv1 hn1 hb
    rintro k m9 news9 h9 tk9 F9 N9 ⟨S2, s2, tl2, its, c, ts, i, rfl, rfl, rep2, hn2, lg2, hv2, hw2, ap2, hr, hkn, hs1, hsz⟩
    cases k with
    | zero => exact absurd hr.symm hO
    | succ k =>
    unfold exprLoop at hr
    k_steps
    have hf9 := ne_none (N9 _ (.head _)).1
    (k_dflt refine' PC.meth (pre := [_]) ?q1 (mt_eat w) ((argsS) X' ?q4 (mt_eat w).kp) ?q2 ?qv ?qr hO ?q0 B' ?q4 X' ?q6 T' hd hu lg2 rep2 (Off.fd (x := (_, listOf its c)) ap2) ?q7 rfl ?q8 ?_ ?qe; (case q4 => k_asm); (case q6 => k_asm); (case q7 => exact rfl); (case q8 => exact rfl); ((try (case ak => exact rfl)); (try (case al => exact rfl)); (try (case am => decide +kernel)); (try (case ar => exact rfl))); (case qr => exact hr); (case q2 => exact fun _ => eat_pc w f S2 s2 rep2 44 _ (by decide +kernel) _); (case qv => exact vb_mono); (case q1 => exact rfl); (case q0 => exact rm_leaf rfl); (case qe => exact PC.leave (σ := s) exc G N (by k_asm) (pre := [_]) (by k_asm) lg2 rfl rfl); clear hr)
    rintro b S3 s3 tl3 v3 h3 tk3 hr hn3 rep3 rfl aft3 F3 N3
    ((try dsimp only); (try k_fold); (try k_sweep))
    have hv3 := hv2.mono aft3.sub
    have hw3 := hw2.mono aft3.sub
    have ap3 := aft3.apart _ ap2 hf9
    have hf3 := ne_none (N3 _ (.head _)).1
    cases b
    · replace hr : R.ok (Tree.node .other ts) s3 = r := hr
      obtain ⟨o, rfl, o1, o2, o3, o5⟩ := hv3
      have N4 := News.no N3 (fun p hp => .tail _ (mem_rdL (List.mem_append_right _ (o1 p hp))))
      clear N3
      k_steps
      (k_dflt refine' Node.use B' ?q4 X' ?q6 T' hd hu (rm_leaf rfl) rfl ?_; (case q4 => k_asm); (case q6 => k_asm); intro an9 dn9 kn1 kn2 kn3 kn4 h9 tk9 F9 N9; ((try dsimp only); (try k_fold); (try k_sweep)))
      k_steps
      (refine' PC.finNode (pre := [_, _, _, _]) ret hr (hn3.trans hn2) rep3 ?qk ?ql ?qb aft3.lg (Off.app (a := noLed w o) (fun p hp => aft3.lg.off p (o1 p hp)) (Off.fd (x := (_, listOf its c)) ap3)) ?qF G N ?qF2 ?qN2 ?qN; (case qF => assumption); (case qF2 => assumption); (case qN2 => assumption); (case qN => assumption); (case qk => exact ⟨by decide +kernel, by decide +kernel⟩); (case ql => exact (WL.one (.tail _ (.tail _ (.tail _ (.head _)))) (hw3.mono fun p hp => .tail _ (.tail _ (.tail _ (.tail _ hp)))))); (case qb => exact (Nat.le_trans (Nat.succ_le_succ (le_top hsz)) (by decide))))
    · k_steps
      (k_dflt refine' PC.meth (pre := [_]) ?q1 (mt_assignment w) ((argsN ?ar ?ak ?al ?am) X' ?q4 (mt_assignment w).kp) ?q2 ?qv ?qr hO ?q0 B' ?q4 X' ?q6 T' hd hu aft3.lg rep3 (Off.fd (x := (_, listOf its c)) ap3) ?q7 rfl ?q8 ?_ ?qe; (case q4 => k_asm); (case q6 => k_asm); (case q7 => exact rfl); (case q8 => exact rfl); ((try (case ak => exact rfl)); (try (case al => exact rfl)); (try (case am => decide +kernel)); (try (case ar => exact rfl))); (case qr => exact hr); (case q2 => exact fun _ => (ih k (Nat.le_of_succ_le hkn)).asg S3 s3 rep3); (case qv => exact treeV_mono w); (case q1 => exact rfl); (case q0 => exact rm_same (hn3.trans hn2) rfl); (case qe => exact PC.leave (σ := s) exc G N (by k_asm) (pre := [_]) (by k_asm) aft3.lg rfl rfl); clear hr)
      intro t4 S4 s4 tl4 v4 h4 tk4 hr hn4 rep4 hv4 aft4 F4 N4
      have ap4 := aft4.apart _ ap3 hf3
      ((try dsimp only); (try k_fold); (try k_sweep))
      k_steps
      k_dflt refine' append_head ?q1 ?q2 ap4 ?_ (size_line hs1 hsz)
      case q1 => k_asm
      case q2 => k_asm
      intro h5 F5 N5
      ((try dsimp only); (try k_fold); (try k_sweep))
      k_steps
      exact step_next F5 N5 (Nat.lt_succ_self _) ⟨S4, s4, tl4, its.push v4, c + 1, ts ++ [t4], i + 1, rfl, rfl, rep4, hn4.trans (hn3.trans hn2), aft4.lg, hv3.mono aft4.sub, hw3.pusha aft4.sub hv4, ap4, hr, Nat.le_of_succ_le hkn, size_push hs1, count_up hsz⟩
end
section
theorem mt_conditional (w : World) : Meth w (Str.ofString "conditional") 789 := ⟨by k_is, by k_is, by k_is, by k_is, fun _ _ _ _ => rfl⟩
theorem sg_beq {s : St} (h : ¬ s.tk.kind = .sg) : (s.tk.kind == .sg) = false := beq_eq_false_iff_ne.mpr h
theorem kind_sg {f : Fx} {S : RS} {s : St} (rep : Rep f S s) (h : s.tk.kind = .sg) : (S.t.kind == Str.ofString "punct") = true := kindS rep h (beq_self_eq_true _)
theorem kind_no {f : Fx} {S : RS} {s : St} (rep : Rep f S s) (h : ¬ s.tk.kind = .sg) : (S.t.kind == Str.ofString "punct") = false := by rw [rep.tk.kind, kdS_sg]; exact sg_beq h
set_option maxRecDepth 100000 in
set_option maxHeartbeats 8000000 in
theorem asg_step (w : World) (f : Fx) (n : Nat) (ih : Ih w f n) : SpF w f 25 775 [.bool true] assignment (n + 1) := by
  intro S s₀ rep hO
  generalize hr : assignment (n + 1) s₀ = r at hO ⊢
  unfold assignment at hr
  ((intro dp un gd env outer A₀ base h₀ L m p loose mean mg mb s Q E B F X N T hk hd hu ret exc; refine wpAny_call ?_; k_dflt (refine' code_defE ?k1 ?k2 ?k3 ?k4 ?k5 ?kA ?kF ?kK ?k6 ?k7 ?k8 ?k9 ?kB ?_ ?c2 ?c3 ?c4 ?c5; (case kA => exact rfl); (case kF => exact Stands.frame (by assumption)); (case kK => exact Stands.kind (by assumption)); (case k1 => k_asm); (case k2 => k_asm); (case k3 => k_asm); (case k4 => k_asm); (case k5 => k_asm); (case k6 => k_is); (case k7 => k_is); (case k8 => exact Nat.lt_of_le_of_lt (Nat.le_add_right _ _) hd); (case k9 => exact BindsTo.of_eq rfl); (case c5 => decide); (case kB => exact locs rfl); (case c2 => exact rfl); (case c3 => exact rfl); (case c4 => exact rfl); k_whole; intro g L' h' FG F' N' B' X' T' G; (try dsimp only); (try k_fold))))
  k_steps
  (k_dflt refine' PC.meth (pre := []) ?q1 (mt_go_in w) ((args0) X' ?q4 (mt_go_in w).kp) ?q2 ?qv ?qr hO ?q0 B' ?q4 X' ?q6 T' hd hu Lg.nil rep Off.nil ?q7 rfl ?q8 ?_ ?qe; (case q4 => k_asm); (case q6 => k_asm); (case q7 => exact rfl); (case q8 => exact rfl); ((try (case ak => exact rfl)); (try (case al => exact rfl)); (try (case am => decide +kernel)); (try (case ar => exact rfl))); (case qr => exact hr); (case q2 => exact fun _ _ => go_in_pc w f S s₀ rep); (case qv => exact fun _ _ _ _ _ h => h); (case q1 => exact rfl); (case q0 => exact rm_leaf rfl); (case qe => exact PC.leave (σ := s) exc G N (by k_asm) (pre := []) (by k_asm) Lg.nil rfl rfl); clear hr)
  rintro u1 S1 s1 tl1 v1 h1 tk1 hr hn1 rep1 ⟨rfl, h40⟩ aft1 F1 N1
  ((try dsimp only); (try k_fold); (try k_sweep))
  k_steps
  (k_dflt refine' PC.meth (pre := []) ?q1 (mt_conditional w) ((argsN ?ar ?ak ?al ?am) X' ?q4 (mt_conditional w).kp) ?q2 ?qv ?qr hO ?q0 B' ?q4 X' ?q6 T' hd hu aft1.lg rep1 Off.nil ?q7 rfl ?q8 ?_ ?qe; (case q4 => k_asm); (case q6 => k_asm); (case q7 => exact rfl); (case q8 => exact rfl); ((try (case ak => exact rfl)); (try (case al => exact rfl)); (try (case am => decide +kernel)); (try (case ar => exact rfl))); (case qr => exact hr); (case q2 => exact fun _ => (ih n (Nat.le_refl _)).co S1 s1 rep1); (case qv => exact treeV_mono w); (case q1 => exact rfl); (case q0 => exact rm_down hn1 (by rw [hn1]; exact h40) rfl); (case qe => exact PC.leave (σ := s) exc G N (by k_asm) (pre := []) (by k_asm) aft1.lg rfl rfl); clear hr)
  intro t2 S2 s2 tl2 v2 h2 tk2 hr hn2 rep2 hv2 aft2 F2 N2
  have hm2 : s2.nest = s₀.nest + 1 := hn2.trans hn1
  ((try dsimp only); (try k_fold); (try k_sweep))
  by_cases hk2 : s2.tk.kind = .sg
  · have e1 := kind_sg rep2 hk2
    have e2 := has_assign (w := w) rep2 hk2
    cases hb : isSign s2 61
    · rw [hb] at hr e2
      replace hr : (R.ok () (goOut s2)).bind (fun _ s => R.ok t2 s) = r := hr
      k_steps
      (k_dflt refine' PC.meth (pre := []) ?q1 (mt_go_out w) ((args0) X' ?q4 (mt_go_out w).kp) ?q2 ?qv ?qr hO ?q0 B' ?q4 X' ?q6 T' hd hu aft2.lg rep2 Off.nil ?q7 rfl ?q8 ?_ ?qe; (case q4 => k_asm); (case q6 => k_asm); (case q7 => exact rfl); (case q8 => exact rfl); ((try (case ak => exact rfl)); (try (case al => exact rfl)); (try (case am => decide +kernel)); (try (case ar => exact rfl))); (case qr => exact hr); (case q2 => exact fun _ _ => go_out_pc w f S2 s2 rep2 (by rw [hm2]; exact Nat.succ_pos _)); (case qv => exact fun _ _ _ _ _ h => h); (case q1 => exact rfl); (case q0 => exact rm_leaf rfl); (case qe => exact PC.leave (σ := s) exc G N (by k_asm) (pre := []) (by k_asm) aft2.lg rfl rfl); clear hr)
      rintro u3 S3 s3 tl3 v3 h3 tk3 hr hn3 rep3 rfl aft3 F3 N3
      ((try dsimp only); (try k_fold); (try k_sweep))
      k_steps
      (refine' PC.fin (pre := []) ret hr (hn3.trans (congrArg Nat.pred hm2)) rep3 (hv2.mono aft3.sub) aft3.lg Off.nil ?qF G N ?qF2 ?qN2 ?qN; (case qF => assumption); (case qF2 => assumption); (case qN2 => assumption); (case qN => assumption))
    · rw [hb] at hr e2
      replace hr : ((needTarget s2 t2).bind fun _ s => (take s).bind fun _ s => (assignment n s).bind fun u s => .ok (.node .other [t2, u]) (goOut s)) = r := hr
      obtain ⟨o, rfl, o1, o2, o3, o5⟩ := hv2
      k_steps
      (k_dflt refine' PC.methx (pre := []) ?q1 (mt_need_target w) ((argsN ?ar ?ak ?al ?am) X' ?q4 (mt_need_target w).kp) ?q2 ?qx ?qv ?qr hO ?q0 B' ?q4 X' ?q6 T' hd hu aft2.lg rep2 Off.nil ?q7 rfl ?q8 ?_ ?qe; (case q4 => k_asm); (case q6 => k_asm); (case q7 => exact rfl); (case q8 => exact rfl); ((try (case ak => exact rfl)); (try (case al => exact rfl)); (try (case am => decide +kernel)); (try (case ar => exact rfl))); (case qr => exact hr); (case q2 => exact fun _ _ => need_target_pc w f S2 s2 rep2 o t2 o2); (case qx => assumption); (case qv => exact fun _ _ _ _ _ h => h); (case q1 => exact rfl); (case q0 => exact rm_leaf rfl); (case qe => exact PC.leave (σ := s) exc G N (by k_asm) (pre := []) (by k_asm) aft2.lg rfl rfl); clear hr)
      rintro u3 S3 s3 tl3 v3 h3 tk3 hr hn3 rep3 rfl aft3 F3 N3
      ((try dsimp only); (try k_fold); (try k_sweep))
      k_steps
      (k_dflt refine' PC.takeAttr (pre := []) ?q1 ?qa (ta_value w) ?qr hO ?q0 B' ?q4 X' ?q6 T' hd hu aft3.lg rep3 Off.nil ?q7 rfl ?q8 ?_ ?qe; (case q4 => k_asm); (case q6 => k_asm); (case q7 => exact rfl); (case q8 => exact rfl); (case qr => exact hr); (case q1 => exact rfl); (case qa => exact rfl); (case q0 => exact rm_leaf rfl); (case qe => exact PC.leave (σ := s) exc G N (by k_asm) (pre := []) (by k_asm) aft3.lg rfl rfl); clear hr)
      intro S4 s4 tl4 h4 tk4 hr hn4 rep4 aft4 F4 N4
      have o4 : ∀ p ∈ noLed w o, p ∈ tl4 := fun p hp => aft4.sub p (aft3.sub p (o1 p hp))
      replace o3 := o3.mono fun p hp => aft4.sub p (aft3.sub p hp)
      replace N4 := News.no N4 fun p hp => mem_rdL (List.mem_append_right _ (o4 p hp))
      ((try dsimp only); (try k_fold); (try k_sweep))
      k_steps
      (k_dflt refine' PC.meth (pre := [_, _, _]) ?q1 (mt_assignment w) ((argsN ?ar ?ak ?al ?am) X' ?q4 (mt_assignment w).kp) ?q2 ?qv ?qr hO ?q0 B' ?q4 X' ?q6 T' hd hu aft4.lg rep4 (fun p hp => aft4.lg.off p (o4 p hp)) ?q7 rfl ?q8 ?_ ?qe; (case q4 => k_asm); (case q6 => k_asm); (case q7 => exact rfl); (case q8 => exact rfl); ((try (case ak => exact rfl)); (try (case al => exact rfl)); (try (case am => decide +kernel)); (try (case ar => exact rfl))); (case qr => exact hr); (case q2 => exact fun _ => (ih n (Nat.le_refl _)).asg S4 s4 rep4); (case qv => exact treeV_mono w); (case q1 => exact rfl); (case q0 => exact rm_down (hn4.trans (hn3.trans hm2)) (by rw [hn4.trans (hn3.trans hm2)]; exact h40) rfl); (case qe => exact PC.leave (σ := s) exc G N (by k_asm) (pre := [_, _, _]) (by k_asm) aft4.lg rfl rfl); clear hr)
      intro t5 S5 s5 tl5 v5 h5 tk5 hr hn5 rep5 hv5 aft5 F5 N5
      replace hr : (R.ok () (goOut s5)).bind (fun _ s => R.ok (.node .other [t2, t5]) s) = r := hr
      ((try dsimp only); (try k_fold); (try k_sweep))
      k_steps
      (k_dflt refine' Node.use B' ?q4 X' ?q6 T' hd hu (rm_leaf rfl) rfl ?_; (case q4 => k_asm); (case q6 => k_asm); intro an9 dn9 kn1 kn2 kn3 kn4 h9 tk9 F9 N9; ((try dsimp only); (try k_fold); (try k_sweep)))
      obtain ⟨tl6, N6, lg6, tv6, -⟩ := Node.fold (t := .node .other [t2, t5]) (pre := [_, _, _]) N9 ⟨by decide +kernel, by decide +kernel⟩ (.plain (TreeV.wl ⟨o, rfl, fun p hp => List.mem_append_left tl5 hp, o2, o3.mono (fun p hp => List.mem_append_right _ (aft5.sub p hp)), o5⟩ ((hv5.mono fun p hp => List.mem_append_right _ hp).wl .nil))) (Nat.le_of_ble_eq_true rfl) aft5.lg (fun p hp => aft4.lg.off p (o4 p hp))
      clear N9
      k_steps
      (k_dflt refine' PC.meth (pre := []) ?q1 (mt_go_out w) ((args0) X' ?q4 (mt_go_out w).kp) ?q2 ?qv ?qr hO ?q0 B' ?q4 X' ?q6 T' hd hu lg6 rep5 Off.nil ?q7 rfl ?q8 ?_ ?qe; (case q4 => k_asm); (case q6 => k_asm); (case q7 => exact rfl); (case q8 => exact rfl); ((try (case ak => exact rfl)); (try (case al => exact rfl)); (try (case am => decide +kernel)); (try (case ar => exact rfl))); (case qr => exact hr); (case q2 => exact fun _ _ => go_out_pc w f S5 s5 rep5 (by rw [hn5.trans (hn4.trans (hn3.trans hm2))]; exact Nat.succ_pos _)); (case qv => exact fun _ _ _ _ _ h => h); (case q1 => exact rfl); (case q0 => exact rm_leaf rfl); (case qe => exact PC.leave (σ := s) exc G N (by k_asm) (pre := []) (by k_asm) lg6 rfl rfl); clear hr)
      rintro u7 S7 s7 tl7 v7 h7 tk7 hr hn7 rep7 rfl aft7 F7 N7
      ((try dsimp only); (try k_fold); (try k_sweep))
      k_steps
      (refine' PC.fin (pre := []) ret hr (hn7.trans (congrArg Nat.pred (hn5.trans (hn4.trans (hn3.trans hm2))))) rep7 (tv6.mono aft7.sub) aft7.lg Off.nil ?qF G N ?qF2 ?qN2 ?qN; (case qF => assumption); (case qF2 => assumption); (case qN2 => assumption); (case qN => assumption))
  · have e1 := kind_no rep2 hk2
    rw [isSign_ne rfl (sg_beq hk2)] at hr
    replace hr : (R.ok () (goOut s2)).bind (fun _ s => R.ok t2 s) = r := hr
    k_steps
    (k_dflt refine' PC.meth (pre := []) ?q1 (mt_go_out w) ((args0) X' ?q4 (mt_go_out w).kp) ?q2 ?qv ?qr hO ?q0 B' ?q4 X' ?q6 T' hd hu aft2.lg rep2 Off.nil ?q7 rfl ?q8 ?_ ?qe; (case q4 => k_asm); (case q6 => k_asm); (case q7 => exact rfl); (case q8 => exact rfl); ((try (case ak => exact rfl)); (try (case al => exact rfl)); (try (case am => decide +kernel)); (try (case ar => exact rfl))); (case qr => exact hr); (case q2 => exact fun _ _ => go_out_pc w f S2 s2 rep2 (by rw [hm2]; exact Nat.succ_pos _)); (case qv => exact fun _ _ _ _ _ h => h); (case q1 => exact rfl); (case q0 => exact rm_leaf rfl); (case qe => exact PC.leave (σ := s) exc G N (by k_asm) (pre := []) (by k_asm) aft2.lg rfl rfl); clear hr)
    rintro u3 S3 s3 tl3 v3 h3 tk3 hr hn3 rep3 rfl aft3 F3 N3
    ((try dsimp only); (try k_fold); (try k_sweep))
    k_steps
    (refine' PC.fin (pre := []) ret hr (hn3.trans (congrArg Nat.pred hm2)) rep3 (hv2.mono aft3.sub) aft3.lg Off.nil ?qF G N ?qF2 ?qN2 ?qN; (case qF => assumption); (case qF2 => assumption); (case qN2 => assumption); (case qN => assumption))
end
section
theorem mt_binary (w : World) : Meth w (Str.ofString "binary") 803 := ⟨by k_is, by k_is, by k_is, by k_is, fun _ _ _ _ => rfl⟩
theorem argsIN {w : World} {A : Around} {E : Value → Shared → Prop} {σ : Shared} {h₀ : Heap} {L a : Addr} {m : Str → Option Value} {fn R : Addr} {cn : Str} {cs : Scope} {ccd : Value} {x : Str} {p p2 : Pos} {v : Value} {i : Int} {k : Nat} (hv : m x = some v) (hk : cs.kind = .function) (hl : (envX cn cs L a ccd []).kindOf x = some .local) (hd : (x == Str.ofString "__debug__") = false) (X : Frag.In (Mine.k0.heap_1 w.params) h₀) (F : Fr h₀ L σ.heap m) (kp : keepIn (Mine.k0.heap_1 w.params) (.ref fn) = true) :
    ArgsTo w A (envOf cn cs L a ccd) E σ fn R [.Constant (.int i) k p2, .Name x p] (fun tk => [.int i tk, v]) := fun _ _ h =>
  callWith_K X kp (args_cons (wpAny_Constant_int (args_cons (nameX_L (cl := []) (s := { σ with toks := σ.toks + 1 }) F hv (args_nil ⟨X.keeps F.keep, h _ _⟩) hk hl hd))))
set_option maxRecDepth 100000 in
set_option maxHeartbeats 8000000 in
theorem co_step (w : World) (f : Fx) (n : Nat) (ih : Ih w f n) : SpF w f 33 789 [.bool true] conditional (n + 1) := by
  intro S s₀ rep hO
  generalize hr : conditional (n + 1) s₀ = r at hO ⊢
  unfold conditional at hr
  ((intro dp un gd env outer A₀ base h₀ L m p loose mean mg mb s Q E B F X N T hk hd hu ret exc; refine wpAny_call ?_; k_dflt (refine' code_defE ?k1 ?k2 ?k3 ?k4 ?k5 ?kA ?kF ?kK ?k6 ?k7 ?k8 ?k9 ?kB ?_ ?c2 ?c3 ?c4 ?c5; (case kA => exact rfl); (case kF => exact Stands.frame (by assumption)); (case kK => exact Stands.kind (by assumption)); (case k1 => k_asm); (case k2 => k_asm); (case k3 => k_asm); (case k4 => k_asm); (case k5 => k_asm); (case k6 => k_is); (case k7 => k_is); (case k8 => exact Nat.lt_of_le_of_lt (Nat.le_add_right _ _) hd); (case k9 => exact BindsTo.of_eq rfl); (case c5 => decide); (case kB => exact locs rfl); (case c2 => exact rfl); (case c3 => exact rfl); (case c4 => exact rfl); k_whole; intro g L' h' FG F' N' B' X' T' G; (try dsimp only); (try k_fold))))
  k_steps
  (k_dflt refine' PC.meth (pre := []) ?q1 (mt_binary w) (argsIN ?ar ?ak ?al ?am X' ?q4 (mt_binary w).kp) ?q2 ?qv ?qr hO ?q0 B' ?q4 X' ?q6 T' hd hu Lg.nil rep Off.nil ?q7 rfl ?q8 ?_ ?qe; (case q4 => k_asm); (case q6 => k_asm); (case q7 => exact rfl); (case q8 => exact rfl); ((try (case ak => exact rfl)); (try (case al => exact rfl)); (try (case am => decide +kernel)); (try (case ar => exact rfl))); (case qr => exact hr); (case q2 => exact fun tk => (ih n (Nat.le_refl _)).b1 tk S s₀ rep); (case qv => exact treeV_mono w); (case q1 => exact rfl); (case q0 => exact rm_same rfl rfl); (case qe => exact PC.leave (σ := s) exc G N (by k_asm) (pre := []) (by k_asm) Lg.nil rfl rfl); clear hr)
  intro t1 S1 s1 tl1 v1 h1 tk1 hr hn1 rep1 hv1 aft1 F1 N1
  ((try dsimp only); (try k_fold); (try k_sweep))
  k_steps
  (k_dflt refine' PC.meth (pre := []) ?q1 (mt_eat w) ((argsS) X' ?q4 (mt_eat w).kp) ?q2 ?qv ?qr hO ?q0 B' ?q4 X' ?q6 T' hd hu aft1.lg rep1 Off.nil ?q7 rfl ?q8 ?_ ?qe; (case q4 => k_asm); (case q6 => k_asm); (case q7 => exact rfl); (case q8 => exact rfl); ((try (case ak => exact rfl)); (try (case al => exact rfl)); (try (case am => decide +kernel)); (try (case ar => exact rfl))); (case qr => exact hr); (case q2 => exact fun _ => eat_pc w f S1 s1 rep1 63 _ (by decide +kernel) _); (case qv => exact vb_mono); (case q1 => exact rfl); (case q0 => exact rm_leaf rfl); (case qe => exact PC.leave (σ := s) exc G N (by k_asm) (pre := []) (by k_asm) aft1.lg rfl rfl); clear hr)
  rintro b S2 s2 tl2 v2 h2 tk2 hr hn2 rep2 rfl aft2 F2 N2
  ((try dsimp only); (try k_fold); (try k_sweep))
  cases b
  · replace hr : R.ok t1 s2 = r := hr
    k_steps
    (refine' PC.fin (pre := []) ret hr (hn2.trans hn1) rep2 (hv1.mono aft2.sub) aft2.lg Off.nil ?qF G N ?qF2 ?qN2 ?qN; (case qF => assumption); (case qF2 => assumption); (case qN2 => assumption); (case qN => assumption))
  · k_steps
    (k_dflt refine' PC.meth (pre := []) ?q1 (mt_assignment w) ((argsB) X' ?q4 (mt_assignment w).kp) ?q2 ?qv ?qr hO ?q0 B' ?q4 X' ?q6 T' hd hu aft2.lg rep2 Off.nil ?q7 rfl ?q8 ?_ ?qe; (case q4 => k_asm); (case q6 => k_asm); (case q7 => exact rfl); (case q8 => exact rfl); ((try (case ak => exact rfl)); (try (case al => exact rfl)); (try (case am => decide +kernel)); (try (case ar => exact rfl))); (case qr => exact hr); (case q2 => exact fun _ => (ih n (Nat.le_refl _)).asg S2 s2 rep2); (case qv => exact treeV_mono w); (case q1 => exact rfl); (case q0 => exact rm_same (hn2.trans hn1) rfl); (case qe => exact PC.leave (σ := s) exc G N (by k_asm) (pre := []) (by k_asm) aft2.lg rfl rfl); clear hr)
    intro t3 S3 s3 tl3 v3 h3 tk3 hr hn3 rep3 hv3 aft3 F3 N3
    ((try dsimp only); (try k_fold); (try k_sweep))
    k_steps
    (k_dflt refine' PC.meth (pre := []) ?q1 (mt_need w) ((argsS) X' ?q4 (mt_need w).kp) ?q2 ?qv ?qr hO ?q0 B' ?q4 X' ?q6 T' hd hu aft3.lg rep3 Off.nil ?q7 rfl ?q8 ?_ ?qe; (case q4 => k_asm); (case q6 => k_asm); (case q7 => exact rfl); (case q8 => exact rfl); ((try (case ak => exact rfl)); (try (case al => exact rfl)); (try (case am => decide +kernel)); (try (case ar => exact rfl))); (case qr => exact hr); (case q2 => exact fun _ => need_pc w f S3 s3 rep3 58 _ (by decide +kernel) _); (case qv => exact fun _ _ _ _ _ h => h); (case q1 => exact rfl); (case q0 => exact rm_leaf rfl); (case qe => exact PC.leave (σ := s) exc G N (by k_asm) (pre := []) (by k_asm) aft3.lg rfl rfl); clear hr)
    rintro u4 S4 s4 tl4 v4 h4 tk4 hr hn4 rep4 rfl aft4 F4 N4
    obtain ⟨o, rfl, o1, o2, o3, o5⟩ := hv1.mono fun p hp => aft4.sub p (aft3.sub p (aft2.sub p hp))
    replace N4 := News.no N4 fun p hp => mem_rdL (List.mem_append_right _ (o1 p hp))
    ((try dsimp only); (try k_fold); (try k_sweep))
    k_steps
    (k_dflt refine' PC.meth (pre := [_, _, _]) ?q1 (mt_assignment w) ((argsN ?ar ?ak ?al ?am) X' ?q4 (mt_assignment w).kp) ?q2 ?qv ?qr hO ?q0 B' ?q4 X' ?q6 T' hd hu aft4.lg rep4 (fun p hp => aft4.lg.off p (o1 p hp)) ?q7 rfl ?q8 ?_ ?qe; (case q4 => k_asm); (case q6 => k_asm); (case q7 => exact rfl); (case q8 => exact rfl); ((try (case ak => exact rfl)); (try (case al => exact rfl)); (try (case am => decide +kernel)); (try (case ar => exact rfl))); (case qr => exact hr); (case q2 => exact fun _ => (ih n (Nat.le_refl _)).asg S4 s4 rep4); (case qv => exact treeV_mono w); (case q1 => exact rfl); (case q0 => exact rm_same (hn4.trans (hn3.trans (hn2.trans hn1))) rfl); (case qe => exact PC.leave (σ := s) exc G N (by k_asm) (pre := [_, _, _]) (by k_asm) aft4.lg rfl rfl); clear hr)
    intro t5 S5 s5 tl5 v5 h5 tk5 hr hn5 rep5 hv5 aft5 F5 N5
    ((try dsimp only); (try k_fold); (try k_sweep))
    k_steps
    (k_dflt refine' Node.use B' ?q4 X' ?q6 T' hd hu (rm_leaf rfl) rfl ?_; (case q4 => k_asm); (case q6 => k_asm); intro an9 dn9 kn1 kn2 kn3 kn4 h9 tk9 F9 N9; ((try dsimp only); (try k_fold); (try k_sweep)))
    k_steps
    (refine' PC.finNode (pre := [_, _, _]) ret hr (hn5.trans (hn4.trans (hn3.trans (hn2.trans hn1)))) rep5 ?qk ?ql ?qb aft5.lg (fun p hp => aft4.lg.off p (o1 p hp)) ?qF G N ?qF2 ?qN2 ?qN; (case qF => assumption); (case qF2 => assumption); (case qN2 => assumption); (case qN => assumption); (case qk => exact ⟨by decide +kernel, by decide +kernel⟩); (case ql => exact TreeV.wl ⟨o, rfl, fun p hp => List.mem_append_left tl5 hp, o2, o3.mono (fun p hp => List.mem_append_right _ (aft5.sub p hp)), o5⟩ (((hv3.mono fun p hp => List.mem_append_right _ (aft5.sub p (aft4.sub p hp)))).wl ((hv5.mono fun p hp => List.mem_append_right _ hp).wl .nil))); (case qb => exact (Nat.le_of_ble_eq_true rfl)))
end
section
theorem mt_unary (w : World) : Meth w (Str.ofString "unary") 810 := ⟨by k_is, by k_is, by k_is, by k_is, fun _ _ _ _ => rfl⟩
theorem leb {a b c : Nat} (hc : Nat.ble b c = true) (h : Nat.ble a b = true) : Nat.ble a c = true := Nat.ble_eq_true_of_le (Nat.le_trans (Nat.le_of_ble_eq_true h) (Nat.le_of_ble_eq_true hc))
theorem ges {prog : Program} {w : World} {A : Around} {E : Value → Shared → Prop} {s : Shared} {a b : Int} {t u : Tok} {Q : Value → Shared → Prop} {c : Bool} (h : decide (b ≤ a) = c) (q : Q (.bool c) s) : wpAny (model prog w) A (compareOp .GtE (.int a t) (.int b u)) Q E s := PyProof.Rows.ge_int (by rw [h]; exact q)
theorem mvl {xs : List Str} {x : Str} {v : Option Value} {R m0 : Str → Option Value} (h : ∀ y, xs.contains y = false → R y = m0 y) : (fun y => if y = x then v else R y) = fun y => if y = x then v else mvf xs R m0 y := by rw [← mvf_of h]
noncomputable def BJ (w : World) (f : Fx) (S₀ : RS) (s₀ : St) (r : R Tree) (n least : Nat) (m0 : Str → Option Value) (k : Nat) (m : Str → Option Value) (news : List (Addr × Obj)) : Prop :=
  ∃ S s tail v t c, m = (fun y => if y = Str.ofString "left" then some v else mvf [Str.ofString "left", Str.ofString "strength", Str.ofString "op", Str.ofString "right"] c m0 y) ∧ news = rdL w f S tail ∧ Rep f S s ∧ s.nest = s₀.nest ∧ Lg w f S₀ [] S tail ∧ TreeV w t v tail ∧ binLoop k least t s = r ∧ k ≤ n
theorem bin_kw {n least : Nat} {t : Tree} {s : St} {r : R Tree} (hr : binLoop (n + 1) least t s = r) (hO : r ≠ .oos) (h : s.tk.kind = .kw) : isNew s = true := by
  unfold binLoop at hr
  cases q : isNew s with
  | true => rfl
  | false => rw [h, q] at hr; exact absurd hr.symm hO
theorem bin_go {n least : Nat} {t : Tree} {s : St} {r : R Tree} (hr : binLoop (n + 1) least t s = r) (hk : s.tk.kind = .kw → isNew s = true) (hO : r ≠ .oos) (hl : least = 1 ∨ least = 10) :
    (prio s = 9 ∧ least = 1 ∧ ((take s).bind fun _ s => (binary n 10 s).bind fun t' s => binLoop n least (.node .other [t, t']) s) = r) ∨ (decide ((least : Int) ≤ prio s) = false ∧ R.ok t s = r) := by
  unfold binLoop at hr
  rw [if_neg (by
    cases q : s.tk.kind with
    | kw => rw [hk q]; decide
    | nm => intro h; cases h
    | sg => intro h; cases h
    | fin => intro h; cases h)] at hr
  unfold prio
  cases hs : (isSign s 43 || isSign s 45) with
  | true =>
    rw [hs] at hr
    rcases hl with rfl | rfl
    · exact .inl ⟨rfl, rfl, hr⟩
    · exact .inr ⟨rfl, hr⟩
  | false =>
    rw [hs] at hr
    rcases hl with rfl | rfl
    · exact .inr ⟨rfl, hr⟩
    · exact .inr ⟨rfl, hr⟩
local macro_rules | `(tactic| walk_at "compareOp GtE int int") => `(tactic| refine ges (by assumption) ?_)
set_option maxRecDepth 100000 in
set_option maxHeartbeats 8000000 in
theorem bi_step (w : World) (f : Fx) (n least c : Nat) (hl : least = 1 ∨ least = 10) (hc : Nat.ble 31 c = true) (hc1 : least = 1 → Nat.ble 32 c = true) (ih : Ih w f n) (t : Tok) : SpF w f c 803 [.int least t, .bool true] (fun n => binary n least) (n + 1) := by
  intro S s₀ rep hO
  dsimp only at hO ⊢
  generalize hr : binary (n + 1) least s₀ = r at hO ⊢
  unfold binary at hr
  ((intro dp un gd env outer A₀ base h₀ L m p loose mean mg mb s Q E B F X N T hk hd hu ret exc; refine wpAny_call ?_; k_dflt (refine' code_defE ?k1 ?k2 ?k3 ?k4 ?k5 ?kA ?kF ?kK ?k6 ?k7 ?k8 ?k9 ?kB ?_ ?c2 ?c3 ?c4 ?c5; (case kA => exact rfl); (case kF => exact Stands.frame (by assumption)); (case kK => exact Stands.kind (by assumption)); (case k1 => k_asm); (case k2 => k_asm); (case k3 => k_asm); (case k4 => k_asm); (case k5 => k_asm); (case k6 => k_is); (case k7 => k_is); (case k8 => exact Nat.lt_of_le_of_lt (Nat.le_add_right _ _) hd); (case k9 => exact BindsTo.of_eq rfl); (case c5 => decide); (case kB => exact locs rfl); (case c2 => exact rfl); (case c3 => exact rfl); (case c4 => exact rfl); k_whole; intro g L' h' FG F' N' B' X' T' G; (try dsimp only); (try k_fold))))
  k_steps
  (k_dflt refine' PC.meth (pre := []) ?q1 (mt_unary w) ((args0) X' ?q4 (mt_unary w).kp) ?q2 ?qv ?qr hO ?q0 B' ?q4 X' ?q6 T' hd hu Lg.nil rep Off.nil ?q7 rfl ?q8 ?_ ?qe; (case q4 => k_asm); (case q6 => k_asm); (case q7 => exact rfl); (case q8 => exact rfl); ((try (case ak => exact rfl)); (try (case al => exact rfl)); (try (case am => decide +kernel)); (try (case ar => exact rfl))); (case qr => exact hr); (case q2 => exact fun _ => (ih n (Nat.le_refl _)).un S s₀ rep); (case qv => exact treeV_mono w); (case q1 => exact rfl); (case q0 => exact rm_same rfl hc); (case qe => exact PC.leave (σ := s) exc G N (by k_asm) (pre := []) (by k_asm) Lg.nil rfl rfl); clear hr)
  intro t1 S1 s1 tl1 v1 h1 tk1 hr hn1 rep1 hv1 aft1 F1 N1
  ((try dsimp only); (try k_fold); (try k_sweep))
  (repeat (first | (k_unfold; (try dsimp only)) | ((fail_if_success (with_reducible show wpAny _ _ (exec (Stmt.While _ _ _ _) _) _ _ _)); walk1) | ((fail_if_success (with_reducible show wpAny _ _ (exec (Stmt.While _ _ _ _) _) _ _ _)); dsimp only; walk1)))
  (rename Fr _ _ _ _ => F0)
  (rename News _ _ _ _ => N0)
  refine While_inv2 (BJ w f S s₀ r n least _) F0 N0 ⟨S1, s1, tl1, v1, t1, _, (mvl (fun _ _ => rfl)).trans rfl, rfl, rep1, hn1, aft1.lg, hv1, hr, Nat.le_refl _⟩ ?_
  clear F0 N0 hr aft1 rep1 hv1 hn1
  rintro k m9 news9 h9 tk9 F9 N9 ⟨S2, s2, tl2, v2, t2, cc, rfl, rfl, rep2, hn2, lg2, hv2, hr, hkn⟩
  cases k with
  | zero => exact absurd hr.symm hO
  | succ k =>
  have hkw := bin_kw hr hO
  k_steps
  (k_dflt refine' QC.meth (pre := []) ?q1 (mt_priority w) ((argsN ?ar ?ak ?al ?am) X' ?q4 (mt_priority w).kp) ?q2 ?q0 B' ?q4 X' ?q6 T' hd hu ?q7 rfl ?q8 ?_; (case q4 => k_asm); (case q6 => k_asm); (case q7 => exact rfl); (case q8 => exact rfl); ((try (case ak => exact rfl)); (try (case al => exact rfl)); (try (case am => decide +kernel)); (try (case ar => exact rfl))); (case q2 => exact fun tk => priority_q w f S2 s2 rep2 hkw); (case q1 => exact rfl); (case q0 => exact rm_leaf (leb hc rfl)))
  rintro v3 ⟨t3, rfl⟩ h3 tk3 F3 N3
  rcases bin_go hr hkw hO hl with ⟨hp, rfl, hr⟩ | ⟨hd1, hr⟩
  · have hd1 : decide (((1 : Nat) : Int) ≤ (9 : Int)) = true := rfl
    have hp1 := priority_q w f S2 s2 rep2 hkw
    rw [hp] at hp1 ⊢
    ((try dsimp only); (try k_fold); (try k_sweep))
    k_steps
    (k_dflt refine' QC.meth (pre := []) ?q1 (mt_priority w) ((argsN ?ar ?ak ?al ?am) X' ?q4 (mt_priority w).kp) ?q2 ?q0 B' ?q4 X' ?q6 T' hd hu ?q7 rfl ?q8 ?_; (case q4 => k_asm); (case q6 => k_asm); (case q7 => exact rfl); (case q8 => exact rfl); ((try (case ak => exact rfl)); (try (case al => exact rfl)); (try (case am => decide +kernel)); (try (case ar => exact rfl))); (case q2 => exact fun tk => hp1); (case q1 => exact rfl); (case q0 => exact rm_leaf (leb hc rfl)))
    rintro v4 ⟨t4, rfl⟩ h4 tk4 F4 N4
    ((try dsimp only); (try k_fold); (try k_sweep))
    k_steps
    (k_dflt refine' PC.takeAttr (pre := []) ?q1 ?qa (ta_value w) ?qr hO ?q0 B' ?q4 X' ?q6 T' hd hu lg2 rep2 Off.nil ?q7 rfl ?q8 ?_ ?qe; (case q4 => k_asm); (case q6 => k_asm); (case q7 => exact rfl); (case q8 => exact rfl); (case qr => exact hr); (case q1 => exact rfl); (case qa => exact rfl); (case q0 => exact rm_leaf (leb hc rfl)); (case qe => exact PC.leave (σ := s) exc G N (by k_asm) (pre := []) (by k_asm) lg2 rfl rfl); clear hr)
    intro S5 s5 tl5 h5 tk5 hr hn5 rep5 aft5 F5 N5
    ((try dsimp only); (try k_fold); (try k_sweep))
    k_steps
    refine MethodCall_ ?_
    k_steps
    (k_dflt refine' PC.use (pre := []) ?q2 ?qv ?qr hO B' ?q4 X' ?q6 T' ⟨rfl, rfl⟩ (room_in hd ?q0) (unit_in hu ?q0) aft5.lg rep5 Off.nil ?_ ?qe; (case q4 => k_asm); (case q6 => k_asm); (case qr => exact hr); (case q2 => exact (ih k (Nat.le_of_succ_le hkn)).b10 _ S5 s5 rep5); (case qv => exact treeV_mono w); (case q0 => exact rm_same (hn5.trans hn2) (leb (hc1 rfl) rfl)); (case qe => exact PC.leave (σ := s) exc G N (by k_asm) (pre := []) (by k_asm) aft5.lg rfl rfl); clear hr)
    intro t6 S6 s6 tl6 v6 h6 tk6 hr hn6 rep6 hv6 aft6 F6 N6
    obtain ⟨o, rfl, o1, o2, o3, o5⟩ := hv2.mono fun p hp => aft6.sub p (aft5.sub p hp)
    replace N6 := News.no N6 fun p hp => mem_rdL (List.mem_append_right _ (o1 p hp))
    ((try dsimp only); (try k_fold); (try k_sweep))
    k_steps
    (k_dflt refine' Node.use B' ?q4 X' ?q6 T' hd hu (rm_leaf (leb hc rfl)) rfl ?_; (case q4 => k_asm); (case q6 => k_asm); intro an9 dn9 kn1 kn2 kn3 kn4 h9 tk9 F9 N9; ((try dsimp only); (try k_fold); (try k_sweep)))
    obtain ⟨tl7, N7, lg7, tv7, -⟩ := Node.fold (t := .node .other [t2, t6]) (pre := [_, _, _]) N9 ⟨by decide +kernel, by decide +kernel⟩ (.plain (TreeV.wl ⟨o, rfl, fun p hp => List.mem_append_left tl6 hp, o2, o3.mono (fun p hp => List.mem_append_right _ hp), o5⟩ ((hv6.mono fun p hp => List.mem_append_right _ hp).wl .nil))) (Nat.le_of_ble_eq_true rfl) aft6.lg (fun p hp => aft6.lg.off p (o1 p hp))
    clear N9
    k_steps
    (rename Fr _ _ _ _ => F0)
    (rename News _ _ _ _ => N0)
    exact step_next F0 N0 (Nat.lt_succ_self _) ⟨S6, s6, tl7, _, _, _, mvl (by (intro y9 hy9; (repeat (refine Eq.trans (if_neg (fun e9 => by (subst e9; simp only [List.contains_cons, beq_self_eq_true, Bool.true_or, Bool.or_true, reduceCtorEq] at hy9))) ?_)); exact mvf_off hy9)), rfl, rep6, hn6.trans (hn5.trans hn2), lg7, tv7, hr, Nat.le_of_succ_le hkn⟩
  · ((try dsimp only); (try k_fold); (try k_sweep))
    k_steps
    (refine' PC.fin (pre := []) ret hr hn2 rep2 hv2 lg2 Off.nil ?qF G N ?qF2 ?qN2 ?qN; (case qF => assumption); (case qF2 => assumption); (case qN2 => assumption); (case qN => assumption))
end
section
theorem mt_operand_behind (w : World) : Meth w (Str.ofString "operand_behind") 817 := ⟨by k_is, by k_is, by k_is, by k_is, fun _ _ _ _ => rfl⟩
theorem mt_postfix (w : World) : Meth w (Str.ofString "postfix") 824 := ⟨by k_is, by k_is, by k_is, by k_is, fun _ _ _ _ => rfl⟩
theorem mt_left_hand (w : World) : Meth w (Str.ofString "left_hand") 831 := ⟨by k_is, by k_is, by k_is, by k_is, fun _ _ _ _ => rfl⟩
theorem bind_id {α : Type} {x r : R α} (h : x = r) : x.bind (fun a s => R.ok a s) = r := by rw [← h]; cases x <;> rfl
theorem kind_kw {f : Fx} {S : RS} {s : St} (rep : Rep f S s) {b : Bool} (h : (s.tk.kind == .kw) = b) : (S.t.kind == Str.ofString "keyword") = b := by rw [rep.tk.kind, kdS_kw']; exact h
theorem News.tok {w : World} {f : Fx} {S : RS} {h₀ h : Heap} {L : Addr} {tail : List (Addr × Obj)} (N : News h₀ L h (rdL w f S tail)) : News h₀ L h ((S.t.T, instObj 336 S.t.Td) :: (S.t.Td, tkDict w S.t) :: rdL w f S tail) := News.app (News.sub (l' := tkLed w S.t) N fun _ hp => mem_rdL (List.mem_append_left _ hp)) N
theorem sg_delete {f : Fx} {S : RS} {s : St} (rep : Rep f S s) (h : s.tk.kind = .sg) : (S.t.val == Str.ofString "delete") = false := by
  obtain ⟨c, hc, hv, -⟩ := rep.sgv h
  rw [hv]
  clear hv
  revert hc c
  decide +kernel
set_option maxRecDepth 100000 in
set_option maxHeartbeats 8000000 in
theorem ob_step (w : World) (f : Fx) (n : Nat) (ih : Ih w f n) : SpF w f 29 817 [] operandBehind (n + 1) := by
  intro S s₀ rep hO
  generalize hr : operandBehind (n + 1) s₀ = r at hO ⊢
  unfold operandBehind at hr
  ((intro dp un gd env outer A₀ base h₀ L m p loose mean mg mb s Q E B F X N T hk hd hu ret exc; refine wpAny_call ?_; k_dflt (refine' code_defE ?k1 ?k2 ?k3 ?k4 ?k5 ?kA ?kF ?kK ?k6 ?k7 ?k8 ?k9 ?kB ?_ ?c2 ?c3 ?c4 ?c5; (case kA => exact rfl); (case kF => exact Stands.frame (by assumption)); (case kK => exact Stands.kind (by assumption)); (case k1 => k_asm); (case k2 => k_asm); (case k3 => k_asm); (case k4 => k_asm); (case k5 => k_asm); (case k6 => k_is); (case k7 => k_is); (case k8 => exact Nat.lt_of_le_of_lt (Nat.le_add_right _ _) hd); (case k9 => exact BindsTo.of_eq rfl); (case c5 => decide); (case kB => exact locs rfl); (case c2 => exact rfl); (case c3 => exact rfl); (case c4 => exact rfl); k_whole; intro g L' h' FG F' N' B' X' T' G; (try dsimp only); (try k_fold))))
  k_steps
  (k_dflt refine' PC.meth (pre := []) ?q1 (mt_take w) ((args0) X' ?q4 (mt_take w).kp) ?q2 ?qv ?qr hO ?q0 B' ?q4 X' ?q6 T' hd hu Lg.nil rep Off.nil ?q7 rfl ?q8 ?_ ?qe; (case q4 => k_asm); (case q6 => k_asm); (case q7 => exact rfl); (case q8 => exact rfl); ((try (case ak => exact rfl)); (try (case al => exact rfl)); (try (case am => decide +kernel)); (try (case ar => exact rfl))); (case qr => exact hr); (case q2 => exact fun _ => take_pc w f S s₀ rep); (case qv => exact fun _ _ _ _ _ h => h); (case q1 => exact rfl); (case q0 => exact rm_leaf rfl); (case qe => exact PC.leave (σ := s) exc G N (by k_asm) (pre := []) (by k_asm) Lg.nil rfl rfl); clear hr)
  rintro a1 S1 s1 tl1 v1 h1 tk1 hr hn1 rep1 ⟨rfl, rfl⟩ aft1 F1 N1
  ((try dsimp only); (try k_fold); (try k_sweep))
  k_steps
  (k_dflt refine' PC.meth (pre := []) ?q1 (mt_go_in w) ((args0) X' ?q4 (mt_go_in w).kp) ?q2 ?qv ?qr hO ?q0 B' ?q4 X' ?q6 T' hd hu aft1.lg rep1 Off.nil ?q7 rfl ?q8 ?_ ?qe; (case q4 => k_asm); (case q6 => k_asm); (case q7 => exact rfl); (case q8 => exact rfl); ((try (case ak => exact rfl)); (try (case al => exact rfl)); (try (case am => decide +kernel)); (try (case ar => exact rfl))); (case qr => exact hr); (case q2 => exact fun _ _ => go_in_pc w f S1 s1 rep1); (case qv => exact fun _ _ _ _ _ h => h); (case q1 => exact rfl); (case q0 => exact rm_leaf rfl); (case qe => exact PC.leave (σ := s) exc G N (by k_asm) (pre := []) (by k_asm) aft1.lg rfl rfl); clear hr)
  rintro u2 S2 s2 tl2 v2 h2 tk2 hr hn2 rep2 ⟨rfl, h40⟩ aft2 F2 N2
  have hm2 : s2.nest = s₀.nest + 1 := hn2.trans (congrArg Nat.succ hn1)
  ((try dsimp only); (try k_fold); (try k_sweep))
  k_steps
  (k_dflt refine' PC.meth (pre := []) ?q1 (mt_unary w) ((args0) X' ?q4 (mt_unary w).kp) ?q2 ?qv ?qr hO ?q0 B' ?q4 X' ?q6 T' hd hu aft2.lg rep2 Off.nil ?q7 rfl ?q8 ?_ ?qe; (case q4 => k_asm); (case q6 => k_asm); (case q7 => exact rfl); (case q8 => exact rfl); ((try (case ak => exact rfl)); (try (case al => exact rfl)); (try (case am => decide +kernel)); (try (case ar => exact rfl))); (case qr => exact hr); (case q2 => exact fun _ => (ih n (Nat.le_refl _)).un S2 s2 rep2); (case qv => exact treeV_mono w); (case q1 => exact rfl); (case q0 => exact rm_down hm2 (by rw [hn2]; exact h40) rfl); (case qe => exact PC.leave (σ := s) exc G N (by k_asm) (pre := []) (by k_asm) aft2.lg rfl rfl); clear hr)
  intro t3 S3 s3 tl3 v3 h3 tk3 hr hn3 rep3 hv3 aft3 F3 N3
  replace hr : (R.ok () (goOut s3)).bind (fun _ s => R.ok t3 s) = r := hr
  ((try dsimp only); (try k_fold); (try k_sweep))
  k_steps
  (k_dflt refine' PC.meth (pre := []) ?q1 (mt_go_out w) ((args0) X' ?q4 (mt_go_out w).kp) ?q2 ?qv ?qr hO ?q0 B' ?q4 X' ?q6 T' hd hu aft3.lg rep3 Off.nil ?q7 rfl ?q8 ?_ ?qe; (case q4 => k_asm); (case q6 => k_asm); (case q7 => exact rfl); (case q8 => exact rfl); ((try (case ak => exact rfl)); (try (case al => exact rfl)); (try (case am => decide +kernel)); (try (case ar => exact rfl))); (case qr => exact hr); (case q2 => exact fun _ _ => go_out_pc w f S3 s3 rep3 (by rw [hn3.trans hm2]; exact Nat.succ_pos _)); (case qv => exact fun _ _ _ _ _ h => h); (case q1 => exact rfl); (case q0 => exact rm_leaf rfl); (case qe => exact PC.leave (σ := s) exc G N (by k_asm) (pre := []) (by k_asm) aft3.lg rfl rfl); clear hr)
  rintro u4 S4 s4 tl4 v4 h4 tk4 hr hn4 rep4 rfl aft4 F4 N4
  ((try dsimp only); (try k_fold); (try k_sweep))
  k_steps
  (refine' PC.fin (pre := []) ret hr (hn4.trans (congrArg Nat.pred (hn3.trans hm2))) rep4 (hv3.mono aft4.sub) aft4.lg Off.nil ?qF G N ?qF2 ?qN2 ?qN; (case qF => assumption); (case qF2 => assumption); (case qN2 => assumption); (case qN => assumption))
set_option maxRecDepth 100000 in
set_option maxHeartbeats 8000000 in
theorem po_step (w : World) (f : Fx) (n : Nat) (lh : SpF w f 28 831 [] leftHand (n + 1)) : SpF w f 29 824 [] leftHand (n + 1) := by
  intro S s₀ rep hO
  generalize hr : leftHand (n + 1) s₀ = r at hO ⊢
  replace hr := bind_id hr
  ((intro dp un gd env outer A₀ base h₀ L m p loose mean mg mb s Q E B F X N T hk hd hu ret exc; refine wpAny_call ?_; k_dflt (refine' code_defE ?k1 ?k2 ?k3 ?k4 ?k5 ?kA ?kF ?kK ?k6 ?k7 ?k8 ?k9 ?kB ?_ ?c2 ?c3 ?c4 ?c5; (case kA => exact rfl); (case kF => exact Stands.frame (by assumption)); (case kK => exact Stands.kind (by assumption)); (case k1 => k_asm); (case k2 => k_asm); (case k3 => k_asm); (case k4 => k_asm); (case k5 => k_asm); (case k6 => k_is); (case k7 => k_is); (case k8 => exact Nat.lt_of_le_of_lt (Nat.le_add_right _ _) hd); (case k9 => exact BindsTo.of_eq rfl); (case c5 => decide); (case kB => exact locs rfl); (case c2 => exact rfl); (case c3 => exact rfl); (case c4 => exact rfl); k_whole; intro g L' h' FG F' N' B' X' T' G; (try dsimp only); (try k_fold))))
  k_steps
  (k_dflt refine' PC.meth (pre := []) ?q1 (mt_left_hand w) ((args0) X' ?q4 (mt_left_hand w).kp) ?q2 ?qv ?qr hO ?q0 B' ?q4 X' ?q6 T' hd hu Lg.nil rep Off.nil ?q7 rfl ?q8 ?_ ?qe; (case q4 => k_asm); (case q6 => k_asm); (case q7 => exact rfl); (case q8 => exact rfl); ((try (case ak => exact rfl)); (try (case al => exact rfl)); (try (case am => decide +kernel)); (try (case ar => exact rfl))); (case qr => exact hr); (case q2 => exact fun _ => lh S s₀ rep); (case qv => exact treeV_mono w); (case q1 => exact rfl); (case q0 => exact rm_same rfl rfl); (case qe => exact PC.leave (σ := s) exc G N (by k_asm) (pre := []) (by k_asm) Lg.nil rfl rfl); clear hr)
  intro t1 S1 s1 tl1 v1 h1 tk1 hr hn1 rep1 hv1 aft1 F1 N1
  ((try dsimp only); (try k_fold); (try k_sweep))
  by_cases hk : s1.tk.kind = .sg
  · have e1 := kind_sg rep1 hk
    have e2 := has_steps (w := w) rep1 hk
    k_steps
    (refine' PC.fin (pre := []) ret hr hn1 rep1 hv1 aft1.lg Off.nil ?qF G N ?qF2 ?qN2 ?qN; (case qF => assumption); (case qF2 => assumption); (case qN2 => assumption); (case qN => assumption))
  · have e1 := kind_no rep1 hk
    k_steps
    (refine' PC.fin (pre := []) ret hr hn1 rep1 hv1 aft1.lg Off.nil ?qF G N ?qF2 ?qN2 ?qN; (case qF => assumption); (case qF2 => assumption); (case qN2 => assumption); (case qN => assumption))
set_option maxRecDepth 100000 in
set_option maxHeartbeats 8000000 in
theorem un_step (w : World) (f : Fx) (n : Nat) (ih : Ih w f n) : SpF w f 30 810 [] unary (n + 1) := by
  intro S s₀ rep hO
  generalize hr : unary (n + 1) s₀ = r at hO ⊢
  unfold unary at hr
  by_cases hk : s₀.tk.kind = .sg
  · have e1 := kind_sg rep hk
    have e2 := has_steps (w := w) rep hk
    have e3 := has_signs (w := w) rep hk
    have e4 := kind_kw rep (show (s₀.tk.kind == .kw) = false by rw [hk]; rfl)
    rw [hk] at hr
    cases hs : (isSign s₀ 45 || isSign s₀ 43)
    · rw [hs] at hr e3
      replace hr := bind_id (show leftHand n s₀ = r from hr)
      ((intro dp un gd env outer A₀ base h₀ L m p loose mean mg mb s Q E B F X N T hk hd hu ret exc; refine wpAny_call ?_; k_dflt (refine' code_defE ?k1 ?k2 ?k3 ?k4 ?k5 ?kA ?kF ?kK ?k6 ?k7 ?k8 ?k9 ?kB ?_ ?c2 ?c3 ?c4 ?c5; (case kA => exact rfl); (case kF => exact Stands.frame (by assumption)); (case kK => exact Stands.kind (by assumption)); (case k1 => k_asm); (case k2 => k_asm); (case k3 => k_asm); (case k4 => k_asm); (case k5 => k_asm); (case k6 => k_is); (case k7 => k_is); (case k8 => exact Nat.lt_of_le_of_lt (Nat.le_add_right _ _) hd); (case k9 => exact BindsTo.of_eq rfl); (case c5 => decide); (case kB => exact locs rfl); (case c2 => exact rfl); (case c3 => exact rfl); (case c4 => exact rfl); k_whole; intro g L' h' FG F' N' B' X' T' G; (try dsimp only); (try k_fold))))
      k_steps
      (k_dflt refine' PC.meth (pre := []) ?q1 (mt_postfix w) ((args0) X' ?q4 (mt_postfix w).kp) ?q2 ?qv ?qr hO ?q0 B' ?q4 X' ?q6 T' hd hu Lg.nil rep Off.nil ?q7 rfl ?q8 ?_ ?qe; (case q4 => k_asm); (case q6 => k_asm); (case q7 => exact rfl); (case q8 => exact rfl); ((try (case ak => exact rfl)); (try (case al => exact rfl)); (try (case am => decide +kernel)); (try (case ar => exact rfl))); (case qr => exact hr); (case q2 => exact fun _ => (ih n (Nat.le_refl _)).po S s₀ rep); (case qv => exact treeV_mono w); (case q1 => exact rfl); (case q0 => exact rm_same rfl rfl); (case qe => exact PC.leave (σ := s) exc G N (by k_asm) (pre := []) (by k_asm) Lg.nil rfl rfl); clear hr)
      intro t1 S1 s1 tl1 v1 h1 tk1 hr hn1 rep1 hv1 aft1 F1 N1
      ((try dsimp only); (try k_fold); (try k_sweep))
      k_steps
      (refine' PC.fin (pre := []) ret hr hn1 rep1 hv1 aft1.lg Off.nil ?qF G N ?qF2 ?qN2 ?qN; (case qF => assumption); (case qF2 => assumption); (case qN2 => assumption); (case qN => assumption))
    · rw [hs] at hr e3
      replace hr : ((operandBehind n s₀).bind fun t s => .ok (.node .other [t]) s) = r := hr
      have e5 := sg_delete rep hk
      ((intro dp un gd env outer A₀ base h₀ L m p loose mean mg mb s Q E B F X N T hk hd hu ret exc; refine wpAny_call ?_; k_dflt (refine' code_defE ?k1 ?k2 ?k3 ?k4 ?k5 ?kA ?kF ?kK ?k6 ?k7 ?k8 ?k9 ?kB ?_ ?c2 ?c3 ?c4 ?c5; (case kA => exact rfl); (case kF => exact Stands.frame (by assumption)); (case kK => exact Stands.kind (by assumption)); (case k1 => k_asm); (case k2 => k_asm); (case k3 => k_asm); (case k4 => k_asm); (case k5 => k_asm); (case k6 => k_is); (case k7 => k_is); (case k8 => exact Nat.lt_of_le_of_lt (Nat.le_add_right _ _) hd); (case k9 => exact BindsTo.of_eq rfl); (case c5 => decide); (case kB => exact locs rfl); (case c2 => exact rfl); (case c3 => exact rfl); (case c4 => exact rfl); k_whole; intro g L' h' FG F' N' B' X' T' G; (try dsimp only); (try k_fold))))
      k_steps
      (rename News _ _ _ (rdL w f S []) => N1)
      replace N1 := News.tok N1
      (k_dflt refine' PC.meth (pre := [_, _]) ?q1 (mt_operand_behind w) ((args0) X' ?q4 (mt_operand_behind w).kp) ?q2 ?qv ?qr hO ?q0 B' ?q4 X' ?q6 T' hd hu Lg.nil rep (rep.ap.off w) ?q7 rfl ?q8 ?_ ?qe; (case q4 => k_asm); (case q6 => k_asm); (case q7 => exact rfl); (case q8 => exact rfl); ((try (case ak => exact rfl)); (try (case al => exact rfl)); (try (case am => decide +kernel)); (try (case ar => exact rfl))); (case qr => exact hr); (case q2 => exact fun _ => (ih n (Nat.le_refl _)).ob S s₀ rep); (case qv => exact treeV_mono w); (case q1 => exact rfl); (case q0 => exact rm_same rfl rfl); (case qe => exact PC.leave (σ := s) exc G N (by k_asm) (pre := [_, _]) (by k_asm) Lg.nil rfl rfl); clear hr)
      intro t1 S1 s1 tl1 v1 h1 tk1 hr hn1 rep1 hv1 aft1 F1 N1
      ((try dsimp only); (try k_fold); (try k_sweep))
      k_steps
      (k_dflt refine' Node.use B' ?q4 X' ?q6 T' hd hu (rm_leaf rfl) rfl ?_; (case q4 => k_asm); (case q6 => k_asm); intro an9 dn9 kn1 kn2 kn3 kn4 h9 tk9 F9 N9; ((try dsimp only); (try k_fold); (try k_sweep)))
      k_steps
      (refine' PC.finNode (pre := [_, _]) ret hr hn1 rep1 ?qk ?ql ?qb aft1.lg (rep.ap.off w) ?qF G N ?qF2 ?qN2 ?qN; (case qF => assumption); (case qF2 => assumption); (case qN2 => assumption); (case qN => assumption); (case qk => exact ⟨by decide +kernel, by decide +kernel⟩); (case ql => exact .plain ((hv1.mono fun p hp => List.mem_append_right _ hp).wl .nil)); (case qb => exact (Nat.le_of_ble_eq_true rfl)))
  · have e1 := kind_no rep hk
    rw [isSign_ne rfl (sg_beq hk), isSign_ne rfl (sg_beq hk)] at hr
    cases hw : (s₀.tk.kind == .kw)
    · have e4 := kind_kw rep hw
      rw [hw] at hr
      replace hr := bind_id (show leftHand n s₀ = r from hr)
      ((intro dp un gd env outer A₀ base h₀ L m p loose mean mg mb s Q E B F X N T hk hd hu ret exc; refine wpAny_call ?_; k_dflt (refine' code_defE ?k1 ?k2 ?k3 ?k4 ?k5 ?kA ?kF ?kK ?k6 ?k7 ?k8 ?k9 ?kB ?_ ?c2 ?c3 ?c4 ?c5; (case kA => exact rfl); (case kF => exact Stands.frame (by assumption)); (case kK => exact Stands.kind (by assumption)); (case k1 => k_asm); (case k2 => k_asm); (case k3 => k_asm); (case k4 => k_asm); (case k5 => k_asm); (case k6 => k_is); (case k7 => k_is); (case k8 => exact Nat.lt_of_le_of_lt (Nat.le_add_right _ _) hd); (case k9 => exact BindsTo.of_eq rfl); (case c5 => decide); (case kB => exact locs rfl); (case c2 => exact rfl); (case c3 => exact rfl); (case c4 => exact rfl); k_whole; intro g L' h' FG F' N' B' X' T' G; (try dsimp only); (try k_fold))))
      k_steps
      (k_dflt refine' PC.meth (pre := []) ?q1 (mt_postfix w) ((args0) X' ?q4 (mt_postfix w).kp) ?q2 ?qv ?qr hO ?q0 B' ?q4 X' ?q6 T' hd hu Lg.nil rep Off.nil ?q7 rfl ?q8 ?_ ?qe; (case q4 => k_asm); (case q6 => k_asm); (case q7 => exact rfl); (case q8 => exact rfl); ((try (case ak => exact rfl)); (try (case al => exact rfl)); (try (case am => decide +kernel)); (try (case ar => exact rfl))); (case qr => exact hr); (case q2 => exact fun _ => (ih n (Nat.le_refl _)).po S s₀ rep); (case qv => exact treeV_mono w); (case q1 => exact rfl); (case q0 => exact rm_same rfl rfl); (case qe => exact PC.leave (σ := s) exc G N (by k_asm) (pre := []) (by k_asm) Lg.nil rfl rfl); clear hr)
      intro t1 S1 s1 tl1 v1 h1 tk1 hr hn1 rep1 hv1 aft1 F1 N1
      ((try dsimp only); (try k_fold); (try k_sweep))
      k_steps
      (refine' PC.fin (pre := []) ret hr hn1 rep1 hv1 aft1.lg Off.nil ?qF G N ?qF2 ?qN2 ?qN; (case qF => assumption); (case qF2 => assumption); (case qN2 => assumption); (case qN => assumption))
    · have e4 := kind_kw rep hw
      rw [hw] at hr
      cases hn : isNew s₀
      · rw [hn] at hr; exact absurd hr.symm hO
      · have e2 := has_words (w := w) rep hn
        rw [hn] at hr
        replace hr := bind_id (show leftHand n s₀ = r from hr)
        ((intro dp un gd env outer A₀ base h₀ L m p loose mean mg mb s Q E B F X N T hk hd hu ret exc; refine wpAny_call ?_; k_dflt (refine' code_defE ?k1 ?k2 ?k3 ?k4 ?k5 ?kA ?kF ?kK ?k6 ?k7 ?k8 ?k9 ?kB ?_ ?c2 ?c3 ?c4 ?c5; (case kA => exact rfl); (case kF => exact Stands.frame (by assumption)); (case kK => exact Stands.kind (by assumption)); (case k1 => k_asm); (case k2 => k_asm); (case k3 => k_asm); (case k4 => k_asm); (case k5 => k_asm); (case k6 => k_is); (case k7 => k_is); (case k8 => exact Nat.lt_of_le_of_lt (Nat.le_add_right _ _) hd); (case k9 => exact BindsTo.of_eq rfl); (case c5 => decide); (case kB => exact locs rfl); (case c2 => exact rfl); (case c3 => exact rfl); (case c4 => exact rfl); k_whole; intro g L' h' FG F' N' B' X' T' G; (try dsimp only); (try k_fold))))
        k_steps
        (k_dflt refine' PC.meth (pre := []) ?q1 (mt_postfix w) ((args0) X' ?q4 (mt_postfix w).kp) ?q2 ?qv ?qr hO ?q0 B' ?q4 X' ?q6 T' hd hu Lg.nil rep Off.nil ?q7 rfl ?q8 ?_ ?qe; (case q4 => k_asm); (case q6 => k_asm); (case q7 => exact rfl); (case q8 => exact rfl); ((try (case ak => exact rfl)); (try (case al => exact rfl)); (try (case am => decide +kernel)); (try (case ar => exact rfl))); (case qr => exact hr); (case q2 => exact fun _ => (ih n (Nat.le_refl _)).po S s₀ rep); (case qv => exact treeV_mono w); (case q1 => exact rfl); (case q0 => exact rm_same rfl rfl); (case qe => exact PC.leave (σ := s) exc G N (by k_asm) (pre := []) (by k_asm) Lg.nil rfl rfl); clear hr)
        intro t1 S1 s1 tl1 v1 h1 tk1 hr hn1 rep1 hv1 aft1 F1 N1
        ((try dsimp only); (try k_fold); (try k_sweep))
        k_steps
        (refine' PC.fin (pre := []) ret hr hn1 rep1 hv1 aft1.lg Off.nil ?qF G N ?qF2 ?qN2 ?qN; (case qF => assumption); (case qF2 => assumption); (case qN2 => assumption); (case qN => assumption))
end
section
theorem mt_creation (w : World) : Meth w (Str.ofString "creation") 845 := ⟨by k_is, by k_is, by k_is, by k_is, fun _ _ _ _ => rfl⟩
theorem mt_primary (w : World) : Meth w (Str.ofString "primary") 859 := ⟨by k_is, by k_is, by k_is, by k_is, fun _ _ _ _ => rfl⟩
theorem mt_arguments (w : World) : Meth w (Str.ofString "arguments") 852 := ⟨by k_is, by k_is, by k_is, by k_is, fun _ _ _ _ => rfl⟩
noncomputable def HJ (w : World) (f : Fx) (S₀ : RS) (s₀ : St) (r : R Tree) (n : Nat) (m0 : Str → Option Value) (k : Nat) (m : Str → Option Value) (news : List (Addr × Obj)) : Prop :=
  ∃ S s tail v t, m = (fun y => if y = Str.ofString "node" then some v else m0 y) ∧ news = rdL w f S tail ∧ Rep f S s ∧ s.nest = s₀.nest ∧ Lg w f S₀ [] S tail ∧ TreeV w t v tail ∧ callLoop k t s = r ∧ k ≤ n
section
variable {w : World} {f : Fx} {n n₀ k : Nat} {S S₀ : RS} {s : St} {β : Type} {g : Tree → St → R β} {r : R β}
  {dp un : Nat} {gd : Option (List Code)} {env : Env} {outer : List Env} {A₀ : Around} {base h₀ : Heap} {L a : Addr} {m : Str → Option Value} {cn : Str} {cs : Scope} {ccd : Value}
  {p : Program} {loose : List Str} {mean : ExcName → Option Value} {mg mb : Str → Option Value} {pre tail e₀ : List (Addr × Obj)} {σ : Shared} {Q E : Value → Shared → Prop}
  {p1 p2 p3 p4 p5 p6 p7 p8 p9 pc pos : Pos}
theorem PC.nop {pl1 pl2 pl3 : Sem Bool} (h1 : CallIs (envOf cn cs L a ccd) (Str.ofString "is_word") p1 p2 p3 [.Constant (.str (Str.ofString "new")) k pc] pl1) (h2 : CallIs (envOf cn cs L a ccd) (Str.ofString "creation") p4 p5 p6 [] pl2) (h3 : CallIs (envOf cn cs L a ccd) (Str.ofString "primary") p7 p8 p9 [] pl3)
    (ih : Sp w f n) (hr : (if isNew s = true then creation n s else primary n s).bind g = r) (hO : r ≠ .oos) (hn : rm s 27 + 1 ≤ n₀)
    (B : Below A₀ base (env :: outer) h₀) (F : Fr h₀ L σ.heap m) (X : Frag.In (Mine.k0.heap_1 w.params) h₀) (N : News h₀ L σ.heap (pre ++ rdL w f S tail)) (T : Top p loose mean mg mb h₀) (hd : dp + n₀ < recursionLimit) (hu : un + 20 * n₀ < cLine)
    (lg : Lg w f S₀ e₀ S tail) (rep : Rep f S s) (op : Off f pre) (hs : m (Str.ofString "self") = some (.ref f.R)) (hk : cs.kind = .function) (hl : (envX cn cs L a ccd []).kindOf (Str.ofString "self") = some .local)
    (ret : ∀ a S' s' tail' v hh h' tk', g a s' = r → s'.nest = s.nest → Rep f S' s' → TreeV w a v tail' → Aft w f S₀ e₀ S tail hh S' tail' → Fr h₀ L h' m → News h₀ L h' (pre ++ rdL w f S' tail') → Q v { σ with heap := h', toks := tk' })
    (exc : ∀ hh, Fr h₀ L hh m → News h₀ L hh (pre ++ rdL w f S tail) → ∀ line, r = .fail line → ∀ e h' tk', Fl w [f.Rd, f.Xd] line base (envOf cn cs L a ccd :: env :: outer) hh e h' → E (.ref e) { σ with heap := h', toks := tk' }) :
    wpAny (model PySem.Challenge.pw_pc0091_01 w) ((aTop dp un gd env outer).deeper (envOf cn cs L a ccd)) (eval (.IfExp (.Call (.Attribute (.Name (Str.ofString "self") p1) (Str.ofString "is_word") p2) [.Constant (.str (Str.ofString "new")) k pc] [] p3) (.Call (.Attribute (.Name (Str.ofString "self") p4) (Str.ofString "creation") p5) [] [] p6) (.Call (.Attribute (.Name (Str.ofString "self") p7) (Str.ofString "primary") p8) [] [] p9) pos) (envOf cn cs L a ccd)) Q E σ := by
  refine IfExp_ (isTrue_plain (QC.meth h1 (mt_is_word w) (argsS X F (mt_is_word w).kp) (fun tk => new_c rep rfl tk) (Nat.le_trans (Nat.succ_le_succ (rm_leaf rfl)) hn) B F X N T hd hu hs hk hl (fun v hv h' tk' F' N' => ?_)) rfl)
  subst hv
  refine wpAny_truthy_bool ?_
  cases hw : isNew s with
  | true =>
    rw [hw] at hr
    rw [if_pos rfl]
    exact PC.meth h2 (mt_creation w) (args0 X F' (mt_creation w).kp) (fun _ => ih.cr S s rep) (treeV_mono w) hr hO hn B F' X N' T hd hu lg rep op hs hk hl (fun a S' s' tail' v h' tk' e1 e2 e3 e4 e5 e6 e7 => ret a S' s' tail' v _ h' tk' e1 e2 e3 e4 e5 e6 e7) (exc h' F' N')
  | false =>
    rw [hw] at hr
    rw [if_neg (by decide)]
    exact PC.meth h3 (mt_primary w) (args0 X F' (mt_primary w).kp) (fun _ => ih.pr S s rep) (treeV_mono w) hr hO hn B F' X N' T hd hu lg rep op hs hk hl (fun a S' s' tail' v h' tk' e1 e2 e3 e4 e5 e6 e7 => ret a S' s' tail' v _ h' tk' e1 e2 e3 e4 e5 e6 e7) (exc h' F' N')
end
local macro_rules | `(tactic| walk_at "eval IfExp") => `(tactic| (k_here; (with_reducible show wpAny _ _ (eval (Expr.IfExp _ (Expr.Call (Expr.Attribute (Expr.Name (Str.ofString "self") _) (Str.ofString "creation") _) _ _ _) _ _) _) _ _ _); refine hold_ ?_))
set_option maxRecDepth 100000 in
set_option maxHeartbeats 8000000 in
theorem lh_step (w : World) (f : Fx) (n : Nat) (ih : Ih w f n) : SpF w f 28 831 [] leftHand (n + 1) := by
  intro S s₀ rep hO
  generalize hr : leftHand (n + 1) s₀ = r at hO ⊢
  unfold leftHand at hr
  ((intro dp un gd env outer A₀ base h₀ L m p loose mean mg mb s Q E B F X N T hk hd hu ret exc; refine wpAny_call ?_; k_dflt (refine' code_defE ?k1 ?k2 ?k3 ?k4 ?k5 ?kA ?kF ?kK ?k6 ?k7 ?k8 ?k9 ?kB ?_ ?c2 ?c3 ?c4 ?c5; (case kA => exact rfl); (case kF => exact Stands.frame (by assumption)); (case kK => exact Stands.kind (by assumption)); (case k1 => k_asm); (case k2 => k_asm); (case k3 => k_asm); (case k4 => k_asm); (case k5 => k_asm); (case k6 => k_is); (case k7 => k_is); (case k8 => exact Nat.lt_of_le_of_lt (Nat.le_add_right _ _) hd); (case k9 => exact BindsTo.of_eq rfl); (case c5 => decide); (case kB => exact locs rfl); (case c2 => exact rfl); (case c3 => exact rfl); (case c4 => exact rfl); k_whole; intro g L' h' FG F' N' B' X' T' G; (try dsimp only); (try k_fold))))
  k_steps
  refine MethodCall_ ?_
  k_steps
  (k_dflt refine' PC.nop (pre := []) ?q1 ?q1b ?q1c (ih n (Nat.le_refl _)) ?qr hO ?q0 B' ?q4 X' ?q6 T' hd hu Lg.nil rep Off.nil ?q7 rfl ?q8 ?_ ?qe; (case q4 => k_asm); (case q6 => k_asm); (case q7 => exact rfl); (case q8 => exact rfl); (case qr => exact hr); (case q1 => exact rfl); (case q1b => exact rfl); (case q1c => exact rfl); (case q0 => exact rm_same rfl rfl); (case qe => exact fun hh F9 N9 => PC.leave (σ := s) (σ' := { s with heap := hh }) exc G N F9 (pre := []) N9 Lg.nil rfl rfl); clear hr)
  intro t1 S1 s1 tl1 v1 hh1 h1 tk1 hr hn1 rep1 hv1 aft1 F1 N1
  ((try dsimp only); (try k_fold); (try k_sweep))
  k_steps
  (k_dflt refine' PC.usex (pre := []) ?q2 ?qx ?qv ?qr hO B' ?q4 X' ?q6 T' ⟨rfl, rfl⟩ (room_in hd ?q0) (unit_in hu ?q0) aft1.lg rep1 Off.nil ?_ ?qe; (case q4 => k_asm); (case q6 => k_asm); (case qr => exact hr); (case q2 => exact (ih n (Nat.le_refl _)).me S1 s1 t1 v1 tl1 rep1 aft1.lg.off hv1); (case qx => exact fun _ h => h); (case qv => exact treeV_mono w); (case q0 => exact rm_same hn1 rfl); (case qe => exact PC.leave (σ := s) exc G N (by k_asm) (pre := []) (by k_asm) aft1.lg rfl rfl); clear hr)
  intro t2 S2 s2 tl2 v2 h2 tk2 hr hn2 rep2 hv2 aft2 F2 N2
  ((try dsimp only); (try k_fold); (try k_sweep))
  (repeat (first | (k_unfold; (try dsimp only)) | ((fail_if_success (with_reducible show wpAny _ _ (exec (Stmt.While _ _ _ _) _) _ _ _)); walk1) | ((fail_if_success (with_reducible show wpAny _ _ (exec (Stmt.While _ _ _ _) _) _ _ _)); dsimp only; walk1)))
  (rename Fr _ _ _ _ => F0)
  (rename News _ _ _ _ => N0)
  refine While_inv2 (HJ w f S s₀ r n _) F0 N0 ⟨S2, s2, tl2, v2, t2, rfl, rfl, rep2, hn2.trans hn1, aft2.lg, hv2, hr, Nat.le_refl _⟩ ?_
  clear F0 N0 hr aft1 rep1 hv1 hn1 hn2 aft2 rep2 hv2
  rintro k m9 news9 h9 tk9 F9 N9 ⟨S3, s3, tl3, v3, t3, rfl, rfl, rep3, hn3, lg3, hv3, hr, hkn⟩
  cases k with
  | zero => exact absurd hr.symm hO
  | succ k =>
  unfold callLoop at hr
  k_steps
  (k_dflt refine' QC.meth (pre := []) ?q1 (mt_is_sign w) ((argsS) X' ?q4 (mt_is_sign w).kp) ?q2 ?q0 B' ?q4 X' ?q6 T' hd hu ?q7 rfl ?q8 ?_; (case q4 => k_asm); (case q6 => k_asm); (case q7 => exact rfl); (case q8 => exact rfl); ((try (case ak => exact rfl)); (try (case al => exact rfl)); (try (case am => decide +kernel)); (try (case ar => exact rfl))); (case q2 => exact fun tk => sign_c rep3 (c := 40) (by decide +kernel) rfl _); (case q1 => exact rfl); (case q0 => exact rm_leaf rfl); rintro v9 rfl h9 tk9 F9 N9; ((try dsimp only); (try k_fold); (try k_sweep)))
  cases hb : isSign s3 40
  · rw [hb] at hr
    k_steps
    (refine' PC.fin (pre := []) ret hr hn3 rep3 hv3 lg3 Off.nil ?qF G N ?qF2 ?qN2 ?qN; (case qF => assumption); (case qF2 => assumption); (case qN2 => assumption); (case qN => assumption))
  · rw [hb] at hr
    replace hr : ((arguments k s3).bind fun as s => (members k (.node .other (t3 :: as)) s).bind fun t s => callLoop k t s) = r := hr
    obtain ⟨o, rfl, o1, o2, o3, o5⟩ := hv3
    (rename News _ _ _ (rdL _ _ _ _) => N3)
    replace N3 := News.no N3 fun p hp => mem_rdL (List.mem_append_right _ (o1 p hp))
    k_steps
    refine MethodCall_ ?_
    k_steps
    (k_dflt refine' PC.meth (pre := [_, _, _]) ?q1 (mt_arguments w) ((args0) X' ?q4 (mt_arguments w).kp) ?q2 ?qv ?qr hO ?q0 B' ?q4 X' ?q6 T' hd hu lg3 rep3 (fun p hp => lg3.off p (o1 p hp)) ?q7 rfl ?q8 ?_ ?qe; (case q4 => k_asm); (case q6 => k_asm); (case q7 => exact rfl); (case q8 => exact rfl); ((try (case ak => exact rfl)); (try (case al => exact rfl)); (try (case am => decide +kernel)); (try (case ar => exact rfl))); (case qr => exact hr); (case q2 => exact fun _ => (ih k (Nat.le_of_succ_le hkn)).ar S3 s3 rep3); (case qv => exact listV_mono w); (case q1 => exact rfl); (case q0 => exact rm_same hn3 rfl); (case qe => exact PC.leave (σ := s) exc G N (by k_asm) (pre := [_, _, _]) (by k_asm) lg3 rfl rfl); clear hr)
    rintro as S4 s4 tl4 v4 h4 tk4 hr hn4 rep4 ⟨p4, its4, n4, c4, rfl, a1, a2, a3⟩ aft4 F4 N4
    ((try dsimp only); (try k_fold); (try k_sweep))
    k_steps
    (k_dflt refine' Node.use B' ?q4 X' ?q6 T' hd hu (rm_leaf rfl) rfl ?_; (case q4 => k_asm); (case q6 => k_asm); intro an9 dn9 kn1 kn2 kn3 kn4 h9 tk9 F9 N9; ((try dsimp only); (try k_fold); (try k_sweep)))
    obtain ⟨tl5, N5, lg5, tv5, -⟩ := Node.fold (t := .node .other (t3 :: as)) (pre := [_, _, _]) N9 ⟨by decide +kernel, by decide +kernel⟩ (TreeV.wl ⟨o, rfl, fun p hp => List.mem_append_left tl4 hp, o2, o3.mono (fun p hp => List.mem_append_right _ (aft4.sub p hp)), o5⟩ (WL.one (List.mem_append_right _ a1) (a2.mono fun p hp => List.mem_append_right _ hp))) (Nat.le_trans (Nat.succ_le_succ (Nat.succ_le_succ a3)) (by decide)) aft4.lg (fun p hp => lg3.off p (o1 p hp))
    clear N9
    k_steps
    (k_dflt refine' PC.usex (pre := []) ?q2 ?qx ?qv ?qr hO B' ?q4 X' ?q6 T' ⟨rfl, rfl⟩ (room_in hd ?q0) (unit_in hu ?q0) lg5 rep4 Off.nil ?_ ?qe; (case q4 => k_asm); (case q6 => k_asm); (case qr => exact hr); (case q2 => exact (ih k (Nat.le_of_succ_le hkn)).me S4 s4 (.node .other (t3 :: as)) _ tl5 rep4 lg5.off tv5); (case qx => exact fun _ h => h); (case qv => exact treeV_mono w); (case q0 => exact rm_same (hn4.trans hn3) rfl); (case qe => exact PC.leave (σ := s) exc G N (by k_asm) (pre := []) (by k_asm) lg5 rfl rfl); clear hr)
    intro t6 S6 s6 tl6 v6 h6 tk6 hr hn6 rep6 hv6 aft6 F6 N6
    ((try dsimp only); (try k_fold); (try k_sweep))
    k_steps
    (rename Fr _ _ _ _ => F0)
    (rename News _ _ _ _ => N0)
    exact step_next F0 N0 (Nat.lt_succ_self _) ⟨S6, s6, tl6, v6, t6, upd_upd _ _ _ _, rfl, rep6, hn6.trans (hn4.trans hn3), aft6.lg, hv6, hr, Nat.le_of_succ_le hkn⟩
end
section
theorem mt_expression (w : World) : Meth w (Str.ofString "expression") 768 := ⟨by k_is, by k_is, by k_is, by k_is, fun _ _ _ _ => rfl⟩
theorem sign_val {f : Fx} {S : RS} {s : St} {c : Nat} (rep : Rep f S s) (h : isSign s c = true) : S.t.val = ⟨#[c]⟩ := by
  unfold isSign at h
  rw [rep.tk.val, beq_iff_eq.mp (Bool.and_eq_true_iff.mp h).2]
theorem val_eq {x y : Str} {b : Bool} {z : Str} (h : x = z) (hb : (z == y) = b) : (x == y) = b := h ▸ hb
theorem members_prop {n : Nat} {t : Tree} {s : St} {r : R Tree} (hr : (match s.tk.kind with
      | .nm | .kw => (take s).bind fun _ s => members n (.node .member [t]) s
      | _ => fail s) = r) : ((propName s).bind fun _ s => members n (.node .member [t]) s) = r := by
  rw [← hr]
  unfold propName
  cases s.tk.kind <;> rfl
noncomputable def MJ (w : World) (f : Fx) (S₀ : RS) (l : List (Addr × Obj)) (s₀ : St) (r : R Tree) (n : Nat) (m0 : Str → Option Value) (k : Nat) (m : Str → Option Value) (news : List (Addr × Obj)) : Prop :=
  ∃ S s tail v t c, m = (fun y => if y = Str.ofString "node" then some v else mvf [Str.ofString "node", Str.ofString "key"] c m0 y) ∧ news = rdL w f S tail ∧ Rep f S s ∧ s.nest = s₀.nest ∧ Lg w f S₀ l S tail ∧ TreeV w t v tail ∧ members k t s = r ∧ k ≤ n + 1
theorem mvl0 {m : Str → Option Value} {x : Str} {v : Option Value} {xs : List Str} (h : m x = v) : m = fun y => if y = x then v else mvf xs m m y := by
  funext y
  by_cases e : y = x
  · rw [if_pos e, e, h]
  · rw [if_neg e, ← mvf_self]
set_option maxRecDepth 100000 in
set_option maxHeartbeats 8000000 in
theorem me_step (w : World) (f : Fx) (n : Nat) (ih : Ih w f n) (S : RS) (s₀ : St) (t₀ : Tree) (v₀ : Value) (l : List (Addr × Obj)) (rep : Rep f S s₀) (ol : Off f l) (hv₀ : TreeV w t₀ v₀ l) (hO : members (n + 1) t₀ s₀ ≠ .oos) : PCx w f (rm s₀ 27) S l s₀ id (call (.ref 838) [.ref f.R, v₀]) (TreeV w) (members (n + 1) t₀ s₀) := by
  generalize hr : members (n + 1) t₀ s₀ = r at hO ⊢
  ((intro dp un gd env outer A₀ base h₀ L m p loose mean mg mb s Q E B F X N T hk hd hu ret exc; refine wpAny_call ?_; k_dflt (refine' code_defE ?k1 ?k2 ?k3 ?k4 ?k5 ?kA ?kF ?kK ?k6 ?k7 ?k8 ?k9 ?kB ?_ ?c2 ?c3 ?c4 ?c5; (case kA => exact rfl); (case kF => exact Stands.frame (by assumption)); (case kK => exact Stands.kind (by assumption)); (case k1 => k_asm); (case k2 => k_asm); (case k3 => k_asm); (case k4 => k_asm); (case k5 => k_asm); (case k6 => k_is); (case k7 => k_is); (case k8 => exact Nat.lt_of_le_of_lt (Nat.le_add_right _ _) hd); (case k9 => exact BindsTo.of_eq rfl); (case c5 => decide); (case kB => exact locs rfl); (case c2 => exact rfl); (case c3 => exact rfl); (case c4 => exact rfl); k_whole; intro g L' h' FG F' N' B' X' T' G; (try dsimp only); (try k_fold))))
  (repeat (first | (k_unfold; (try dsimp only)) | ((fail_if_success (with_reducible show wpAny _ _ (exec (Stmt.While _ _ _ _) _) _ _ _)); walk1) | ((fail_if_success (with_reducible show wpAny _ _ (exec (Stmt.While _ _ _ _) _) _ _ _)); dsimp only; walk1)))
  (rename Fr _ _ _ _ => F0)
  (rename News _ _ _ _ => N0)
  refine While_inv2 (MJ w f S l s₀ r n _) F0 N0 ⟨S, s₀, l, v₀, t₀, _, mvl0 rfl, rfl, rep, rfl, Lg.ext ol, hv₀, hr, Nat.le_refl _⟩ ?_
  clear F0 N0 hr
  rintro k m9 news9 h9 tk9 F9 N9 ⟨S1, s1, tl1, v1, t1, cc, rfl, rfl, rep1, hn1, lg1, hv1, hr, hkn⟩
  cases k with
  | zero => exact absurd hr.symm hO
  | succ k =>
  unfold members at hr
  k_steps
  (k_dflt refine' QC.meth (pre := []) ?q1 (mt_is_sign w) ((argsS) X' ?q4 (mt_is_sign w).kp) ?q2 ?q0 B' ?q4 X' ?q6 T' hd hu ?q7 rfl ?q8 ?_; (case q4 => k_asm); (case q6 => k_asm); (case q7 => exact rfl); (case q8 => exact rfl); ((try (case ak => exact rfl)); (try (case al => exact rfl)); (try (case am => decide +kernel)); (try (case ar => exact rfl))); (case q2 => exact fun tk => sign_c rep1 (c := 46) (by decide +kernel) rfl _); (case q1 => exact rfl); (case q0 => exact rm_leaf rfl); rintro v9 rfl h9 tk9 F9 N9; ((try dsimp only); (try k_fold); (try k_sweep)))
  cases hb : isSign s1 46
  · rw [hb] at hr
    k_steps
    (k_dflt refine' QC.meth (pre := []) ?q1 (mt_is_sign w) ((argsS) X' ?q4 (mt_is_sign w).kp) ?q2 ?q0 B' ?q4 X' ?q6 T' hd hu ?q7 rfl ?q8 ?_; (case q4 => k_asm); (case q6 => k_asm); (case q7 => exact rfl); (case q8 => exact rfl); ((try (case ak => exact rfl)); (try (case al => exact rfl)); (try (case am => decide +kernel)); (try (case ar => exact rfl))); (case q2 => exact fun tk => sign_c rep1 (c := 91) (by decide +kernel) rfl _); (case q1 => exact rfl); (case q0 => exact rm_leaf rfl); rintro v9 rfl h9 tk9 F9 N9; ((try dsimp only); (try k_fold); (try k_sweep)))
    cases hb2 : isSign s1 91
    · rw [hb2] at hr
      k_steps
      (refine' PC.fin (pre := []) ret hr hn1 rep1 hv1 lg1 Off.nil ?qF G N ?qF2 ?qN2 ?qN; (case qF => assumption); (case qF2 => assumption); (case qN2 => assumption); (case qN => assumption))
    · rw [hb2] at hr
      replace hr : ((take s1).bind fun _ s => (expression k s).bind fun kk s => (need s 93).bind fun _ s => members k (.node .index [t1, kk]) s) = r := hr
      have e1 := val_eq (y := Str.ofString ".") (sign_val rep1 hb2) (show _ = false by decide +kernel)
      k_steps
      (k_dflt refine' PC.takeAttr (pre := []) ?q1 ?qa (ta_value w) ?qr hO ?q0 B' ?q4 X' ?q6 T' hd hu lg1 rep1 Off.nil ?q7 rfl ?q8 ?_ ?qe; (case q4 => k_asm); (case q6 => k_asm); (case q7 => exact rfl); (case q8 => exact rfl); (case qr => exact hr); (case q1 => exact rfl); (case qa => exact rfl); (case q0 => exact rm_leaf rfl); (case qe => exact PC.leave (σ := s) exc G N (by k_asm) (pre := []) (by k_asm) lg1 rfl rfl); clear hr)
      intro S2 s2 tl2 h2 tk2 hr hn2 rep2 aft2 F2 N2
      ((try dsimp only); (try k_fold); (try k_sweep))
      k_steps
      (k_dflt refine' PC.meth (pre := []) ?q1 (mt_expression w) ((argsB) X' ?q4 (mt_expression w).kp) ?q2 ?qv ?qr hO ?q0 B' ?q4 X' ?q6 T' hd hu aft2.lg rep2 Off.nil ?q7 rfl ?q8 ?_ ?qe; (case q4 => k_asm); (case q6 => k_asm); (case q7 => exact rfl); (case q8 => exact rfl); ((try (case ak => exact rfl)); (try (case al => exact rfl)); (try (case am => decide +kernel)); (try (case ar => exact rfl))); (case qr => exact hr); (case q2 => exact fun _ => (ih k (Nat.le_of_succ_le_succ hkn)).ex S2 s2 rep2); (case qv => exact treeV_mono w); (case q1 => exact rfl); (case q0 => exact rm_same (hn2.trans hn1) rfl); (case qe => exact PC.leave (σ := s) exc G N (by k_asm) (pre := []) (by k_asm) aft2.lg rfl rfl); clear hr)
      intro t3 S3 s3 tl3 v3 h3 tk3 hr hn3 rep3 hv3 aft3 F3 N3
      ((try dsimp only); (try k_fold); (try k_sweep))
      k_steps
      (k_dflt refine' PC.meth (pre := []) ?q1 (mt_need w) ((argsS) X' ?q4 (mt_need w).kp) ?q2 ?qv ?qr hO ?q0 B' ?q4 X' ?q6 T' hd hu aft3.lg rep3 Off.nil ?q7 rfl ?q8 ?_ ?qe; (case q4 => k_asm); (case q6 => k_asm); (case q7 => exact rfl); (case q8 => exact rfl); ((try (case ak => exact rfl)); (try (case al => exact rfl)); (try (case am => decide +kernel)); (try (case ar => exact rfl))); (case qr => exact hr); (case q2 => exact fun _ => need_pc w f S3 s3 rep3 93 _ (by decide +kernel) _); (case qv => exact fun _ _ _ _ _ h => h); (case q1 => exact rfl); (case q0 => exact rm_leaf rfl); (case qe => exact PC.leave (σ := s) exc G N (by k_asm) (pre := []) (by k_asm) aft3.lg rfl rfl); clear hr)
      rintro u4 S4 s4 tl4 v4 h4 tk4 hr hn4 rep4 rfl aft4 F4 N4
      obtain ⟨o, rfl, o1, o2, o3, o5⟩ := hv1.mono fun p hp => aft4.sub p (aft3.sub p (aft2.sub p hp))
      replace N4 := News.no N4 fun p hp => mem_rdL (List.mem_append_right _ (o1 p hp))
      ((try dsimp only); (try k_fold); (try k_sweep))
      k_steps
      (k_dflt refine' Node.use B' ?q4 X' ?q6 T' hd hu (rm_leaf rfl) rfl ?_; (case q4 => k_asm); (case q6 => k_asm); intro an9 dn9 kn1 kn2 kn3 kn4 h9 tk9 F9 N9; ((try dsimp only); (try k_fold); (try k_sweep)))
      obtain ⟨tl5, N5, lg5, tv5, -⟩ := Node.fold (t := .node .index [t1, t3]) (pre := [_, _, _]) N9 rfl (TreeV.wl ⟨o, rfl, fun p hp => List.mem_append_left tl4 hp, o2, o3.mono (fun p hp => List.mem_append_right _ hp), o5⟩ ((hv3.mono fun p hp => List.mem_append_right _ (aft4.sub p hp)).wl .nil)) (Nat.le_of_ble_eq_true rfl) aft4.lg (fun p hp => aft4.lg.off p (o1 p hp))
      clear N9
      k_steps
      (rename Fr _ _ _ _ => F0)
      (rename News _ _ _ _ => N0)
      exact step_next F0 N0 (Nat.lt_succ_self _) ⟨S4, s4, tl5, _, _, _, mvl (by (intro y9 hy9; (repeat (refine Eq.trans (if_neg (fun e9 => by (subst e9; simp only [List.contains_cons, beq_self_eq_true, Bool.true_or, Bool.or_true, reduceCtorEq] at hy9))) ?_)); exact mvf_off hy9)), rfl, rep4, hn4.trans (hn3.trans (hn2.trans hn1)), lg5, tv5, hr, Nat.le_of_succ_le hkn⟩
  · rw [hb] at hr
    have e1 := val_eq (y := Str.ofString ".") (sign_val rep1 hb) (show _ = true by decide +kernel)
    k_steps
    (k_dflt refine' PC.takeAttr (pre := []) ?q1 ?qa (ta_value w) ?qr hO ?q0 B' ?q4 X' ?q6 T' hd hu lg1 rep1 Off.nil ?q7 rfl ?q8 ?_ ?qe; (case q4 => k_asm); (case q6 => k_asm); (case q7 => exact rfl); (case q8 => exact rfl); (case qr => exact hr); (case q1 => exact rfl); (case qa => exact rfl); (case q0 => exact rm_leaf rfl); (case qe => exact PC.leave (σ := s) exc G N (by k_asm) (pre := []) (by k_asm) lg1 rfl rfl); clear hr)
    intro S2 s2 tl2 h2 tk2 hr hn2 rep2 aft2 F2 N2
    replace hr := members_prop hr
    obtain ⟨o, rfl, o1, o2, o3, o5⟩ := hv1.mono aft2.sub
    replace N2 := News.no N2 fun p hp => mem_rdL (List.mem_append_right _ (o1 p hp))
    ((try dsimp only); (try k_fold); (try k_sweep))
    k_steps
    (k_dflt refine' PC.meth (pre := [_, _, _]) ?q1 (mt_property_name w) ((args0) X' ?q4 (mt_property_name w).kp) ?q2 ?qv ?qr hO ?q0 B' ?q4 X' ?q6 T' hd hu aft2.lg rep2 (fun p hp => aft2.lg.off p (o1 p hp)) ?q7 rfl ?q8 ?_ ?qe; (case q4 => k_asm); (case q6 => k_asm); (case q7 => exact rfl); (case q8 => exact rfl); ((try (case ak => exact rfl)); (try (case al => exact rfl)); (try (case am => decide +kernel)); (try (case ar => exact rfl))); (case qr => exact hr); (case q2 => exact fun _ => property_name_pc w f S2 s2 rep2); (case qv => exact fun _ _ _ _ _ h => h); (case q1 => exact rfl); (case q0 => exact rm_leaf rfl); (case qe => exact PC.leave (σ := s) exc G N (by k_asm) (pre := [_, _, _]) (by k_asm) aft2.lg rfl rfl); clear hr)
    rintro a3 S3 s3 tl3 v3 h3 tk3 hr hn3 rep3 ⟨rfl, rfl⟩ aft3 F3 N3
    ((try dsimp only); (try k_fold); (try k_sweep))
    k_steps
    (k_dflt refine' Node.use B' ?q4 X' ?q6 T' hd hu (rm_leaf rfl) rfl ?_; (case q4 => k_asm); (case q6 => k_asm); intro an9 dn9 kn1 kn2 kn3 kn4 h9 tk9 F9 N9; ((try dsimp only); (try k_fold); (try k_sweep)))
    obtain ⟨tl4, N4, lg4, tv4, -⟩ := Node.fold (t := .node .member [t1]) (pre := [_, _, _]) N9 rfl (TreeV.wl ⟨o, rfl, fun p hp => List.mem_append_left tl3 hp, o2, o3.mono (fun p hp => List.mem_append_right _ (aft3.sub p hp)), o5⟩ (.plain .nil)) (Nat.le_of_ble_eq_true rfl) aft3.lg (fun p hp => aft2.lg.off p (o1 p hp))
    clear N9
    k_steps
    (rename Fr _ _ _ _ => F0)
    (rename News _ _ _ _ => N0)
    exact step_next F0 N0 (Nat.lt_succ_self _) ⟨S3, s3, tl4, _, _, _, mvl (by (intro y9 hy9; (repeat (refine Eq.trans (if_neg (fun e9 => by (subst e9; simp only [List.contains_cons, beq_self_eq_true, Bool.true_or, Bool.or_true, reduceCtorEq] at hy9))) ?_)); exact mvf_off hy9)), rfl, rep3, hn3.trans (hn2.trans hn1), lg4, tv4, hr, Nat.le_of_succ_le hkn⟩
end
section
local macro_rules | `(tactic| walk_at "eval IfExp") => `(tactic| (k_here; (with_reducible show wpAny _ _ (eval (Expr.IfExp _ (Expr.Call (Expr.Attribute (Expr.Name (Str.ofString "self") _) (Str.ofString "creation") _) _ _ _) _ _) _) _ _ _); refine hold_ ?_))
theorem mt_array (w : World) : Meth w (Str.ofString "array") 873 := ⟨by k_is, by k_is, by k_is, by k_is, fun _ _ _ _ => rfl⟩
set_option maxRecDepth 100000 in
set_option maxHeartbeats 8000000 in
theorem cr_step (w : World) (f : Fx) (n : Nat) (ih : Ih w f n) : SpF w f 27 845 [] creation (n + 1) := by
  intro S s₀ rep hO
  generalize hr : creation (n + 1) s₀ = r at hO ⊢
  unfold creation at hr
  ((intro dp un gd env outer A₀ base h₀ L m p loose mean mg mb s Q E B F X N T hk hd hu ret exc; refine wpAny_call ?_; k_dflt (refine' code_defE ?k1 ?k2 ?k3 ?k4 ?k5 ?kA ?kF ?kK ?k6 ?k7 ?k8 ?k9 ?kB ?_ ?c2 ?c3 ?c4 ?c5; (case kA => exact rfl); (case kF => exact Stands.frame (by assumption)); (case kK => exact Stands.kind (by assumption)); (case k1 => k_asm); (case k2 => k_asm); (case k3 => k_asm); (case k4 => k_asm); (case k5 => k_asm); (case k6 => k_is); (case k7 => k_is); (case k8 => exact Nat.lt_of_le_of_lt (Nat.le_add_right _ _) hd); (case k9 => exact BindsTo.of_eq rfl); (case c5 => decide); (case kB => exact locs rfl); (case c2 => exact rfl); (case c3 => exact rfl); (case c4 => exact rfl); k_whole; intro g L' h' FG F' N' B' X' T' G; (try dsimp only); (try k_fold))))
  k_steps
  (k_dflt refine' PC.takeAttr (pre := []) ?q1 ?qa (ta_line w) ?qr hO ?q0 B' ?q4 X' ?q6 T' hd hu Lg.nil rep Off.nil ?q7 rfl ?q8 ?_ ?qe; (case q4 => k_asm); (case q6 => k_asm); (case q7 => exact rfl); (case q8 => exact rfl); (case qr => exact hr); (case q1 => exact rfl); (case qa => exact rfl); (case q0 => exact rm_leaf rfl); (case qe => exact PC.leave (σ := s) exc G N (by k_asm) (pre := []) (by k_asm) Lg.nil rfl rfl); clear hr)
  intro S1 s1 tl1 h1 tk1 hr hn1 rep1 aft1 F1 N1
  ((try dsimp only); (try k_fold); (try k_sweep))
  k_steps
  (k_dflt refine' PC.meth (pre := []) ?q1 (mt_go_in w) ((args0) X' ?q4 (mt_go_in w).kp) ?q2 ?qv ?qr hO ?q0 B' ?q4 X' ?q6 T' hd hu aft1.lg rep1 Off.nil ?q7 rfl ?q8 ?_ ?qe; (case q4 => k_asm); (case q6 => k_asm); (case q7 => exact rfl); (case q8 => exact rfl); ((try (case ak => exact rfl)); (try (case al => exact rfl)); (try (case am => decide +kernel)); (try (case ar => exact rfl))); (case qr => exact hr); (case q2 => exact fun _ _ => go_in_pc w f S1 s1 rep1); (case qv => exact fun _ _ _ _ _ h => h); (case q1 => exact rfl); (case q0 => exact rm_leaf rfl); (case qe => exact PC.leave (σ := s) exc G N (by k_asm) (pre := []) (by k_asm) aft1.lg rfl rfl); clear hr)
  rintro u2 S2 s2 tl2 v2 h2 tk2 hr hn2 rep2 ⟨rfl, h40⟩ aft2 F2 N2
  have hm2 : s2.nest = s₀.nest + 1 := hn2.trans (congrArg Nat.succ hn1)
  have hl2 : s2.nest ≤ 40 := by rw [hn2]; exact h40
  ((try dsimp only); (try k_fold); (try k_sweep))
  k_steps
  refine MethodCall_ ?_
  k_steps
  (k_dflt refine' PC.nop (pre := []) ?q1 ?q1b ?q1c (ih n (Nat.le_refl _)) ?qr hO ?q0 B' ?q4 X' ?q6 T' hd hu aft2.lg rep2 Off.nil ?q7 rfl ?q8 ?_ ?qe; (case q4 => k_asm); (case q6 => k_asm); (case q7 => exact rfl); (case q8 => exact rfl); (case qr => exact hr); (case q1 => exact rfl); (case q1b => exact rfl); (case q1c => exact rfl); (case q0 => exact rm_down hm2 hl2 rfl); (case qe => exact fun hh F9 N9 => PC.leave (σ := s) (σ' := { s with heap := hh }) exc G N F9 (pre := []) N9 aft2.lg rfl rfl); clear hr)
  intro t3 S3 s3 tl3 v3 hh3 h3 tk3 hr hn3 rep3 hv3 aft3 F3 N3
  ((try dsimp only); (try k_fold); (try k_sweep))
  k_steps
  (k_dflt refine' PC.usex (pre := []) ?q2 ?qx ?qv ?qr hO B' ?q4 X' ?q6 T' ⟨rfl, rfl⟩ (room_in hd ?q0) (unit_in hu ?q0) aft3.lg rep3 Off.nil ?_ ?qe; (case q4 => k_asm); (case q6 => k_asm); (case qr => exact hr); (case q2 => exact (ih n (Nat.le_refl _)).me S3 s3 t3 v3 tl3 rep3 aft3.lg.off hv3); (case qx => exact fun _ h => h); (case qv => exact treeV_mono w); (case q0 => exact rm_down (hn3.trans hm2) (by rw [hn3]; exact hl2) rfl); (case qe => exact PC.leave (σ := s) exc G N (by k_asm) (pre := []) (by k_asm) aft3.lg rfl rfl); clear hr)
  intro t4 S4 s4 tl4 v4 h4 tk4 hr hn4 rep4 hv4 aft4 F4 N4
  have hm4 : s4.nest = s₀.nest + 1 := hn4.trans (hn3.trans hm2)
  replace hr : (R.ok () (goOut s4)).bind (fun _ s => if isSign s 40 then (arguments n s).bind fun as s => .ok (.node .other (t4 :: as)) s else R.ok (.node .other [t4]) s) = r := hr
  ((try dsimp only); (try k_fold); (try k_sweep))
  k_steps
  (k_dflt refine' PC.meth (pre := []) ?q1 (mt_go_out w) ((args0) X' ?q4 (mt_go_out w).kp) ?q2 ?qv ?qr hO ?q0 B' ?q4 X' ?q6 T' hd hu aft4.lg rep4 Off.nil ?q7 rfl ?q8 ?_ ?qe; (case q4 => k_asm); (case q6 => k_asm); (case q7 => exact rfl); (case q8 => exact rfl); ((try (case ak => exact rfl)); (try (case al => exact rfl)); (try (case am => decide +kernel)); (try (case ar => exact rfl))); (case qr => exact hr); (case q2 => exact fun _ _ => go_out_pc w f S4 s4 rep4 (by rw [hm4]; exact Nat.succ_pos _)); (case qv => exact fun _ _ _ _ _ h => h); (case q1 => exact rfl); (case q0 => exact rm_leaf rfl); (case qe => exact PC.leave (σ := s) exc G N (by k_asm) (pre := []) (by k_asm) aft4.lg rfl rfl); clear hr)
  rintro u5 S5 s5 tl5 v5 h5 tk5 hr hn5 rep5 rfl aft5 F5 N5
  have hm5 : s5.nest = s₀.nest := hn5.trans (congrArg Nat.pred hm4)
  ((try dsimp only); (try k_fold); (try k_sweep))
  k_steps
  (k_dflt refine' QC.meth (pre := []) ?q1 (mt_is_sign w) ((argsS) X' ?q4 (mt_is_sign w).kp) ?q2 ?q0 B' ?q4 X' ?q6 T' hd hu ?q7 rfl ?q8 ?_; (case q4 => k_asm); (case q6 => k_asm); (case q7 => exact rfl); (case q8 => exact rfl); ((try (case ak => exact rfl)); (try (case al => exact rfl)); (try (case am => decide +kernel)); (try (case ar => exact rfl))); (case q2 => exact fun tk => sign_c rep5 (c := 40) (by decide +kernel) rfl _); (case q1 => exact rfl); (case q0 => exact rm_leaf rfl); rintro v9 rfl h9 tk9 F9 N9; ((try dsimp only); (try k_fold); (try k_sweep)))
  cases hb : isSign s5 40
  · rw [hb] at hr
    k_steps
    (k_dflt refine' Node.use B' ?q4 X' ?q6 T' hd hu (rm_leaf rfl) rfl ?_; (case q4 => k_asm); (case q6 => k_asm); intro an9 dn9 kn1 kn2 kn3 kn4 h9 tk9 F9 N9; ((try dsimp only); (try k_fold); (try k_sweep)))
    k_steps
    (refine' PC.finNode (pre := [_]) ret hr hm5 rep5 ?qk ?ql ?qb aft5.lg (Off.new (tail := tl5) N9 (fun p hp => .tail _ (.tail _ (.tail _ (.tail _ hp)))) (List.forall_mem_cons.mpr ⟨.tail _ (.tail _ (.tail _ (.head _))), List.forall_mem_nil _⟩) rfl) ?qF G N ?qF2 ?qN2 ?qN; (case qF => assumption); (case qF2 => assumption); (case qN2 => assumption); (case qN => assumption); (case qk => exact ⟨by decide +kernel, by decide +kernel⟩); (case ql => exact (hv4.mono fun p hp => .tail _ (aft5.sub p hp)).wl (.list (ts₁ := []) (ts₂ := []) (.head _) .nil .nil)); (case qb => exact (Nat.le_of_ble_eq_true rfl)))
  · rw [hb] at hr
    replace hr : ((arguments n s5).bind fun as s => .ok (.node .other (t4 :: as)) s) = r := hr
    k_steps
    (k_dflt refine' PC.meth (pre := []) ?q1 (mt_arguments w) ((args0) X' ?q4 (mt_arguments w).kp) ?q2 ?qv ?qr hO ?q0 B' ?q4 X' ?q6 T' hd hu aft5.lg rep5 Off.nil ?q7 rfl ?q8 ?_ ?qe; (case q4 => k_asm); (case q6 => k_asm); (case q7 => exact rfl); (case q8 => exact rfl); ((try (case ak => exact rfl)); (try (case al => exact rfl)); (try (case am => decide +kernel)); (try (case ar => exact rfl))); (case qr => exact hr); (case q2 => exact fun _ => (ih n (Nat.le_refl _)).ar S5 s5 rep5); (case qv => exact listV_mono w); (case q1 => exact rfl); (case q0 => exact rm_same hm5 rfl); (case qe => exact PC.leave (σ := s) exc G N (by k_asm) (pre := []) (by k_asm) aft5.lg rfl rfl); clear hr)
    rintro as S6 s6 tl6 v6 h6 tk6 hr hn6 rep6 ⟨p6, its6, n6, c6, rfl, a1, a2, a3⟩ aft6 F6 N6
    ((try dsimp only); (try k_fold); (try k_sweep))
    k_steps
    (k_dflt refine' Node.use B' ?q4 X' ?q6 T' hd hu (rm_leaf rfl) rfl ?_; (case q4 => k_asm); (case q6 => k_asm); intro an9 dn9 kn1 kn2 kn3 kn4 h9 tk9 F9 N9; ((try dsimp only); (try k_fold); (try k_sweep)))
    k_steps
    (refine' PC.finNode (pre := []) ret hr (hn6.trans hm5) rep6 ?qk ?ql ?qb aft6.lg Off.nil ?qF G N ?qF2 ?qN2 ?qN; (case qF => assumption); (case qF2 => assumption); (case qN2 => assumption); (case qN => assumption); (case qk => exact ⟨by decide +kernel, by decide +kernel⟩); (case ql => exact (hv4.mono fun p hp => aft6.sub p (aft5.sub p hp)).wl (WL.one a1 a2)); (case qb => exact (Nat.le_trans (Nat.succ_le_succ (Nat.succ_le_succ a3)) (by decide))))
set_option maxRecDepth 100000 in
set_option maxHeartbeats 8000000 in
theorem ar_step (w : World) (f : Fx) (n : Nat) (hn0 : n ≤ 100000) (ih : Ih w f n) (S : RS) (s₀ : St) (rep : Rep f S s₀) (hO : arguments (n + 1) s₀ ≠ .oos) : PC w f (rm s₀ 26) S s₀ id (call (.ref 852) [.ref f.R]) (ListV w) (arguments (n + 1) s₀) := by
  generalize hr : arguments (n + 1) s₀ = r at hO ⊢
  unfold arguments at hr
  ((intro dp un gd env outer A₀ base h₀ L m p loose mean mg mb s Q E B F X N T hk hd hu ret exc; refine wpAny_call ?_; k_dflt (refine' code_defE ?k1 ?k2 ?k3 ?k4 ?k5 ?kA ?kF ?kK ?k6 ?k7 ?k8 ?k9 ?kB ?_ ?c2 ?c3 ?c4 ?c5; (case kA => exact rfl); (case kF => exact Stands.frame (by assumption)); (case kK => exact Stands.kind (by assumption)); (case k1 => k_asm); (case k2 => k_asm); (case k3 => k_asm); (case k4 => k_asm); (case k5 => k_asm); (case k6 => k_is); (case k7 => k_is); (case k8 => exact Nat.lt_of_le_of_lt (Nat.le_add_right _ _) hd); (case k9 => exact BindsTo.of_eq rfl); (case c5 => decide); (case kB => exact locs rfl); (case c2 => exact rfl); (case c3 => exact rfl); (case c4 => exact rfl); k_whole; intro g L' h' FG F' N' B' X' T' G; (try dsimp only); (try k_fold))))
  k_steps
  (k_dflt refine' PC.meth (pre := []) ?q1 (mt_need w) ((argsS) X' ?q4 (mt_need w).kp) ?q2 ?qv ?qr hO ?q0 B' ?q4 X' ?q6 T' hd hu Lg.nil rep Off.nil ?q7 rfl ?q8 ?_ ?qe; (case q4 => k_asm); (case q6 => k_asm); (case q7 => exact rfl); (case q8 => exact rfl); ((try (case ak => exact rfl)); (try (case al => exact rfl)); (try (case am => decide +kernel)); (try (case ar => exact rfl))); (case qr => exact hr); (case q2 => exact fun _ => need_pc w f S s₀ rep 40 _ (by decide +kernel) _); (case qv => exact fun _ _ _ _ _ h => h); (case q1 => exact rfl); (case q0 => exact rm_leaf rfl); (case qe => exact PC.leave (σ := s) exc G N (by k_asm) (pre := []) (by k_asm) Lg.nil rfl rfl); clear hr)
  rintro u1 S1 s1 tl1 v1 h1 tk1 hr hn1 rep1 rfl aft1 F1 N1
  ((try dsimp only); (try k_fold); (try k_sweep))
  (repeat (first | (k_unfold; (try dsimp only)) | ((fail_if_success (with_reducible show wpAny _ _ (exec (Stmt.While _ _ _ _) _) _ _ _)); walk1) | ((fail_if_success (with_reducible show wpAny _ _ (exec (Stmt.While _ _ _ _) _) _ _ _)); dsimp only; walk1)))
  (rename Fr _ _ _ _ => F0)
  (rename News _ _ _ _ => N0)
  (rename (∀ q : Addr × Obj, q ∈ rdL _ _ _ _ → _) => lD)
  refine While_inv2 (LJ w f S s₀ r n argLoop _ (fun _ => True) _) F0 N0 ⟨S1, s1, tl1, _, _, [], _, rfl, rfl, rep1, hn1, aft1.lg, trivial, .nil, fun q hq => Nat.ne_of_lt (lD q hq), hr, Nat.le_refl _, Nat.le_refl 0, Nat.le_trans (Nat.le_of_eq (Nat.zero_add n)) (Nat.le_trans hn0 (by decide))⟩ ?_
  clear F0 N0 lD hr aft1 rep1 hn1
  rintro k m9 news9 h9 tk9 F9 N9 ⟨S2, s2, tl2, its, c, ts, i, rfl, rfl, rep2, hn2, lg2, -, hw2, ap2, hr, hkn, hs1, hsz⟩
  cases k with
  | zero => exact absurd hr.symm hO
  | succ k =>
  unfold argLoop at hr
  k_steps
  have hf9 := ne_none (N9 _ (.head _)).1
  (k_dflt refine' QC.meth (pre := [_]) ?q1 (mt_is_sign w) ((argsS) X' ?q4 (mt_is_sign w).kp) ?q2 ?q0 B' ?q4 X' ?q6 T' hd hu ?q7 rfl ?q8 ?_; (case q4 => k_asm); (case q6 => k_asm); (case q7 => exact rfl); (case q8 => exact rfl); ((try (case ak => exact rfl)); (try (case al => exact rfl)); (try (case am => decide +kernel)); (try (case ar => exact rfl))); (case q2 => exact fun tk => sign_c rep2 (c := 41) (by decide +kernel) rfl _); (case q1 => exact rfl); (case q0 => exact rm_leaf rfl); rintro v9 rfl h9 tk9 F9 N9; ((try dsimp only); (try k_fold); (try k_sweep)))
  cases hb : isSign s2 41
  · rw [hb] at hr
    replace hr : ((assignment k s2).bind fun t s => (eat s 44).bind fun b s => if b then (if isSign s 41 then fail s else argLoop k (ts ++ [t]) s) else (need s 41).bind fun _ s => .ok (ts ++ [t]) s) = r := hr
    k_steps
    (rename News _ _ _ ((_, listOf its c) :: rdL _ _ _ _) => N3)
    have hf3 := ne_none (N3 _ (.head _)).1
    (k_dflt refine' PC.meth (pre := [_]) ?q1 (mt_assignment w) ((argsB) X' ?q4 (mt_assignment w).kp) ?q2 ?qv ?qr hO ?q0 B' ?q4 X' ?q6 T' hd hu lg2 rep2 (Off.fd (x := (_, listOf its c)) ap2) ?q7 rfl ?q8 ?_ ?qe; (case q4 => k_asm); (case q6 => k_asm); (case q7 => exact rfl); (case q8 => exact rfl); ((try (case ak => exact rfl)); (try (case al => exact rfl)); (try (case am => decide +kernel)); (try (case ar => exact rfl))); (case qr => exact hr); (case q2 => exact fun _ => (ih k (Nat.le_of_succ_le hkn)).asg S2 s2 rep2); (case qv => exact treeV_mono w); (case q1 => exact rfl); (case q0 => exact rm_same hn2 rfl); (case qe => exact PC.leave (σ := s) exc G N (by k_asm) (pre := [_]) (by k_asm) lg2 rfl rfl); clear hr)
    intro t4 S4 s4 tl4 v4 h4 tk4 hr hn4 rep4 hv4 aft4 F4 N4
    have ap4 := aft4.apart _ ap2 hf3
    have hw4 := hw2.pusha aft4.sub hv4
    ((try dsimp only); (try k_fold); (try k_sweep))
    k_steps
    k_dflt refine' append_head ?q1 ?q2 ap4 ?_ (size_line hs1 hsz)
    case q1 => k_asm
    case q2 => k_asm
    intro h5 F5 N5
    have hf5 := ne_none (N5 _ (.head _)).1
    ((try dsimp only); (try k_fold); (try k_sweep))
    k_steps
    (k_dflt refine' PC.meth (pre := [_]) ?q1 (mt_eat w) ((argsS) X' ?q4 (mt_eat w).kp) ?q2 ?qv ?qr hO ?q0 B' ?q4 X' ?q6 T' hd hu aft4.lg rep4 (Off.fd (x := (_, listOf (its.push v4) (c + 1))) ap4) ?q7 rfl ?q8 ?_ ?qe; (case q4 => k_asm); (case q6 => k_asm); (case q7 => exact rfl); (case q8 => exact rfl); ((try (case ak => exact rfl)); (try (case al => exact rfl)); (try (case am => decide +kernel)); (try (case ar => exact rfl))); (case qr => exact hr); (case q2 => exact fun _ => eat_pc w f S4 s4 rep4 44 _ (by decide +kernel) _); (case qv => exact vb_mono); (case q1 => exact rfl); (case q0 => exact rm_leaf rfl); (case qe => exact PC.leave (σ := s) exc G N (by k_asm) (pre := [_]) (by k_asm) aft4.lg rfl rfl); clear hr)
    rintro b S6 s6 tl6 v6 h6 tk6 hr hn6 rep6 rfl aft6 F6 N6
    have ap6 := aft6.apart _ ap4 hf5
    have hf6 := ne_none (N6 _ (.head _)).1
    have hm6 := hn6.trans (hn4.trans hn2)
    replace hw4 := hw4.mono aft6.sub
    ((try dsimp only); (try k_fold); (try k_sweep))
    cases b
    · replace hr : ((need s6 41).bind fun _ s => .ok (ts ++ [t4]) s) = r := hr
      k_steps
      refine step_brk ?_
      dsimp only
      k_steps
      (k_dflt refine' PC.meth (pre := [_]) ?q1 (mt_need w) ((argsS) X' ?q4 (mt_need w).kp) ?q2 ?qv ?qr hO ?q0 B' ?q4 X' ?q6 T' hd hu aft6.lg rep6 (Off.fd (x := (_, listOf (its.push v4) (c + 1))) ap6) ?q7 rfl ?q8 ?_ ?qe; (case q4 => k_asm); (case q6 => k_asm); (case q7 => exact rfl); (case q8 => exact rfl); ((try (case ak => exact rfl)); (try (case al => exact rfl)); (try (case am => decide +kernel)); (try (case ar => exact rfl))); (case qr => exact hr); (case q2 => exact fun _ => need_pc w f S6 s6 rep6 41 _ (by decide +kernel) _); (case qv => exact fun _ _ _ _ _ h => h); (case q1 => exact rfl); (case q0 => exact rm_leaf rfl); (case qe => exact PC.leave (σ := s) exc G N (by k_asm) (pre := [_]) (by k_asm) aft6.lg rfl rfl); clear hr)
      rintro u7 S7 s7 tl7 v7 h7 tk7 hr hn7 rep7 rfl aft7 F7 N7
      ((try dsimp only); (try k_fold); (try k_sweep))
      k_steps
      (refine' PC.fin (pre := [_]) ret hr (hn7.trans hm6) rep7 ⟨_, _, _, _, rfl, .head _, hw4.mono (fun p hp => .tail _ (aft7.sub p hp)), le_top (count_up hsz)⟩ aft7.lg (Off.fd (x := (_, listOf (its.push v4) (c + 1))) (aft7.apart _ ap6 hf6)) ?qF G N ?qF2 ?qN2 ?qN; (case qF => assumption); (case qF2 => assumption); (case qN2 => assumption); (case qN => assumption))
    · replace hr : (if isSign s6 41 then fail s6 else argLoop k (ts ++ [t4]) s6) = r := hr
      k_steps
      (k_dflt refine' QC.meth (pre := [_]) ?q1 (mt_is_sign w) ((argsS) X' ?q4 (mt_is_sign w).kp) ?q2 ?q0 B' ?q4 X' ?q6 T' hd hu ?q7 rfl ?q8 ?_; (case q4 => k_asm); (case q6 => k_asm); (case q7 => exact rfl); (case q8 => exact rfl); ((try (case ak => exact rfl)); (try (case al => exact rfl)); (try (case am => decide +kernel)); (try (case ar => exact rfl))); (case q2 => exact fun tk => sign_c rep6 (c := 41) (by decide +kernel) rfl _); (case q1 => exact rfl); (case q0 => exact rm_leaf rfl); rintro v9 rfl h9 tk9 F9 N9; ((try dsimp only); (try k_fold); (try k_sweep)))
      cases hb6 : isSign s6 41
      · rw [hb6] at hr
        k_steps
        (rename Fr _ _ _ _ => F0)
        (rename News _ _ _ _ => N0)
        exact step_next F0 N0 (Nat.lt_succ_self _) ⟨S6, s6, tl6, its.push v4, c + 1, ts ++ [t4], i + 1, rfl, rfl, rep6, hm6, aft6.lg, trivial, hw4, ap6, hr, Nat.le_of_succ_le hkn, size_push hs1, count_up hsz⟩
      · rw [hb6] at hr
        replace hr : (fail s6 : R (List Tree)).bind (fun a s => .ok a s) = r := hr
        k_steps
        (k_dflt refine' PC.meth (pre := [_]) ?q1 (mt_unexpected w) ((args0) X' ?q4 (mt_unexpected w).kp) ?q2 ?qv ?qr hO ?q0 B' ?q4 X' ?q6 T' hd hu aft6.lg rep6 (Off.fd (x := (_, listOf (its.push v4) (c + 1))) ap6) ?q7 rfl ?q8 ?_ ?qe; (case q4 => k_asm); (case q6 => k_asm); (case q7 => exact rfl); (case q8 => exact rfl); ((try (case ak => exact rfl)); (try (case al => exact rfl)); (try (case am => decide +kernel)); (try (case ar => exact rfl))); (case qr => exact hr); (case q2 => exact fun _ _ => unexpected_pc w f S6 s6 rep6); (case qv => exact fun _ _ _ _ _ h => h); (case q1 => exact rfl); (case q0 => exact rm_leaf rfl); (case qe => exact PC.leave (σ := s) exc G N (by k_asm) (pre := [_]) (by k_asm) aft6.lg rfl rfl); clear hr)
        exact fun _ _ _ _ _ _ _ _ _ _ hv => hv.elim
  · rw [hb] at hr
    replace hr : ((need s2 41).bind fun _ s => .ok ts s) = r := hr
    k_steps
    (rename News _ _ _ ((_, listOf its c) :: rdL _ _ _ _) => N3)
    have hf3 := ne_none (N3 _ (.head _)).1
    (k_dflt refine' PC.meth (pre := [_]) ?q1 (mt_need w) ((argsS) X' ?q4 (mt_need w).kp) ?q2 ?qv ?qr hO ?q0 B' ?q4 X' ?q6 T' hd hu lg2 rep2 (Off.fd (x := (_, listOf its c)) ap2) ?q7 rfl ?q8 ?_ ?qe; (case q4 => k_asm); (case q6 => k_asm); (case q7 => exact rfl); (case q8 => exact rfl); ((try (case ak => exact rfl)); (try (case al => exact rfl)); (try (case am => decide +kernel)); (try (case ar => exact rfl))); (case qr => exact hr); (case q2 => exact fun _ => need_pc w f S2 s2 rep2 41 _ (by decide +kernel) _); (case qv => exact fun _ _ _ _ _ h => h); (case q1 => exact rfl); (case q0 => exact rm_leaf rfl); (case qe => exact PC.leave (σ := s) exc G N (by k_asm) (pre := [_]) (by k_asm) lg2 rfl rfl); clear hr)
    rintro u7 S7 s7 tl7 v7 h7 tk7 hr hn7 rep7 rfl aft7 F7 N7
    ((try dsimp only); (try k_fold); (try k_sweep))
    k_steps
    (refine' PC.fin (pre := [_]) ret hr (hn7.trans hn2) rep7 ⟨_, _, _, _, rfl, .head _, hw2.mono (fun p hp => .tail _ (aft7.sub p hp)), le_top hsz⟩ aft7.lg (Off.fd (x := (_, listOf its c)) (aft7.apart _ ap2 hf3)) ?qF G N ?qF2 ?qN2 ?qN; (case qF => assumption); (case qF2 => assumption); (case qN2 => assumption); (case qN => assumption))
end
section
theorem noSign {f : Fx} {S : RS} {s : St} (rep : Rep f S s) {c : Nat} (h : c ∉ sgList) : isSign s c = false := by
  by_cases hk : s.tk.kind = .sg
  · obtain ⟨d, hd, -, e⟩ := rep.sgv hk
    rw [e]
    exact beq_eq_false_iff_ne.mpr fun q => h (q ▸ hd)
  · exact isSign_ne rfl (sg_beq hk) c
theorem noSign2 {f : Fx} {S : RS} {s : St} (rep : Rep f S s) {x : Str} (h : (sgList.any fun c => (⟨#[c]⟩ : Str) == x) = false) : signIs S.t x = false := by
  unfold signIs
  rw [rep.tk.kind, kdS_sg]
  by_cases hk : s.tk.kind = .sg
  · obtain ⟨d, hd, hv, -⟩ := rep.sgv hk
    rw [hk, hv]
    exact Bool.eq_false_iff.mpr fun q => Bool.false_ne_true (h.symm.trans (List.any_eq_true.mpr ⟨d, hd, q⟩))
  · rw [sg_beq hk]; rfl
theorem sign_x {w : World} {f : Fx} {S : RS} {x : Str} {b : Bool} (hb : signIs S.t x = b) (xt : Tok) : QC w f 3 S (call (.ref 636) [.ref f.R, .str x xt]) (· = .bool b) := by
  rw [← hb]; exact is_sign_q w f S x xt
theorem kind_any2 (k : Kd) : ([Str.ofString "number", Str.ofString "text"].any fun x => x == kdS k) = false := by cases k <;> decide +kernel
theorem prim_nm {n : Nat} {s : St} {r : R Tree} (hr : primary (n + 1) s = r) (h : s.tk.kind = .nm) : ((take s).bind fun _ s => .ok (.node .name []) s) = r := by
  unfold primary at hr
  rw [h] at hr
  exact hr
theorem prim_other {n : Nat} {s : St} {r : R Tree} (hr : primary (n + 1) s = r) (h : ¬ s.tk.kind = .nm) (hk : ¬ s.tk.kind = .kw) :
    ((eat s 40).bind fun b s => if b then (expression n s).bind fun t s => (need s 41).bind fun _ s => .ok t s else if isSign s 91 then arrayM n s else fail s) = r := by
  unfold primary at hr
  cases q : s.tk.kind with
  | nm => exact absurd q h
  | kw => exact absurd q hk
  | fin =>
    rw [q] at hr
    rw [← hr, eat_no (isSign_ne q rfl 40)]
    show (if isSign s 91 then _ else _) = _
    rw [isSign_ne q rfl 91]; rfl
  | sg =>
    rw [q] at hr
    rw [← hr]
    cases hb : isSign s 40
    · rw [eat_no hb]; rfl
    · rw [eat_yes hb]; dsimp only; cases take s <;> rfl
set_option maxRecDepth 100000 in
set_option maxHeartbeats 8000000 in
theorem pr_step (w : World) (f : Fx) (n : Nat) (ih : Ih w f n) : SpF w f 27 859 [] primary (n + 1) := by
  intro S s₀ rep hO
  generalize hr : primary (n + 1) s₀ = r at hO ⊢
  by_cases h1 : s₀.tk.kind = .nm
  · have e1 : (S.t.kind == Str.ofString "name") = true := kindS rep h1 (beq_self_eq_true _)
    replace hr := prim_nm hr h1
    ((intro dp un gd env outer A₀ base h₀ L m p loose mean mg mb s Q E B F X N T hk hd hu ret exc; refine wpAny_call ?_; k_dflt (refine' code_defE ?k1 ?k2 ?k3 ?k4 ?k5 ?kA ?kF ?kK ?k6 ?k7 ?k8 ?k9 ?kB ?_ ?c2 ?c3 ?c4 ?c5; (case kA => exact rfl); (case kF => exact Stands.frame (by assumption)); (case kK => exact Stands.kind (by assumption)); (case k1 => k_asm); (case k2 => k_asm); (case k3 => k_asm); (case k4 => k_asm); (case k5 => k_asm); (case k6 => k_is); (case k7 => k_is); (case k8 => exact Nat.lt_of_le_of_lt (Nat.le_add_right _ _) hd); (case k9 => exact BindsTo.of_eq rfl); (case c5 => decide); (case kB => exact locs rfl); (case c2 => exact rfl); (case c3 => exact rfl); (case c4 => exact rfl); k_whole; intro g L' h' FG F' N' B' X' T' G; (try dsimp only); (try k_fold))))
    k_steps
    (k_dflt refine' PC.meth (pre := []) ?q1 (mt_need_name w) ((args0) X' ?q4 (mt_need_name w).kp) ?q2 ?qv ?qr hO ?q0 B' ?q4 X' ?q6 T' hd hu Lg.nil rep Off.nil ?q7 rfl ?q8 ?_ ?qe; (case q4 => k_asm); (case q6 => k_asm); (case q7 => exact rfl); (case q8 => exact rfl); ((try (case ak => exact rfl)); (try (case al => exact rfl)); (try (case am => decide +kernel)); (try (case ar => exact rfl))); (case qr => exact hr); (case q2 => exact fun _ => need_name_pc w f S s₀ rep h1); (case qv => exact fun _ _ _ _ _ h => h); (case q1 => exact rfl); (case q0 => exact rm_leaf rfl); (case qe => exact PC.leave (σ := s) exc G N (by k_asm) (pre := []) (by k_asm) Lg.nil rfl rfl); clear hr)
    rintro a1 S1 s1 tl1 v1 h1 tk1 hr hn1 rep1 ⟨rfl, rfl⟩ aft1 F1 N1
    ((try dsimp only); (try k_fold); (try k_sweep))
    k_steps
    (k_dflt refine' Node.use B' ?q4 X' ?q6 T' hd hu (rm_leaf rfl) rfl ?_; (case q4 => k_asm); (case q6 => k_asm); intro an9 dn9 kn1 kn2 kn3 kn4 h9 tk9 F9 N9; ((try dsimp only); (try k_fold); (try k_sweep)))
    k_steps
    (refine' PC.finNode (pre := []) ret hr hn1 rep1 ?qk ?ql ?qb aft1.lg Off.nil ?qF G N ?qF2 ?qN2 ?qN; (case qF => assumption); (case qF2 => assumption); (case qN2 => assumption); (case qN => assumption); (case qk => exact ⟨rfl, _, rfl⟩); (case ql => exact .plain .nil); (case qb => exact (Nat.le_of_ble_eq_true rfl)))
  by_cases h2 : s₀.tk.kind = .kw
  · unfold primary at hr
    rw [h2] at hr
    exact absurd hr.symm hO
  have e1 : (S.t.kind == Str.ofString "name") = false := by
    rw [rep.tk.kind]
    cases q : s₀.tk.kind with
    | nm => exact absurd q h1
    | kw => exact absurd q h2
    | sg => decide +kernel
    | fin => decide +kernel
  have e2 := kind_any2 s₀.tk.kind
  rw [← rep.tk.kind] at e2
  have e3 := kind_kw rep (beq_eq_false_iff_ne.mpr h2)
  replace hr := prim_other hr h1 h2
  ((intro dp un gd env outer A₀ base h₀ L m p loose mean mg mb s Q E B F X N T hk hd hu ret exc; refine wpAny_call ?_; k_dflt (refine' code_defE ?k1 ?k2 ?k3 ?k4 ?k5 ?kA ?kF ?kK ?k6 ?k7 ?k8 ?k9 ?kB ?_ ?c2 ?c3 ?c4 ?c5; (case kA => exact rfl); (case kF => exact Stands.frame (by assumption)); (case kK => exact Stands.kind (by assumption)); (case k1 => k_asm); (case k2 => k_asm); (case k3 => k_asm); (case k4 => k_asm); (case k5 => k_asm); (case k6 => k_is); (case k7 => k_is); (case k8 => exact Nat.lt_of_le_of_lt (Nat.le_add_right _ _) hd); (case k9 => exact BindsTo.of_eq rfl); (case c5 => decide); (case kB => exact locs rfl); (case c2 => exact rfl); (case c3 => exact rfl); (case c4 => exact rfl); k_whole; intro g L' h' FG F' N' B' X' T' G; (try dsimp only); (try k_fold))))
  k_steps
  (rename News _ _ _ (_ :: rdL _ _ _ _) => N1)
  replace N1 := News.tl N1
  (k_dflt refine' PC.meth (pre := []) ?q1 (mt_eat w) ((argsS) X' ?q4 (mt_eat w).kp) ?q2 ?qv ?qr hO ?q0 B' ?q4 X' ?q6 T' hd hu Lg.nil rep Off.nil ?q7 rfl ?q8 ?_ ?qe; (case q4 => k_asm); (case q6 => k_asm); (case q7 => exact rfl); (case q8 => exact rfl); ((try (case ak => exact rfl)); (try (case al => exact rfl)); (try (case am => decide +kernel)); (try (case ar => exact rfl))); (case qr => exact hr); (case q2 => exact fun _ => eat_pc w f S s₀ rep 40 _ (by decide +kernel) _); (case qv => exact vb_mono); (case q1 => exact rfl); (case q0 => exact rm_leaf rfl); (case qe => exact PC.leave (σ := s) exc G N (by k_asm) (pre := []) (by k_asm) Lg.nil rfl rfl); clear hr)
  rintro b S1 s1 tl1 v1 h1 tk1 hr hn1 rep1 rfl aft1 F1 N1
  ((try dsimp only); (try k_fold); (try k_sweep))
  cases b
  · replace hr : (if isSign s1 91 then arrayM n s1 else fail s1) = r := hr
    k_steps
    (k_dflt refine' QC.meth (pre := []) ?q1 (mt_is_sign w) ((argsS) X' ?q4 (mt_is_sign w).kp) ?q2 ?q0 B' ?q4 X' ?q6 T' hd hu ?q7 rfl ?q8 ?_; (case q4 => k_asm); (case q6 => k_asm); (case q7 => exact rfl); (case q8 => exact rfl); ((try (case ak => exact rfl)); (try (case al => exact rfl)); (try (case am => decide +kernel)); (try (case ar => exact rfl))); (case q2 => exact fun tk => sign_c rep1 (c := 91) (by decide +kernel) rfl _); (case q1 => exact rfl); (case q0 => exact rm_leaf rfl); rintro v9 rfl h9 tk9 F9 N9; ((try dsimp only); (try k_fold); (try k_sweep)))
    cases hb : isSign s1 91
    · rw [hb] at hr
      replace hr : (fail s1 : R Tree).bind (fun a s => .ok a s) = r := hr
      k_steps
      (k_dflt refine' QC.meth (pre := []) ?q1 (mt_is_sign w) ((argsS) X' ?q4 (mt_is_sign w).kp) ?q2 ?q0 B' ?q4 X' ?q6 T' hd hu ?q7 rfl ?q8 ?_; (case q4 => k_asm); (case q6 => k_asm); (case q7 => exact rfl); (case q8 => exact rfl); ((try (case ak => exact rfl)); (try (case al => exact rfl)); (try (case am => decide +kernel)); (try (case ar => exact rfl))); (case q2 => exact fun tk => sign_c rep1 (c := 123) (by decide +kernel) (noSign rep1 (by decide)) _); (case q1 => exact rfl); (case q0 => exact rm_leaf rfl); rintro v9 rfl h9 tk9 F9 N9; ((try dsimp only); (try k_fold); (try k_sweep)))
      k_steps
      (k_dflt refine' QC.meth (pre := []) ?q1 (mt_is_sign w) ((argsS) X' ?q4 (mt_is_sign w).kp) ?q2 ?q0 B' ?q4 X' ?q6 T' hd hu ?q7 rfl ?q8 ?_; (case q4 => k_asm); (case q6 => k_asm); (case q7 => exact rfl); (case q8 => exact rfl); ((try (case ak => exact rfl)); (try (case al => exact rfl)); (try (case am => decide +kernel)); (try (case ar => exact rfl))); (case q2 => exact fun tk => sign_c rep1 (c := 47) (by decide +kernel) (noSign rep1 (by decide)) _); (case q1 => exact rfl); (case q0 => exact rm_leaf rfl); rintro v9 rfl h9 tk9 F9 N9; ((try dsimp only); (try k_fold); (try k_sweep)))
      k_steps
      (k_dflt refine' QC.meth (pre := []) ?q1 (mt_is_sign w) ((argsS) X' ?q4 (mt_is_sign w).kp) ?q2 ?q0 B' ?q4 X' ?q6 T' hd hu ?q7 rfl ?q8 ?_; (case q4 => k_asm); (case q6 => k_asm); (case q7 => exact rfl); (case q8 => exact rfl); ((try (case ak => exact rfl)); (try (case al => exact rfl)); (try (case am => decide +kernel)); (try (case ar => exact rfl))); (case q2 => exact fun tk => sign_x (noSign2 rep1 (by decide +kernel)) _); (case q1 => exact rfl); (case q0 => exact rm_leaf rfl); rintro v9 rfl h9 tk9 F9 N9; ((try dsimp only); (try k_fold); (try k_sweep)))
      k_steps
      (k_dflt refine' PC.meth (pre := []) ?q1 (mt_unexpected w) ((args0) X' ?q4 (mt_unexpected w).kp) ?q2 ?qv ?qr hO ?q0 B' ?q4 X' ?q6 T' hd hu aft1.lg rep1 Off.nil ?q7 rfl ?q8 ?_ ?qe; (case q4 => k_asm); (case q6 => k_asm); (case q7 => exact rfl); (case q8 => exact rfl); ((try (case ak => exact rfl)); (try (case al => exact rfl)); (try (case am => decide +kernel)); (try (case ar => exact rfl))); (case qr => exact hr); (case q2 => exact fun _ _ => unexpected_pc w f S1 s1 rep1); (case qv => exact fun _ _ _ _ _ h => h); (case q1 => exact rfl); (case q0 => exact rm_leaf rfl); (case qe => exact PC.leave (σ := s) exc G N (by k_asm) (pre := []) (by k_asm) aft1.lg rfl rfl); clear hr)
      exact fun _ _ _ _ _ _ _ _ _ _ hv => hv.elim
    · rw [hb] at hr
      replace hr := bind_id (show arrayM n s1 = r from hr)
      k_steps
      (k_dflt refine' PC.meth (pre := []) ?q1 (mt_array w) ((args0) X' ?q4 (mt_array w).kp) ?q2 ?qv ?qr hO ?q0 B' ?q4 X' ?q6 T' hd hu aft1.lg rep1 Off.nil ?q7 rfl ?q8 ?_ ?qe; (case q4 => k_asm); (case q6 => k_asm); (case q7 => exact rfl); (case q8 => exact rfl); ((try (case ak => exact rfl)); (try (case al => exact rfl)); (try (case am => decide +kernel)); (try (case ar => exact rfl))); (case qr => exact hr); (case q2 => exact fun _ => (ih n (Nat.le_refl _)).aw S1 s1 rep1); (case qv => exact treeV_mono w); (case q1 => exact rfl); (case q0 => exact rm_same hn1 rfl); (case qe => exact PC.leave (σ := s) exc G N (by k_asm) (pre := []) (by k_asm) aft1.lg rfl rfl); clear hr)
      intro t2 S2 s2 tl2 v2 h2 tk2 hr hn2 rep2 hv2 aft2 F2 N2
      ((try dsimp only); (try k_fold); (try k_sweep))
      k_steps
      (refine' PC.fin (pre := []) ret hr (hn2.trans hn1) rep2 hv2 aft2.lg Off.nil ?qF G N ?qF2 ?qN2 ?qN; (case qF => assumption); (case qF2 => assumption); (case qN2 => assumption); (case qN => assumption))
  · replace hr : ((expression n s1).bind fun t s => (need s 41).bind fun _ s => .ok t s) = r := hr
    k_steps
    (k_dflt refine' PC.meth (pre := []) ?q1 (mt_expression w) ((argsB) X' ?q4 (mt_expression w).kp) ?q2 ?qv ?qr hO ?q0 B' ?q4 X' ?q6 T' hd hu aft1.lg rep1 Off.nil ?q7 rfl ?q8 ?_ ?qe; (case q4 => k_asm); (case q6 => k_asm); (case q7 => exact rfl); (case q8 => exact rfl); ((try (case ak => exact rfl)); (try (case al => exact rfl)); (try (case am => decide +kernel)); (try (case ar => exact rfl))); (case qr => exact hr); (case q2 => exact fun _ => (ih n (Nat.le_refl _)).ex S1 s1 rep1); (case qv => exact treeV_mono w); (case q1 => exact rfl); (case q0 => exact rm_same hn1 rfl); (case qe => exact PC.leave (σ := s) exc G N (by k_asm) (pre := []) (by k_asm) aft1.lg rfl rfl); clear hr)
    intro t2 S2 s2 tl2 v2 h2 tk2 hr hn2 rep2 hv2 aft2 F2 N2
    ((try dsimp only); (try k_fold); (try k_sweep))
    k_steps
    (k_dflt refine' PC.meth (pre := []) ?q1 (mt_need w) ((argsS) X' ?q4 (mt_need w).kp) ?q2 ?qv ?qr hO ?q0 B' ?q4 X' ?q6 T' hd hu aft2.lg rep2 Off.nil ?q7 rfl ?q8 ?_ ?qe; (case q4 => k_asm); (case q6 => k_asm); (case q7 => exact rfl); (case q8 => exact rfl); ((try (case ak => exact rfl)); (try (case al => exact rfl)); (try (case am => decide +kernel)); (try (case ar => exact rfl))); (case qr => exact hr); (case q2 => exact fun _ => need_pc w f S2 s2 rep2 41 _ (by decide +kernel) _); (case qv => exact fun _ _ _ _ _ h => h); (case q1 => exact rfl); (case q0 => exact rm_leaf rfl); (case qe => exact PC.leave (σ := s) exc G N (by k_asm) (pre := []) (by k_asm) aft2.lg rfl rfl); clear hr)
    rintro u3 S3 s3 tl3 v3 h3 tk3 hr hn3 rep3 rfl aft3 F3 N3
    ((try dsimp only); (try k_fold); (try k_sweep))
    k_steps
    (refine' PC.fin (pre := []) ret hr (hn3.trans (hn2.trans hn1)) rep3 (hv2.mono aft3.sub) aft3.lg Off.nil ?qF G N ?qF2 ?qN2 ?qN; (case qF => assumption); (case qF2 => assumption); (case qN2 => assumption); (case qN => assumption))
set_option maxRecDepth 100000 in
set_option maxHeartbeats 8000000 in
theorem aw_step (w : World) (f : Fx) (n : Nat) (hn0 : n ≤ 100000) (ih : Ih w f n) : SpF w f 26 873 [] arrayM (n + 1) := by
  intro S s₀ rep hO
  generalize hr : arrayM (n + 1) s₀ = r at hO ⊢
  unfold arrayM at hr
  ((intro dp un gd env outer A₀ base h₀ L m p loose mean mg mb s Q E B F X N T hk hd hu ret exc; refine wpAny_call ?_; k_dflt (refine' code_defE ?k1 ?k2 ?k3 ?k4 ?k5 ?kA ?kF ?kK ?k6 ?k7 ?k8 ?k9 ?kB ?_ ?c2 ?c3 ?c4 ?c5; (case kA => exact rfl); (case kF => exact Stands.frame (by assumption)); (case kK => exact Stands.kind (by assumption)); (case k1 => k_asm); (case k2 => k_asm); (case k3 => k_asm); (case k4 => k_asm); (case k5 => k_asm); (case k6 => k_is); (case k7 => k_is); (case k8 => exact Nat.lt_of_le_of_lt (Nat.le_add_right _ _) hd); (case k9 => exact BindsTo.of_eq rfl); (case c5 => decide); (case kB => exact locs rfl); (case c2 => exact rfl); (case c3 => exact rfl); (case c4 => exact rfl); k_whole; intro g L' h' FG F' N' B' X' T' G; (try dsimp only); (try k_fold))))
  k_steps
  (k_dflt refine' PC.takeAttr (pre := []) ?q1 ?qa (ta_line w) ?qr hO ?q0 B' ?q4 X' ?q6 T' hd hu Lg.nil rep Off.nil ?q7 rfl ?q8 ?_ ?qe; (case q4 => k_asm); (case q6 => k_asm); (case q7 => exact rfl); (case q8 => exact rfl); (case qr => exact hr); (case q1 => exact rfl); (case qa => exact rfl); (case q0 => exact rm_leaf rfl); (case qe => exact PC.leave (σ := s) exc G N (by k_asm) (pre := []) (by k_asm) Lg.nil rfl rfl); clear hr)
  intro S1 s1 tl1 h1 tk1 hr hn1 rep1 aft1 F1 N1
  ((try dsimp only); (try k_fold); (try k_sweep))
  (repeat (first | (k_unfold; (try dsimp only)) | ((fail_if_success (with_reducible show wpAny _ _ (exec (Stmt.While _ _ _ _) _) _ _ _)); walk1) | ((fail_if_success (with_reducible show wpAny _ _ (exec (Stmt.While _ _ _ _) _) _ _ _)); dsimp only; walk1)))
  (rename Fr _ _ _ _ => F0)
  (rename News _ _ _ _ => N0)
  (rename (∀ q : Addr × Obj, q ∈ rdL _ _ _ _ → _) => lD)
  refine While_inv2 (LJ w f S s₀ r (n + 1) arrLoop _ (fun _ => True) _) F0 N0 ⟨S1, s1, tl1, _, _, [], _, rfl, rfl, rep1, hn1, aft1.lg, trivial, .nil, fun q hq => Nat.ne_of_lt (lD q hq), hr, Nat.le_refl _, Nat.le_refl 0, Nat.le_trans (Nat.le_of_eq (Nat.zero_add _)) (Nat.le_trans (Nat.succ_le_succ hn0) (by decide))⟩ ?_
  clear F0 N0 lD hr aft1 rep1 hn1
  rintro k m9 news9 h9 tk9 F9 N9 ⟨S2, s2, tl2, its, c, ts, i, rfl, rfl, rep2, hn2, lg2, -, hw2, ap2, hr, hkn, hs1, hsz⟩
  cases k with
  | zero => exact absurd hr.symm hO
  | succ k =>
  unfold arrLoop at hr
  k_steps
  (k_dflt refine' QC.meth (pre := [_]) ?q1 (mt_is_sign w) ((argsS) X' ?q4 (mt_is_sign w).kp) ?q2 ?q0 B' ?q4 X' ?q6 T' hd hu ?q7 rfl ?q8 ?_; (case q4 => k_asm); (case q6 => k_asm); (case q7 => exact rfl); (case q8 => exact rfl); ((try (case ak => exact rfl)); (try (case al => exact rfl)); (try (case am => decide +kernel)); (try (case ar => exact rfl))); (case q2 => exact fun tk => sign_c rep2 (c := 93) (by decide +kernel) rfl _); (case q1 => exact rfl); (case q0 => exact rm_leaf rfl); rintro v9 rfl h9 tk9 F9 N9; ((try dsimp only); (try k_fold); (try k_sweep)))
  (rename News _ _ _ ((_, listOf its c) :: rdL _ _ _ _) => N3)
  have hf3 := ne_none (N3 _ (.head _)).1
  cases hb : isSign s2 93
  · rw [hb] at hr
    cases hb4 : isSign s2 44
    · rw [hb4] at hr
      replace hr : (eat s2 44).bind (fun b s => if b then .oos else (assignment k s).bind fun t s => if isSign s 93 then arrLoop k (ts ++ [t]) s else (need s 44).bind fun _ s => arrLoop k (ts ++ [t]) s) = r := by rw [eat_no hb4]; exact hr
      k_steps
      (k_dflt refine' PC.meth (pre := [_]) ?q1 (mt_eat w) ((argsS) X' ?q4 (mt_eat w).kp) ?q2 ?qv ?qr hO ?q0 B' ?q4 X' ?q6 T' hd hu lg2 rep2 (Off.fd (x := (_, listOf its c)) ap2) ?q7 rfl ?q8 ?_ ?qe; (case q4 => k_asm); (case q6 => k_asm); (case q7 => exact rfl); (case q8 => exact rfl); ((try (case ak => exact rfl)); (try (case al => exact rfl)); (try (case am => decide +kernel)); (try (case ar => exact rfl))); (case qr => exact hr); (case q2 => exact fun _ => eat_pc w f S2 s2 rep2 44 _ (by decide +kernel) _); (case qv => exact vb_mono); (case q1 => exact rfl); (case q0 => exact rm_leaf rfl); (case qe => exact PC.leave (σ := s) exc G N (by k_asm) (pre := [_]) (by k_asm) lg2 rfl rfl); clear hr)
      rintro b S4 s4 tl4 v4 h4 tk4 hr hn4 rep4 rfl aft4 F4 N4
      have ap4 := aft4.apart _ ap2 hf3
      have hf4 := ne_none (N4 _ (.head _)).1
      have hm4 := hn4.trans hn2
      ((try dsimp only); (try k_fold); (try k_sweep))
      cases b
      · replace hr : ((assignment k s4).bind fun t s => if isSign s 93 then arrLoop k (ts ++ [t]) s else (need s 44).bind fun _ s => arrLoop k (ts ++ [t]) s) = r := hr
        k_steps
        (k_dflt refine' PC.meth (pre := [_]) ?q1 (mt_assignment w) ((argsB) X' ?q4 (mt_assignment w).kp) ?q2 ?qv ?qr hO ?q0 B' ?q4 X' ?q6 T' hd hu aft4.lg rep4 (Off.fd (x := (_, listOf its c)) ap4) ?q7 rfl ?q8 ?_ ?qe; (case q4 => k_asm); (case q6 => k_asm); (case q7 => exact rfl); (case q8 => exact rfl); ((try (case ak => exact rfl)); (try (case al => exact rfl)); (try (case am => decide +kernel)); (try (case ar => exact rfl))); (case qr => exact hr); (case q2 => exact fun _ => (ih k (Nat.le_of_succ_le_succ hkn)).asg S4 s4 rep4); (case qv => exact treeV_mono w); (case q1 => exact rfl); (case q0 => exact rm_same hm4 rfl); (case qe => exact PC.leave (σ := s) exc G N (by k_asm) (pre := [_]) (by k_asm) aft4.lg rfl rfl); clear hr)
        intro t5 S5 s5 tl5 v5 h5 tk5 hr hn5 rep5 hv5 aft5 F5 N5
        have ap5 := aft5.apart _ ap4 hf4
        have hw5 := hw2.pusha (fun p hp => aft5.sub p (aft4.sub p hp)) hv5
        have hm5 := hn5.trans hm4
        ((try dsimp only); (try k_fold); (try k_sweep))
        k_steps
        k_dflt refine' append_head ?q1 ?q2 ap5 ?_ (size_line hs1 hsz)
        case q1 => k_asm
        case q2 => k_asm
        intro h6 F6 N6
        have hf6 := ne_none (N6 _ (.head _)).1
        ((try dsimp only); (try k_fold); (try k_sweep))
        k_steps
        (k_dflt refine' QC.meth (pre := [_]) ?q1 (mt_is_sign w) ((argsS) X' ?q4 (mt_is_sign w).kp) ?q2 ?q0 B' ?q4 X' ?q6 T' hd hu ?q7 rfl ?q8 ?_; (case q4 => k_asm); (case q6 => k_asm); (case q7 => exact rfl); (case q8 => exact rfl); ((try (case ak => exact rfl)); (try (case al => exact rfl)); (try (case am => decide +kernel)); (try (case ar => exact rfl))); (case q2 => exact fun tk => sign_c rep5 (c := 93) (by decide +kernel) rfl _); (case q1 => exact rfl); (case q0 => exact rm_leaf rfl); rintro v9 rfl h9 tk9 F9 N9; ((try dsimp only); (try k_fold); (try k_sweep)))
        (rename News _ _ _ ((_, listOf _ _) :: rdL _ _ _ _) => N7)
        have hf7 := ne_none (N7 _ (.head _)).1
        cases hb5 : isSign s5 93
        · rw [hb5] at hr
          replace hr : ((need s5 44).bind fun _ s => arrLoop k (ts ++ [t5]) s) = r := hr
          k_steps
          (k_dflt refine' PC.meth (pre := [_]) ?q1 (mt_need w) ((argsS) X' ?q4 (mt_need w).kp) ?q2 ?qv ?qr hO ?q0 B' ?q4 X' ?q6 T' hd hu aft5.lg rep5 (Off.fd (x := (_, listOf (its.push v5) (c + 1))) ap5) ?q7 rfl ?q8 ?_ ?qe; (case q4 => k_asm); (case q6 => k_asm); (case q7 => exact rfl); (case q8 => exact rfl); ((try (case ak => exact rfl)); (try (case al => exact rfl)); (try (case am => decide +kernel)); (try (case ar => exact rfl))); (case qr => exact hr); (case q2 => exact fun _ => need_pc w f S5 s5 rep5 44 _ (by decide +kernel) _); (case qv => exact fun _ _ _ _ _ h => h); (case q1 => exact rfl); (case q0 => exact rm_leaf rfl); (case qe => exact PC.leave (σ := s) exc G N (by k_asm) (pre := [_]) (by k_asm) aft5.lg rfl rfl); clear hr)
          rintro u8 S8 s8 tl8 v8 h8 tk8 hr hn8 rep8 rfl aft8 F8 N8
          ((try dsimp only); (try k_fold); (try k_sweep))
          k_steps
          (rename Fr _ _ _ _ => F0)
          (rename News _ _ _ _ => N0)
          exact step_next F0 N0 (Nat.lt_succ_self _) ⟨S8, s8, tl8, its.push v5, c + 1, ts ++ [t5], i + 1, rfl, rfl, rep8, hn8.trans hm5, aft8.lg, trivial, hw5.mono aft8.sub, aft8.apart _ ap5 hf7, hr, Nat.le_of_succ_le hkn, size_push hs1, count_up hsz⟩
        · rw [hb5] at hr
          k_steps
          (rename Fr _ _ _ _ => F0)
          (rename News _ _ _ _ => N0)
          exact step_next F0 N0 (Nat.lt_succ_self _) ⟨S5, s5, tl5, its.push v5, c + 1, ts ++ [t5], i + 1, rfl, rfl, rep5, hm5, aft5.lg, trivial, hw5, ap5, hr, Nat.le_of_succ_le hkn, size_push hs1, count_up hsz⟩
      · exact absurd hr.symm hO
    · rw [hb4] at hr; exact absurd hr.symm hO
  · rw [hb] at hr
    replace hr : ((need s2 93).bind fun _ s => .ok (.node .other ts) s) = r := hr
    k_steps
    (k_dflt refine' PC.meth (pre := [_]) ?q1 (mt_need w) ((argsS) X' ?q4 (mt_need w).kp) ?q2 ?qv ?qr hO ?q0 B' ?q4 X' ?q6 T' hd hu lg2 rep2 (Off.fd (x := (_, listOf its c)) ap2) ?q7 rfl ?q8 ?_ ?qe; (case q4 => k_asm); (case q6 => k_asm); (case q7 => exact rfl); (case q8 => exact rfl); ((try (case ak => exact rfl)); (try (case al => exact rfl)); (try (case am => decide +kernel)); (try (case ar => exact rfl))); (case qr => exact hr); (case q2 => exact fun _ => need_pc w f S2 s2 rep2 93 _ (by decide +kernel) _); (case qv => exact fun _ _ _ _ _ h => h); (case q1 => exact rfl); (case q0 => exact rm_leaf rfl); (case qe => exact PC.leave (σ := s) exc G N (by k_asm) (pre := [_]) (by k_asm) lg2 rfl rfl); clear hr)
    rintro u7 S7 s7 tl7 v7 h7 tk7 hr hn7 rep7 rfl aft7 F7 N7
    ((try dsimp only); (try k_fold); (try k_sweep))
    k_steps
    (k_dflt refine' Node.use B' ?q4 X' ?q6 T' hd hu (rm_leaf rfl) rfl ?_; (case q4 => k_asm); (case q6 => k_asm); intro an9 dn9 kn1 kn2 kn3 kn4 h9 tk9 F9 N9; ((try dsimp only); (try k_fold); (try k_sweep)))
    k_steps
    (refine' PC.finNode (pre := [_]) ret hr (hn7.trans hn2) rep7 ?qk ?ql ?qb aft7.lg (Off.fd (x := (_, listOf its c)) (aft7.apart _ ap2 hf3)) ?qF G N ?qF2 ?qN2 ?qN; (case qF => assumption); (case qF2 => assumption); (case qN2 => assumption); (case qN => assumption); (case qk => exact ⟨by decide +kernel, by decide +kernel⟩); (case ql => exact WL.one (.head _) (hw2.mono fun p hp => .tail _ (aft7.sub p hp))); (case qb => exact (Nat.le_trans (Nat.succ_le_succ (le_top hsz)) (by decide))))
end
section
theorem sp_zero (w : World) (f : Fx) : Sp w f 0 where
  ex := fun _ _ _ h => absurd rfl h
  asg := fun _ _ _ h => absurd rfl h
  co := fun _ _ _ h => absurd rfl h
  b1 := fun _ _ _ _ h => absurd rfl h
  b10 := fun _ _ _ _ h => absurd rfl h
  un := fun _ _ _ h => absurd rfl h
  ob := fun _ _ _ h => absurd rfl h
  po := fun _ _ _ h => absurd rfl h
  lh := fun _ _ _ h => absurd rfl h
  me := fun _ _ _ _ _ _ _ _ h => absurd rfl h
  cr := fun _ _ _ h => absurd rfl h
  ar := fun _ _ _ h => absurd rfl h
  pr := fun _ _ _ h => absurd rfl h
  aw := fun _ s _ h => by
    refine absurd ?_ h
    unfold arrayM
    rcases take_cases s with q | ⟨tk, r, l, -, q⟩ <;> (rw [q]; rfl)
theorem sp_succ (w : World) (f : Fx) (n : Nat) (hn : n ≤ 100000) (ih : Ih w f n) : Sp w f (n + 1) where
  ex := ex_step w f n hn ih
  asg := asg_step w f n ih
  co := co_step w f n ih
  b1 := fun t => bi_step w f n 1 32 (.inl rfl) rfl (fun _ => rfl) ih t
  b10 := fun t => bi_step w f n 10 31 (.inr rfl) rfl (fun h => by cases h) ih t
  un := un_step w f n ih
  ob := ob_step w f n ih
  po := po_step w f n (lh_step w f n ih)
  lh := lh_step w f n ih
  me := fun S s t v l rep ol hv hO => me_step w f n ih S s t v l rep ol hv hO
  cr := cr_step w f n ih
  ar := fun S s rep hO => ar_step w f n hn ih S s rep hO
  pr := pr_step w f n ih
  aw := aw_step w f n hn ih
theorem sp_all (w : World) (f : Fx) : ∀ n, n ≤ 100000 → Ih w f n
  | 0, _, k, hk => by obtain rfl := Nat.le_zero.mp hk; exact sp_zero w f
  | n + 1, hn, k, hk => by
    have ih := sp_all w f n (Nat.le_of_succ_le hn)
    rcases Nat.lt_or_ge n k with h | h
    · obtain rfl : k = n + 1 := Nat.le_antisymm hk h
      exact sp_succ w f n (Nat.le_of_succ_le hn) ih
    · exact ih k h
theorem expression_pc (w : World) (f : Fx) (n : Nat) (hn : n ≤ 100000) : SpF w f 26 768 [.bool true] expression n := (sp_all w f n hn n (Nat.le_refl _)).ex
end
section
noncomputable def KL (w : World) (l : List (Addr × Obj)) : List Value → List Tree → Prop
  | [], [] => True
  | v :: vs, t :: ts => TreeV w t v l ∧ KL w l vs ts
  | _, _ => False
theorem WL.len {w : World} {l : List (Addr × Obj)} {n : Nat} {vs : List Value} {ts : List Tree} (x : WL w l n vs ts) : vs.length ≤ n := by
  induction x with
  | nil => exact Nat.le_refl _
  | plain _ ih => exact Nat.succ_le_succ ih
  | node o a d b _ _ _ ih => exact Nat.succ_le_succ ih
  | list a _ _ _ ih => exact Nat.succ_le_succ (Nat.le_trans ih (Nat.le_add_left _ _))
theorem WL.app {w : World} {l : List (Addr × Obj)} {n m : Nat} {vs us : List Value} {ts rs : List Tree} (x : WL w l n vs ts) (y : WL w l m us rs) : WL w l (n + m) (vs ++ us) (ts ++ rs) := by
  induction x with
  | nil => rw [Nat.zero_add]; exact y
  | plain _ ih => rw [Nat.succ_add]; exact .plain ih
  | node o a d b c _ _ ih => rw [Nat.succ_add]; exact .node o a d b c ih
  | list a b _ _ ih => rw [Nat.succ_add, List.append_assoc, Nat.add_assoc]; exact .list a b ih
noncomputable def CJ (w : World) (l : List (Addr × Obj)) (t : Tree) (wp fp : Nat) (m0 : Str → Option Value) (k : Nat) (m : Str → Option Value) (news : List (Addr × Obj)) : Prop :=
  ∃ vs wc fits fc ts done c, m = mvf [Str.ofString "part"] c m0 ∧ news = (wp, listOf (List.reverse vs).toArray wc) :: (fp, listOf fits fc) :: l ∧ WL w l k vs ts ∧ KL w l fits.toList done ∧ done ++ ts = t.kids ∧ fits.size + k ≤ 300000
theorem line3 {n : Nat} (h : n ≤ 300000) : n ≤ sizeLine := by rw [sizeLine_eq]; exact Nat.le_trans h (Nat.le_of_ble_eq_true rfl)
theorem gts {prog : Program} {w : World} {A : Around} {E : Value → Shared → Prop} {s : Shared} {a b : Int} {t u : Tok} {Q : Value → Shared → Prop} {c : Bool} (h : decide (b < a) = c) (q : Q (.bool c) s) : wpAny (model prog w) A (compareOp .Gt (.int a t) (.int b u)) Q E s := PyProof.Rows.gt_int (by rw [h]; exact q)
theorem rev_size (vs : List Value) : vs.reverse.toArray.size = vs.length := by rw [List.size_toArray, List.length_reverse]
theorem rev_fit {vs : List Value} {n : Nat} (h : vs.length ≤ n) (h2 : n ≤ 300000) : (vs.reverse.toArray.size : Int) < 2 ^ 63 := by
  rw [rev_size]
  exact Int.lt_of_le_of_lt (Int.ofNat_le.mpr (Nat.le_trans h h2)) (by decide)
theorem rev_some (vs : List Value) : decide ((0 : Int) < (vs.reverse.toArray.size : Int)) = !vs.isEmpty := by
  rw [rev_size]
  cases vs with
  | nil => rfl
  | cons v vs => exact decide_eq_true (Int.ofNat_lt.mpr (Nat.succ_pos _))
theorem rev_cons (v : Value) (vs : List Value) : (v :: vs).reverse.toArray = (vs.reverse ++ [v]).toArray := by rw [List.reverse_cons]
local macro_rules | `(tactic| walk_at "compareOp Gt int int") => `(tactic| refine gts (by assumption) ?_)
theorem rev_last (v : Value) (vs : List Value) : kl_last (v :: vs).reverse.toArray.toList = some (vs.reverse, v) := by rw [List.reverse_cons]; exact kpa_last v vs.reverse
theorem rev_line {vs : List Value} {n : Nat} (h : vs.length ≤ n) (h2 : n ≤ 300000) : vs.reverse.toArray.toList.length ≤ sizeLine := by
  show vs.reverse.length ≤ _
  rw [List.length_reverse]
  exact line3 (Nat.le_trans h h2)
section
variable {prog : Program} {w : World} {A : Around} {E : Value → Shared → Prop} {s : Shared} {h₀ : Heap} {L : Addr} {m : Str → Option Value} {D b : Addr} {rest : List (Addr × Obj)} {us vs : List Value} {n n2 : Nat} {Q : Value → Shared → Prop}
theorem ext_any (F : Fr h₀ L s.heap m) (N : News h₀ L s.heap ((D, listOf us.toArray n) :: rest)) (hb : (b, listOf vs.toArray n2) ∈ rest) (hr : ∀ p ∈ rest, p.1 ≠ D) (hz : us.length + vs.length ≤ sizeLine)
    (h : ∀ h' n', Fr h₀ L h' m → News h₀ L h' ((D, listOf (us ++ vs).toArray n') :: rest) → Q .none { s with heap := h' }) : wpAny (model prog w) A (call (.builtin "list.extend") [.ref D, .ref b]) Q E s := by
  have hd : ¬(!us.toArray.isEmpty && Builtin.List.listTooLong (us.toArray.size + vs.toArray.size)) = true := extend_door hz
  have hz1 : us.toArray.toList.length ≤ sizeLine := Nat.le_trans (Nat.le_add_right _ _) hz
  cases vs with
  | nil => exact kxn_extend F N (.tail _ hb) rfl (.head hr) hd hz1 (Nat.le_succ_of_le hz) fun h' F' N' => h h' n F' (by rw [List.append_nil]; exact N')
  | cons v vs => exact kl_extend F N (.tail _ hb) rfl (fun e => by cases e) (.head hr) hd hz1 (Nat.le_succ_of_le hz) fun h' F' N' => h h' _ F' N'
end
theorem KL.push {w : World} {l : List (Addr × Obj)} {v : Value} {t : Tree} (hv : TreeV w t v l) : ∀ {vs : List Value} {ts : List Tree}, KL w l vs ts → KL w l (vs ++ [v]) (ts ++ [t])
  | [], [], _ => ⟨hv, trivial⟩
  | _ :: _, _ :: _, ⟨a, b⟩ => ⟨a, KL.push hv b⟩
theorem down1 {a i j : Nat} (h : a + (i + j + 1) ≤ 300000) : i ≤ 300000 := Nat.le_trans (Nat.le_trans (Nat.le_trans (Nat.le_add_right i j) (Nat.le_succ _)) (Nat.le_add_left _ _)) h
local macro_rules | `(tactic| walk_at "subscriptTail Name Slice ref ref") => `(tactic| (k_here; refine hold_ ?_))
local macro_rules | `(tactic| size_fits) => `(tactic| assumption)
set_option maxRecDepth 100000 in
set_option maxHeartbeats 8000000 in
theorem children_c (w : World) (t : Tree) (v : Value) (l : List (Addr × Obj)) (hv : TreeV w t v l) :
    Con w 3 (call (.ref 49) [v]) l [] (fun v' nw => ∃ p its c, v' = .ref p ∧ nw = [(p, listOf its c)] ∧ KL w l its.toList t.kids ∧ its.size ≤ 300000) noEr := by
  ((intro dp un gd env outer A₀ base h₀ L m p loose mean mg mb s Q E B F X N T hk hd hu ret exc; refine wpAny_call ?_; k_dflt (refine' code_defE ?k1 ?k2 ?k3 ?k4 ?k5 ?kA ?kF ?kK ?k6 ?k7 ?k8 ?k9 ?kB ?_ ?c2 ?c3 ?c4 ?c5; (case kA => exact rfl); (case kF => exact Stands.frame (by assumption)); (case kK => exact Stands.kind (by assumption)); (case k1 => k_asm); (case k2 => k_asm); (case k3 => k_asm); (case k4 => k_asm); (case k5 => k_asm); (case k6 => k_is); (case k7 => k_is); (case k8 => exact Nat.lt_of_le_of_lt (Nat.le_add_right _ _) hd); (case k9 => exact BindsTo.of_eq rfl); (case c5 => decide); (case kB => exact locs rfl); (case c2 => exact rfl); (case c3 => exact rfl); (case c4 => exact rfl); k_whole; intro g L' h' FG F' N' B' X' T' G; (try dsimp only); (try k_fold))))
  obtain ⟨o, rfl, o1, o2, o3, o4⟩ := hv
  (rename News _ _ _ l => N1)
  replace N1 := News.no N1 o1
  have hz : o.its.size ≤ sizeLine := by rw [← Array.length_toList]; exact line3 (Nat.le_trans o3.len o4)
  k_steps
  rename_i fp hA lF D1 c1 hB FB NB lD1
  (refine unhold ?_; k_dflt refine' krv_lit ?F ?N ?l ?k ?e ?_ ?ss ?t ?z; (case F => k_asm); (case N => k_asm); (case l => exact News.isList (by k_asm) (by k_mem)); (case k => exact IsPart.int _ _); (case e => exact rfl); (case ss => with_unfolding_all rfl); (case t => kmk_pure); (case z => exact hz); intro wp h9 F9 N9 lt9; ((try dsimp only); (try k_fold); (try k_sweep)))
  (repeat (first | (k_unfold; (try dsimp only)) | ((fail_if_success (with_reducible show wpAny _ _ (exec (Stmt.While _ _ _ _) _) _ _ _)); walk1) | ((fail_if_success (with_reducible show wpAny _ _ (exec (Stmt.While _ _ _ _) _) _ _ _)); dsimp only; walk1)))
  (rename Fr _ _ _ _ => F0)
  (rename News _ _ _ _ => N0)
  have hwl : ∀ q ∈ l, q.1 ≠ wp := fun q hq => Nat.ne_of_lt (lt9 q (.tail _ (.tail _ (.tail _ (.tail _ (.tail _ hq))))))
  have hfl : ∀ q ∈ l, q.1 ≠ fp := fun q hq => Nat.ne_of_lt (lF q (.tail _ (.tail _ (.tail _ hq))))
  have hwf : fp ≠ wp := Nat.ne_of_lt (lt9 _ (.tail _ (.head _)))
  refine' While_inv2 (CJ w l t wp fp _) F0 (News.sub N0 ?hsub) ⟨o.its.toList, 0, #[], 0, t.kids, [], _, mvf_self _ _, rfl, o3, trivial, rfl, (by show 0 + o.c ≤ _; rw [Nat.zero_add]; exact o4)⟩ ?turn
  case hsub => exact List.forall_mem_cons.mpr ⟨.tail _ (.head _), List.forall_mem_cons.mpr ⟨.tail _ (.tail _ (.tail _ (.head _))), fun q hq => .tail _ (.tail _ (.tail _ (.tail _ (.tail _ (.tail _ (.tail _ hq))))))⟩⟩
  case turn =>
  clear lF lD1 lt9 hz o1 o2 o3 o4
  rintro k m9 news9 h9 tk9 F9 N9 ⟨vs, wc, fits, fc, ts, done, cc, rfl, rfl, hw, hk9, hd9, hs9⟩
  have hl9 := hw.len
  have hf9 := rev_fit hl9 (Nat.le_trans (Nat.le_add_left _ _) hs9)
  have hb9 := rev_some vs
  have hz9 := rev_line hl9 (Nat.le_trans (Nat.le_add_left _ _) hs9)
  cases vs with
  | nil =>
    cases hw
    replace hb9 : _ = false := hb9
    k_steps
    refine' Con.fin ret ⟨fp, fits, fc, rfl, rfl, ?kl, Nat.le_trans (Nat.le_add_right _ _) hs9⟩ ?qF G N ?qF2 ?qN2 ?qN (List.forall_mem_cons.mpr ⟨.tail _ (.head _), List.forall_mem_nil _⟩) fun p hp _ => .tail _ (.tail _ hp)
    case qF => assumption
    case qF2 => assumption
    case qN2 => assumption
    case qN => assumption
    case kl => rw [List.append_nil] at hd9; rw [← hd9]; exact hk9
  | cons v vs =>
    replace hb9 : _ = true := hb9
    k_steps
    k_dflt refine' kl_pop ?qF ?qN (rev_last v vs) ?qU hz9 ?_
    case qF => k_asm
    case qN => k_asm
    case qU => exact Upd.head (List.forall_mem_cons.mpr ⟨hwf, hwl⟩)
    clear hb9 hf9 hz9
    intro h9 F9 N9
    ((try dsimp only); (try k_fold); (try k_sweep))
    cases hw with
    | plain hw =>
      k_steps
      (rename Fr _ _ _ _ => F0)
      (rename News _ _ _ _ => N0)
      exact step_next F0 (News.tl N0) (Nat.lt_succ_self _) ⟨vs, wc + 1, fits, fc, ts, done, _, mvf_of (by (intro y9 hy9; (repeat (refine Eq.trans (if_neg (fun e9 => by (subst e9; simp only [List.contains_cons, beq_self_eq_true, Bool.true_or, Bool.or_true, reduceCtorEq] at hy9))) ?_)); exact mvf_off hy9)), rfl, hw, hk9, hd9, Nat.le_of_succ_le hs9⟩
    | node o e1 e2 e3 e4 hw =>
      rename_i j t1 ts1
      replace N9 := News.no N9 fun p hp => .tail _ (.tail _ (e1 p hp))
      k_steps
      (rename News _ _ _ _ => N0)
      replace N0 := News.sub N0 (l' := (fp, listOf fits fc) :: (wp, listOf vs.reverse.toArray (wc + 1)) :: l) fun p hp => List.mem_append_right (noLed w o) (by
        rcases List.mem_cons.mp hp with rfl | hp
        · exact .tail _ (.head _)
        rcases List.mem_cons.mp hp with rfl | hp
        · exact .head _
        · exact .tail _ (.tail _ hp))
      k_dflt refine' append_head ?q1 N0 (List.forall_mem_cons.mpr ⟨Ne.symm hwf, hfl⟩) ?_ (line3 (Nat.le_trans (Nat.le_add_right _ _) hs9))
      case q1 => k_asm
      intro h5 F5 N5
      ((try dsimp only); (try k_fold); (try k_sweep))
      k_steps
      (rename Fr _ _ _ _ => F0)
      refine step_next F0 (News.sub N5 fun p hp => ?_) (Nat.lt_succ_self _) ⟨vs, wc + 1, fits.push (.ref o.a), fc + 1, ts1, done ++ [t1], _, mvf_of (by (intro y9 hy9; (repeat (refine Eq.trans (if_neg (fun e9 => by (subst e9; simp only [List.contains_cons, beq_self_eq_true, Bool.true_or, Bool.or_true, reduceCtorEq] at hy9))) ?_)); exact mvf_off hy9)), rfl, hw, (by rw [Array.toList_push]; exact hk9.push ⟨o, rfl, e1, e2, e4, e3⟩), (by rw [List.append_assoc]; exact hd9), (by rw [Array.size_push]; exact count_up hs9)⟩
      rcases List.mem_cons.mp hp with rfl | hp
      · exact .tail _ (.head _)
      rcases List.mem_cons.mp hp with rfl | hp
      · exact .head _
      · exact .tail _ (.tail _ hp)
    | list e1 e2 hw =>
      rename_i pp its9 n9 i9 j9 ts1 ts2
      have hz : its9.size ≤ sizeLine := by rw [← Array.length_toList]; exact line3 (Nat.le_trans e2.len (down1 hs9))
      replace N9 := News.app (News.sub (l' := [_]) N9 (List.forall_mem_cons.mpr ⟨.tail _ (.tail _ e1), List.forall_mem_nil _⟩)) N9
      simp only [List.cons_append, List.nil_append] at N9
      k_steps
      (refine unhold ?_; k_dflt refine' krv_lit ?F ?N ?l ?k ?e ?_ ?ss ?t ?z; (case F => k_asm); (case N => k_asm); (case l => exact News.isList (by k_asm) (by k_mem)); (case k => exact IsPart.int _ _); (case e => exact rfl); (case ss => with_unfolding_all rfl); (case t => kmk_pure); (case z => exact hz); intro rp h9 F9 N9 lt9; ((try dsimp only); (try k_fold); (try k_sweep)))
      k_steps
      (rename News _ _ _ _ => N0)
      have hwr : wp < rp := lt9 (wp, _) (by k_mem)
      replace N0 := News.sub N0 (l' := (wp, listOf vs.reverse.toArray (wc + 1)) :: (rp, listOf its9.toList.reverse.toArray 0) :: (fp, listOf fits fc) :: l) (List.forall_mem_cons.mpr ⟨by k_mem, List.forall_mem_cons.mpr ⟨by k_mem, List.forall_mem_cons.mpr ⟨by k_mem, fun q hq => by ((repeat' first | exact hq | refine List.Mem.tail _ ?_))⟩⟩⟩)
      k_dflt refine' ext_any ?q1 N0 (.head _) (List.forall_mem_cons.mpr ⟨Ne.symm (Nat.ne_of_lt hwr), List.forall_mem_cons.mpr ⟨hwf, hwl⟩⟩) ?qz ?_
      case q1 => k_asm
      case qz =>
        refine line3 (Nat.le_trans ?_ (Nat.le_trans (Nat.le_succ _) (Nat.le_trans (Nat.le_add_left _ _) hs9)))
        rw [List.length_reverse, List.length_reverse, Nat.add_comm]
        exact Nat.add_le_add e2.len hw.len
      intro h5 n5 F5 N5
      rw [← List.reverse_append] at N5
      ((try dsimp only); (try k_fold); (try k_sweep))
      k_steps
      (rename Fr _ _ _ _ => F0)
      refine step_next F0 (News.sub N5 fun p hp => ?_) (Nat.lt_succ_self _) ⟨its9.toList ++ vs, n5, fits, fc, ts1 ++ ts2, done, _, mvf_of (by (intro y9 hy9; (repeat (refine Eq.trans (if_neg (fun e9 => by (subst e9; simp only [List.contains_cons, beq_self_eq_true, Bool.true_or, Bool.or_true, reduceCtorEq] at hy9))) ?_)); exact mvf_off hy9)), rfl, e2.app hw, hk9, hd9, Nat.le_of_succ_le hs9⟩
      rcases List.mem_cons.mp hp with rfl | hp
      · exact .head _
      · exact .tail _ (.tail _ hp)
end
section
section
variable {prog : Program} {w : World} {A : Around} {R : Result → Shared → Prop} {s : Shared}
theorem turn1 (elt i1 i2 t1 t2 : Expr) (scope : Scope) (pos : Pos) (it acc : Value) (env : Env) :
    compTurn (.ListComp elt [⟨t1, i1, [], 0⟩, ⟨t2, i2, [], 0⟩] scope pos) 1 it acc env = (standAt i2.pos >>= fun _ => pyNext it >>= fun r => match r with
      | none => pure (.done .next)
      | some v => letOwnedTupleGo t2 it v >>= fun _ => assign t2 env v >>= fun _ =>
        (eval elt env >>= fun x => call (.builtin "list.append") [acc, x] >>= fun _ => pure ()) >>= fun _ =>
          again (.compLoop (.ListComp elt [⟨t1, i1, [], 0⟩, ⟨t2, i2, [], 0⟩] scope pos) 1 it acc env)) := by rfl
theorem turn0 (elt i1 i2 t1 t2 : Expr) (scope : Scope) (pos : Pos) (it acc : Value) (env : Env) :
    compTurn (.ListComp elt [⟨t1, i1, [], 0⟩, ⟨t2, i2, [], 0⟩] scope pos) 0 it acc env = (standAt i1.pos >>= fun _ => pyNext it >>= fun r => match r with
      | none => pure (.done .next)
      | some v => letOwnedTupleGo t1 it v >>= fun _ => assign t1 env v >>= fun _ =>
        eval i2 env >>= fun x => standAt i2.pos >>= fun _ => foldedSetIterable i2 env x >>= fun x => holding [x] (pyIter x) >>= fun j => runOwn (.compStart (.ListComp elt [⟨t1, i1, [], 0⟩, ⟨t2, i2, [], 0⟩] scope pos) 1 j acc env) env >>= fun _ =>
          again (.compLoop (.ListComp elt [⟨t1, i1, [], 0⟩, ⟨t2, i2, [], 0⟩] scope pos) 0 it acc env)) := by rfl
theorem start1 {elt t1 t2 i1 i2 : Expr} {scope : Scope} {pos : Pos} {it acc : Value} {env : Env}
    (h0 : codeAny (model prog w) A (.compLoop (.ListComp elt [⟨t1, i1, [], 0⟩, ⟨t2, i2, [], 0⟩] scope pos) 1 it acc env) R s)
    (h : wpAny (model prog w) A (pyIter it) (fun it' s' => codeAny (model prog w) A (.compLoop (.ListComp elt [⟨t1, i1, [], 0⟩, ⟨t2, i2, [], 0⟩] scope pos) 1 it' acc env) R s')
      (notedBy (model prog w) A env fun x s' => R (.error x) s') s) :
    codeAny (model prog w) A (.compStart (.ListComp elt [⟨t1, i1, [], 0⟩, ⟨t2, i2, [], 0⟩] scope pos) 1 it acc env) R s := by
  refine codeAny_of_tree ?_
  show wpAny _ _ ((compStart (.ListComp elt [⟨t1, i1, [], 0⟩, ⟨t2, i2, [], 0⟩] scope pos) 1 it acc env).onRaise (fun x => do noteFrame x env; standAt theWindowsPlace)) _ _ s
  refine wpAny_notedAt ?_
  unfold compStart
  show wpAny _ _ (ask >>= _) _ _ s
  refine wpAny_bind (wpAny_askSetting (wpAny_ite ?_))
  split
  · first
      | exact wpAny_bind (wpAny_pure (wpAny_pure (And.intro rfl h0)))
      | exact wpAny_pure (And.intro rfl h0)
  · refine wpAny_bind (wpAny_rule ?_)
    show wpAny _ _ (standAt i2.pos >>= _) _ _ s
    exact wpAny_bind (wpAny_standAt (wpAny_bind (wpAny_mono h (fun it' s' h' => wpAny_pure (And.intro rfl h')) fun _ _ x => x)))
theorem inner {i1 i2 t1 : Expr} {z : Str} {pz pe : Pos} {scope : Scope} {pos : Pos} {J p D : Addr} {cenv : Env} {its ys : Array Value} {m : Str → Option Value}
    (hh : A.handled = none) (hk : cenv.scope.kind = .function) (hz : cenv.kindOf z = some .local) (hd : (z == ("__debug__" : Str)) = false)
    (hDJ : D ≠ J) (hDC : D ≠ cenv.locals) (hJC : J ≠ cenv.locals) (hpJ : p ≠ J) (hpC : p ≠ cenv.locals) (hpD : p ≠ D)
    (hit : s.heap.IsListIter J p 0) (hl : s.heap.IsList p its) (hacc : s.heap.PlainList D ys) (hn : s.heap.Ns cenv.locals m) (hsz : ys.size + its.size ≤ sizeLine)
    (hR : ∀ h' tk m', h'.Ns cenv.locals m' → h'.PlainList D (ys ++ its) → (∀ b o, b ≠ cenv.locals → b ≠ J → b ≠ D → s.heap.get? b = some o → h'.get? b = some o) → R (.ok .next) { s with heap := h', toks := tk }) :
    codeAny (model prog w) A (.compLoop (.ListComp (.Name z pe) [⟨t1, i1, [], 0⟩, ⟨.Name z pz, i2, [], 0⟩] scope pos) 1 (.ref J) (.ref D) cenv) R s := by
  have hp : (cenv.scope.kind == .class || (cenv.scope.kind == .module && cenv.locals != cenv.globals)) = false := by rw [hk]; rfl
  refine codeAny_loop rfl
    (fun k s' => ∃ h' tk m' j, s' = { s with heap := h', toks := tk } ∧ h'.IsListIter J p j ∧ h'.IsList p its ∧ h'.PlainList D (ys.toList ++ its.toList.take j).toArray ∧ h'.Ns cenv.locals m' ∧ j ≤ its.size ∧ k = its.size - j ∧
      ∀ b o, b ≠ cenv.locals → b ≠ J → b ≠ D → s.heap.get? b = some o → h'.get? b = some o) ?_ its.size
    ⟨s.heap, s.toks, m, 0, rfl, hit, hl, (by rw [List.take_zero, List.append_nil]; exact hacc), hn, Nat.zero_le _, rfl, fun _ _ _ _ _ e => e⟩
  rintro k s' ⟨H, tk, m', j, rfl, hit', hl', hacc', hn', hj, rfl, hk'⟩
  show wpAny _ _ ((compTurn (.ListComp (.Name z pe) [⟨t1, i1, [], 0⟩, ⟨.Name z pz, i2, [], 0⟩] scope pos) 1 (.ref J) (.ref D) cenv).onRaise (fun x => do noteFrame x cenv; theTreesLotGoes x)) _ _ _
  refine wpAny_noted ?_
  rw [turn1]
  refine wpAny_bind (wpAny_standAt (wpAny_bind ?_))
  cases hv : its[j]? with
  | none =>
    have hs : its.toList.length ≤ j := by rw [Array.length_toList]; exact Array.getElem?_eq_none_iff.mp hv
    refine wpAny_pyNext_list_end hh hit' hl' hv fun h₁ he₁ => wpAny_pure ?_
    refine hR h₁ tk m' (hn'.extBut he₁ (Ne.symm hJC)) ?_ fun b o hbC hbI hbD e => he₁ b o hbI (hk' b o hbC hbI hbD e)
    have q := hacc'.extBut he₁ hDJ
    rw [List.take_of_length_le hs, ← Array.toList_append] at q
    exact q
  | some v =>
    have hlt : j < its.size := (Array.getElem?_eq_some_iff.mp hv).1
    refine wpAny_pyNext_list_item hit' hl' hv fun h₁ hit₁ hs₁ => ?_
    refine wpAny_bind (wpAny_of_eq (show letOwnedTupleGo _ _ v = pure () from rfl) ?_)
    refine wpAny_bind (wpAny_assign_Name (wpAny_storeName_local hz (hn'.sameBut hs₁ (Ne.symm hJC)) (fun h₂ hn₂ hs₂ => ?_) hp))
    refine wpAny_bind (wpAny_bind (wpAny_Name (wpAny_loadName_local hk hz hn₂ (if_pos rfl) ?_) hd))
    have hl3 : (ys.toList ++ its.toList.take j).toArray.size ≤ sizeLine := by
      rw [List.size_toArray, List.length_append, List.length_take, Array.length_toList]
      exact Nat.le_trans (Nat.add_le_add_left (Nat.le_trans (Nat.min_le_left _ _) hj) _) hsz
    refine wpAny_bind (wpAny_list_append_plain (hsz := hl3) ((hacc'.extBut hs₁.extBut hDJ).extBut hs₂.extBut hDC) fun h₃ hl₃ hs₃ => ?_)
    refine wpAny_pure (wpAny_pure ⟨rfl, its.size - (j + 1), Nat.sub_lt_sub_left hlt (Nat.lt_succ_self _), h₃, _, _, j + 1, rfl, ((hit₁.extBut hs₂.extBut hJC).extBut hs₃.extBut (Ne.symm hDJ)),
      (((hl'.extBut hs₁.extBut hpJ).extBut hs₂.extBut hpC).extBut hs₃.extBut hpD), ?_, hn₂.sameBut hs₃ (Ne.symm hDC), hlt, rfl, fun b o hbC hbI hbD e => hs₃.extBut b o hbD (hs₂.extBut b o hbC (hs₁.extBut b o hbI (hk' b o hbC hbI hbD e)))⟩)
    rw [List.take_add_one, Array.getElem?_toList, hv, ← List.append_assoc]
    rw [List.push_toArray] at hl₃
    exact hl₃
end
theorem KL.len {w : World} {l : List (Addr × Obj)} : ∀ {vs : List Value} {ts : List Tree}, KL w l vs ts → vs.length = ts.length
  | [], [], _ => rfl
  | _ :: _, _ :: _, ⟨_, b⟩ => congrArg Nat.succ (KL.len b)
theorem KL.app {w : World} {l : List (Addr × Obj)} {us : List Value} {rs : List Tree} (y : KL w l us rs) : ∀ {vs : List Value} {ts : List Tree}, KL w l vs ts → KL w l (vs ++ us) (ts ++ rs)
  | [], [], _ => y
  | _ :: _, _ :: _, ⟨a, b⟩ => ⟨a, KL.app y b⟩
noncomputable def Kids (w : World) (l : List (Addr × Obj)) (t : Tree) (s₂ : Shared) (r : Value) (s₃ : Shared) : Prop :=
  ∃ p its, r = .ref p ∧ s₃.heap.IsList p its ∧ KL w l its.toList t.kids ∧ (p ∈ l.map (·.1) ∨ s₂.heap.get? p = none) ∧ Keeps s₂ s₃
section
variable {prog : Program} {w : World} {A : Around} {R : Result → Shared → Prop} {s : Shared}
theorem outer {i1 i2 : Expr} {x z : Str} {px pz pe : Pos} {scope : Scope} {pos : Pos} {I ax D : Addr} {cenv : Env} {its : Array Value} {m : Str → Option Value} {l : List (Addr × Obj)} {ts : List Tree}
    (hh : A.handled = none) (hk : cenv.scope.kind = .function) (hx : cenv.kindOf x = some .local) (hz : cenv.kindOf z = some .local) (hd : (z == ("__debug__" : Str)) = false) (hs : ∀ x, foldedSetIterable i2 cenv x = pure x)
    (hDI : D ≠ I) (hDC : D ≠ cenv.locals) (hIC : I ≠ cenv.locals) (haI : ax ≠ I) (haC : ax ≠ cenv.locals) (haD : ax ≠ D)
    (hit : s.heap.IsListIter I ax 0) (hl : s.heap.IsList ax its) (hacc : s.heap.PlainList D #[]) (hn : s.heap.Ns cenv.locals m) (hoff : ∀ q ∈ l, q.1 ≠ cenv.locals ∧ q.1 ≠ I ∧ q.1 ≠ D)
    (hkl : KL w l its.toList ts) (hsz : (ts.flatMap Tree.kids).length ≤ sizeLine)
    (helt : ∀ v t h tk m₂ E', TreeV w t v l → h.Ns cenv.locals m₂ → m₂ x = some v → (∀ b o, b ≠ cenv.locals → b ≠ I → b ≠ D → s.heap.get? b = some o → h.get? b = some o) →
      wpAny (model prog w) A (eval i2 cenv) (Kids w l t { s with heap := h, toks := tk }) E' { s with heap := h, toks := tk })
    (hR : ∀ h' tk m' ys, h'.Ns cenv.locals m' → h'.PlainList D ys → KL w l ys.toList (ts.flatMap Tree.kids) → (∀ b o, b ≠ cenv.locals → b ≠ I → b ≠ D → s.heap.get? b = some o → h'.get? b = some o) → R (.ok .next) { s with heap := h', toks := tk }) :
    codeAny (model prog w) A (.compLoop (.ListComp (.Name z pe) [⟨.Name x px, i1, [], 0⟩, ⟨.Name z pz, i2, [], 0⟩] scope pos) 0 (.ref I) (.ref D) cenv) R s := by
  have hp : (cenv.scope.kind == .class || (cenv.scope.kind == .module && cenv.locals != cenv.globals)) = false := by rw [hk]; rfl
  refine codeAny_loop rfl
    (fun k s' => ∃ h' tk m' ys i ts1 ts2, s' = { s with heap := h', toks := tk } ∧ h'.IsListIter I ax i ∧ h'.IsList ax its ∧ h'.PlainList D ys ∧ h'.Ns cenv.locals m' ∧ i ≤ its.size ∧ k = its.size - i ∧
      ts1 ++ ts2 = ts ∧ KL w l (its.toList.drop i) ts2 ∧ KL w l ys.toList (ts1.flatMap Tree.kids) ∧ ∀ b o, b ≠ cenv.locals → b ≠ I → b ≠ D → s.heap.get? b = some o → h'.get? b = some o) ?_ its.size
    ⟨s.heap, s.toks, m, #[], 0, [], ts, rfl, hit, hl, hacc, hn, Nat.zero_le _, rfl, rfl, hkl, trivial, fun _ _ _ _ _ e => e⟩
  rintro k s' ⟨H, tk, m', ys, i, ts1, ts2, rfl, hit', hl', hacc', hn', hi, rfl, rfl, hr, hy, hk'⟩
  show wpAny _ _ ((compTurn (.ListComp (.Name z pe) [⟨.Name x px, i1, [], 0⟩, ⟨.Name z pz, i2, [], 0⟩] scope pos) 0 (.ref I) (.ref D) cenv).onRaise (fun x => do noteFrame x cenv; theTreesLotGoes x)) _ _ _
  refine wpAny_noted ?_
  rw [turn0]
  refine wpAny_bind (wpAny_standAt (wpAny_bind ?_))
  cases hv : its[i]? with
  | none =>
    have hs : its.toList.length ≤ i := by rw [Array.length_toList]; exact Array.getElem?_eq_none_iff.mp hv
    rw [List.drop_of_length_le hs] at hr
    refine wpAny_pyNext_list_end hh hit' hl' hv fun h₁ he₁ => wpAny_pure ?_
    refine hR h₁ tk m' ys (hn'.extBut he₁ (Ne.symm hIC)) (hacc'.extBut he₁ hDI) ?_ fun b o hbC hbI hbD e => he₁ b o hbI (hk' b o hbC hbI hbD e)
    cases ts2 with
    | nil => rw [List.append_nil]; exact hy
    | cons _ _ => exact hr.elim
  | some v =>
    have hlt : i < its.size := (Array.getElem?_eq_some_iff.mp hv).1
    have hdr : its.toList.drop i = v :: its.toList.drop (i + 1) := by
      obtain ⟨h1, rfl⟩ := Array.getElem?_eq_some_iff.mp hv
      exact List.drop_eq_getElem_cons (h := by rw [Array.length_toList]; exact h1)
    rw [hdr] at hr
    cases ts2 with
    | nil => exact hr.elim
    | cons t ts2 =>
      refine wpAny_pyNext_list_item hit' hl' hv fun h₁ hit₁ hs₁ => ?_
      refine wpAny_bind (wpAny_of_eq (show letOwnedTupleGo _ _ v = pure () from rfl) ?_)
      refine wpAny_bind (wpAny_assign_Name (wpAny_storeName_local hx (hn'.sameBut hs₁ (Ne.symm hIC)) (fun h₂ hn₂ hs₂ => ?_) hp))
      have up₂ : ∀ b o, b ≠ cenv.locals → b ≠ I → H.get? b = some o → h₂.get? b = some o := fun b o hbC hbI e => hs₂.extBut b o hbC (hs₁.extBut b o hbI e)
      refine wpAny_bind (wpAny_mono (helt v t h₂ _ _ _ hr.1 hn₂ (if_pos rfl) fun b o hbC hbI hbD e => up₂ b o hbC hbI (hk' b o hbC hbI hbD e)) (fun r s₃ h₃ => ?_) fun _ _ e => e)
      obtain ⟨p, cs, rfl, hlp, hkc, hpn, h₃, tk₃, rfl, up₃⟩ := h₃
      refine wpAny_bind (wpAny_standAt (wpAny_bind (wpAny_of_eq (hs _) (wpAny_bind (wpAny_holding (wpAny_pyIter_list hlp ?_))))))
      have hit₃ : h₃.IsListIter I ax (i + 1) := (hit₁.extBut hs₂.extBut hIC).at fun o e => up₃ _ o e
      have hacc₃ : h₃.PlainList D ys := hacc'.at fun o e => up₃ D o (up₂ D o hDC hDI e)
      have hn₃ := hn₂.keeps up₃
      have hl₃ : h₃.IsList ax its := hl'.at fun o e => up₃ ax o (up₂ ax o haC haI e)
      have hpo : p ≠ cenv.locals ∧ p ≠ I ∧ p ≠ D := by
        rcases hpn with hp | hp
        · obtain ⟨q, hq, rfl⟩ := List.mem_map.mp hp
          exact hoff q hq
        · refine ⟨?_, ?_, ?_⟩
          · rintro rfl; obtain ⟨o, _, _, ho, _⟩ := hn₂; rw [hp] at ho; cases ho
          · rintro rfl; obtain ⟨o, ho, _⟩ := hit₁.extBut hs₂.extBut hIC; rw [hp] at ho; cases ho
          · rintro rfl; obtain ⟨o, ho⟩ := hacc'.at (h' := h₂) fun o e => up₂ p o hDC hDI e; rw [hp] at ho; cases ho
      have below : ∀ b, b < h₃.objs.size → b ≠ h₃.objs.size := fun b hb => Nat.ne_of_lt hb
      have gone : ∀ b o, h₃.get? b = some o → (h₃.push { cls := .type "list_iterator", data := .fields #[.ref p, .int 0 0] }).get? b = some o := fun b o e => Heap.get?_push_of_some _ e
      have hlen : ys.size + cs.size ≤ sizeLine := by
        have e1 : ys.size = (ts1.flatMap Tree.kids).length := by rw [← Array.length_toList]; exact hy.len
        have e2 : cs.size = t.kids.length := by rw [← Array.length_toList]; exact hkc.len
        rw [List.flatMap_append, List.length_append, List.flatMap_cons, List.length_append] at hsz
        rw [e1, e2]
        exact Nat.le_trans (Nat.add_le_add_left (Nat.le_add_right _ _) _) hsz
      have gen : ∀ R' : Result → Shared → Prop, (∀ h' tk m', h'.Ns cenv.locals m' → h'.PlainList D (ys ++ cs) → (∀ b o, b ≠ cenv.locals → b ≠ h₃.objs.size → b ≠ D → (h₃.push { cls := .type "list_iterator", data := .fields #[.ref p, .int 0 0] }).get? b = some o → h'.get? b = some o) → R' (.ok .next) { s with heap := h', toks := tk }) →
          codeAny (model prog w) A (.compStart (.ListComp (.Name z pe) [⟨.Name x px, i1, [], 0⟩, ⟨.Name z pz, i2, [], 0⟩] scope pos) 1 (.ref h₃.objs.size) (.ref D) cenv) R' { s with heap := h₃.push { cls := .type "list_iterator", data := .fields #[.ref p, .int 0 0] }, toks := tk₃ } := fun R' hR' => by
        have loop : codeAny (model prog w) A (.compLoop (.ListComp (.Name z pe) [⟨.Name x px, i1, [], 0⟩, ⟨.Name z pz, i2, [], 0⟩] scope pos) 1 (.ref h₃.objs.size) (.ref D) cenv) R' { s with heap := h₃.push { cls := .type "list_iterator", data := .fields #[.ref p, .int 0 0] }, toks := tk₃ } :=
          inner hh hk hz hd (Nat.ne_of_lt (Heap.lt_size hacc₃.choose_spec)) hDC (Ne.symm (Nat.ne_of_lt hn₃.lt)) (Nat.ne_of_lt (Heap.lt_size hlp.choose_spec.1)) hpo.1 hpo.2.2
            ⟨_, Heap.get?_push_size _ rfl, rfl, rfl⟩ (hlp.at fun o e => gone _ o e) (hacc₃.at fun o e => gone _ o e) (hn₃.keeps gone) hlen hR'
        exact start1 loop (wpAny_pyIter_listiter ⟨_, Heap.get?_push_size _ rfl, rfl, rfl⟩ loop)
      refine wpAny_bind (wpAny_runOwn (gen _ fun h₄ tk₄ m₄ hn₄ hl₄ hk₄ => ?_))
      have up₄ : ∀ b o, b ≠ cenv.locals → b ≠ D → h₃.get? b = some o → h₄.get? b = some o := fun b o hbC hbD e => hk₄ b o hbC (below b (Heap.lt_size e)) hbD (gone b o e)
      refine wpAny_pure ⟨rfl, its.size - (i + 1), Nat.sub_lt_sub_left hlt (Nat.lt_succ_self _), h₄, tk₄, m₄, ys ++ cs, i + 1, ts1 ++ [t], ts2, rfl, hit₃.at fun o e => up₄ _ o hIC (Ne.symm hDI) e, hl₃.at fun o e => up₄ _ o haC haD e, hl₄, hn₄, hlt, rfl,
        by rw [List.append_assoc]; rfl, hr.2, ?_, fun b o hbC hbI hbD e => up₄ b o hbC hbD (up₃ b o (up₂ b o hbC hbI (hk' b o hbC hbI hbD e)))⟩
      rw [Array.toList_append, List.flatMap_append, List.flatMap_cons, List.flatMap_nil, List.append_nil]
      exact hkc.app hy
end
section
variable {prog : Program} {w : World} {A : Around} {E : Value → Shared → Prop} {s : Shared} {env : Env}
theorem nest_assign {i2 : Expr} {x y z : Str} {px py pz pe p1 : Pos} {scope : Scope} {pos spos : Pos} {Q : Flow → Shared → Prop} {h₀ : Heap} {L ax : Addr} {m : Str → Option Value} {its : Array Value} {c : Nat} {l : List (Addr × Obj)} {ts : List Tree}
    (hsw : swapsWith (.ListComp (.Name z pe) [⟨.Name x px, .Name y p1, [], 0⟩, ⟨.Name z pz, i2, [], 0⟩] scope pos) (some (.Name y py)) spos.line env = pure true) (hL : env.locals = L)
    (hh : A.handled = none) (hfree : ∀ z ∈ scope.names, z.2 ≠ .free) (hcell : ∀ z ∈ scope.names, z.2 ≠ .cell) (hkind : scope.kind = .function) (hek : env.scope.kind = .function)
    (hnames : ∀ z ∈ scope.names, z.2 = .local → scope.names.lookup z.1 = some .local) (hx : scope.names.lookup x = some .local) (hz : scope.names.lookup z = some .local) (hd : (z == ("__debug__" : Str)) = false) (hdy : (y == ("__debug__" : Str)) = false)
    (hy : env.kindOf y = some .local) (hs : ∀ C x, foldedSetIterable i2 (compEnv scope C env) x = pure x)
    (F : Fr h₀ L s.heap m) (N : News h₀ L s.heap ((ax, listOf its c) :: l)) (hm : m y = some (.ref ax)) (hkl : KL w l its.toList ts) (hsz : (ts.flatMap Tree.kids).length ≤ sizeLine)
    (helt : ∀ C v t h tk m₂ E', TreeV w t v l → h.Ns C m₂ → m₂ x = some v → Fr h₀ L h m → News h₀ L h l →
      wpAny (model prog w) A (eval i2 (compEnv scope C env)) (Kids w l t { s with heap := h, toks := tk }) E' { s with heap := h, toks := tk })
    (ret : ∀ h' tk D ys n, Fr h₀ L h' (fun q => if q = y then some (.ref D) else m q) → News h₀ L h' ((D, listOf ys n) :: l) → KL w l ys.toList (ts.flatMap Tree.kids) → Q .next { s with heap := h', toks := tk }) :
    wpAny (model prog w) A (exec (.Assign [.Name y py] (.ListComp (.Name z pe) [⟨.Name x px, .Name y p1, [], 0⟩, ⟨.Name z pz, i2, [], 0⟩] scope pos) spos) env) Q E s := by
  subst hL
  have hp : (env.scope.kind == .class || (env.scope.kind == .module && env.locals != env.globals)) = false := by rw [hek]; rfl
  have hax : s.heap.IsList ax its := ⟨_, (N _ (.head _)).1, rfl, _, rfl⟩
  rw [exec_Assign_Name_used _ _ _ _ hsw]
  refine wpAny_bind (wpAny_standAt (wpAny_bind ?_))
  show wpAny _ A (do let _ ← comprehension (.ListComp (.Name z pe) [⟨.Name x px, .Name y p1, [], 0⟩, ⟨.Name z pz, i2, [], 0⟩] scope pos) scope env _ (newList []) false (eval (.Name y p1) env) (some (assign (.Name y py) env))) _ _ s
  refine wpAny_bind (wpAny_mono (wpAny_comprehension_use (Q := fun _ s' => Q .next s') rfl (fun _ => rfl) hfree hkind hnames (wpAny_Name (wpAny_loadName_local hek hy F.ns hm ?_) hdy))
    (fun _ s' hq => wpAny_pure (wpAny_pure hq)) fun _ _ e => e)
  refine wpAny_pyIter_list hax (wpAny_newObj_type (hd := by size_fits) (wpAny_newFunctionEnv hcell (by intro y hy; simp at hy) (fun h₁ hns₁ hsb₁ => ?_) hkind))
  dsimp only at hns₁ hsb₁ ⊢
  have hltx : ax < s.heap.objs.size := Heap.lt_size (N _ (.head _)).1
  generalize hH1 : s.heap.push { cls := .type "list_iterator", data := .fields #[.ref ax, .int 0 0] } = H1 at hns₁ hsb₁ ⊢
  have hD : H1.objs.size = s.heap.objs.size + 1 := by rw [← hH1, Heap.size_push]
  generalize hH2 : H1.push { cls := .type "list", dict := none, data := .seq ([] : List Value).toArray } = H2 at hns₁ hsb₁ ⊢
  have hC : H2.objs.size = s.heap.objs.size + 2 := by rw [← hH2, Heap.size_push, hD]
  have hDI : H1.objs.size ≠ s.heap.objs.size := by rw [hD]; exact Nat.succ_ne_self _
  have hDC : H1.objs.size ≠ H2.objs.size := by rw [hD, hC]; exact Nat.ne_of_lt (Nat.lt_succ_self _)
  have hIC : s.heap.objs.size ≠ H2.objs.size := by rw [hC]; exact Nat.ne_of_lt (Nat.lt_succ_of_lt (Nat.lt_succ_self _))
  have below : ∀ b, b < s.heap.objs.size → b ≠ H2.objs.size ∧ b ≠ s.heap.objs.size ∧ b ≠ H1.objs.size := fun b hb =>
    ⟨by rw [hC]; exact Nat.ne_of_lt (Nat.lt_succ_of_lt (Nat.lt_succ_of_lt hb)), Nat.ne_of_lt hb, by rw [hD]; exact Nat.ne_of_lt (Nat.lt_succ_of_lt hb)⟩
  have old : ∀ b o, s.heap.get? b = some o → h₁.get? b = some o := fun b o e =>
    hsb₁.extBut b o (below b (Heap.lt_size e)).1 (Heap.get?_push_of_some _ (hH2 ▸ Heap.get?_push_of_some _ (hH1 ▸ Heap.get?_push_of_some _ e)))
  have hit : h₁.IsListIter s.heap.objs.size ax 0 :=
    ⟨_, hsb₁.extBut _ _ hIC (Heap.get?_push_of_some _ (hH2 ▸ Heap.get?_push_of_some _ (hH1 ▸ Heap.get?_push_size _ rfl))), rfl, rfl⟩
  have hacc : h₁.PlainList H1.objs.size #[] := ⟨_, hsb₁.extBut _ _ hDC (Heap.get?_push_of_some _ (hH2 ▸ Heap.get?_push_size _ rfl))⟩
  have fresh : ∀ a, s.heap.objs.size ≤ a → s.heap.get? a = none := fun a ha => by
    cases e : s.heap.get? a with
    | none => rfl
    | some o' => exact absurd (Heap.lt_size e) (Nat.not_lt.mpr ha)
  have keepF : ∀ h' : Heap, (∀ b o, b ≠ H2.objs.size → b ≠ s.heap.objs.size → b ≠ H1.objs.size → h₁.get? b = some o → h'.get? b = some o) → ∀ b o, s.heap.get? b = some o → h'.get? b = some o := fun h' hk b o e =>
    hk b o (below b (Heap.lt_size e)).1 (below b (Heap.lt_size e)).2.1 (below b (Heap.lt_size e)).2.2 (old b o e)
  have loop : ∀ (s₂ : Shared) (R : Result → Shared → Prop), s₂ = { s with heap := h₁, toks := s.toks + ([] : List (Str × Value)).length } →
      (∀ h' tk m' ys, h'.Ns H2.objs.size m' → h'.PlainList H1.objs.size ys → KL w l ys.toList (ts.flatMap Tree.kids) → (∀ b o, b ≠ H2.objs.size → b ≠ s.heap.objs.size → b ≠ H1.objs.size → h₁.get? b = some o → h'.get? b = some o) → R (.ok .next) { s with heap := h', toks := tk }) →
      codeAny (model prog w) A (.compLoop (.ListComp (.Name z pe) [⟨.Name x px, .Name y p1, [], 0⟩, ⟨.Name z pz, i2, [], 0⟩] scope pos) 0 (.ref s.heap.objs.size) (.ref H1.objs.size) (compEnv scope H2.objs.size env)) R s₂ := by
    rintro s₂ R rfl hR
    refine outer (cenv := compEnv scope H2.objs.size env) hh hkind hx hz hd (hs _) hDI hDC hIC (below ax hltx).2.1 (below ax hltx).1 (below ax hltx).2.2 hit (hax.at fun o e => old _ o e) hacc hns₁
      (fun q hq => below _ (Heap.lt_size (N q (.tail _ hq)).1)) hkl hsz (fun v t h tk m₂ E' hv hn hm2 hk => ?_) hR
    exact helt _ v t h tk m₂ E' hv hn hm2 (F.keeps (keepF h hk)) fun q hq => ⟨keepF h hk _ _ (N q (.tail _ hq)).1, (N q (.tail _ hq)).2⟩
  have fin : ∀ h' tk m' ys, h'.Ns H2.objs.size m' → h'.PlainList H1.objs.size ys → KL w l ys.toList (ts.flatMap Tree.kids) → (∀ b o, b ≠ H2.objs.size → b ≠ s.heap.objs.size → b ≠ H1.objs.size → h₁.get? b = some o → h'.get? b = some o) →
      wpAny (model prog w) A (assign (.Name y py) env (.ref H1.objs.size)) (fun _ s'' => ∃ m, s''.heap.Ns H2.objs.size m ∧ ∀ h', Heap.SameBut H2.objs.size s''.heap h' → Q .next { s'' with heap := h' }) E { s with heap := h', toks := tk } := fun h' tk m' ys hnC hlD hkl' hk => by
    have hLC : env.locals ≠ H2.objs.size := (below _ F.ns.lt).1
    have hLD : env.locals ≠ H1.objs.size := (below _ F.ns.lt).2.2
    refine wpAny_assign_Name (wpAny_storeName_local hy (F.ns.keeps (keepF h' hk)) (fun h₂ hn₂ hs₂ => ?_) hp)
    refine ⟨m', hnC.sameBut hs₂ (Ne.symm hLC), fun h₃ hs₃ => ?_⟩
    have hh0 : h₀.get? env.locals = none := by
      cases e : h₀.get? env.locals with
      | none => rfl
      | some o => exact absurd (Heap.lt_size e) (Nat.not_lt.mpr F.above)
    have up : ∀ b o, b ≠ env.locals → s.heap.get? b = some o → h₃.get? b = some o := fun b o hb e => hs₃.extBut b o (below b (Heap.lt_size e)).1 (hs₂.extBut b o hb (keepF h' hk b o e))
    obtain ⟨n, hn⟩ := (hlD.extBut hs₂.extBut (Ne.symm hLD)).extBut hs₃.extBut hDC
    refine ret h₃ _ H1.objs.size ys n ⟨hn₂.sameBut hs₃ hLC, fun b o e => up b o (fun q => by rw [q, hh0] at e; cases e) (F.keep b o e), F.above⟩ (List.forall_mem_cons.mpr ⟨⟨hn, Ne.symm hLD, ?_⟩, fun q hq => ⟨up _ _ (N q (.tail _ hq)).2.1 (N q (.tail _ hq)).1, (N q (.tail _ hq)).2⟩⟩) hkl'
    cases e : h₀.get? H1.objs.size with
    | none => rfl
    | some o => have q := F.keep _ _ e; rw [fresh _ (by rw [hD]; exact Nat.le_succ _)] at q; cases q
  exact codeAny_compStart_list (loop _ _ rfl fin) (wpAny_pyIter_listiter hit (loop _ _ rfl fin))
end
end
section
noncomputable def thin : Nat → List Tree → Bool
  | 0, _ => true
  | n + 1, ts => Nat.ble ts.length 300000 && thin n (ts.flatMap Tree.kids)
noncomputable def HighAt (T : Bool) (j many : Nat) (ts : List Tree) : Prop := thin (j + 1) ts = true ∧ j + many = 121 ∧ match j with | 0 => T = true | j + 1 => tooHigh (j + 10) many ts = T
theorem HighAt.size {T : Bool} {j many : Nat} {ts : List Tree} (h : HighAt T j many ts) : ts.length ≤ 300000 := by
  have a := h.1
  rw [thin, Bool.and_eq_true] at a
  exact Nat.le_of_ble_eq_true a.1
theorem HighAt.le {T : Bool} {j many : Nat} {ts : List Tree} (h : HighAt T (j + 1) many ts) : many ≤ 120 := by
  have a := h.2.1
  rw [Nat.add_right_comm] at a
  exact Nat.succ.inj a ▸ Nat.le_add_left _ _
theorem HighAt.none {T : Bool} {j many : Nat} (h : HighAt T (j + 1) many []) : T = false := h.2.2.symm
theorem HighAt.step {T : Bool} {j many : Nat} {t : Tree} {ts : List Tree} (h : HighAt T (j + 1) many (t :: ts)) : HighAt T j (many + 1) ((t :: ts).flatMap Tree.kids) := by
  have a := h.1
  rw [thin, Bool.and_eq_true] at a
  have e := h.2.1
  rw [Nat.add_right_comm, Nat.add_assoc] at e
  refine ⟨a.2, e, ?_⟩
  have q : (if many + 1 > 120 then true else tooHigh (j + 9) (many + 1) ((t :: ts).flatMap Tree.kids)) = T := h.2.2
  cases j with
  | zero => rw [Nat.zero_add] at e; rw [e] at q; exact q.symm
  | succ j =>
    have hl : ¬ many + 1 > 120 := by
      rw [Nat.add_right_comm] at e
      exact Nat.not_lt.mpr (Nat.succ.inj e ▸ Nat.le_add_left _ _)
    rw [if_neg hl] at q
    exact q
theorem HighAt.zero {T : Bool} {many : Nat} {ts : List Tree} (h : HighAt T 0 many ts) : many = 121 ∧ T = true := ⟨(Nat.zero_add many).symm.trans h.2.1, h.2.2⟩
theorem HighAt.end_ {T : Bool} {k many : Nat} (h : HighAt T k many []) : decide ((120 : Int) < (many : Int)) = T := by
  cases k with
  | zero => obtain ⟨rfl, rfl⟩ := h.zero; rfl
  | succ k => rw [h.none]; exact decide_eq_false (Int.not_lt.mpr (Int.ofNat_le.mpr h.le))
theorem les {prog : Program} {w : World} {A : Around} {E : Value → Shared → Prop} {s : Shared} {a b : Int} {t u : Tok} {Q : Value → Shared → Prop} {c : Bool} (h : decide (a ≤ b) = c) (q : Q (.bool c) s) : wpAny (model prog w) A (compareOp .LtE (.int a t) (.int b u)) Q E s := PyProof.Rows.le_int (by rw [h]; exact q)
local macro_rules | `(tactic| walk_at "compareOp Gt int int") => `(tactic| refine gts (by assumption) ?_)
local macro_rules | `(tactic| walk_at "compareOp LtE int int") => `(tactic| refine les (by assumption) ?_)
local macro_rules | `(tactic| walk_at "exec Assign cons ListComp") => `(tactic| (k_here; refine hold_ ?_))
theorem kid_call {w : World} {A : Around} {E : Value → Shared → Prop} {s : Shared} {env : Env} {h₀ : Heap} {L C : Addr} {m m₂ mg mb : Str → Option Value} {p : Program} {loose : List Str} {mean : ExcName → Option Value} {scope : Scope} {v : Value} {pos p1 p2 : Pos} {Q : Value → Shared → Prop}
    (F : Fr h₀ L s.heap m) (X : Frag.In (Mine.k0.heap_1 w.params) h₀) (T : Top p loose mean mg mb h₀) (hg : env.globals = mainGlobals) (hk : scope.kind = .function)
    (hc : (compEnv scope C env).kindOf (Str.ofString "children") = some .globalImplicit) (ho : (compEnv scope C env).kindOf (Str.ofString "one") = some .local) (hn : s.heap.Ns C m₂) (hm : m₂ (Str.ofString "one") = some v)
    (h : wpAny (model PySem.Challenge.pw_pc0091_01 w) A (call (.ref 49) [v]) Q E s) : wpAny (model PySem.Challenge.pw_pc0091_01 w) A (eval (.Call (.Name (Str.ofString "children") p1) [.Name (Str.ofString "one") p2] [] pos) (compEnv scope C env)) Q E s := by
  show wpAny _ A (do callWith pos (← eval (.Name (Str.ofString "children") p1) (compEnv scope C env)) [] (backTo pos (starEach [.Name (Str.ofString "one") p2] (compEnv scope C env))) (backToKw pos (keywordEach [] (compEnv scope C env)))) Q E s
  refine wpAny_bind (Name_function_global hk hc (loadGlobal_global (env := compEnv scope C env) (show s.heap.Ns env.globals mg from hg ▸ (T.keeps F.keep).g) (mg_of X T.g (by k_is)) ?_) rfl)
  refine callWith_K X (by k_is) (spliced_cons (wpAny_Name (wpAny_loadName_local hk ho hn hm (spliced_nil ⟨?_, h⟩)) rfl))
  exact X.keeps F.keep
theorem mv2 {m m0 : Str → Option Value} {x z : Str} {v u : Option Value} (h : ∀ y, [x, z].contains y = false → m y = m0 y) (h1 : m x = v) (h2 : m z = u) : m = fun y => if y = x then v else if y = z then u else mvf [x, z] m m0 y := by
  funext y
  by_cases e : y = x
  · rw [if_pos e, e, h1]
  · by_cases e2 : y = z
    · rw [if_neg e, if_pos e2, e2, h2]
    · rw [if_neg e, if_neg e2, ← mvf_of h]
noncomputable def HiJ (w : World) (l : List (Addr × Obj)) (T : Bool) (m0 : Str → Option Value) (k : Nat) (m : Str → Option Value) (news : List (Addr × Obj)) : Prop :=
  ∃ lv its n c ts many mt, m = (fun q => if q = Str.ofString "many" then some (.int (many : Nat) mt) else if q = Str.ofString "level" then some (.ref lv) else mvf [Str.ofString "many", Str.ofString "level"] c m0 q) ∧ news = (lv, listOf its n) :: l ∧ KL w l its.toList ts ∧ HighAt T k many ts
set_option maxRecDepth 100000 in
set_option maxHeartbeats 8000000 in
theorem is_too_high_c (w : World) (t : Tree) (v : Value) (mt : Tok) (l : List (Addr × Obj)) (hv : TreeV w t v l) (ht : thin 122 [t] = true) :
    Con w 6 (call (.ref 54) [v, .int 120 mt]) l [] (fun v' nw => v' = .bool (tooHigh 130 0 [t]) ∧ nw = []) noEr := by
  ((intro dp un gd env outer A₀ base h₀ L m p loose mean mg mb s Q E B F X N T hk hd hu ret exc; refine wpAny_call ?_; k_dflt (refine' code_defE ?k1 ?k2 ?k3 ?k4 ?k5 ?kA ?kF ?kK ?k6 ?k7 ?k8 ?k9 ?kB ?_ ?c2 ?c3 ?c4 ?c5; (case kA => exact rfl); (case kF => exact Stands.frame (by assumption)); (case kK => exact Stands.kind (by assumption)); (case k1 => k_asm); (case k2 => k_asm); (case k3 => k_asm); (case k4 => k_asm); (case k5 => k_asm); (case k6 => k_is); (case k7 => k_is); (case k8 => exact Nat.lt_of_le_of_lt (Nat.le_add_right _ _) hd); (case k9 => exact BindsTo.of_eq rfl); (case c5 => decide); (case kB => exact locs rfl); (case c2 => exact rfl); (case c3 => exact rfl); (case c4 => exact rfl); k_whole; intro g L' h' FG F' N' B' X' T' G; (try dsimp only); (try k_fold))))
  (repeat (first | (k_unfold; (try dsimp only)) | ((fail_if_success (with_reducible show wpAny _ _ (exec (Stmt.While _ _ _ _) _) _ _ _)); walk1) | ((fail_if_success (with_reducible show wpAny _ _ (exec (Stmt.While _ _ _ _) _) _ _ _)); dsimp only; walk1)))
  (rename Fr _ _ _ _ => F0)
  (rename News _ _ _ _ => N0)
  refine' While_inv2 (HiJ w l (tooHigh 130 0 [t]) _) F0 (News.sub N0 ?hsub) ⟨_, #[v], 0, _, [t], 0, _, mv2 ?mm rfl rfl, rfl, ⟨hv, trivial⟩, ht, rfl, rfl⟩ ?turn
  case mm => exact fun _ _ => rfl
  case hsub => exact List.forall_mem_cons.mpr ⟨.tail _ (.head _), fun q hq => .tail _ (.tail _ hq)⟩
  case turn =>
  rintro k m9 news9 h9 tk9 F9 N9 ⟨lv, its, n, c, ts, many, mt2, rfl, rfl, hk9, hh⟩
  have hz9 := hh.size
  rw [← hk9.len, Array.length_toList] at hz9
  have hf9 : (its.size : Int) < 2 ^ 63 := Int.lt_of_le_of_lt (Int.ofNat_le.mpr hz9) (by decide)
  have hb9 : decide ((0 : Int) < (its.size : Int)) = !ts.isEmpty := by
    have e := hk9.len
    rw [Array.length_toList] at e
    rw [e]
    cases ts with
    | nil => rfl
    | cons _ _ => exact decide_eq_true (Int.ofNat_lt.mpr (Nat.succ_pos _))
  cases ts with
  | nil =>
    replace hb9 : _ = false := hb9
    k_steps
    refine' Con.fin ret ⟨congrArg Value.bool hh.end_, rfl⟩ ?qF G N ?qF2 ?qN2 ?qN (List.forall_mem_nil _) ?qC
    case qF => assumption
    case qF2 => assumption
    case qN2 => assumption
    case qN => assumption
    case qC => exact fun p hp _ => .tail _ hp
  | cons t1 ts =>
    replace hb9 : _ = true := hb9
    cases k with
    | zero =>
      obtain ⟨rfl, hT⟩ := hh.zero
      have hm9 : decide (((121 : Nat) : Int) ≤ 120) = false := rfl
      k_steps
      refine' Con.fin ret ⟨congrArg Value.bool hT.symm, rfl⟩ ?qF G N ?qF2 ?qN2 ?qN (List.forall_mem_nil _) ?qC
      case qF => assumption
      case qF2 => assumption
      case qN2 => assumption
      case qN => assumption
      case qC => exact fun p hp _ => .tail _ hp
    | succ k =>
      have hm9 : decide ((many : Int) ≤ 120) = true := decide_eq_true (Int.ofNat_le.mpr hh.le)
      have hh2 := hh.step
      k_steps
      refine unhold ?_
      refine' nest_assign (ts := t1 :: ts) ?a1 ?a2 ?a3 ?a4 ?a5 ?a6 ?a7 ?a8 ?a9 ?b1 ?b2 ?b3 ?b4 ?b5 F9 N9 ?b6 hk9 (line3 hh2.size) ?b7 ?b8
      case a1 => exact rfl
      case a2 => exact rfl
      case a3 => exact rfl
      case a4 => decide
      case a5 => decide
      case a6 => exact rfl
      case a7 => exact rfl
      case a8 => decide
      case a9 => exact rfl
      case b1 => exact rfl
      case b2 => exact rfl
      case b3 => exact rfl
      case b4 => exact rfl
      case b5 => exact fun _ _ => rfl
      case b6 => exact rfl
      case b7 =>
        intro C v t h tk m2 E' htv hn hm F N
        refine kid_call F X' T' rfl rfl rfl rfl hn hm ?_
        refine Con.use (dp := dp + 1) (un := un + 3) (children_c w t v l htv) B' F X' N T' ⟨rfl, rfl⟩ (room_in hd (Nat.le_of_ble_eq_true rfl)) (unit_in hu (Nat.le_of_ble_eq_true rfl)) (fun p hp => hp) (fun v nw hv h' tk' F' N' k hn => ?_) fun _ _ _ q => q.elim
        obtain ⟨p, its, c, rfl, rfl, hkl, hz⟩ := hv
        exact ⟨p, its, rfl, ⟨_, (N' _ (.head _)).1, rfl, _, rfl⟩, hkl, hn _ (.head _), h', tk', rfl, fun b o e => k b o e List.not_mem_nil⟩
      case b8 =>
        intro h5 tk5 D ys n5 F5 N5 hk5
        k_steps
        (rename Fr _ _ _ _ => F0)
        (rename News _ _ _ _ => N0)
        exact step_next F0 N0 (Nat.lt_succ_self _) ⟨D, ys, n5, _, _, many + 1, _, mv2 (by (intro y9 hy9; (repeat (refine Eq.trans (if_neg (fun e9 => by (subst e9; simp only [List.contains_cons, beq_self_eq_true, Bool.true_or, Bool.or_true, reduceCtorEq] at hy9))) ?_)); exact mvf_off hy9)) rfl rfl, rfl, hk5, hh2⟩
end
section
noncomputable def parse (n : Nat) (text : List Nat) : R Unit := match next text 1 with
  | none => .oos
  | some (t, r, l) => (expression n ⟨t, r, l, 0⟩).bind fun tree s => if s.tk.kind = .fin then (if thin 122 [tree] then (if tooHigh 130 0 [tree] then fail s else .ok () s) else .oos) else fail s
theorem parse_cases {n : Nat} {x : List Nat} (h : parse n x ≠ .oos) : ∃ t r l, next x 1 = some (t, r, l) ∧ parse n x = (expression n ⟨t, r, l, 0⟩).bind fun tree s => if s.tk.kind = .fin then (if thin 122 [tree] then (if tooHigh 130 0 [tree] then fail s else .ok () s) else .oos) else fail s := by
  unfold parse at *
  cases q : next x 1 with
  | none => rw [q] at h; exact absurd rfl h
  | some p => exact ⟨p.1, p.2.1, p.2.2, rfl, rfl⟩
theorem kind_fin (k : Kd) : (kdS k == Str.ofString "end") = decide (k = .fin) := by cases k <;> decide +kernel
section
variable {w : World} {M : Model} {A : Around} {E E' : Value → Shared → Prop} {s : Shared} {base g h h9 : Heap} {env envc : Env} {outer : List Env} {L' e : Addr} {m' : Str → Option Value} {D' : List Addr} {line : Int} {tk9 : Nat}
theorem Con.leave0 (R : Fl w D' line base (envc :: env :: outer) h e h9) (exc : ∀ e h' tk', Fl w [] line base (env :: outer) s.heap e h' → E (.ref e) { s with heap := h', toks := tk' })
    (G : Ent s [] g) (F' : Fr g L' h m') (hD : ∀ b ∈ D', g.get? b = none) (hA : A.frames = some (envc :: env :: outer)) (hf : envc.frame = some L') :
    wpAny M A (leaving envc (.ref e)) (fun _ s'' => E (.ref e) s'') E' { s with heap := h9, toks := tk9 } := by
  obtain ⟨B, d, hB, hk, x, hd, U⟩ := R
  refine leave_next hA hf x fun h' x' u => exc e h' tk9 ⟨B, d, hB, fun b o eb _ hbf => ?_, x', hd, fun b o eb _ hnf => ?_⟩
  rotate_left
  · have e1 := G.up b o eb List.not_mem_nil
    obtain ⟨sl, e2⟩ := U b o (F'.keep b o e1) (fun hm => by rw [hD b hm] at e1; cases e1) hnf
    obtain ⟨sl', e3⟩ := u b _ e2 hnf
    exact ⟨sl', e3⟩
  have e1 := G.up b o eb List.not_mem_nil
  refine hk b o (F'.keep b o e1) (fun hm => by rw [hD b hm] at e1; cases e1) fun hm => ?_
  unfold frs at hm
  rw [List.filterMap_cons, hf] at hm
  rcases List.mem_cons.mp hm with q | q
  · exact Nat.ne_of_lt (Nat.lt_of_lt_of_le (Heap.lt_size e1) F'.above) q
  · exact hbf q
end
set_option maxRecDepth 100000 in
set_option maxHeartbeats 8000000 in
theorem parse_expression_c (w : World) (n : Nat) (hn : n ≤ 100000) (text : Str) (tt : Tok) (x : List Nat) (h0 : At text 0 x) (hO : parse n x ≠ .oos) :
    Con w 390 (call (.ref 892) [.str text tt]) [] [] (fun v nw => (∃ s, parse n x = .ok () s) ∧ nw = []) (fun base l h e h' => ∃ line : Nat, parse n x = .fail line ∧ Fl w [] line base l h e h') := by
  obtain ⟨t, r, l, q1, q2⟩ := parse_cases hO
  generalize parse n x = res at hO q2 ⊢
  replace hr := q2.symm
  clear q2
  ((intro dp un gd env outer A₀ base h₀ L m p loose mean mg mb s Q E B F X N T hk hd hu ret exc; refine wpAny_call ?_; k_dflt (refine' code_defE ?k1 ?k2 ?k3 ?k4 ?k5 ?kA ?kF ?kK ?k6 ?k7 ?k8 ?k9 ?kB ?_ ?c2 ?c3 ?c4 ?c5; (case kA => exact rfl); (case kF => exact Stands.frame (by assumption)); (case kK => exact Stands.kind (by assumption)); (case k1 => k_asm); (case k2 => k_asm); (case k3 => k_asm); (case k4 => k_asm); (case k5 => k_asm); (case k6 => k_is); (case k7 => k_is); (case k8 => exact Nat.lt_of_le_of_lt (Nat.le_add_right _ _) hd); (case k9 => exact BindsTo.of_eq rfl); (case c5 => decide); (case kB => exact locs rfl); (case c2 => exact rfl); (case c3 => exact rfl); (case c4 => exact rfl); k_whole; intro g L' h' FG F' N' B' X' T' G; (try dsimp only); (try k_fold))))
  k_steps
  k_dflt refine' Con.use (dp := dp + 1) (un := un + 3) (mk_reader w text tt x t r l h0 q1) ?k1 ?k2 ?k3 ?k4 ?k5 ?k6 ?k7 ?k8 ?hr ?_ ?ex
  ((case k1 => k_asm); (case k2 => k_asm); (case k3 => k_asm); (case k4 => k_asm); (case k5 => k_asm); (case k6 => first | assumption | exact Stands.of); (case k7 => exact room_in hd (Nat.le_of_ble_eq_true rfl)); (case k8 => exact unit_in hu (Nat.le_of_ble_eq_true rfl)))
  ((case hr => exact fun _ h => nomatch h); (case ex => exact fun _ _ _ q9 => q9.elim))
  rintro v9 nw9 ⟨f, S, rfl, rep, rfl⟩ h9 tk9 F9 N9 K9 n9
  have fR := (News.tl N9 _ (.head _)).2.2
  have fX := (N9 _ (.tail _ (.tail _ (.tail _ (.head _))))).2.2
  clear K9 n9
  ((try dsimp only); (try k_fold); (try k_sweep))
  k_steps
  have hD : ∀ b ∈ [f.Rd, f.Xd], g.get? b = none := List.forall_mem_cons.mpr ⟨fR, List.forall_mem_cons.mpr ⟨fX, List.forall_mem_nil _⟩⟩
  (k_dflt refine' PC.use (pre := []) ?q2 ?qv ?qr hO B' ?q4 X' ?q6 T' ⟨rfl, rfl⟩ (room_in hd ?q0) (unit_in hu ?q0) Lg.nil rep Off.nil ?_ ?qe; (case q4 => k_asm); (case q6 => k_asm); (case qr => exact hr); (case q2 => exact fun h => expression_pc w f n hn S _ rep h); (case qv => exact treeV_mono w); (case q0 => exact Nat.le_of_ble_eq_true rfl); (case qe => exact fun line q e h' tk' z => Con.leave0 (s := s) z (fun e h' tk' z => exc e h' tk' ⟨line, q, z⟩) G (by k_asm) hD rfl rfl); clear hr)
  intro t1 S1 s1 tl1 v1 h1 tk1 hr hn1 rep1 hv1 aft1 F1 N1
  have he := kind_fin s1.tk.kind
  rw [← rep1.tk.kind] at he
  by_cases hf : s1.tk.kind = .fin
  · rw [decide_eq_true hf] at he
    rw [if_pos hf] at hr
    cases ht : thin 122 [t1] with
    | false => rw [ht] at hr; exact absurd hr.symm hO
    | true =>
      rw [ht, if_pos rfl] at hr
      ((try dsimp only); (try k_fold); (try k_sweep))
      k_steps
      (rename News g _ _ _ => N1)
      k_dflt refine' Con.use (dp := dp + 1) (un := un + 3) (is_too_high_c w t1 v1 _ tl1 hv1 ht) ?k1 ?k2 ?k3 ?k4 ?k5 ?k6 ?k7 ?k8 ?hr ?_ ?ex
      ((case k1 => k_asm); (case k2 => k_asm); (case k3 => k_asm); (case k4 => k_asm); (case k5 => k_asm); (case k6 => first | assumption | exact Stands.of); (case k7 => exact room_in hd (Nat.le_of_ble_eq_true rfl)); (case k8 => exact unit_in hu (Nat.le_of_ble_eq_true rfl)))
      ((case hr => exact fun p hp => mem_rdL (List.mem_append_right _ hp)); (case ex => exact fun _ _ _ q9 => q9.elim))
      rintro v9 nw9 ⟨rfl, rfl⟩ h2 tk2 F2 M2 K2 n2
      have N2 := News.kept0 (News.sub (l' := rdL w f S1 []) N1 (rdL_mono fun _ h => nomatch h)) K2
      clear M2 K2 n2 N1
      cases hb : tooHigh 130 0 [t1] with
      | false =>
        rw [hb, if_neg Bool.false_ne_true] at hr
        ((try dsimp only); (try k_fold); (try k_sweep))
        k_steps
        refine' Con.fin ret ⟨⟨s1, hr.symm⟩, rfl⟩ ?qF G N ?qF2 (News.nil (L := L') (h₀ := g)) News.nil (List.forall_mem_nil _) fun _ h => nomatch h
        case qF => assumption
        case qF2 => assumption
      | true =>
        rw [hb, if_pos rfl] at hr
        replace hr : (fail s1 : R Unit).bind (fun a s => .ok a s) = res := hr
        ((try dsimp only); (try k_fold); (try k_sweep))
        k_steps
        (k_dflt refine' PC.use (pre := []) ?q2 ?qv ?qr hO B' ?q4 X' ?q6 T' ⟨rfl, rfl⟩ (room_in hd ?q0) (unit_in hu ?q0) Lg.nil rep1 Off.nil ?_ ?qe; (case q4 => k_asm); (case q6 => k_asm); (case qr => exact hr); (case q2 => exact fun _ => fail_pc w f S1 s1 rep1 _ _); (case qv => exact fun _ _ _ _ _ h => h); (case q0 => exact Nat.le_of_ble_eq_true rfl); (case qe => exact fun line q e h' tk' z => Con.leave0 (s := s) z (fun e h' tk' z => exc e h' tk' ⟨line, q, z⟩) G (by k_asm) hD rfl rfl); clear hr)
        exact fun _ _ _ _ _ _ _ _ _ _ hv => hv.elim
  · rw [decide_eq_false hf] at he
    rw [if_neg hf] at hr
    replace N1 := News.sub (l' := rdL w f S1 []) N1 (rdL_mono fun _ h => nomatch h)
    replace hr : (fail s1 : R Unit).bind (fun a s => .ok a s) = res := hr
    ((try dsimp only); (try k_fold); (try k_sweep))
    k_steps
    (k_dflt refine' PC.use (pre := []) ?q2 ?qv ?qr hO B' ?q4 X' ?q6 T' ⟨rfl, rfl⟩ (room_in hd ?q0) (unit_in hu ?q0) Lg.nil rep1 Off.nil ?_ ?qe; (case q4 => k_asm); (case q6 => k_asm); (case qr => exact hr); (case q2 => exact fun _ => unexpected_pc w f S1 s1 rep1); (case qv => exact fun _ _ _ _ _ h => h); (case q0 => exact Nat.le_of_ble_eq_true rfl); (case qe => exact fun line q e h' tk' z => Con.leave0 (s := s) z (fun e h' tk' z => exc e h' tk' ⟨line, q, z⟩) G (by k_asm) hD rfl rfl); clear hr)
    exact fun _ _ _ _ _ _ _ _ _ _ hv => hv.elim
end
section
theorem code_defS {prog : Program} {w : World} {A A₀ : Around} {s : Shared} {K : Frag} {L : Addr} {h₀ base : Heap} {m mg mb : Str → Option Value} {news : List (Addr × Obj)} {p : Program} {loose : List Str} {mean : ExcName → Option Value}
    {env : Env} {outer : List Env} {R : Result → Shared → Prop} {name qual : Str} {params : Arguments} {body : List Stmt} {scope : Scope} {dV kV doc pm cdv ct oc : Value} {an od : Option Addr} {osl : Array (Option Value)} {f : Addr} {args : Args} {binds : List (Str × Value)}
    (B : Below A₀ base outer h₀) (F : Fr h₀ L s.heap m) (X₀ : K.In h₀) (N : News h₀ L s.heap news) (T : Top p loose mean mg mb h₀) (hA : A.frames = some (env :: outer)) (hf : env.frame = some L) (hke : env.scope.kind = .function)
    (ho : K.lookup f = some ⟨oc, od, .func (fnOf name qual params body scope dV kV doc pm an cdv ct), osl⟩) (hcd : codeIn K cdv qual = true) (hroom : A.depth < recursionLimit)
    (hbind : BindsTo s (fnOf name qual params body scope dV kV doc pm an cdv ct) args binds) (hloc : ∀ y ∈ binds, scope.names.lookup y.1 = some .local)
    (h : ∀ g L' h₁, Fr h₀ L g m → Fr g L' h₁ (fun y => binds.reverse.lookup y) → News g L' h₁ news → Below A base (env :: outer) g → K.In g → Top p loose mean mg mb g → Ent s news g → s.heap.objs.size ≤ L' → (∀ b o, s.heap.get? b = some o → h₁.get? b = some o) →
      wpAny (model prog w) (A.deeper (envOf qual scope L' f cdv)) (execs body (envOf qual scope L' f cdv))
        (fun fl s' => R (.ok (.ret (match fl with | .ret v => v | _ => .none))) s')
        (fun e s' => wpAny (model prog w) (A.deeper (envOf qual scope L' f cdv)) (leaving (envOf qual scope L' f cdv) e) (fun _ s'' => R (.error e) s'') (fun e' s'' => R (.error e') s'') s')
        { s with heap := h₁, toks := s.toks + binds.length })
    (hco : scope.isCoroutine = false) (hgen : scope.isGenerator = false) (hk : scope.kind = .function)
    (hcell : ∀ x ∈ scope.names, x.2 ≠ .cell) : codeAny (model prog w) A (.call (.ref f) args) R s := by
  obtain ⟨FG, BG, st, -⟩ := groundX (R := R) B F N hA hf hke
  refine codeAny_call_def (fd := fnX name qual params body scope [] dV kV doc pm an cdv ct) (body := body) (binds := binds) hroom ((X₀.keeps F.keep) _ _ ho) rfl (T.nolimit.keeps F.keep) (codeRec_of (X₀.keeps F.keep) hcd) rfl hbind hcell hloc (fun h₁ hns hk₁ => ?_) hco hgen hk
  exact h _ s.heap.objs.size h₁ FG ⟨hns, fun b o e => hk₁ b o (of_hideAll _ e), Nat.le_of_eq (hideAll_size _ _)⟩
    (fun p hp => ⟨hk₁ _ _ (N p hp).1, Nat.ne_of_lt (Heap.lt_size (N p hp).1), hideAll_none _ (List.mem_map_of_mem hp)⟩) BG (X₀.keeps st) (T.keeps st)
    ⟨fun b o e hb => hideAll_get _ e hb, fun b o e => of_hideAll _ e⟩ (Nat.le_refl _) hk₁
section
variable {M : Model} {A : Around} {E : Value → Shared → Prop} {s : Shared} {B : Heap} {env : Env} {outer : List Env} {L e d : Addr} {Q : Unit → Shared → Prop}
theorem catch_next (hfr : A.frames = some (env :: outer)) (hf : env.frame = some L) (x : FlyD B (env :: outer) e d s.heap) (hQ : ∀ h', FlyD B outer e d h' → s.heap.UpToSlots h' → Q () { s with heap := h' }) :
    wpAny M A (noteFrame (.ref e) env) (fun _ s' => wpAny M A (setFlight (.ref e) none) Q E s') E s := by
  obtain ⟨hkb, hen, hl, oe, vs, T, oT, ts, he, hc, hdd, hd, h1, hnT, hTe, hT, hdT, h3⟩ := x
  unfold noteFrame
  simp only [hf]
  refine wpAny_bind (wpAny_field he hd h1 ?_)
  rw [if_pos (show (Value.ref T != Value.none) = true from by simp)]
  refine wpAny_bind (wpAny_field hT hdT h3 ?_)
  rw [if_neg (show ¬ ((Value.none == rawInt L) = true) from by simp [rawInt])]
  refine wpAny_bind (wpAny_setField hT hdT (Array.getElem?_eq_some_iff.mp h3).1 ?_)
  have other : ∀ b, b ≠ T → (s.heap.update T (Obj.mapFields (·.setIfInBounds 3 Value.none))).get? b = s.heap.get? b := fun b hb => Heap.get?_update_other _ _ (Ne.symm hb)
  have off : ∀ b o, s.heap.get? b = some o → (∀ vs, o.data ≠ .fields vs) → b ≠ T := fun b o hb hnf q => by
    rw [q, hT] at hb; cases hb; exact hnf ts hdT
  exact entryD hfr (hl.of_keeps fun b o hb hnf => ⟨o, (other b (off b o hb hnf)).trans hb, rfl⟩) hf ((other e (Ne.symm hTe)).trans he)
    (fun b o hbo => (other b fun q => by rw [q, hnT] at hbo; cases hbo).trans (hkb b o hbo)) hen hc hdd hd (Array.getElem?_eq_some_iff.mp h1).1 fun h' x' u => hQ h' x' fun b o hb hnf => u b o ((other b (off b o hb hnf)).trans hb) hnf
theorem lands_D (x : FlyD B outer e d s.heap) (hQ : ∀ h', FlyD B outer e d h' → s.heap.UpToSlots h' → Q () { s with heap := h' }) : wpAny M A (setFlight (.ref e) none) Q E s := by
  obtain ⟨hkb, hen, hl, oe, vs, T, oT, ts, he, hc, hdd, hd, h1, hnT, hTe, hT, hdT, h3⟩ := x
  have hsz3 : 3 < ts.size := (Array.getElem?_eq_some_iff.mp h3).1
  have other : ∀ b, b ≠ T → (s.heap.update T (Obj.mapFields (·.setIfInBounds 3 ((none : Option Addr).elim Value.none fun f => rawInt f)))).get? b = s.heap.get? b := fun b hb => Heap.get?_update_other _ _ (Ne.symm hb)
  have off : ∀ b o, s.heap.get? b = some o → (∀ vs, o.data ≠ .fields vs) → b ≠ T := fun b o hb hnf q => by
    rw [q, hT] at hb; cases hb; exact hnf ts hdT
  unfold setFlight
  refine wpAny_bind (wpAny_field he hd h1 ?_)
  rw [if_pos (show (Value.ref T != Value.none) = true from by simp)]
  refine wpAny_setField hT hdT hsz3 (hQ _ ⟨fun b o hbo => (other b fun q => by rw [q, hnT] at hbo; cases hbo).trans (hkb b o hbo), hen,
    hl.of_keeps fun b o hb hnf => ⟨o, (other b (off b o hb hnf)).trans hb, rfl⟩, oe, vs, T, _, _, (other e (Ne.symm hTe)).trans he, hc, hdd, hd, h1, hnT, hTe, Heap.get?_update_self _ hT (Obj.isFreed_of_fields (Obj.data_mapFields hdT _)), Obj.data_mapFields hdT _, by simp [hsz3]⟩
    fun b o hb hnf => ⟨o.slots, (other b (off b o hb hnf)).trans hb⟩)
end
section
variable {w : World} {A₀ : Around} {E : Value → Shared → Prop} {h₀ B : Heap} {outer : List Env} {L L' e d a : Addr} {mL m mg mb : Str → Option Value} {s' : Shared} {cn n : Str} {cs : Scope} {ccd v : Value} {b₀ : Stmt} {suite : List Stmt} {pos np : Pos} {rest : List ExceptHandler}
  {Q : Flow → Shared → Prop} {led : List (Addr × Obj)} {p : Program} {loose : List Str} {mean : ExcName → Option Value} {k1 k2 lt : Tok} {line : Int}
theorem catch_fail (hfr : (A₀.deeper (envOf cn cs L' a ccd)).frames = some (envOf cn cs L' a ccd :: outer)) (x : FlyD B (envOf cn cs L' a ccd :: outer) e d s'.heap) (hB : h₀.StaysIn B)
    (hns : s'.heap.Ns L' m) (hnL : s'.heap.Ns L mL) (hLL : L ≠ L') (ab : h₀.objs.size ≤ L') (hL0 : h₀.get? L = none) (hl : ∀ q ∈ led, B.get? q.1 = some q.2 ∧ h₀.get? q.1 = none) (hd : B.get? d = some (failDict w k1 k2 v line lt))
    (X : Frag.In (Mine.k0.heap_1 w.params) h₀) (T : Top p loose mean mg mb h₀)
    (k : ∀ h' tk oL oe, Fr h₀ L' h' (fun y => if y = n then some (.ref e) else m y) → News h₀ L' h' ((L, oL) :: led) → LCg.NsObj oL mL → InstAt h' e oe 371 (some (failDict w k1 k2 v line lt)) →
      wpAny (model PySem.Challenge.pw_pc0091_01 w) ((A₀.deeper (envOf cn cs L' a ccd)).mark (some (.ref e))) (execs (b₀ :: suite) (envOf cn cs L' a ccd))
        (fun f s₄ => wpAny (model PySem.Challenge.pw_pc0091_01 w) (A₀.deeper (envOf cn cs L' a ccd)) (do bindName (envOf cn cs L' a ccd) n .none; unbindBehindTheSuite (envOf cn cs L' a ccd) n pos) (fun _ s₅ => Q f s₅) E s₄)
        (AsSuiteRaised (model PySem.Challenge.pw_pc0091_01 w) ((A₀.deeper (envOf cn cs L' a ccd)).mark (some (.ref e))) (envOf cn cs L' a ccd) n pos (notedBy (model PySem.Challenge.pw_pc0091_01 w) ((A₀.deeper (envOf cn cs L' a ccd)).mark (some (.ref e))) (envOf cn cs L' a ccd) (cameBackBy (model PySem.Challenge.pw_pc0091_01 w) (A₀.deeper (envOf cn cs L' a ccd)) (envOf cn cs L' a ccd) E)))
        { s' with heap := h', toks := tk })
    (hk : cs.kind = .function) (hlo : (envOf cn cs L' a ccd).kindOf n = some .local) (hx : (envOf cn cs L' a ccd).kindOf (Str.ofString "SyntaxFail") = some .globalImplicit) :
    wpAny (model PySem.Challenge.pw_pc0091_01 w) (A₀.deeper (envOf cn cs L' a ccd)) (noteFrame (.ref e) (envOf cn cs L' a ccd))
      (fun _ s₂ => wpAny (model PySem.Challenge.pw_pc0091_01 w) (A₀.deeper (envOf cn cs L' a ccd)) (setFlight (.ref e) none) (fun _ s₃ =>
        wpAny (model PySem.Challenge.pw_pc0091_01 w) (A₀.deeper (envOf cn cs L' a ccd)) (handleBy (.ref e) (envOf cn cs L' a ccd) (.ExceptHandler (some (.Name (Str.ofString "SyntaxFail") np)) (some n) (b₀ :: suite) pos :: rest)) Q E s₃) E s₂) E s' := by
  obtain ⟨hp, gs, dr, tk, os⟩ := s'
  have hBL : B.get? L' = none := (x.frames.mem (List.mem_filterMap.mpr ⟨_, List.mem_cons_self, rfl⟩)).1
  refine catch_next hfr rfl x fun h₅ x5 u5 => ?_
  have F₅ : Fr h₀ L' h₅ m := ⟨u5.ns hns, fun b o q => x5.stays b o (hB b o q), ab⟩
  refine wpAny_handleBy_cons (codeAny_handlers_test (Name_function_global hk hx (loadGlobal_global (env := envOf cn cs L' a ccd) (show h₅.Ns mainGlobals mg from (T.keeps F₅.keep).g) (mg_of X T.g (by k_is)) ?_) rfl)) (by intro q; cases q)
  obtain ⟨oe, vs, T', oT, ts, he, hc, -⟩ := x5.tr
  refine wpAny_excMatches_sub_self ((X.keeps F₅.keep) _ _ (failCls_in w)) he hc rfl (codeAny_handlers_suite_as ?_)
  refine lands_D x5 fun h₆ x6 u6 => ?_
  have F₆ : Fr h₀ L' h₆ m := ⟨(u5.trans u6).ns hns, fun b o q => x6.stays b o (hB b o q), ab⟩
  refine wpAny_storeName_local hlo F₆.ns (fun h₇ hn₇ hs₇ => ?_) (by show (cs.kind == .class || (cs.kind == .module && L' != mainGlobals)) = false; rw [hk]; rfl)
  obtain ⟨⟨c6, dc6, dt6, sl6⟩, vs6, T6, oT6, ts6, he6, hc6, hdd6, hd6, -⟩ := x6.tr
  dsimp only at hc6 hdd6 hd6
  subst hc6 hdd6 hd6
  obtain ⟨oL, hoL, hnoL⟩ := LCg.ns_obj ((u5.trans u6).ns hnL)
  have hel : e ≠ L' := fun q => by
    obtain ⟨o, es, ep, ho, hdt, _⟩ := F₆.ns
    rw [← q, he6] at ho
    cases ho
    cases hdt
  have nl : ∀ b o, B.get? b = some o → b ≠ L' := fun b o q z => by rw [z, hBL] at q; cases q
  refine k h₇ _ oL _ (F₆.set hn₇ hs₇) (List.forall_mem_cons.mpr ⟨⟨(hs₇.extBut _ _ hLL hoL), hLL, hL0⟩, fun q hq => ⟨hs₇.extBut _ _ (nl _ _ (hl q hq).1) (x6.stays _ _ (hl q hq).1), nl _ _ (hl q hq).1, (hl q hq).2⟩⟩) hnoL ⟨hs₇.extBut _ _ hel he6, rfl, rfl, hs₇.extBut _ _ (nl _ _ hd) (x6.stays _ _ hd)⟩
end
section
variable {prog : Program} {w : World} {A : Around} {E : Value → Shared → Prop} {s : Shared} {K : Frag} {x : Addr} {ox : Obj} {od : Option Obj} {name : Str} {expr : Bool} {Q : Value → Shared → Prop}
theorem get_exc {v : Value} (X : K.In s.heap) (hC : s.heap.get? 371 = some failCls) (I : InstAt s.heap x ox 371 od) (hga : findIn K (.ref 371) "__getattribute__" = some (some (.builtin "BaseException.__getattribute__"))) (hgt : findIn K (.ref 371) "__getattr__" = some none)
    (hf : findObj K 371 od name = some (.value v)) (hh : handedIn v = true) (h : Q v { s with toks := s.toks + 1 }) : wpAny (model prog w) A (getAttr (.ref x) name expr) Q E s := by
  obtain ⟨hp, g, d, t, os⟩ := s
  have L0 := I.type (M := model prog w)
  have L1 := looks_findIn (M := model prog w) X hga
  have L2 := looks_findIn (M := model prog w) X hgt
  have L3 := looks_find (M := model prog w) X I hf
  have FB := PySem.F.attrBase_Exception
  have hx2 : (Value.builtin "BaseException.__getattribute__" == Value.builtin "object.__getattribute__") = false := by decide +kernel
  unfold getAttr getAttrBy
  refine wpAny_bind (wpAny_mkText (wpAny_holding (wpAny_bind (L0.at (wpAny_bind (L1.at ?_))))))
  dsimp only
  rw [hx2, Bool.and_false, if_neg Bool.false_ne_true]
  unfold getAttrByItsOwn
  refine wpAny_bind (show wpAny _ _ (typeLookup (.ref 371) "__getattr__") _ _ _ from L2.at ?_)
  have hx0 : (expr && onTheHeap (Value.builtin "BaseException.__getattribute__")) = false := by cases expr <;> rfl
  refine wpAny_bind (wpAny_attempt (wpAny_holding ?_))
  unfold callGetattribute boundAndCalled
  rw [hx0, if_neg Bool.false_ne_true, FB.ga.bind (.ref x)]
  refine wpAny_bind (wpAny_pure (wpAny_call (codeAny_call_builtin FB.ga.plain PySem.F.entry_bexc_ga (wpAny_check_ga_own FB hC .base I.at_ I.cls ?_))))
  unfold Builtin.«object.__getattribute__»
  refine wpAny_bind (wpAny_pure (wpAny_bind (wpAny_pure (wpAny_bind (L0.at (wpAny_bind (L3.at ?_)))))))
  refine wpAny_pure ?_
  show wpAny _ _ (handedOut v) _ _ _
  rw [handedOut_of hh]; exact wpAny_pure h
end
local macro_rules | `(tactic| walk_at "getAttr ref") => `(tactic| (k_here; refine hold_ ?_))
set_option maxRecDepth 100000 in
set_option maxHeartbeats 8000000 in
theorem law_line_c (w : World) (text : Str) (tt : Tok) (k : Int) 
    (C : Con w 390 (call (.ref 892) [.str text tt]) [] [] (fun v nw => k = 0 ∧ nw = []) (fun base l h e h' => Fl w [] k base l h e h')) {dp un : Nat} {gd : Option (List Code)} {env : Env} {A₀ : Around} {base h₀ : Heap} {L : Addr} {m : Str → Option Value}
    {p : Program} {loose : List Str} {mean : ExcName → Option Value} {mg mb : Str → Option Value} {led : List (Addr × Obj)} {s : Shared} {Q E : Value → Shared → Prop}
    (B : Below A₀ base [] h₀) (F : Fr h₀ L s.heap m) (X : Frag.In (Mine.k0.heap_1 w.params) h₀) (N : News h₀ L s.heap led) (T : Top p loose mean mg mb h₀) (hk : Stands env L) (hd : dp + 400 < recursionLimit) (hu : un + 20 * 400 < cLine)
    (ret : ∀ h' tk' t, Fr h₀ L h' m → News h₀ L h' led → Q (.int k t) { s with heap := h', toks := tk' }) :
    wpAny (model PySem.Challenge.pw_pc0091_01 w) (aTop dp un gd env []) (call (.ref 906) [.str text tt]) Q E s := by
  refine wpAny_call ?_
  k_dflt (refine' code_defS ?k1 ?k2 ?k3 ?k4 ?k5 ?kA ?kF ?kK ?k6 ?k7 ?k8 ?k9 ?kB ?_ ?c2 ?c3 ?c4 ?c5; (case kA => exact rfl); (case kF => exact Stands.frame (by assumption)); (case kK => exact Stands.kind (by assumption)); (case k1 => k_asm); (case k2 => k_asm); (case k3 => k_asm); (case k4 => k_asm); (case k5 => k_asm); (case k6 => k_is); (case k7 => k_is); (case k8 => exact Nat.lt_of_le_of_lt (Nat.le_add_right _ _) hd); (case k9 => exact BindsTo.of_eq rfl); (case c5 => decide); (case kB => exact locs rfl); (case c2 => exact rfl); (case c3 => exact rfl); (case c4 => exact rfl); k_whole; intro g L' h' FG F' N' B' X' T' G lL' up'; (try dsimp only); (try k_fold))
  k_steps
  k_dflt refine' Con.use (dp := dp + 1) (un := un + 3) C ?k1 ?k2 ?k3 ?k4 ?k5 ?k6 ?k7 ?k8 ?hr ?_ ?ex
  ((case k1 => k_asm); (case k2 => k_asm); (case k3 => k_asm); (case k4 => k_asm); (case k5 => k_asm); (case k6 => first | assumption | exact Stands.of); (case k7 => exact room_in hd (Nat.le_of_ble_eq_true rfl)); (case k8 => exact unit_in hu (Nat.le_of_ble_eq_true rfl)))
  case hr => exact fun _ h => nomatch h
  case ex =>
    intro e h9 tk9 ⟨B1, d, hB, hkk, x, ⟨k1, k2, v, lt, hd1⟩, U⟩
    have U' : Heap.UpToSlots h' h9 := fun b o e hn => U b o e List.not_mem_nil hn
    have lLL : L < L' := Nat.lt_of_lt_of_le F.ns.lt lL'
    have inB : ∀ b o, s.heap.get? b = some o → b ≠ L → B1.get? b = some o := fun b o e hb => hkk b o (up' b o e) List.not_mem_nil fun hm => by
      unfold frs at hm
      rw [List.filterMap_cons, List.filterMap_cons, hk.frame] at hm
      rcases List.mem_cons.mp hm with q | hm
      · exact Nat.ne_of_lt (Nat.lt_of_lt_of_le (Heap.lt_size e) lL') q
      · rcases List.mem_cons.mp hm with q | hm
        · exact hb q
        · exact absurd hm List.not_mem_nil
    refine catch_fail rfl x (fun b o e => inB b o (F.keep b o e) (Nat.ne_of_lt (Nat.lt_of_lt_of_le (Heap.lt_size e) F.above))) (U'.ns F'.ns) (U'.ns (F.ns.keeps up')) (Nat.ne_of_lt lLL) (Nat.le_trans F.above (Nat.le_of_lt lLL)) (Heap.get?_none_of_le F.above) (fun q hq => ⟨inB _ _ (N q hq).1 (N q hq).2.1, (N q hq).2.2⟩) hd1 X T ?_ rfl rfl rfl
    intro h7 tk7 oL oe F7 N7 hoL I
    k_steps
    refine unhold ?_
    refine get_exc (X.keeps F7.keep) ((X.keeps F7.keep) _ _ (failCls_in w)) I (by k_is) (by k_is) (findObj_own (attr := none) (by k_is) (by k_is) (by k_is) rfl) rfl ?_
    ((try dsimp only); (try k_fold); (try k_sweep))
    k_steps
    (rename Fr _ _ _ _ => F8)
    (rename News _ _ _ _ => N8)
    exact ret _ _ _ ⟨hoL.ns (N8 _ (.head _)).1, F8.keep, F.above⟩ fun q hq => ⟨(N8 q (.tail _ hq)).1, (N q hq).2⟩
  rintro v9 nw9 ⟨hk0, rfl⟩ h9 tk9 F9 N9 K9 n9
  subst hk0
  have N10 := News.kept0 N' K9
  clear N9 K9 n9
  k_steps
  exact ret _ _ _ ⟨FG.ns.keeps F9.keep, fun b o e => F9.keep b o (FG.keep b o e), F.above⟩ fun q hq => ⟨(N10 q hq).1, (N q hq).2⟩
end
section
noncomputable def ans : R Unit → Option Int
  | .ok _ _ => some 0
  | .fail n => some (n : Int)
  | .oos => none
theorem line_con (w : World) (n : Nat) (hn : n ≤ 100000) (text : Str) (tt : Tok) (x : List Nat) (h0 : At text 0 x) {k : Int} (hk : ans (parse n x) = some k) :
    Con w 390 (call (.ref 892) [.str text tt]) [] [] (fun v nw => k = 0 ∧ nw = []) (fun base l h e h' => Fl w [] k base l h e h') := by
  have hO : parse n x ≠ .oos := fun q => by rw [q] at hk; cases hk
  intro dp un gd env outer A₀ base h₀ L m p loose mean mg mb s Q E B F X N T hs hd hu ret exc
  refine parse_expression_c w n hn text tt x h0 hO _ _ _ _ _ _ _ _ _ _ _ _ _ _ _ s Q E B F X N T hs hd hu (fun v nw h' tk' hv => ret v nw h' tk' ⟨?_, hv.2⟩) (fun e h' tk' z => exc e h' tk' ?_)
  · obtain ⟨s1, q⟩ := hv.1
    rw [q] at hk
    exact (Option.some.inj hk).symm
  · obtain ⟨line, q, z⟩ := z
    rw [q] at hk
    exact Option.some.inj hk ▸ z
noncomputable def rep (x : List Nat) : Nat → List Nat | 0 => [] | n + 1 => x ++ rep x n
noncomputable def aheads : List (List Nat × List Nat) := [([40, 10], [41]), ([45, 10], []), ([97, 32, 61, 10], []), ([97, 32, 63, 32, 98, 32, 58, 10], []), ([110, 101, 119, 10], []), ([97, 32, 91, 10], [93]), ([102, 32, 40, 10], [41])]
noncomputable def nestX (i many : Nat) : List Nat := match aheads[i]? with | some (a, b) => rep a many ++ (97 :: rep b many) | none => []
noncomputable def dueN (i many : Nat) : Int := if many < 40 then 0 else if i = 3 then 40 else 41
end
section
noncomputable def isPen (o : Obj) : Bool := match o.cls, o.data with
  | .type _, .seq a _ => (match a.toList with | [.ref _, .int _ _, .int _ _] => true | _ => false)
  | _, _ => false
theorem News.offPen {h₀ h : Heap} {L pn l0 i n : Nat} {t1 t2 : Tok} {z : Int} {led : List (Addr × Obj)} (N : News h₀ L h ((pn, penO l0 i t1 z t2 n) :: led)) (hc : (led.all fun q => !isPen q.2) = true) : ∀ q ∈ led, q.1 ≠ pn := fun q hq e => by
  have h1 := (N _ (.head _)).1
  have h2 := (N q (.tail _ hq)).1
  rw [e] at h2
  have h3 : penO l0 i t1 z t2 n = q.2 := Option.some.inj (h1.symm.trans h2)
  have h4 := List.all_eq_true.mp hc q hq
  rw [← h3] at h4
  cases h4
section
variable {w : World} {dp un : Nat} {gd : Option (List Code)} {env : Env} {outer : List Env} {A₀ : Around} {base h₀ : Heap} {L : Addr} {m : Str → Option Value}
  {p : Program} {loose : List Str} {mean : ExcName → Option Value} {mg mb : Str → Option Value} {rest : List (Addr × Obj)} {s : Shared} {Q E : Value → Shared → Prop}
theorem pick_use {pn l0 i n n2 k : Nat} {t1 t2 kt : Tok} {z : Int} {vs : List Value} {ns : List Int} (N : News h₀ L s.heap ((pn, penO l0 i t1 z t2 n) :: (l0, listOf vs.toArray n2) :: rest)) (hi : IntsAre vs ns) (hz : ns.length ≤ 20) (hc : (rest.all fun q => !isPen q.2) = true) (hne : pn ≠ l0) (hk0 : Nat.blt 0 k = true) (h30 : Nat.blt i 1000 = true)
    (B : Below A₀ base outer h₀) (F : Fr h₀ L s.heap m) (X : Frag.In (Mine.k0.heap_1 w.params) h₀) (T : Top p loose mean mg mb h₀) (hk : Stands env L) (hd : dp + 5 < recursionLimit) (hu : un + 100 < cLine)
    (ret : ∀ r rt t1' n' h' tk', pn ≠ l0 → r < k → Fr h₀ L h' m → News h₀ L h' ((pn, penO l0 (i + 1) t1' z t2 n') :: (l0, listOf vs.toArray n2) :: rest) → Q (.int (r : Nat) rt) { s with heap := h', toks := tk' }) :
    wpAny (model PySem.Challenge.pw_pc0091_01 w) (aTop dp un gd env outer) (call (.ref 899) [.ref pn, .int (k : Nat) kt]) Q E s := by
  have off := News.offPen (News.sub N (List.forall_mem_cons.mpr ⟨.head _, fun q hq => .tail _ (.tail _ hq)⟩)) hc
  refine Con.use (law_pick_c w pn l0 i t1 t2 z n n2 vs ns k kt hi hz (Nat.blt_eq ▸ hk0) (Nat.blt_eq ▸ h30) hne) B F X N T hk hd hu (List.forall_mem_cons.mpr ⟨.head _, List.forall_mem_cons.mpr ⟨.tail _ (.head _), List.forall_mem_nil _⟩⟩) (fun v nw hv h' tk' F' N' K _ => ?_) fun _ _ _ q => q.elim
  obtain ⟨r, rt, t1', n', hr, rfl, rfl⟩ := hv
  refine ret r rt t1' n' h' tk' hne hr F' (List.forall_mem_cons.mpr ⟨N' _ (.head _), News.kept (fun q hq => N q (.tail _ hq)) K fun q hq hm => ?_⟩)
  rcases List.mem_cons.mp hq with rfl | hq
  · exact hne (List.mem_singleton.mp hm).symm
  · exact off q hq (List.mem_singleton.mp hm)
end
section
variable {prog : Program} {w : World} {A : Around} {E : Value → Shared → Prop} {s : Shared} {h₀ : Heap} {L : Addr} {led : List (Addr × Obj)} {Q : Value → Shared → Prop}
theorem item_r {value slice : PySem.Expr} {vs : List Value} {l r c : Nat} {u : Tok} (N : News h₀ L s.heap led) (hm : (l, listOf vs.toArray c) ∈ led) (hr : r < vs.length) (hz : Nat.ble vs.length 100 = true) (h : ∀ v, vs[r]? = some v → Q v s)
    (hs : subscripted slice false (.ref l) (.int (r : Nat) u) = operate [.ref l, .int (r : Nat) u] (getItem (.ref l) (.int (r : Nat) u)) := by with_unfolding_all rfl) :
    wpAny (model prog w) A (subscriptTail value slice (.ref l) (.int (r : Nat) u)) Q E s :=
  item_litK ⟨_, (N _ hm).1, rfl, c, rfl⟩ (Int.natCast_nonneg r) (Int.lt_of_le_of_lt (Int.ofNat_le.mpr (Nat.le_trans (Nat.le_of_lt hr) (Nat.le_of_ble_eq_true hz))) (by decide)) (by rw [Int.toNat_natCast]; exact List.getElem?_eq_getElem hr) (h _ (List.getElem?_eq_getElem hr)) hs
end
noncomputable abbrev tupS (a b : Str) (ta tb : Tok) : Obj := { cls := .type "tuple", data := .seq #[.str a ta, .str b tb] }
theorem pen_first {h₀ h : Heap} {L : Addr} {a x b : Addr × Obj} {y : List (Addr × Obj)} (A : List (Addr × Obj)) (N : News h₀ L h (A ++ a :: x :: b :: y)) : News h₀ L h (a :: b :: A) :=
  List.forall_mem_cons.mpr ⟨N _ (List.mem_append_right _ (.head _)), List.forall_mem_cons.mpr ⟨N _ (List.mem_append_right _ (.tail _ (.tail _ (.head _)))), fun q hq => N q (List.mem_append_left _ hq)⟩⟩
section
variable {M : Model} {A : Around} {E : Value → Shared → Prop} {s : Shared} {h₀ : Heap} {L : Addr} {m : Str → Option Value} {Q : Value → Shared → Prop}
noncomputable def Met (h₀ : Heap) (L : Addr) (m : Str → Option Value) (s : Shared) (pn l0 i : Nat) (z : Int) (t2 : Tok) (ol : Obj) (P : Int → Prop) (v : Value) (s' : Shared) : Prop :=
  ∃ (k : Int) (kt : Tok) (h' : Heap) (tk' : Nat) (t1 : Tok) (n : Nat), P k ∧ v = .int k kt ∧ s' = { s with heap := h', toks := tk' } ∧ Fr h₀ L h' m ∧ News h₀ L h' [(pn, penO l0 i t1 z t2 n), (l0, ol)]
theorem join_int {t : Sem Value} {pn l0 i j n : Nat} {t1 t2 : Tok} {z : Int} {ol : Obj} (P : Int → Prop) (F : Fr h₀ L s.heap m) (N : News h₀ L s.heap [(pn, penO l0 j t1 z t2 n), (l0, ol)])
    (walk : wpAny M A t (Met h₀ L m s pn l0 i z t2 ol P) E s)
    (rest : ∀ k kt h' tk' t1 n, P k → Fr h₀ L h' m → News h₀ L h' [(pn, penO l0 i t1 z t2 n), (l0, ol)] → Q (.int k kt) { s with heap := h', toks := tk' }) : wpAny M A t Q E s := by
  refine wpAny_mono walk (fun v s' hv => ?_) fun _ _ e => e
  obtain ⟨k, kt, h', tk', t1, n, hP, rfl, rfl, F', N'⟩ := hv
  exact rest k kt h' tk' t1 n hP F' N'
end
noncomputable def tab1 : List (Str × Str) := [(Str.ofString "(\n", Str.ofString ")"), (Str.ofString "-\n", Str.ofString ""), (Str.ofString "a =\n", Str.ofString ""), (Str.ofString "a ? b :\n", Str.ofString ""), (Str.ofString "new\n", Str.ofString ""), (Str.ofString "a [\n", Str.ofString "]"), (Str.ofString "f (\n", Str.ofString ")")]
theorem tab1_q {r : Nat} {a b : Str} (h : tab1[r]? = some (a, b)) : Txt.contains a (Str.ofString "?") = decide (r = 3) := by
  rcases r with _ | _ | _ | _ | _ | _ | _ | r
  all_goals first | (cases h; decide +kernel) | cases h
theorem tab1_len {r : Nat} {a b : Str} (h : tab1[r]? = some (a, b)) : a.length ≤ 8 ∧ b.length ≤ 8 := by
  rcases r with _ | _ | _ | _ | _ | _ | _ | r
  all_goals first | (cases h; decide +kernel) | cases h
theorem mul_ok {a : Str} {n : Nat} (ha : a.length ≤ 8) (hn : n < 300) : MulOk a (n : Int) := mulOk_of 8 300 ha (Int.ofNat_le.mpr (Nat.le_of_lt hn)) (Int.le_trans (by decide) (Int.natCast_nonneg n)) (by decide) (by decide)
noncomputable abbrev tupS3 (a b c : Str) (ta tb tc : Tok) : Obj := { cls := .type "tuple", data := .seq #[.str a ta, .str b tb, .str c tc] }
end
section
theorem rep_foldl (c : Array Nat) : ∀ (n : Nat) (acc : Array Nat), ((List.replicate n c).foldl (· ++ ·) acc).toList = acc.toList ++ rep c.toList n
  | 0, acc => (List.append_nil _).symm
  | n + 1, acc => by
    rw [List.replicate_succ, List.foldl_cons, rep_foldl c n, Array.toList_append, List.append_assoc]; rfl
theorem rep_nil : ∀ n, rep [] n = []
  | 0 => rfl
  | n + 1 => rep_nil n
theorem mul_cps (x : Str) (n : Nat) : (Txt.mul x (n : Int)).cps.toList = rep x.cps.toList n := by
  unfold Txt.mul
  cases n with
  | zero => rfl
  | succ k =>
    rw [if_neg (show ¬ ((k + 1 : Nat) : Int) < 1 from Int.not_lt.mpr (Int.ofNat_le.mpr (Nat.succ_le_succ (Nat.zero_le k))))]
    cases hc : (((k + 1 : Nat) : Int) == 1 || x.length == 0) with
    | true =>
      rw [if_pos rfl]
      rcases Bool.or_eq_true_iff.mp hc with h | h
      · have h1 : k + 1 = 1 := Int.ofNat.inj (beq_iff_eq.mp h)
        obtain rfl : k = 0 := Nat.succ.inj h1
        exact (List.append_nil _).symm
      · have h1 : x.cps.size = 0 := beq_iff_eq.mp h
        have h2 : x.cps.toList = [] := List.eq_nil_of_length_eq_zero (by rw [Array.length_toList]; exact h1)
        rw [h2, rep_nil]
    | false =>
      rw [if_neg Bool.false_ne_true]
      exact rep_foldl _ _ _
theorem rep_len (l : List Nat) : ∀ n, (rep l n).length = n * l.length
  | 0 => (Nat.zero_mul _).symm
  | n + 1 => by rw [rep, List.length_append, rep_len l n, Nat.succ_mul, Nat.add_comm]
theorem rep_mem {l : List Nat} {c : Nat} : ∀ {n : Nat}, c ∈ rep l n → c ∈ l
  | 0, h => nomatch h
  | n + 1, h => (List.mem_append.mp h).elim id rep_mem
theorem app_cps (x y : Str) : (x ++ y).cps.toList = x.cps.toList ++ y.cps.toList := Array.toList_append
theorem str_len (x : Str) : x.length = x.cps.toList.length := (Array.length_toList).symm
theorem mul_len (x : Str) (n : Nat) : (Txt.mul x (n : Int)).length = n * x.length := by rw [str_len, mul_cps, rep_len, ← str_len]
theorem At.whole {x : Str} {l : List Nat} (h : x.cps.toList = l) (hs : ∀ c ∈ l, c < 128) (hz : l.length < 100000) : At x 0 l := by
  have hl : x.length = l.length := by rw [str_len, h]
  exact ⟨Int.le_refl _, Int.natCast_nonneg _, h, hs, by rw [hl]; exact hz⟩
theorem tab1_at {r : Nat} {a b : Str} (h : tab1[r]? = some (a, b)) : aheads[r]? = some (a.cps.toList, b.cps.toList) ∧ (∀ c ∈ a.cps.toList, c < 128) ∧ ∀ c ∈ b.cps.toList, c < 128 := by
  rcases r with _ | _ | _ | _ | _ | _ | _ | r
  all_goals first | (cases h; decide +kernel) | cases h
theorem nest_at {r many : Nat} {a b : Str} (h : tab1[r]? = some (a, b)) (hm : many < 45) : At (Txt.mul a (many : Int) ++ Str.ofString "a" ++ Txt.mul b (many : Int)) 0 (nestX r many) := by
  obtain ⟨h1, h2, h3⟩ := tab1_at h
  have hl := tab1_len h
  have e : nestX r many = rep a.cps.toList many ++ (97 :: rep b.cps.toList many) := by unfold nestX; rw [h1]
  rw [e]
  refine At.whole (by rw [app_cps, app_cps, mul_cps, mul_cps, List.append_assoc]; rfl) (fun c hc => ?_) ?_
  · rcases List.mem_append.mp hc with hc | hc
    · exact h2 c (rep_mem hc)
    · rcases List.mem_cons.mp hc with rfl | hc
      · decide
      · exact h3 c (rep_mem hc)
  · rw [List.length_append, List.length_cons, rep_len, rep_len, ← str_len, ← str_len]
    have q1 : many * a.length ≤ 45 * 8 := Nat.mul_le_mul (Nat.le_of_lt hm) hl.1
    have q2 : many * b.length ≤ 45 * 8 := Nat.mul_le_mul (Nat.le_of_lt hm) hl.2
    exact Nat.lt_of_le_of_lt (Nat.add_le_add q1 (Nat.succ_le_succ q2)) (by decide)
end
section
noncomputable def nestOk (i m : Nat) : Bool := ans (parse 600 (nestX i m)) == some (dueN i m)
theorem all_cut {f : Nat → Bool} (a b c a' d : Nat) (ha : a + b = a') (hd : b + c = d) (x : (List.range' a b).all f = true) (y : (List.range' a' c).all f = true) : (List.range' a d).all f = true := by
  subst ha hd
  rw [← List.range'_append_1, List.all_append, x, y]; rfl
set_option maxRecDepth 1000000
theorem nx00 : (List.range' 0 5).all (nestOk 0) = true := by decide +kernel
theorem nx01 : (List.range' 5 5).all (nestOk 0) = true := by decide +kernel
theorem nx02 : (List.range' 10 5).all (nestOk 0) = true := by decide +kernel
theorem nx03 : (List.range' 15 5).all (nestOk 0) = true := by decide +kernel
theorem nx04 : (List.range' 20 5).all (nestOk 0) = true := by decide +kernel
theorem nx05 : (List.range' 25 5).all (nestOk 0) = true := by decide +kernel
theorem nx06 : (List.range' 30 5).all (nestOk 0) = true := by decide +kernel
theorem nx07 : (List.range' 35 5).all (nestOk 0) = true := by decide +kernel
theorem nx08 : (List.range' 40 5).all (nestOk 0) = true := by decide +kernel
theorem nx10 : (List.range' 0 5).all (nestOk 1) = true := by decide +kernel
theorem nx11 : (List.range' 5 5).all (nestOk 1) = true := by decide +kernel
theorem nx12 : (List.range' 10 5).all (nestOk 1) = true := by decide +kernel
theorem nx13 : (List.range' 15 5).all (nestOk 1) = true := by decide +kernel
theorem nx14 : (List.range' 20 5).all (nestOk 1) = true := by decide +kernel
theorem nx15 : (List.range' 25 5).all (nestOk 1) = true := by decide +kernel
theorem nx16 : (List.range' 30 5).all (nestOk 1) = true := by decide +kernel
theorem nx17 : (List.range' 35 5).all (nestOk 1) = true := by decide +kernel
theorem nx18 : (List.range' 40 5).all (nestOk 1) = true := by decide +kernel
theorem nx20 : (List.range' 0 5).all (nestOk 2) = true := by decide +kernel
theorem nx21 : (List.range' 5 5).all (nestOk 2) = true := by decide +kernel
theorem nx22 : (List.range' 10 5).all (nestOk 2) = true := by decide +kernel
theorem nx23 : (List.range' 15 5).all (nestOk 2) = true := by decide +kernel
theorem nx24 : (List.range' 20 5).all (nestOk 2) = true := by decide +kernel
theorem nx25 : (List.range' 25 5).all (nestOk 2) = true := by decide +kernel
theorem nx26 : (List.range' 30 5).all (nestOk 2) = true := by decide +kernel
theorem nx27 : (List.range' 35 5).all (nestOk 2) = true := by decide +kernel
theorem nx28 : (List.range' 40 5).all (nestOk 2) = true := by decide +kernel
theorem nx30 : (List.range' 0 5).all (nestOk 3) = true := by decide +kernel
theorem nx31 : (List.range' 5 5).all (nestOk 3) = true := by decide +kernel
theorem nx32 : (List.range' 10 5).all (nestOk 3) = true := by decide +kernel
theorem nx33 : (List.range' 15 5).all (nestOk 3) = true := by decide +kernel
theorem nx34 : (List.range' 20 5).all (nestOk 3) = true := by decide +kernel
theorem nx35 : (List.range' 25 5).all (nestOk 3) = true := by decide +kernel
theorem nx36 : (List.range' 30 5).all (nestOk 3) = true := by decide +kernel
theorem nx37 : (List.range' 35 5).all (nestOk 3) = true := by decide +kernel
theorem nx38 : (List.range' 40 5).all (nestOk 3) = true := by decide +kernel
theorem nx40 : (List.range' 0 5).all (nestOk 4) = true := by decide +kernel
theorem nx41 : (List.range' 5 5).all (nestOk 4) = true := by decide +kernel
theorem nx42 : (List.range' 10 5).all (nestOk 4) = true := by decide +kernel
theorem nx43 : (List.range' 15 5).all (nestOk 4) = true := by decide +kernel
theorem nx44 : (List.range' 20 5).all (nestOk 4) = true := by decide +kernel
theorem nx45 : (List.range' 25 5).all (nestOk 4) = true := by decide +kernel
theorem nx46 : (List.range' 30 5).all (nestOk 4) = true := by decide +kernel
theorem nx47 : (List.range' 35 5).all (nestOk 4) = true := by decide +kernel
theorem nx48 : (List.range' 40 5).all (nestOk 4) = true := by decide +kernel
theorem nx50 : (List.range' 0 5).all (nestOk 5) = true := by decide +kernel
theorem nx51 : (List.range' 5 5).all (nestOk 5) = true := by decide +kernel
theorem nx52 : (List.range' 10 5).all (nestOk 5) = true := by decide +kernel
theorem nx53 : (List.range' 15 5).all (nestOk 5) = true := by decide +kernel
theorem nx54 : (List.range' 20 5).all (nestOk 5) = true := by decide +kernel
theorem nx55 : (List.range' 25 5).all (nestOk 5) = true := by decide +kernel
theorem nx56 : (List.range' 30 5).all (nestOk 5) = true := by decide +kernel
theorem nx57 : (List.range' 35 5).all (nestOk 5) = true := by decide +kernel
theorem nx58 : (List.range' 40 5).all (nestOk 5) = true := by decide +kernel
theorem nx60 : (List.range' 0 5).all (nestOk 6) = true := by decide +kernel
theorem nx61 : (List.range' 5 5).all (nestOk 6) = true := by decide +kernel
theorem nx62 : (List.range' 10 5).all (nestOk 6) = true := by decide +kernel
theorem nx63 : (List.range' 15 5).all (nestOk 6) = true := by decide +kernel
theorem nx64 : (List.range' 20 5).all (nestOk 6) = true := by decide +kernel
theorem nx65 : (List.range' 25 5).all (nestOk 6) = true := by decide +kernel
theorem nx66 : (List.range' 30 5).all (nestOk 6) = true := by decide +kernel
theorem nx67 : (List.range' 35 5).all (nestOk 6) = true := by decide +kernel
theorem nx68 : (List.range' 40 5).all (nestOk 6) = true := by decide +kernel
theorem nx0 : (List.range' 0 45).all (nestOk 0) = true := (all_cut 0 5 40 5 45 rfl rfl nx00 (all_cut 5 5 35 10 40 rfl rfl nx01 (all_cut 10 5 30 15 35 rfl rfl nx02 (all_cut 15 5 25 20 30 rfl rfl nx03 (all_cut 20 5 20 25 25 rfl rfl nx04 (all_cut 25 5 15 30 20 rfl rfl nx05 (all_cut 30 5 10 35 15 rfl rfl nx06 (all_cut 35 5 5 40 10 rfl rfl nx07 nx08))))))))
theorem nx1 : (List.range' 0 45).all (nestOk 1) = true := (all_cut 0 5 40 5 45 rfl rfl nx10 (all_cut 5 5 35 10 40 rfl rfl nx11 (all_cut 10 5 30 15 35 rfl rfl nx12 (all_cut 15 5 25 20 30 rfl rfl nx13 (all_cut 20 5 20 25 25 rfl rfl nx14 (all_cut 25 5 15 30 20 rfl rfl nx15 (all_cut 30 5 10 35 15 rfl rfl nx16 (all_cut 35 5 5 40 10 rfl rfl nx17 nx18))))))))
theorem nx2 : (List.range' 0 45).all (nestOk 2) = true := (all_cut 0 5 40 5 45 rfl rfl nx20 (all_cut 5 5 35 10 40 rfl rfl nx21 (all_cut 10 5 30 15 35 rfl rfl nx22 (all_cut 15 5 25 20 30 rfl rfl nx23 (all_cut 20 5 20 25 25 rfl rfl nx24 (all_cut 25 5 15 30 20 rfl rfl nx25 (all_cut 30 5 10 35 15 rfl rfl nx26 (all_cut 35 5 5 40 10 rfl rfl nx27 nx28))))))))
theorem nx3 : (List.range' 0 45).all (nestOk 3) = true := (all_cut 0 5 40 5 45 rfl rfl nx30 (all_cut 5 5 35 10 40 rfl rfl nx31 (all_cut 10 5 30 15 35 rfl rfl nx32 (all_cut 15 5 25 20 30 rfl rfl nx33 (all_cut 20 5 20 25 25 rfl rfl nx34 (all_cut 25 5 15 30 20 rfl rfl nx35 (all_cut 30 5 10 35 15 rfl rfl nx36 (all_cut 35 5 5 40 10 rfl rfl nx37 nx38))))))))
theorem nx4 : (List.range' 0 45).all (nestOk 4) = true := (all_cut 0 5 40 5 45 rfl rfl nx40 (all_cut 5 5 35 10 40 rfl rfl nx41 (all_cut 10 5 30 15 35 rfl rfl nx42 (all_cut 15 5 25 20 30 rfl rfl nx43 (all_cut 20 5 20 25 25 rfl rfl nx44 (all_cut 25 5 15 30 20 rfl rfl nx45 (all_cut 30 5 10 35 15 rfl rfl nx46 (all_cut 35 5 5 40 10 rfl rfl nx47 nx48))))))))
theorem nx5 : (List.range' 0 45).all (nestOk 5) = true := (all_cut 0 5 40 5 45 rfl rfl nx50 (all_cut 5 5 35 10 40 rfl rfl nx51 (all_cut 10 5 30 15 35 rfl rfl nx52 (all_cut 15 5 25 20 30 rfl rfl nx53 (all_cut 20 5 20 25 25 rfl rfl nx54 (all_cut 25 5 15 30 20 rfl rfl nx55 (all_cut 30 5 10 35 15 rfl rfl nx56 (all_cut 35 5 5 40 10 rfl rfl nx57 nx58))))))))
theorem nx6 : (List.range' 0 45).all (nestOk 6) = true := (all_cut 0 5 40 5 45 rfl rfl nx60 (all_cut 5 5 35 10 40 rfl rfl nx61 (all_cut 10 5 30 15 35 rfl rfl nx62 (all_cut 15 5 25 20 30 rfl rfl nx63 (all_cut 20 5 20 25 25 rfl rfl nx64 (all_cut 25 5 15 30 20 rfl rfl nx65 (all_cut 30 5 10 35 15 rfl rfl nx66 (all_cut 35 5 5 40 10 rfl rfl nx67 nx68))))))))
theorem nest_ans {i m : Nat} (hi : i < 7) (hm : m < 45) : ans (parse 600 (nestX i m)) = some (dueN i m) := by
  have h : (List.range' 0 45).all (nestOk i) = true := by
    rcases i with _ | _ | _ | _ | _ | _ | _ | i
    · exact nx0
    · exact nx1
    · exact nx2
    · exact nx3
    · exact nx4
    · exact nx5
    · exact nx6
    · exact absurd hi (Nat.not_lt.mpr (Nat.le_add_left 7 i))
  exact beq_iff_eq.mp (List.all_eq_true.mp h m (List.mem_range'_1.mpr ⟨Nat.zero_le _, by rw [Nat.zero_add]; exact hm⟩))
end
section
noncomputable def tab2 : List (Str × Str × Str) := [(Str.ofString "f ( ", Str.ofString "a , ", Str.ofString "a )"), (Str.ofString "", Str.ofString "a , ", Str.ofString "a"), (Str.ofString "[ ", Str.ofString "a , ", Str.ofString "a ]")]
noncomputable def rows : List (List Nat × List Nat × List Nat) := [([102, 32, 40, 32], [97, 32, 44, 32], [97, 32, 41]), ([], [97, 32, 44, 32], [97]), ([91, 32], [97, 32, 44, 32], [97, 32, 93])]
noncomputable def rowX (i wide : Nat) : List Nat := match rows[i]? with | some (a, b, c) => a ++ (rep b wide ++ c) | none => []
noncomputable def tab3 : List Str := [Str.ofString " + a", Str.ofString " . b"]
noncomputable def linkX (i long : Nat) : List Nat := match ([[32, 43, 32, 97], [32, 46, 32, 98]] : List (List Nat))[i]? with | some b => 97 :: (rep b long ++ [10]) | none => []
theorem tab2_at {r : Nat} {a b c : Str} (h : tab2[r]? = some (a, b, c)) : rows[r]? = some (a.cps.toList, b.cps.toList, c.cps.toList) ∧ (∀ x ∈ a.cps.toList ++ (b.cps.toList ++ c.cps.toList), x < 128) ∧ a.length ≤ 8 ∧ b.length ≤ 8 ∧ c.length ≤ 8 := by
  rcases r with _ | _ | _ | r
  all_goals first | (cases h; decide +kernel) | cases h
theorem row_at {r wide : Nat} {a b c : Str} (h : tab2[r]? = some (a, b, c)) (hm : wide < 40) : At (a ++ Txt.mul b (wide : Int) ++ c) 0 (rowX r wide) := by
  obtain ⟨h1, h2, h3, h4, h5⟩ := tab2_at h
  have e : rowX r wide = a.cps.toList ++ (rep b.cps.toList wide ++ c.cps.toList) := by unfold rowX; rw [h1]
  rw [e]
  refine At.whole (by rw [app_cps, app_cps, mul_cps, List.append_assoc]) (fun x hx => ?_) ?_
  · rcases List.mem_append.mp hx with hx | hx
    · exact h2 x (List.mem_append_left _ hx)
    · rcases List.mem_append.mp hx with hx | hx
      · exact h2 x (List.mem_append_right _ (List.mem_append_left _ (rep_mem hx)))
      · exact h2 x (List.mem_append_right _ (List.mem_append_right _ hx))
  · rw [List.length_append, List.length_append, rep_len, ← str_len, ← str_len, ← str_len]
    exact Nat.lt_of_le_of_lt (Nat.add_le_add h3 (Nat.add_le_add (Nat.mul_le_mul (Nat.le_of_lt hm) h4) h5)) (by decide)
theorem tab3_at {r : Nat} {b : Str} (h : tab3[r]? = some b) : ([[32, 43, 32, 97], [32, 46, 32, 98]] : List (List Nat))[r]? = some b.cps.toList ∧ (∀ x ∈ b.cps.toList, x < 128) ∧ b.length ≤ 8 := by
  rcases r with _ | _ | r
  all_goals first | (cases h; decide +kernel) | cases h
theorem link_at {r long : Nat} {b : Str} (h : tab3[r]? = some b) (hm : long < 200) : At (Str.ofString "a" ++ Txt.mul b (long : Int) ++ Str.ofString "\n") 0 (linkX r long) := by
  obtain ⟨h1, h2, h3⟩ := tab3_at h
  have e : linkX r long = 97 :: (rep b.cps.toList long ++ [10]) := by unfold linkX; rw [h1]
  rw [e]
  refine At.whole (by rw [app_cps, app_cps, mul_cps]; rfl) (fun x hx => ?_) ?_
  · rcases List.mem_cons.mp hx with rfl | hx
    · decide
    · rcases List.mem_append.mp hx with hx | hx
      · exact h2 x (rep_mem hx)
      · obtain rfl := List.mem_singleton.mp hx; decide
  · rw [List.length_cons, List.length_append, rep_len, ← str_len]
    exact Nat.lt_of_le_of_lt (Nat.succ_le_succ (Nat.add_le_add_right (Nat.mul_le_mul (Nat.le_of_lt hm) h3) _)) (by decide)
noncomputable def rowOk (i m : Nat) : Bool := ans (parse 600 (rowX i m)) == some 0
noncomputable def linkOk (i m : Nat) : Bool := ans (parse 600 (linkX i m)) == some (if m < 120 then 0 else 2)
set_option maxRecDepth 1000000
theorem ny00 : (List.range' 0 5).all (rowOk 0) = true := by decide +kernel
theorem ny01 : (List.range' 5 5).all (rowOk 0) = true := by decide +kernel
theorem ny02 : (List.range' 10 5).all (rowOk 0) = true := by decide +kernel
theorem ny03 : (List.range' 15 5).all (rowOk 0) = true := by decide +kernel
theorem ny04 : (List.range' 20 5).all (rowOk 0) = true := by decide +kernel
theorem ny05 : (List.range' 25 5).all (rowOk 0) = true := by decide +kernel
theorem ny06 : (List.range' 30 5).all (rowOk 0) = true := by decide +kernel
theorem ny07 : (List.range' 35 5).all (rowOk 0) = true := by decide +kernel
theorem ny0 : (List.range' 0 40).all (rowOk 0) = true := (all_cut 0 5 35 5 40 rfl rfl ny00 (all_cut 5 5 30 10 35 rfl rfl ny01 (all_cut 10 5 25 15 30 rfl rfl ny02 (all_cut 15 5 20 20 25 rfl rfl ny03 (all_cut 20 5 15 25 20 rfl rfl ny04 (all_cut 25 5 10 30 15 rfl rfl ny05 (all_cut 30 5 5 35 10 rfl rfl ny06 ny07)))))))
theorem ny10 : (List.range' 0 5).all (rowOk 1) = true := by decide +kernel
theorem ny11 : (List.range' 5 5).all (rowOk 1) = true := by decide +kernel
theorem ny12 : (List.range' 10 5).all (rowOk 1) = true := by decide +kernel
theorem ny13 : (List.range' 15 5).all (rowOk 1) = true := by decide +kernel
theorem ny14 : (List.range' 20 5).all (rowOk 1) = true := by decide +kernel
theorem ny15 : (List.range' 25 5).all (rowOk 1) = true := by decide +kernel
theorem ny16 : (List.range' 30 5).all (rowOk 1) = true := by decide +kernel
theorem ny17 : (List.range' 35 5).all (rowOk 1) = true := by decide +kernel
theorem ny1 : (List.range' 0 40).all (rowOk 1) = true := (all_cut 0 5 35 5 40 rfl rfl ny10 (all_cut 5 5 30 10 35 rfl rfl ny11 (all_cut 10 5 25 15 30 rfl rfl ny12 (all_cut 15 5 20 20 25 rfl rfl ny13 (all_cut 20 5 15 25 20 rfl rfl ny14 (all_cut 25 5 10 30 15 rfl rfl ny15 (all_cut 30 5 5 35 10 rfl rfl ny16 ny17)))))))
theorem ny20 : (List.range' 0 5).all (rowOk 2) = true := by decide +kernel
theorem ny21 : (List.range' 5 5).all (rowOk 2) = true := by decide +kernel
theorem ny22 : (List.range' 10 5).all (rowOk 2) = true := by decide +kernel
theorem ny23 : (List.range' 15 5).all (rowOk 2) = true := by decide +kernel
theorem ny24 : (List.range' 20 5).all (rowOk 2) = true := by decide +kernel
theorem ny25 : (List.range' 25 5).all (rowOk 2) = true := by decide +kernel
theorem ny26 : (List.range' 30 5).all (rowOk 2) = true := by decide +kernel
theorem ny27 : (List.range' 35 5).all (rowOk 2) = true := by decide +kernel
theorem ny2 : (List.range' 0 40).all (rowOk 2) = true := (all_cut 0 5 35 5 40 rfl rfl ny20 (all_cut 5 5 30 10 35 rfl rfl ny21 (all_cut 10 5 25 15 30 rfl rfl ny22 (all_cut 15 5 20 20 25 rfl rfl ny23 (all_cut 20 5 15 25 20 rfl rfl ny24 (all_cut 25 5 10 30 15 rfl rfl ny25 (all_cut 30 5 5 35 10 rfl rfl ny26 ny27)))))))
theorem nl0118 : linkOk 0 118 = true := by decide +kernel
theorem nl0119 : linkOk 0 119 = true := by decide +kernel
theorem nl0120 : linkOk 0 120 = true := by decide +kernel
theorem nl0121 : linkOk 0 121 = true := by decide +kernel
theorem nl1118 : linkOk 1 118 = true := by decide +kernel
theorem nl1119 : linkOk 1 119 = true := by decide +kernel
theorem nl1120 : linkOk 1 120 = true := by decide +kernel
theorem nl1121 : linkOk 1 121 = true := by decide +kernel
theorem row_ans {i m : Nat} (hi : i < 3) (hm : m < 40) : ans (parse 600 (rowX i m)) = some 0 := by
  have h : (List.range' 0 40).all (rowOk i) = true := by
    rcases i with _ | _ | _ | i
    · exact ny0
    · exact ny1
    · exact ny2
    · exact absurd hi (Nat.not_lt.mpr (Nat.le_add_left 3 i))
  exact beq_iff_eq.mp (List.all_eq_true.mp h m (List.mem_range'_1.mpr ⟨Nat.zero_le _, by rw [Nat.zero_add]; exact hm⟩))
theorem link_ans {i m : Nat} (hi : i < 2) (hm : m = 118 ∨ m = 119 ∨ m = 120 ∨ m = 121) : ans (parse 600 (linkX i m)) = some (if m < 120 then 0 else 2) := by
  have h : linkOk i m = true := by
    rcases i with _ | _ | i
    · rcases hm with rfl | rfl | rfl | rfl
      · exact nl0118
      · exact nl0119
      · exact nl0120
      · exact nl0121
    · rcases hm with rfl | rfl | rfl | rfl
      · exact nl1118
      · exact nl1119
      · exact nl1120
      · exact nl1121
    · exact absurd hi (Nat.not_lt.mpr (Nat.le_add_left 2 i))
  exact beq_iff_eq.mp h
end
section
open PySem.Str (ofString)
open PySem.W.BT (node)
noncomputable section
abbrev pw : Program := PySem.Challenge.pw_pc0091_01
noncomputable def kat : List (Nat × Obj) → Nat → Obj | [], _ => default | p :: r, n => match n with | 0 => p.2 | n + 1 => kat r n
noncomputable def ob (i : Nat) (P : Params) : Obj := kat (k0.heap_1 P) i
noncomputable def st1 (i : Nat) : Stmt := (pw.main.body.drop i).headD (.Pass default)
noncomputable def st2 (i j : Nat) : Stmt := match st1 i with | .ClassDef _ _ _ b _ _ _ _ _ _ _ => (b.drop j).headD (.Pass default) | s => s
noncomputable def fdOf (s : Stmt) (d : FuncData) : FuncData := match s with | .FunctionDef _ a b _ _ _ sc _ _ _ => { d with params := a, body := .stmts b, scope := sc } | _ => d
noncomputable def cutF (n : Nat) (o : Obj) : Obj := match o.data with | .fields a => { o with data := .fields ⟨a.toList.take n⟩ } | _ => o
noncomputable def cutE (v : Value) : List DictEntry → List DictEntry | [] => [] | e :: r => { e with val := v } :: r
noncomputable def cutD (n m : Nat) (v : Value) (o : Obj) : Obj := match o.data with | .dict a _ => { o with data := .dict ⟨cutE v (a.toList.take n)⟩ m } | _ => o
noncomputable def hEnv : Env := { scope := pw.main.scope, locals := mainNs, globals := mainNs, cells := [], code := .ref 13, frame := some 14 }
noncomputable def hB : List Frame := [topFrame (Pos.mk 0 0 0 0)]
noncomputable def hC : Code := .body (behindTheImports pw) hEnv
noncomputable def sts (i n : Nat) : List Stmt := ((behindTheImports pw).drop i).take n
noncomputable def x11 (P : Params) : Obj := (Obj.mk (.type "tuple") none (Data.seq ⟨[]⟩ 0) ⟨[]⟩)
noncomputable def x12 (P : Params) : Obj := (Obj.mk .none none (Data.fields ⟨[(.int 1 0), (.int 0 0), (.ref 20), (.int 5 0), (.int 0 0), (.ref 27), (.int 12 0), (.int 0 0), (.ref 48), (.int 21 0), (.int 0 0), (.ref 53), (.int 32 0), (.int 0 0), (.ref 102), (.int 37 0), (.int 0 0), (.ref 109), (.int 39 0), (.int 0 0), (.ref 116), (.int 41 0), (.int 0 0), (.ref 123), (.int 43 0), (.int 0 0), (.ref 130), (.int 45 0), (.int 0 0), (.ref 137), (.int 51 0), (.int 0 0), (.ref 144), (.int 55 0), (.int 0 0), (.ref 151), (.int 66 0), (.int 0 0), (.ref 158), (.int 76 0), (.int 0 0), (.ref 165), (.int 78 0), (.int 0 0), (.ref 172), (.int 80 0), (.int 0 0), (.ref 179), (.int 86 0), (.int 0 0), (.ref 186), (.int 97 0), (.int 0 0), (.ref 193), (.int 106 0), (.int 0 0), (.ref 200), (.int 110 0), (.int 0 0), (.ref 208), (.int 112 0), (.int 0 0), (.ref 215), (.int 120 0), (.int 0 0), (.ref 222), (.int 122 0), (.int 0 0), (.ref 229), (.int 131 0), (.int 0 0), (.ref 236), (.int 152 0), (.int 0 0), (.ref 243), (.int 158 0), (.int 0 0), (.ref 250), (.int 163 0), (.int 0 0), (.ref 257), (.int 178 0), (.int 0 0), (.ref 325), (.int 189 0), (.int 0 0), (.ref 346), (.int 191 0), (.int 0 0), (.ref 353), (.int 198 0), (.int 0 0), (.ref 360), (.int 204 0), (.int 0 0), (.ref 380), (.int 413 0), (.int 0 0), (.ref 530), (.int 417 0), (.int 0 0), (.ref 537), (.int 421 0), (.int 0 0), (.ref 544), (.int 425 0), (.int 0 0), (.ref 551), (.int 427 0), (.int 0 0), (.ref 558), (.int 429 0), (.int 0 0), (.ref 565), (.int 447 0), (.int 0 0), (.ref 607), (.int 533 0), (.int 0 0), (.ref 753), (.int 701 0), (.int 0 0), (.ref 891), (.int 710 0), (.int 0 0), (.ref 898), (.int 715 0), (.int 0 0), (.ref 905), (.int 721 0), (.int 0 0), (.ref 912)]⟩) ⟨[]⟩)
noncomputable def x13 (P : Params) : Obj := (Obj.mk (.type "code") none (Data.fields ⟨[(.str (ofString "<module>") 182), (.str (ofString "<module>") 183), (.str (ofString "/claim/cut.py") 184), (.int 1 0), (.int 0 0), (.int 0 0), (.int 0 0), (.int 0 0), (.ref 11), (Value.bool false), (.int 181 0), (.ref 12), .none, .none, .none, .none, (.int 185 0), (.int 1 0), (.str (ofString "/claim/cut.py") 186)]⟩) ⟨[]⟩)
noncomputable def x14 (P : Params) : Obj := (Obj.mk (.type "frame") none Data.plain ⟨[(some (.ref 13)), (some (.ref 3)), (some (.ref 3)), none, (some (.str (ofString "__main__") 164)), none, (some (.ref 0))]⟩)
noncomputable def x16 (P : Params) : Obj := (Obj.mk .none none (Data.fields ⟨[]⟩) ⟨[]⟩)
noncomputable def x19 (P : Params) : Obj := Obj.mk .none none (Data.func (fdOf (st1 0) (FuncData.mk (ofString "_wall") (ofString "_wall") default (.stmts []) default 0 [] .none .none .none .none none .none .none 0))) ⟨[]⟩
noncomputable def x22 (P : Params) : Obj := (Obj.mk (.type "tuple") none (Data.seq ⟨[]⟩ 0) ⟨[]⟩)
noncomputable def x23 (P : Params) : Obj := (Obj.mk (.type "builtin_function_or_method") none (Data.fields ⟨[(.builtin "type.__prepare__"), (.type "type")]⟩) ⟨[]⟩)
noncomputable def x24 (P : Params) : Obj := (Obj.mk (.type "dict") none (Data.dict ⟨[(DictEntry.mk (PyData.keyHash P (ofString "__module__")) (.str (ofString "__module__") 203) (.str (ofString "js.nodes") 194)), (DictEntry.mk (PyData.keyHash P (ofString "__qualname__")) (.str (ofString "__qualname__") 205) (.str (ofString "Node") 204)), (DictEntry.mk (PyData.keyHash P (ofString "__firstlineno__")) (.str (ofString "__firstlineno__") 207) (.int 5 206)), (DictEntry.mk (PyData.keyHash P (ofString "__init__")) (.str (ofString "__init__") 217) (.ref 35)), (DictEntry.mk (PyData.keyHash P (ofString "__static_attributes__")) (.str (ofString "__static_attributes__") 222) (.ref 36))]⟩ 5) ⟨[]⟩)
noncomputable def x25 (P : Params) : Obj := (Obj.mk (.type "tuple") none (Data.seq ⟨[]⟩ 0) ⟨[]⟩)
noncomputable def x26 (P : Params) : Obj := (Obj.mk .none none (Data.fields ⟨[(.int 7 0), (.int 4 0), (.ref 34)]⟩) ⟨[]⟩)
noncomputable def x27 (P : Params) : Obj := (Obj.mk (.type "code") none (Data.fields ⟨[(.str (ofString "Node") 198), (.str (ofString "Node") 199), (.str (ofString "/claim/cut.py") 200), (.int 5 0), (.int 0 0), (.int 0 0), (.int 0 0), (.int 0 0), (.ref 25), (Value.bool false), (.int 181 0), (.ref 26), .none, .none, .none, .none, (.int 201 0), (.int 5 0), (.str (ofString "/claim/cut.py") 202)]⟩) ⟨[]⟩)
noncomputable def x28 (P : Params) : Obj := (Obj.mk (.type "frame") none Data.plain ⟨[(some (.ref 27)), (some (.ref 3)), (some (.ref 24)), none, (some (.str (ofString "js.nodes") 194)), none, (some (.ref 0))]⟩)
noncomputable def x30 (P : Params) : Obj := (Obj.mk .none none (Data.fields ⟨[]⟩) ⟨[]⟩)
noncomputable def x33 (P : Params) : Obj := Obj.mk .none none (Data.func (fdOf (st2 2 0) (FuncData.mk (ofString "__init__") (ofString "Node.__init__") default (.stmts []) default 0 [] .none .none .none .none none .none .none 0))) ⟨[]⟩
noncomputable def x41 (P : Params) : Obj := (Obj.mk (.type "super") none (Data.fields ⟨[(.ref 38), (.ref 38), (.ref 38)]⟩) ⟨[]⟩)
noncomputable def x42 (P : Params) : Obj := (Obj.mk (.type "builtin_function_or_method") none (Data.fields ⟨[(.builtin "object.__init_subclass__"), (.ref 38)]⟩) ⟨[]⟩)
noncomputable def x44 (P : Params) : Obj := (Obj.mk .none none (Data.fields ⟨[]⟩) ⟨[]⟩)
noncomputable def x47 (P : Params) : Obj := Obj.mk .none none (Data.func (fdOf (st1 3) (FuncData.mk (ofString "children") (ofString "children") default (.stmts []) default 0 [] .none .none .none .none none .none .none 0))) ⟨[]⟩
noncomputable def x51 (P : Params) : Obj := (Obj.mk .none none (Data.fields ⟨[]⟩) ⟨[]⟩)
noncomputable def x52 (P : Params) : Obj := Obj.mk .none none (Data.func (fdOf (st1 4) (FuncData.mk (ofString "is_too_high") (ofString "is_too_high") default (.stmts []) default 0 [] .none .none .none .none none .none .none 0))) ⟨[]⟩
noncomputable def x98 (P : Params) : Obj := (Obj.mk .none none (Data.fields ⟨[]⟩) ⟨[]⟩)
noncomputable def x101 (P : Params) : Obj := Obj.mk .none none (Data.func (fdOf (st1 10) (FuncData.mk (ofString "is_among") (ofString "is_among") default (.stmts []) default 0 [] .none .none .none .none none .none .none 0))) ⟨[]⟩
noncomputable def x105 (P : Params) : Obj := (Obj.mk .none none (Data.fields ⟨[]⟩) ⟨[]⟩)
noncomputable def x108 (P : Params) : Obj := Obj.mk .none none (Data.func (fdOf (st1 11) (FuncData.mk (ofString "is_white") (ofString "is_white") default (.stmts []) default 0 [] .none .none .none .none none .none .none 0))) ⟨[]⟩
noncomputable def x112 (P : Params) : Obj := (Obj.mk .none none (Data.fields ⟨[]⟩) ⟨[]⟩)
noncomputable def x115 (P : Params) : Obj := Obj.mk .none none (Data.func (fdOf (st1 12) (FuncData.mk (ofString "is_line_end") (ofString "is_line_end") default (.stmts []) default 0 [] .none .none .none .none none .none .none 0))) ⟨[]⟩
noncomputable def x119 (P : Params) : Obj := (Obj.mk .none none (Data.fields ⟨[]⟩) ⟨[]⟩)
noncomputable def x122 (P : Params) : Obj := Obj.mk .none none (Data.func (fdOf (st1 13) (FuncData.mk (ofString "is_digit") (ofString "is_digit") default (.stmts []) default 0 [] .none .none .none .none none .none .none 0))) ⟨[]⟩
noncomputable def x126 (P : Params) : Obj := (Obj.mk .none none (Data.fields ⟨[]⟩) ⟨[]⟩)
noncomputable def x129 (P : Params) : Obj := Obj.mk .none none (Data.func (fdOf (st1 14) (FuncData.mk (ofString "is_octal_digit") (ofString "is_octal_digit") default (.stmts []) default 0 [] .none .none .none .none none .none .none 0))) ⟨[]⟩
noncomputable def x133 (P : Params) : Obj := (Obj.mk .none none (Data.fields ⟨[]⟩) ⟨[]⟩)
noncomputable def x136 (P : Params) : Obj := Obj.mk .none none (Data.func (fdOf (st1 15) (FuncData.mk (ofString "hex_value") (ofString "hex_value") default (.stmts []) default 0 [] .none .none .none .none none .none .none 0))) ⟨[]⟩
noncomputable def x140 (P : Params) : Obj := (Obj.mk .none none (Data.fields ⟨[]⟩) ⟨[]⟩)
noncomputable def x143 (P : Params) : Obj := Obj.mk .none none (Data.func (fdOf (st1 16) (FuncData.mk (ofString "is_id_start") (ofString "is_id_start") default (.stmts []) default 0 [] .none .none .none .none none .none .none 0))) ⟨[]⟩
noncomputable def x147 (P : Params) : Obj := (Obj.mk .none none (Data.fields ⟨[]⟩) ⟨[]⟩)
noncomputable def x150 (P : Params) : Obj := Obj.mk .none none (Data.func (fdOf (st1 17) (FuncData.mk (ofString "is_id_part") (ofString "is_id_part") default (.stmts []) default 0 [] .none .none .none .none none .none .none 0))) ⟨[]⟩
noncomputable def x154 (P : Params) : Obj := (Obj.mk .none none (Data.fields ⟨[]⟩) ⟨[]⟩)
noncomputable def x157 (P : Params) : Obj := Obj.mk .none none (Data.func (fdOf (st1 27) (FuncData.mk (ofString "width") (ofString "width") default (.stmts []) default 0 [] .none .none .none .none none .none .none 0))) ⟨[]⟩
noncomputable def x161 (P : Params) : Obj := (Obj.mk .none none (Data.fields ⟨[]⟩) ⟨[]⟩)
noncomputable def x164 (P : Params) : Obj := Obj.mk .none none (Data.func (fdOf (st1 28) (FuncData.mk (ofString "pack") (ofString "pack") default (.stmts []) default 0 [] .none .none .none .none none .none .none 0))) ⟨[]⟩
noncomputable def x168 (P : Params) : Obj := (Obj.mk .none none (Data.fields ⟨[]⟩) ⟨[]⟩)
noncomputable def x171 (P : Params) : Obj := Obj.mk .none none (Data.func (fdOf (st1 29) (FuncData.mk (ofString "signed") (ofString "signed") default (.stmts []) default 0 [] .none .none .none .none none .none .none 0))) ⟨[]⟩
noncomputable def x175 (P : Params) : Obj := (Obj.mk .none none (Data.fields ⟨[]⟩) ⟨[]⟩)
noncomputable def x178 (P : Params) : Obj := Obj.mk .none none (Data.func (fdOf (st1 30) (FuncData.mk (ofString "quotient") (ofString "quotient") default (.stmts []) default 0 [] .none .none .none .none none .none .none 0))) ⟨[]⟩
noncomputable def x182 (P : Params) : Obj := (Obj.mk .none none (Data.fields ⟨[]⟩) ⟨[]⟩)
noncomputable def x185 (P : Params) : Obj := Obj.mk .none none (Data.func (fdOf (st1 31) (FuncData.mk (ofString "round_ratio") (ofString "round_ratio") default (.stmts []) default 0 [] .none .none .none .none none .none .none 0))) ⟨[]⟩
noncomputable def x189 (P : Params) : Obj := (Obj.mk .none none (Data.fields ⟨[]⟩) ⟨[]⟩)
noncomputable def x192 (P : Params) : Obj := Obj.mk .none none (Data.func (fdOf (st1 32) (FuncData.mk (ofString "assembled") (ofString "assembled") default (.stmts []) default 0 [] .none .none .none .none none .none .none 0))) ⟨[]⟩
noncomputable def x196 (P : Params) : Obj := (Obj.mk .none none (Data.fields ⟨[]⟩) ⟨[]⟩)
noncomputable def x199 (P : Params) : Obj := Obj.mk .none none (Data.func (fdOf (st1 33) (FuncData.mk (ofString "from_int") (ofString "from_int") default (.stmts []) default 0 [] .none .none .none .none none .none .none 0))) ⟨[]⟩
noncomputable def x204 (P : Params) : Obj := (Obj.mk .none none (Data.fields ⟨[]⟩) ⟨[]⟩)
noncomputable def x207 (P : Params) : Obj := Obj.mk .none none (Data.func (fdOf (st1 36) (FuncData.mk (ofString "code_at") (ofString "code_at") default (.stmts []) default 0 [] .none .none .none .none none .none .none 0))) ⟨[]⟩
noncomputable def x211 (P : Params) : Obj := (Obj.mk .none none (Data.fields ⟨[]⟩) ⟨[]⟩)
noncomputable def x214 (P : Params) : Obj := Obj.mk .none none (Data.func (fdOf (st1 37) (FuncData.mk (ofString "hex_at") (ofString "hex_at") default (.stmts []) default 0 [] .none .none .none .none none .none .none 0))) ⟨[]⟩
noncomputable def x218 (P : Params) : Obj := (Obj.mk .none none (Data.fields ⟨[]⟩) ⟨[]⟩)
noncomputable def x221 (P : Params) : Obj := Obj.mk .none none (Data.func (fdOf (st1 38) (FuncData.mk (ofString "line_end_size") (ofString "line_end_size") default (.stmts []) default 0 [] .none .none .none .none none .none .none 0))) ⟨[]⟩
noncomputable def x225 (P : Params) : Obj := (Obj.mk .none none (Data.fields ⟨[]⟩) ⟨[]⟩)
noncomputable def x228 (P : Params) : Obj := Obj.mk .none none (Data.func (fdOf (st1 39) (FuncData.mk (ofString "octal_escape") (ofString "octal_escape") default (.stmts []) default 0 [] .none .none .none .none none .none .none 0))) ⟨[]⟩
noncomputable def x232 (P : Params) : Obj := (Obj.mk .none none (Data.fields ⟨[]⟩) ⟨[]⟩)
noncomputable def x235 (P : Params) : Obj := Obj.mk .none none (Data.func (fdOf (st1 40) (FuncData.mk (ofString "read_escape") (ofString "read_escape") default (.stmts []) default 0 [] .none .none .none .none none .none .none 0))) ⟨[]⟩
noncomputable def x239 (P : Params) : Obj := (Obj.mk .none none (Data.fields ⟨[]⟩) ⟨[]⟩)
noncomputable def x242 (P : Params) : Obj := Obj.mk .none none (Data.func (fdOf (st1 43) (FuncData.mk (ofString "figure_of") (ofString "figure_of") default (.stmts []) default 0 [] .none .none .none .none none .none .none 0))) ⟨[]⟩
noncomputable def x246 (P : Params) : Obj := (Obj.mk .none none (Data.fields ⟨[]⟩) ⟨[]⟩)
noncomputable def x249 (P : Params) : Obj := Obj.mk .none none (Data.func (fdOf (st1 44) (FuncData.mk (ofString "worth") (ofString "worth") default (.stmts []) default 0 [] .none .none .none .none none .none .none 0))) ⟨[]⟩
noncomputable def x253 (P : Params) : Obj := (Obj.mk .none none (Data.fields ⟨[]⟩) ⟨[]⟩)
noncomputable def x256 (P : Params) : Obj := Obj.mk .none none (Data.func (fdOf (st1 45) (FuncData.mk (ofString "from_decimal") (ofString "from_decimal") default (.stmts []) default 0 [] .none .none .none .none none .none .none 0))) ⟨[]⟩
noncomputable def x260 (P : Params) : Obj := (Obj.mk (.type "list") none (Data.seq ⟨[(.str (ofString ">>>=") 638), (.str (ofString "===") 639), (.str (ofString "!==") 640), (.str (ofString ">>>") 641), (.str (ofString "<<=") 642), (.str (ofString ">>=") 643), (.str (ofString "<=") 644), (.str (ofString ">=") 645), (.str (ofString "==") 646), (.str (ofString "!=") 647), (.str (ofString "++") 648), (.str (ofString "--") 649), (.str (ofString "<<") 650), (.str (ofString ">>") 651), (.str (ofString "&&") 652), (.str (ofString "||") 653), (.str (ofString "+=") 654), (.str (ofString "-=") 655), (.str (ofString "*=") 656), (.str (ofString "%=") 657), (.str (ofString "&=") 658), (.str (ofString "|=") 659), (.str (ofString "^=") 660), (.str (ofString "/=") 661), (.str (ofString "{") 662), (.str (ofString "}") 663), (.str (ofString "(") 664), (.str (ofString ")") 665), (.str (ofString "[") 666), (.str (ofString "]") 667), (.str (ofString ".") 668), (.str (ofString ";") 669), (.str (ofString ",") 670), (.str (ofString "<") 671), (.str (ofString ">") 672), (.str (ofString "+") 673), (.str (ofString "-") 674), (.str (ofString "*") 675), (.str (ofString "%") 676), (.str (ofString "&") 677), (.str (ofString "|") 678), (.str (ofString "^") 679), (.str (ofString "!") 680), (.str (ofString "~") 681), (.str (ofString "?") 682), (.str (ofString ":") 683), (.str (ofString "=") 684), (.str (ofString "/") 685)]⟩ 0) ⟨[]⟩)
noncomputable def x261 (P : Params) : Obj := (Obj.mk (.type "list_iterator") none (Data.fields ⟨[.none, (.int 48 0)]⟩) ⟨[]⟩)
noncomputable def x262 (P : Params) : Obj := (Obj.mk (.type "list") none (Data.seq ⟨[(.ref 264), (.ref 265), (.ref 266), (.ref 267), (.ref 268), (.ref 269), (.ref 270), (.ref 271), (.ref 272), (.ref 273), (.ref 274), (.ref 275), (.ref 276), (.ref 277), (.ref 278), (.ref 279), (.ref 280), (.ref 281), (.ref 282), (.ref 283), (.ref 284), (.ref 285), (.ref 286), (.ref 287), (.ref 288), (.ref 289), (.ref 290), (.ref 291), (.ref 292), (.ref 293), (.ref 294), (.ref 295), (.ref 296), (.ref 297), (.ref 298), (.ref 299), (.ref 300), (.ref 301), (.ref 302), (.ref 303), (.ref 304), (.ref 305), (.ref 306), (.ref 307), (.ref 308), (.ref 309), (.ref 310), (.ref 311)]⟩ 48) ⟨[]⟩)
noncomputable def x263 (P : Params) : Obj := (Obj.mk (.type "dict") none (Data.dict ⟨[]⟩ 2) ⟨[]⟩)
noncomputable def x264 (P : Params) : Obj := (Obj.mk (.type "tuple") none (Data.seq ⟨[(.str (ofString ">>>=") 638), (Value.bool true)]⟩ 0) ⟨[]⟩)
noncomputable def x265 (P : Params) : Obj := (Obj.mk (.type "tuple") none (Data.seq ⟨[(.str (ofString "===") 639), (Value.bool true)]⟩ 0) ⟨[]⟩)
noncomputable def x266 (P : Params) : Obj := (Obj.mk (.type "tuple") none (Data.seq ⟨[(.str (ofString "!==") 640), (Value.bool true)]⟩ 0) ⟨[]⟩)
noncomputable def x267 (P : Params) : Obj := (Obj.mk (.type "tuple") none (Data.seq ⟨[(.str (ofString ">>>") 641), (Value.bool true)]⟩ 0) ⟨[]⟩)
noncomputable def x268 (P : Params) : Obj := (Obj.mk (.type "tuple") none (Data.seq ⟨[(.str (ofString "<<=") 642), (Value.bool true)]⟩ 0) ⟨[]⟩)
noncomputable def x269 (P : Params) : Obj := (Obj.mk (.type "tuple") none (Data.seq ⟨[(.str (ofString ">>=") 643), (Value.bool true)]⟩ 0) ⟨[]⟩)
noncomputable def x270 (P : Params) : Obj := (Obj.mk (.type "tuple") none (Data.seq ⟨[(.str (ofString "<=") 644), (Value.bool true)]⟩ 0) ⟨[]⟩)
noncomputable def x271 (P : Params) : Obj := (Obj.mk (.type "tuple") none (Data.seq ⟨[(.str (ofString ">=") 645), (Value.bool true)]⟩ 0) ⟨[]⟩)
noncomputable def x272 (P : Params) : Obj := (Obj.mk (.type "tuple") none (Data.seq ⟨[(.str (ofString "==") 646), (Value.bool true)]⟩ 0) ⟨[]⟩)
noncomputable def x273 (P : Params) : Obj := (Obj.mk (.type "tuple") none (Data.seq ⟨[(.str (ofString "!=") 647), (Value.bool true)]⟩ 0) ⟨[]⟩)
noncomputable def x274 (P : Params) : Obj := (Obj.mk (.type "tuple") none (Data.seq ⟨[(.str (ofString "++") 648), (Value.bool true)]⟩ 0) ⟨[]⟩)
noncomputable def x275 (P : Params) : Obj := (Obj.mk (.type "tuple") none (Data.seq ⟨[(.str (ofString "--") 649), (Value.bool true)]⟩ 0) ⟨[]⟩)
noncomputable def x276 (P : Params) : Obj := (Obj.mk (.type "tuple") none (Data.seq ⟨[(.str (ofString "<<") 650), (Value.bool true)]⟩ 0) ⟨[]⟩)
noncomputable def x277 (P : Params) : Obj := (Obj.mk (.type "tuple") none (Data.seq ⟨[(.str (ofString ">>") 651), (Value.bool true)]⟩ 0) ⟨[]⟩)
noncomputable def x278 (P : Params) : Obj := (Obj.mk (.type "tuple") none (Data.seq ⟨[(.str (ofString "&&") 652), (Value.bool true)]⟩ 0) ⟨[]⟩)
noncomputable def x279 (P : Params) : Obj := (Obj.mk (.type "tuple") none (Data.seq ⟨[(.str (ofString "||") 653), (Value.bool true)]⟩ 0) ⟨[]⟩)
noncomputable def x280 (P : Params) : Obj := (Obj.mk (.type "tuple") none (Data.seq ⟨[(.str (ofString "+=") 654), (Value.bool true)]⟩ 0) ⟨[]⟩)
noncomputable def x281 (P : Params) : Obj := (Obj.mk (.type "tuple") none (Data.seq ⟨[(.str (ofString "-=") 655), (Value.bool true)]⟩ 0) ⟨[]⟩)
noncomputable def x282 (P : Params) : Obj := (Obj.mk (.type "tuple") none (Data.seq ⟨[(.str (ofString "*=") 656), (Value.bool true)]⟩ 0) ⟨[]⟩)
noncomputable def x283 (P : Params) : Obj := (Obj.mk (.type "tuple") none (Data.seq ⟨[(.str (ofString "%=") 657), (Value.bool true)]⟩ 0) ⟨[]⟩)
noncomputable def x284 (P : Params) : Obj := (Obj.mk (.type "tuple") none (Data.seq ⟨[(.str (ofString "&=") 658), (Value.bool true)]⟩ 0) ⟨[]⟩)
noncomputable def x285 (P : Params) : Obj := (Obj.mk (.type "tuple") none (Data.seq ⟨[(.str (ofString "|=") 659), (Value.bool true)]⟩ 0) ⟨[]⟩)
noncomputable def x286 (P : Params) : Obj := (Obj.mk (.type "tuple") none (Data.seq ⟨[(.str (ofString "^=") 660), (Value.bool true)]⟩ 0) ⟨[]⟩)
noncomputable def x287 (P : Params) : Obj := (Obj.mk (.type "tuple") none (Data.seq ⟨[(.str (ofString "/=") 661), (Value.bool true)]⟩ 0) ⟨[]⟩)
noncomputable def x288 (P : Params) : Obj := (Obj.mk (.type "tuple") none (Data.seq ⟨[(.str (ofString "{") 662), (Value.bool true)]⟩ 0) ⟨[]⟩)
noncomputable def x289 (P : Params) : Obj := (Obj.mk (.type "tuple") none (Data.seq ⟨[(.str (ofString "}") 663), (Value.bool true)]⟩ 0) ⟨[]⟩)
noncomputable def x290 (P : Params) : Obj := (Obj.mk (.type "tuple") none (Data.seq ⟨[(.str (ofString "(") 664), (Value.bool true)]⟩ 0) ⟨[]⟩)
noncomputable def x291 (P : Params) : Obj := (Obj.mk (.type "tuple") none (Data.seq ⟨[(.str (ofString ")") 665), (Value.bool true)]⟩ 0) ⟨[]⟩)
noncomputable def x292 (P : Params) : Obj := (Obj.mk (.type "tuple") none (Data.seq ⟨[(.str (ofString "[") 666), (Value.bool true)]⟩ 0) ⟨[]⟩)
noncomputable def x293 (P : Params) : Obj := (Obj.mk (.type "tuple") none (Data.seq ⟨[(.str (ofString "]") 667), (Value.bool true)]⟩ 0) ⟨[]⟩)
noncomputable def x294 (P : Params) : Obj := (Obj.mk (.type "tuple") none (Data.seq ⟨[(.str (ofString ".") 668), (Value.bool true)]⟩ 0) ⟨[]⟩)
noncomputable def x295 (P : Params) : Obj := (Obj.mk (.type "tuple") none (Data.seq ⟨[(.str (ofString ";") 669), (Value.bool true)]⟩ 0) ⟨[]⟩)
noncomputable def x296 (P : Params) : Obj := (Obj.mk (.type "tuple") none (Data.seq ⟨[(.str (ofString ",") 670), (Value.bool true)]⟩ 0) ⟨[]⟩)
noncomputable def x297 (P : Params) : Obj := (Obj.mk (.type "tuple") none (Data.seq ⟨[(.str (ofString "<") 671), (Value.bool true)]⟩ 0) ⟨[]⟩)
noncomputable def x298 (P : Params) : Obj := (Obj.mk (.type "tuple") none (Data.seq ⟨[(.str (ofString ">") 672), (Value.bool true)]⟩ 0) ⟨[]⟩)
noncomputable def x299 (P : Params) : Obj := (Obj.mk (.type "tuple") none (Data.seq ⟨[(.str (ofString "+") 673), (Value.bool true)]⟩ 0) ⟨[]⟩)
noncomputable def x300 (P : Params) : Obj := (Obj.mk (.type "tuple") none (Data.seq ⟨[(.str (ofString "-") 674), (Value.bool true)]⟩ 0) ⟨[]⟩)
noncomputable def x301 (P : Params) : Obj := (Obj.mk (.type "tuple") none (Data.seq ⟨[(.str (ofString "*") 675), (Value.bool true)]⟩ 0) ⟨[]⟩)
noncomputable def x302 (P : Params) : Obj := (Obj.mk (.type "tuple") none (Data.seq ⟨[(.str (ofString "%") 676), (Value.bool true)]⟩ 0) ⟨[]⟩)
noncomputable def x303 (P : Params) : Obj := (Obj.mk (.type "tuple") none (Data.seq ⟨[(.str (ofString "&") 677), (Value.bool true)]⟩ 0) ⟨[]⟩)
noncomputable def x304 (P : Params) : Obj := (Obj.mk (.type "tuple") none (Data.seq ⟨[(.str (ofString "|") 678), (Value.bool true)]⟩ 0) ⟨[]⟩)
noncomputable def x305 (P : Params) : Obj := (Obj.mk (.type "tuple") none (Data.seq ⟨[(.str (ofString "^") 679), (Value.bool true)]⟩ 0) ⟨[]⟩)
noncomputable def x306 (P : Params) : Obj := (Obj.mk (.type "tuple") none (Data.seq ⟨[(.str (ofString "!") 680), (Value.bool true)]⟩ 0) ⟨[]⟩)
noncomputable def x307 (P : Params) : Obj := (Obj.mk (.type "tuple") none (Data.seq ⟨[(.str (ofString "~") 681), (Value.bool true)]⟩ 0) ⟨[]⟩)
noncomputable def x308 (P : Params) : Obj := (Obj.mk (.type "tuple") none (Data.seq ⟨[(.str (ofString "?") 682), (Value.bool true)]⟩ 0) ⟨[]⟩)
noncomputable def x309 (P : Params) : Obj := (Obj.mk (.type "tuple") none (Data.seq ⟨[(.str (ofString ":") 683), (Value.bool true)]⟩ 0) ⟨[]⟩)
noncomputable def x310 (P : Params) : Obj := (Obj.mk (.type "tuple") none (Data.seq ⟨[(.str (ofString "=") 684), (Value.bool true)]⟩ 0) ⟨[]⟩)
noncomputable def x311 (P : Params) : Obj := (Obj.mk (.type "tuple") none (Data.seq ⟨[(.str (ofString "/") 685), (Value.bool true)]⟩ 0) ⟨[]⟩)
noncomputable def x312 (P : Params) : Obj := (Obj.mk (.type "tuple") none (Data.seq ⟨[]⟩ 0) ⟨[]⟩)
noncomputable def x313 (P : Params) : Obj := (Obj.mk (.type "StopIteration") none (Data.fields ⟨[(.ref 312), .none, .none, .none, (Value.bool false), .none]⟩) ⟨[]⟩)
noncomputable def x315 (P : Params) : Obj := (Obj.mk (.type "tuple") none (Data.seq ⟨[(.str (ofString "'list' object has no attribute 'keys'") 736)]⟩ 0) ⟨[]⟩)
noncomputable def x316 (P : Params) : Obj := (Obj.mk (.type "AttributeError") none (Data.fields ⟨[(.ref 315), .none, .none, .none, (Value.bool false), .none, (.str (ofString "keys") 737), (.ref 262)]⟩) ⟨[]⟩)
noncomputable def x317 (P : Params) : Obj := (Obj.mk (.type "list_iterator") none (Data.fields ⟨[.none, (.int 48 0)]⟩) ⟨[]⟩)
noncomputable def x318 (P : Params) : Obj := (Obj.mk (.type "tuple") none (Data.seq ⟨[]⟩ 0) ⟨[]⟩)
noncomputable def x319 (P : Params) : Obj := (Obj.mk (.type "StopIteration") none (Data.fields ⟨[(.ref 318), .none, .none, .none, (Value.bool false), .none]⟩) ⟨[]⟩)
noncomputable def x320 (P : Params) : Obj := (Obj.mk (.type "tuple") none (Data.seq ⟨[]⟩ 0) ⟨[]⟩)
noncomputable def x321 (P : Params) : Obj := (Obj.mk (.type "builtin_function_or_method") none (Data.fields ⟨[(.builtin "type.__prepare__"), (.type "type")]⟩) ⟨[]⟩)
noncomputable def x322 (P : Params) : Obj := (Obj.mk (.type "dict") none (Data.dict ⟨[(DictEntry.mk (PyData.keyHash P (ofString "__module__")) (.str (ofString "__module__") 794) (.str (ofString "js.tokens") 599)), (DictEntry.mk (PyData.keyHash P (ofString "__qualname__")) (.str (ofString "__qualname__") 796) (.str (ofString "Token") 795)), (DictEntry.mk (PyData.keyHash P (ofString "__firstlineno__")) (.str (ofString "__firstlineno__") 798) (.int 178 797)), (DictEntry.mk (PyData.keyHash P (ofString "__init__")) (.str (ofString "__init__") 811) (.ref 333)), (DictEntry.mk (PyData.keyHash P (ofString "__static_attributes__")) (.str (ofString "__static_attributes__") 820) (.ref 334))]⟩ 5) ⟨[]⟩)
noncomputable def x323 (P : Params) : Obj := (Obj.mk (.type "tuple") none (Data.seq ⟨[]⟩ 0) ⟨[]⟩)
noncomputable def x324 (P : Params) : Obj := (Obj.mk .none none (Data.fields ⟨[(.int 180 0), (.int 4 0), (.ref 332)]⟩) ⟨[]⟩)
noncomputable def x325 (P : Params) : Obj := (Obj.mk (.type "code") none (Data.fields ⟨[(.str (ofString "Token") 789), (.str (ofString "Token") 790), (.str (ofString "/claim/cut.py") 791), (.int 178 0), (.int 0 0), (.int 0 0), (.int 0 0), (.int 0 0), (.ref 323), (Value.bool false), (.int 181 0), (.ref 324), .none, .none, .none, .none, (.int 792 0), (.int 178 0), (.str (ofString "/claim/cut.py") 793)]⟩) ⟨[]⟩)
noncomputable def x326 (P : Params) : Obj := (Obj.mk (.type "frame") none Data.plain ⟨[(some (.ref 325)), (some (.ref 3)), (some (.ref 322)), none, (some (.str (ofString "js.tokens") 599)), none, (some (.ref 0))]⟩)
noncomputable def x328 (P : Params) : Obj := (Obj.mk .none none (Data.fields ⟨[]⟩) ⟨[]⟩)
noncomputable def x331 (P : Params) : Obj := Obj.mk .none none (Data.func (fdOf (st2 50 0) (FuncData.mk (ofString "__init__") (ofString "Token.__init__") default (.stmts []) default 0 [] .none .none .none .none none .none .none 0))) ⟨[]⟩
noncomputable def x339 (P : Params) : Obj := (Obj.mk (.type "super") none (Data.fields ⟨[(.ref 336), (.ref 336), (.ref 336)]⟩) ⟨[]⟩)
noncomputable def x340 (P : Params) : Obj := (Obj.mk (.type "builtin_function_or_method") none (Data.fields ⟨[(.builtin "object.__init_subclass__"), (.ref 336)]⟩) ⟨[]⟩)
noncomputable def x342 (P : Params) : Obj := (Obj.mk .none none (Data.fields ⟨[]⟩) ⟨[]⟩)
noncomputable def x345 (P : Params) : Obj := Obj.mk .none none (Data.func (fdOf (st1 51) (FuncData.mk (ofString "is_keyword") (ofString "is_keyword") default (.stmts []) default 0 [] .none .none .none .none none .none .none 0))) ⟨[]⟩
noncomputable def x349 (P : Params) : Obj := (Obj.mk .none none (Data.fields ⟨[]⟩) ⟨[]⟩)
noncomputable def x352 (P : Params) : Obj := Obj.mk .none none (Data.func (fdOf (st1 52) (FuncData.mk (ofString "punct_at") (ofString "punct_at") default (.stmts []) default 0 [] .none .none .none .none none .none .none 0))) ⟨[]⟩
noncomputable def x356 (P : Params) : Obj := (Obj.mk (.type "builtin_function_or_method") none (Data.fields ⟨[(.builtin "type.__prepare__"), (.type "type")]⟩) ⟨[]⟩)
noncomputable def x357 (P : Params) : Obj := (Obj.mk (.type "dict") none (Data.dict ⟨[(DictEntry.mk (PyData.keyHash P (ofString "__module__")) (.str (ofString "__module__") 854) (.str (ofString "js.values") 845)), (DictEntry.mk (PyData.keyHash P (ofString "__qualname__")) (.str (ofString "__qualname__") 856) (.str (ofString "SyntaxFail") 855)), (DictEntry.mk (PyData.keyHash P (ofString "__firstlineno__")) (.str (ofString "__firstlineno__") 858) (.int 198 857)), (DictEntry.mk (PyData.keyHash P (ofString "__init__")) (.str (ofString "__init__") 867) (.ref 368)), (DictEntry.mk (PyData.keyHash P (ofString "__static_attributes__")) (.str (ofString "__static_attributes__") 870) (.ref 369))]⟩ 5) ⟨[]⟩)
noncomputable def x358 (P : Params) : Obj := (Obj.mk (.type "tuple") none (Data.seq ⟨[]⟩ 0) ⟨[]⟩)
noncomputable def x359 (P : Params) : Obj := (Obj.mk .none none (Data.fields ⟨[(.int 200 0), (.int 4 0), (.ref 367)]⟩) ⟨[]⟩)
noncomputable def x360 (P : Params) : Obj := (Obj.mk (.type "code") none (Data.fields ⟨[(.str (ofString "SyntaxFail") 849), (.str (ofString "SyntaxFail") 850), (.str (ofString "/claim/cut.py") 851), (.int 198 0), (.int 0 0), (.int 0 0), (.int 0 0), (.int 0 0), (.ref 358), (Value.bool false), (.int 181 0), (.ref 359), .none, .none, .none, .none, (.int 852 0), (.int 198 0), (.str (ofString "/claim/cut.py") 853)]⟩) ⟨[]⟩)
noncomputable def x361 (P : Params) : Obj := (Obj.mk (.type "frame") none Data.plain ⟨[(some (.ref 360)), (some (.ref 3)), (some (.ref 357)), none, (some (.str (ofString "js.values") 845)), none, (some (.ref 0))]⟩)
noncomputable def x363 (P : Params) : Obj := (Obj.mk .none none (Data.fields ⟨[]⟩) ⟨[]⟩)
noncomputable def x366 (P : Params) : Obj := Obj.mk .none none (Data.func (fdOf (st2 54 0) (FuncData.mk (ofString "__init__") (ofString "SyntaxFail.__init__") default (.stmts []) default 0 [] .none .none .none .none none .none .none 0))) ⟨[]⟩
noncomputable def x373 (P : Params) : Obj := (Obj.mk (.type "super") none (Data.fields ⟨[(.ref 371), (.ref 371), (.ref 371)]⟩) ⟨[]⟩)
noncomputable def x374 (P : Params) : Obj := (Obj.mk (.type "builtin_function_or_method") none (Data.fields ⟨[(.builtin "object.__init_subclass__"), (.ref 371)]⟩) ⟨[]⟩)
noncomputable def x375 (P : Params) : Obj := (Obj.mk (.type "tuple") none (Data.seq ⟨[]⟩ 0) ⟨[]⟩)
noncomputable def x376 (P : Params) : Obj := (Obj.mk (.type "builtin_function_or_method") none (Data.fields ⟨[(.builtin "type.__prepare__"), (.type "type")]⟩) ⟨[]⟩)
noncomputable def x377 (P : Params) : Obj := (Obj.mk (.type "dict") none (Data.dict ⟨[(DictEntry.mk (PyData.keyHash P (ofString "__module__")) (.str (ofString "__module__") 887) (.str (ofString "js.lexer") 878)), (DictEntry.mk (PyData.keyHash P (ofString "__qualname__")) (.str (ofString "__qualname__") 889) (.str (ofString "Lexer") 888)), (DictEntry.mk (PyData.keyHash P (ofString "__firstlineno__")) (.str (ofString "__firstlineno__") 891) (.int 204 890)), (DictEntry.mk (PyData.keyHash P (ofString "__init__")) (.str (ofString "__init__") 899) (.ref 388)), (DictEntry.mk (PyData.keyHash P (ofString "next")) (.str (ofString "next") 910) (.ref 395)), (DictEntry.mk (PyData.keyHash P (ofString "fail")) (.str (ofString "fail") 918) (.ref 402)), (DictEntry.mk (PyData.keyHash P (ofString "end_line")) (.str (ofString "end_line") 925) (.ref 409)), (DictEntry.mk (PyData.keyHash P (ofString "skip_blanks")) (.str (ofString "skip_blanks") 934) (.ref 416)), (DictEntry.mk (PyData.keyHash P (ofString "skip_comment")) (.str (ofString "skip_comment") 941) (.ref 423)), (DictEntry.mk (PyData.keyHash P (ofString "name_sign")) (.str (ofString "name_sign") 953) (.ref 430)), (DictEntry.mk (PyData.keyHash P (ofString "read_name")) (.str (ofString "read_name") 963) (.ref 437)), (DictEntry.mk (PyData.keyHash P (ofString "skip_digits")) (.str (ofString "skip_digits") 971) (.ref 444)), (DictEntry.mk (PyData.keyHash P (ofString "read_number")) (.str (ofString "read_number") 982) (.ref 451)), (DictEntry.mk (PyData.keyHash P (ofString "read_hex")) (.str (ofString "read_hex") 991) (.ref 458)), (DictEntry.mk (PyData.keyHash P (ofString "read_octal")) (.str (ofString "read_octal") 999) (.ref 465)), (DictEntry.mk (PyData.keyHash P (ofString "read_decimal")) (.str (ofString "read_decimal") 1008) (.ref 472)), (DictEntry.mk (PyData.keyHash P (ofString "read_exponent")) (.str (ofString "read_exponent") 1019) (.ref 479)), (DictEntry.mk (PyData.keyHash P (ofString "regex")) (.str (ofString "regex") 1030) (.ref 486)), (DictEntry.mk (PyData.keyHash P (ofString "regex_body")) (.str (ofString "regex_body") 1040) (.ref 493)), (DictEntry.mk (PyData.keyHash P (ofString "read_text")) (.str (ofString "read_text") 1051) (.ref 500)), (DictEntry.mk (PyData.keyHash P (ofString "escaped")) (.str (ofString "escaped") 1060) (.ref 507)), (DictEntry.mk (PyData.keyHash P (ofString "read_punct")) (.str (ofString "read_punct") 1069) (.ref 514)), (DictEntry.mk (PyData.keyHash P (ofString "__static_attributes__")) (.str (ofString "__static_attributes__") 1073) (.ref 515))]⟩ 23) ⟨[]⟩)
noncomputable def x378 (P : Params) : Obj := (Obj.mk (.type "tuple") none (Data.seq ⟨[]⟩ 0) ⟨[]⟩)
noncomputable def x379 (P : Params) : Obj := (Obj.mk .none none (Data.fields ⟨[(.int 206 0), (.int 4 0), (.ref 387), (.int 211 0), (.int 4 0), (.ref 394), (.int 228 0), (.int 4 0), (.ref 401), (.int 231 0), (.int 4 0), (.ref 408), (.int 235 0), (.int 4 0), (.ref 415), (.int 251 0), (.int 4 0), (.ref 422), (.int 262 0), (.int 4 0), (.ref 429), (.int 273 0), (.int 4 0), (.ref 436), (.int 284 0), (.int 4 0), (.ref 443), (.int 290 0), (.int 4 0), (.ref 450), (.int 304 0), (.int 4 0), (.ref 457), (.int 315 0), (.int 4 0), (.ref 464), (.int 322 0), (.int 4 0), (.ref 471), (.int 334 0), (.int 4 0), (.ref 478), (.int 348 0), (.int 4 0), (.ref 485), (.int 359 0), (.int 4 0), (.ref 492), (.int 375 0), (.int 4 0), (.ref 499), (.int 391 0), (.int 4 0), (.ref 506), (.int 402 0), (.int 4 0), (.ref 513)]⟩) ⟨[]⟩)
noncomputable def x380 (P : Params) : Obj := (Obj.mk (.type "code") none (Data.fields ⟨[(.str (ofString "Lexer") 882), (.str (ofString "Lexer") 883), (.str (ofString "/claim/cut.py") 884), (.int 204 0), (.int 0 0), (.int 0 0), (.int 0 0), (.int 0 0), (.ref 378), (Value.bool false), (.int 181 0), (.ref 379), .none, .none, .none, .none, (.int 885 0), (.int 204 0), (.str (ofString "/claim/cut.py") 886)]⟩) ⟨[]⟩)
noncomputable def x381 (P : Params) : Obj := (Obj.mk (.type "frame") none Data.plain ⟨[(some (.ref 380)), (some (.ref 3)), (some (.ref 377)), none, (some (.str (ofString "js.lexer") 878)), none, (some (.ref 0))]⟩)
noncomputable def x383 (P : Params) : Obj := (Obj.mk .none none (Data.fields ⟨[]⟩) ⟨[]⟩)
noncomputable def x386 (P : Params) : Obj := Obj.mk .none none (Data.func (fdOf (st2 56 0) (FuncData.mk (ofString "__init__") (ofString "Lexer.__init__") default (.stmts []) default 0 [] .none .none .none .none none .none .none 0))) ⟨[]⟩
noncomputable def x390 (P : Params) : Obj := (Obj.mk .none none (Data.fields ⟨[]⟩) ⟨[]⟩)
noncomputable def x393 (P : Params) : Obj := Obj.mk .none none (Data.func (fdOf (st2 56 1) (FuncData.mk (ofString "next") (ofString "Lexer.next") default (.stmts []) default 0 [] .none .none .none .none none .none .none 0))) ⟨[]⟩
noncomputable def x397 (P : Params) : Obj := (Obj.mk .none none (Data.fields ⟨[]⟩) ⟨[]⟩)
noncomputable def x400 (P : Params) : Obj := Obj.mk .none none (Data.func (fdOf (st2 56 2) (FuncData.mk (ofString "fail") (ofString "Lexer.fail") default (.stmts []) default 0 [] .none .none .none .none none .none .none 0))) ⟨[]⟩
noncomputable def x404 (P : Params) : Obj := (Obj.mk .none none (Data.fields ⟨[]⟩) ⟨[]⟩)
noncomputable def x407 (P : Params) : Obj := Obj.mk .none none (Data.func (fdOf (st2 56 3) (FuncData.mk (ofString "end_line") (ofString "Lexer.end_line") default (.stmts []) default 0 [] .none .none .none .none none .none .none 0))) ⟨[]⟩
noncomputable def x411 (P : Params) : Obj := (Obj.mk .none none (Data.fields ⟨[]⟩) ⟨[]⟩)
noncomputable def x414 (P : Params) : Obj := Obj.mk .none none (Data.func (fdOf (st2 56 4) (FuncData.mk (ofString "skip_blanks") (ofString "Lexer.skip_blanks") default (.stmts []) default 0 [] .none .none .none .none none .none .none 0))) ⟨[]⟩
noncomputable def x418 (P : Params) : Obj := (Obj.mk .none none (Data.fields ⟨[]⟩) ⟨[]⟩)
noncomputable def x421 (P : Params) : Obj := Obj.mk .none none (Data.func (fdOf (st2 56 5) (FuncData.mk (ofString "skip_comment") (ofString "Lexer.skip_comment") default (.stmts []) default 0 [] .none .none .none .none none .none .none 0))) ⟨[]⟩
noncomputable def x425 (P : Params) : Obj := (Obj.mk .none none (Data.fields ⟨[]⟩) ⟨[]⟩)
noncomputable def x428 (P : Params) : Obj := Obj.mk .none none (Data.func (fdOf (st2 56 6) (FuncData.mk (ofString "name_sign") (ofString "Lexer.name_sign") default (.stmts []) default 0 [] .none .none .none .none none .none .none 0))) ⟨[]⟩
noncomputable def x432 (P : Params) : Obj := (Obj.mk .none none (Data.fields ⟨[]⟩) ⟨[]⟩)
noncomputable def x435 (P : Params) : Obj := Obj.mk .none none (Data.func (fdOf (st2 56 7) (FuncData.mk (ofString "read_name") (ofString "Lexer.read_name") default (.stmts []) default 0 [] .none .none .none .none none .none .none 0))) ⟨[]⟩
noncomputable def x439 (P : Params) : Obj := (Obj.mk .none none (Data.fields ⟨[]⟩) ⟨[]⟩)
noncomputable def x442 (P : Params) : Obj := Obj.mk .none none (Data.func (fdOf (st2 56 8) (FuncData.mk (ofString "skip_digits") (ofString "Lexer.skip_digits") default (.stmts []) default 0 [] .none .none .none .none none .none .none 0))) ⟨[]⟩
noncomputable def x446 (P : Params) : Obj := (Obj.mk .none none (Data.fields ⟨[]⟩) ⟨[]⟩)
noncomputable def x449 (P : Params) : Obj := Obj.mk .none none (Data.func (fdOf (st2 56 9) (FuncData.mk (ofString "read_number") (ofString "Lexer.read_number") default (.stmts []) default 0 [] .none .none .none .none none .none .none 0))) ⟨[]⟩
noncomputable def x453 (P : Params) : Obj := (Obj.mk .none none (Data.fields ⟨[]⟩) ⟨[]⟩)
noncomputable def x456 (P : Params) : Obj := Obj.mk .none none (Data.func (fdOf (st2 56 10) (FuncData.mk (ofString "read_hex") (ofString "Lexer.read_hex") default (.stmts []) default 0 [] .none .none .none .none none .none .none 0))) ⟨[]⟩
noncomputable def x460 (P : Params) : Obj := (Obj.mk .none none (Data.fields ⟨[]⟩) ⟨[]⟩)
noncomputable def x463 (P : Params) : Obj := Obj.mk .none none (Data.func (fdOf (st2 56 11) (FuncData.mk (ofString "read_octal") (ofString "Lexer.read_octal") default (.stmts []) default 0 [] .none .none .none .none none .none .none 0))) ⟨[]⟩
noncomputable def x467 (P : Params) : Obj := (Obj.mk .none none (Data.fields ⟨[]⟩) ⟨[]⟩)
noncomputable def x470 (P : Params) : Obj := Obj.mk .none none (Data.func (fdOf (st2 56 12) (FuncData.mk (ofString "read_decimal") (ofString "Lexer.read_decimal") default (.stmts []) default 0 [] .none .none .none .none none .none .none 0))) ⟨[]⟩
noncomputable def x474 (P : Params) : Obj := (Obj.mk .none none (Data.fields ⟨[]⟩) ⟨[]⟩)
noncomputable def x477 (P : Params) : Obj := Obj.mk .none none (Data.func (fdOf (st2 56 13) (FuncData.mk (ofString "read_exponent") (ofString "Lexer.read_exponent") default (.stmts []) default 0 [] .none .none .none .none none .none .none 0))) ⟨[]⟩
noncomputable def x481 (P : Params) : Obj := (Obj.mk .none none (Data.fields ⟨[]⟩) ⟨[]⟩)
noncomputable def x484 (P : Params) : Obj := Obj.mk .none none (Data.func (fdOf (st2 56 14) (FuncData.mk (ofString "regex") (ofString "Lexer.regex") default (.stmts []) default 0 [] .none .none .none .none none .none .none 0))) ⟨[]⟩
noncomputable def x488 (P : Params) : Obj := (Obj.mk .none none (Data.fields ⟨[]⟩) ⟨[]⟩)
noncomputable def x491 (P : Params) : Obj := Obj.mk .none none (Data.func (fdOf (st2 56 15) (FuncData.mk (ofString "regex_body") (ofString "Lexer.regex_body") default (.stmts []) default 0 [] .none .none .none .none none .none .none 0))) ⟨[]⟩
noncomputable def x495 (P : Params) : Obj := (Obj.mk .none none (Data.fields ⟨[]⟩) ⟨[]⟩)
noncomputable def x498 (P : Params) : Obj := Obj.mk .none none (Data.func (fdOf (st2 56 16) (FuncData.mk (ofString "read_text") (ofString "Lexer.read_text") default (.stmts []) default 0 [] .none .none .none .none none .none .none 0))) ⟨[]⟩
noncomputable def x502 (P : Params) : Obj := (Obj.mk .none none (Data.fields ⟨[]⟩) ⟨[]⟩)
noncomputable def x505 (P : Params) : Obj := Obj.mk .none none (Data.func (fdOf (st2 56 17) (FuncData.mk (ofString "escaped") (ofString "Lexer.escaped") default (.stmts []) default 0 [] .none .none .none .none none .none .none 0))) ⟨[]⟩
noncomputable def x509 (P : Params) : Obj := (Obj.mk .none none (Data.fields ⟨[]⟩) ⟨[]⟩)
noncomputable def x512 (P : Params) : Obj := Obj.mk .none none (Data.func (fdOf (st2 56 18) (FuncData.mk (ofString "read_punct") (ofString "Lexer.read_punct") default (.stmts []) default 0 [] .none .none .none .none none .none .none 0))) ⟨[]⟩
noncomputable def x520 (P : Params) : Obj := (Obj.mk (.type "super") none (Data.fields ⟨[(.ref 517), (.ref 517), (.ref 517)]⟩) ⟨[]⟩)
noncomputable def x521 (P : Params) : Obj := (Obj.mk (.type "builtin_function_or_method") none (Data.fields ⟨[(.builtin "object.__init_subclass__"), (.ref 517)]⟩) ⟨[]⟩)
noncomputable def x526 (P : Params) : Obj := (Obj.mk .none none (Data.fields ⟨[]⟩) ⟨[]⟩)
noncomputable def x529 (P : Params) : Obj := Obj.mk .none none (Data.func (fdOf (st1 61) (FuncData.mk (ofString "name_fault") (ofString "name_fault") default (.stmts []) default 0 [] .none .none .none .none none .none .none 0))) ⟨[]⟩
noncomputable def x533 (P : Params) : Obj := (Obj.mk .none none (Data.fields ⟨[]⟩) ⟨[]⟩)
noncomputable def x536 (P : Params) : Obj := Obj.mk .none none (Data.func (fdOf (st1 62) (FuncData.mk (ofString "binding_fault") (ofString "binding_fault") default (.stmts []) default 0 [] .none .none .none .none none .none .none 0))) ⟨[]⟩
noncomputable def x540 (P : Params) : Obj := (Obj.mk .none none (Data.fields ⟨[]⟩) ⟨[]⟩)
noncomputable def x543 (P : Params) : Obj := Obj.mk .none none (Data.func (fdOf (st1 63) (FuncData.mk (ofString "target_fault") (ofString "target_fault") default (.stmts []) default 0 [] .none .none .none .none none .none .none 0))) ⟨[]⟩
noncomputable def x547 (P : Params) : Obj := (Obj.mk .none none (Data.fields ⟨[]⟩) ⟨[]⟩)
noncomputable def x550 (P : Params) : Obj := Obj.mk .none none (Data.func (fdOf (st1 64) (FuncData.mk (ofString "delete_fault") (ofString "delete_fault") default (.stmts []) default 0 [] .none .none .none .none none .none .none 0))) ⟨[]⟩
noncomputable def x554 (P : Params) : Obj := (Obj.mk .none none (Data.fields ⟨[]⟩) ⟨[]⟩)
noncomputable def x557 (P : Params) : Obj := Obj.mk .none none (Data.func (fdOf (st1 65) (FuncData.mk (ofString "octal_fault") (ofString "octal_fault") default (.stmts []) default 0 [] .none .none .none .none none .none .none 0))) ⟨[]⟩
noncomputable def x560 (P : Params) : Obj := (Obj.mk (.type "tuple") none (Data.seq ⟨[]⟩ 0) ⟨[]⟩)
noncomputable def x561 (P : Params) : Obj := (Obj.mk (.type "builtin_function_or_method") none (Data.fields ⟨[(.builtin "type.__prepare__"), (.type "type")]⟩) ⟨[]⟩)
noncomputable def x562 (P : Params) : Obj := (Obj.mk (.type "dict") none (Data.dict ⟨[(DictEntry.mk (PyData.keyHash P (ofString "__module__")) (.str (ofString "__module__") 1148) (.str (ofString "js.strictness") 1081)), (DictEntry.mk (PyData.keyHash P (ofString "__qualname__")) (.str (ofString "__qualname__") 1150) (.str (ofString "Jumps") 1149)), (DictEntry.mk (PyData.keyHash P (ofString "__firstlineno__")) (.str (ofString "__firstlineno__") 1152) (.int 429 1151)), (DictEntry.mk (PyData.keyHash P (ofString "__init__")) (.str (ofString "__init__") 1159) (.ref 573)), (DictEntry.mk (PyData.keyHash P (ofString "label_fault")) (.str (ofString "label_fault") 1167) (.ref 580)), (DictEntry.mk (PyData.keyHash P (ofString "break_fault")) (.str (ofString "break_fault") 1175) (.ref 587)), (DictEntry.mk (PyData.keyHash P (ofString "continue_fault")) (.str (ofString "continue_fault") 1183) (.ref 594)), (DictEntry.mk (PyData.keyHash P (ofString "__static_attributes__")) (.str (ofString "__static_attributes__") 1187) (.ref 595))]⟩ 8) ⟨[]⟩)
noncomputable def x563 (P : Params) : Obj := (Obj.mk (.type "tuple") none (Data.seq ⟨[]⟩ 0) ⟨[]⟩)
noncomputable def x564 (P : Params) : Obj := (Obj.mk .none none (Data.fields ⟨[(.int 431 0), (.int 4 0), (.ref 572), (.int 436 0), (.int 4 0), (.ref 579), (.int 439 0), (.int 4 0), (.ref 586), (.int 442 0), (.int 4 0), (.ref 593)]⟩) ⟨[]⟩)
noncomputable def x565 (P : Params) : Obj := (Obj.mk (.type "code") none (Data.fields ⟨[(.str (ofString "Jumps") 1143), (.str (ofString "Jumps") 1144), (.str (ofString "/claim/cut.py") 1145), (.int 429 0), (.int 0 0), (.int 0 0), (.int 0 0), (.int 0 0), (.ref 563), (Value.bool false), (.int 181 0), (.ref 564), .none, .none, .none, .none, (.int 1146 0), (.int 429 0), (.str (ofString "/claim/cut.py") 1147)]⟩) ⟨[]⟩)
noncomputable def x566 (P : Params) : Obj := (Obj.mk (.type "frame") none Data.plain ⟨[(some (.ref 565)), (some (.ref 3)), (some (.ref 562)), none, (some (.str (ofString "js.strictness") 1081)), none, (some (.ref 0))]⟩)
noncomputable def x568 (P : Params) : Obj := (Obj.mk .none none (Data.fields ⟨[]⟩) ⟨[]⟩)
noncomputable def x571 (P : Params) : Obj := Obj.mk .none none (Data.func (fdOf (st2 66 0) (FuncData.mk (ofString "__init__") (ofString "Jumps.__init__") default (.stmts []) default 0 [] .none .none .none .none none .none .none 0))) ⟨[]⟩
noncomputable def x575 (P : Params) : Obj := (Obj.mk .none none (Data.fields ⟨[]⟩) ⟨[]⟩)
noncomputable def x578 (P : Params) : Obj := Obj.mk .none none (Data.func (fdOf (st2 66 1) (FuncData.mk (ofString "label_fault") (ofString "Jumps.label_fault") default (.stmts []) default 0 [] .none .none .none .none none .none .none 0))) ⟨[]⟩
noncomputable def x582 (P : Params) : Obj := (Obj.mk .none none (Data.fields ⟨[]⟩) ⟨[]⟩)
noncomputable def x585 (P : Params) : Obj := Obj.mk .none none (Data.func (fdOf (st2 66 2) (FuncData.mk (ofString "break_fault") (ofString "Jumps.break_fault") default (.stmts []) default 0 [] .none .none .none .none none .none .none 0))) ⟨[]⟩
noncomputable def x589 (P : Params) : Obj := (Obj.mk .none none (Data.fields ⟨[]⟩) ⟨[]⟩)
noncomputable def x592 (P : Params) : Obj := Obj.mk .none none (Data.func (fdOf (st2 66 3) (FuncData.mk (ofString "continue_fault") (ofString "Jumps.continue_fault") default (.stmts []) default 0 [] .none .none .none .none none .none .none 0))) ⟨[]⟩
noncomputable def x600 (P : Params) : Obj := (Obj.mk (.type "super") none (Data.fields ⟨[(.ref 597), (.ref 597), (.ref 597)]⟩) ⟨[]⟩)
noncomputable def x601 (P : Params) : Obj := (Obj.mk (.type "builtin_function_or_method") none (Data.fields ⟨[(.builtin "object.__init_subclass__"), (.ref 597)]⟩) ⟨[]⟩)
noncomputable def x602 (P : Params) : Obj := (Obj.mk (.type "tuple") none (Data.seq ⟨[]⟩ 0) ⟨[]⟩)
noncomputable def x603 (P : Params) : Obj := (Obj.mk (.type "builtin_function_or_method") none (Data.fields ⟨[(.builtin "type.__prepare__"), (.type "type")]⟩) ⟨[]⟩)
noncomputable def x604 (P : Params) : Obj := (Obj.mk (.type "dict") none (Data.dict ⟨[(DictEntry.mk (PyData.keyHash P (ofString "__module__")) (.str (ofString "__module__") 1208) (.str (ofString "js.parse_base") 1195)), (DictEntry.mk (PyData.keyHash P (ofString "__qualname__")) (.str (ofString "__qualname__") 1210) (.str (ofString "TokenTaker") 1209)), (DictEntry.mk (PyData.keyHash P (ofString "__firstlineno__")) (.str (ofString "__firstlineno__") 1212) (.int 447 1211)), (DictEntry.mk (PyData.keyHash P (ofString "__init__")) (.str (ofString "__init__") 1220) (.ref 615)), (DictEntry.mk (PyData.keyHash P (ofString "take")) (.str (ofString "take") 1228) (.ref 622)), (DictEntry.mk (PyData.keyHash P (ofString "peek")) (.str (ofString "peek") 1235) (.ref 629)), (DictEntry.mk (PyData.keyHash P (ofString "is_sign")) (.str (ofString "is_sign") 1243) (.ref 636)), (DictEntry.mk (PyData.keyHash P (ofString "is_word")) (.str (ofString "is_word") 1251) (.ref 643)), (DictEntry.mk (PyData.keyHash P (ofString "eat")) (.str (ofString "eat") 1259) (.ref 650)), (DictEntry.mk (PyData.keyHash P (ofString "need")) (.str (ofString "need") 1267) (.ref 657)), (DictEntry.mk (PyData.keyHash P (ofString "need_word")) (.str (ofString "need_word") 1275) (.ref 664)), (DictEntry.mk (PyData.keyHash P (ofString "fail")) (.str (ofString "fail") 1283) (.ref 671)), (DictEntry.mk (PyData.keyHash P (ofString "fail_for")) (.str (ofString "fail_for") 1291) (.ref 678)), (DictEntry.mk (PyData.keyHash P (ofString "unexpected")) (.str (ofString "unexpected") 1298) (.ref 685)), (DictEntry.mk (PyData.keyHash P (ofString "go_in")) (.str (ofString "go_in") 1305) (.ref 692)), (DictEntry.mk (PyData.keyHash P (ofString "go_out")) (.str (ofString "go_out") 1312) (.ref 699)), (DictEntry.mk (PyData.keyHash P (ofString "need_name")) (.str (ofString "need_name") 1319) (.ref 706)), (DictEntry.mk (PyData.keyHash P (ofString "need_binding")) (.str (ofString "need_binding") 1326) (.ref 713)), (DictEntry.mk (PyData.keyHash P (ofString "property_name")) (.str (ofString "property_name") 1333) (.ref 720)), (DictEntry.mk (PyData.keyHash P (ofString "can_end")) (.str (ofString "can_end") 1340) (.ref 727)), (DictEntry.mk (PyData.keyHash P (ofString "end_statement")) (.str (ofString "end_statement") 1347) (.ref 734)), (DictEntry.mk (PyData.keyHash P (ofString "__static_attributes__")) (.str (ofString "__static_attributes__") 1356) (.ref 735))]⟩ 22) ⟨[]⟩)
noncomputable def x605 (P : Params) : Obj := (Obj.mk (.type "tuple") none (Data.seq ⟨[]⟩ 0) ⟨[]⟩)
noncomputable def x606 (P : Params) : Obj := (Obj.mk .none none (Data.fields ⟨[(.int 449 0), (.int 4 0), (.ref 614), (.int 459 0), (.int 4 0), (.ref 621), (.int 468 0), (.int 4 0), (.ref 628), (.int 471 0), (.int 4 0), (.ref 635), (.int 474 0), (.int 4 0), (.ref 642), (.int 477 0), (.int 4 0), (.ref 649), (.int 483 0), (.int 4 0), (.ref 656), (.int 487 0), (.int 4 0), (.ref 663), (.int 490 0), (.int 4 0), (.ref 670), (.int 493 0), (.int 4 0), (.ref 677), (.int 497 0), (.int 4 0), (.ref 684), (.int 500 0), (.int 4 0), (.ref 691), (.int 505 0), (.int 4 0), (.ref 698), (.int 508 0), (.int 4 0), (.ref 705), (.int 514 0), (.int 4 0), (.ref 712), (.int 517 0), (.int 4 0), (.ref 719), (.int 522 0), (.int 4 0), (.ref 726), (.int 525 0), (.int 4 0), (.ref 733)]⟩) ⟨[]⟩)
noncomputable def x607 (P : Params) : Obj := (Obj.mk (.type "code") none (Data.fields ⟨[(.str (ofString "TokenTaker") 1203), (.str (ofString "TokenTaker") 1204), (.str (ofString "/claim/cut.py") 1205), (.int 447 0), (.int 0 0), (.int 0 0), (.int 0 0), (.int 0 0), (.ref 605), (Value.bool false), (.int 181 0), (.ref 606), .none, .none, .none, .none, (.int 1206 0), (.int 447 0), (.str (ofString "/claim/cut.py") 1207)]⟩) ⟨[]⟩)
noncomputable def x608 (P : Params) : Obj := (Obj.mk (.type "frame") none Data.plain ⟨[(some (.ref 607)), (some (.ref 3)), (some (.ref 604)), none, (some (.str (ofString "js.parse_base") 1195)), none, (some (.ref 0))]⟩)
noncomputable def x610 (P : Params) : Obj := (Obj.mk .none none (Data.fields ⟨[]⟩) ⟨[]⟩)
noncomputable def x613 (P : Params) : Obj := Obj.mk .none none (Data.func (fdOf (st2 70 0) (FuncData.mk (ofString "__init__") (ofString "TokenTaker.__init__") default (.stmts []) default 0 [] .none .none .none .none none .none .none 0))) ⟨[]⟩
noncomputable def x617 (P : Params) : Obj := (Obj.mk .none none (Data.fields ⟨[]⟩) ⟨[]⟩)
noncomputable def x620 (P : Params) : Obj := Obj.mk .none none (Data.func (fdOf (st2 70 1) (FuncData.mk (ofString "take") (ofString "TokenTaker.take") default (.stmts []) default 0 [] .none .none .none .none none .none .none 0))) ⟨[]⟩
noncomputable def x624 (P : Params) : Obj := (Obj.mk .none none (Data.fields ⟨[]⟩) ⟨[]⟩)
noncomputable def x627 (P : Params) : Obj := Obj.mk .none none (Data.func (fdOf (st2 70 2) (FuncData.mk (ofString "peek") (ofString "TokenTaker.peek") default (.stmts []) default 0 [] .none .none .none .none none .none .none 0))) ⟨[]⟩
noncomputable def x631 (P : Params) : Obj := (Obj.mk .none none (Data.fields ⟨[]⟩) ⟨[]⟩)
noncomputable def x634 (P : Params) : Obj := Obj.mk .none none (Data.func (fdOf (st2 70 3) (FuncData.mk (ofString "is_sign") (ofString "TokenTaker.is_sign") default (.stmts []) default 0 [] .none .none .none .none none .none .none 0))) ⟨[]⟩
noncomputable def x638 (P : Params) : Obj := (Obj.mk .none none (Data.fields ⟨[]⟩) ⟨[]⟩)
noncomputable def x641 (P : Params) : Obj := Obj.mk .none none (Data.func (fdOf (st2 70 4) (FuncData.mk (ofString "is_word") (ofString "TokenTaker.is_word") default (.stmts []) default 0 [] .none .none .none .none none .none .none 0))) ⟨[]⟩
noncomputable def x645 (P : Params) : Obj := (Obj.mk .none none (Data.fields ⟨[]⟩) ⟨[]⟩)
noncomputable def x648 (P : Params) : Obj := Obj.mk .none none (Data.func (fdOf (st2 70 5) (FuncData.mk (ofString "eat") (ofString "TokenTaker.eat") default (.stmts []) default 0 [] .none .none .none .none none .none .none 0))) ⟨[]⟩
noncomputable def x652 (P : Params) : Obj := (Obj.mk .none none (Data.fields ⟨[]⟩) ⟨[]⟩)
noncomputable def x655 (P : Params) : Obj := Obj.mk .none none (Data.func (fdOf (st2 70 6) (FuncData.mk (ofString "need") (ofString "TokenTaker.need") default (.stmts []) default 0 [] .none .none .none .none none .none .none 0))) ⟨[]⟩
noncomputable def x659 (P : Params) : Obj := (Obj.mk .none none (Data.fields ⟨[]⟩) ⟨[]⟩)
noncomputable def x662 (P : Params) : Obj := Obj.mk .none none (Data.func (fdOf (st2 70 7) (FuncData.mk (ofString "need_word") (ofString "TokenTaker.need_word") default (.stmts []) default 0 [] .none .none .none .none none .none .none 0))) ⟨[]⟩
noncomputable def x666 (P : Params) : Obj := (Obj.mk .none none (Data.fields ⟨[]⟩) ⟨[]⟩)
noncomputable def x669 (P : Params) : Obj := Obj.mk .none none (Data.func (fdOf (st2 70 8) (FuncData.mk (ofString "fail") (ofString "TokenTaker.fail") default (.stmts []) default 0 [] .none .none .none .none none .none .none 0))) ⟨[]⟩
noncomputable def x673 (P : Params) : Obj := (Obj.mk .none none (Data.fields ⟨[]⟩) ⟨[]⟩)
noncomputable def x676 (P : Params) : Obj := Obj.mk .none none (Data.func (fdOf (st2 70 9) (FuncData.mk (ofString "fail_for") (ofString "TokenTaker.fail_for") default (.stmts []) default 0 [] .none .none .none .none none .none .none 0))) ⟨[]⟩
noncomputable def x680 (P : Params) : Obj := (Obj.mk .none none (Data.fields ⟨[]⟩) ⟨[]⟩)
noncomputable def x683 (P : Params) : Obj := Obj.mk .none none (Data.func (fdOf (st2 70 10) (FuncData.mk (ofString "unexpected") (ofString "TokenTaker.unexpected") default (.stmts []) default 0 [] .none .none .none .none none .none .none 0))) ⟨[]⟩
noncomputable def x687 (P : Params) : Obj := (Obj.mk .none none (Data.fields ⟨[]⟩) ⟨[]⟩)
noncomputable def x690 (P : Params) : Obj := Obj.mk .none none (Data.func (fdOf (st2 70 11) (FuncData.mk (ofString "go_in") (ofString "TokenTaker.go_in") default (.stmts []) default 0 [] .none .none .none .none none .none .none 0))) ⟨[]⟩
noncomputable def x694 (P : Params) : Obj := (Obj.mk .none none (Data.fields ⟨[]⟩) ⟨[]⟩)
noncomputable def x697 (P : Params) : Obj := Obj.mk .none none (Data.func (fdOf (st2 70 12) (FuncData.mk (ofString "go_out") (ofString "TokenTaker.go_out") default (.stmts []) default 0 [] .none .none .none .none none .none .none 0))) ⟨[]⟩
noncomputable def x701 (P : Params) : Obj := (Obj.mk .none none (Data.fields ⟨[]⟩) ⟨[]⟩)
noncomputable def x704 (P : Params) : Obj := Obj.mk .none none (Data.func (fdOf (st2 70 13) (FuncData.mk (ofString "need_name") (ofString "TokenTaker.need_name") default (.stmts []) default 0 [] .none .none .none .none none .none .none 0))) ⟨[]⟩
noncomputable def x708 (P : Params) : Obj := (Obj.mk .none none (Data.fields ⟨[]⟩) ⟨[]⟩)
noncomputable def x711 (P : Params) : Obj := Obj.mk .none none (Data.func (fdOf (st2 70 14) (FuncData.mk (ofString "need_binding") (ofString "TokenTaker.need_binding") default (.stmts []) default 0 [] .none .none .none .none none .none .none 0))) ⟨[]⟩
noncomputable def x715 (P : Params) : Obj := (Obj.mk .none none (Data.fields ⟨[]⟩) ⟨[]⟩)
noncomputable def x718 (P : Params) : Obj := Obj.mk .none none (Data.func (fdOf (st2 70 15) (FuncData.mk (ofString "property_name") (ofString "TokenTaker.property_name") default (.stmts []) default 0 [] .none .none .none .none none .none .none 0))) ⟨[]⟩
noncomputable def x722 (P : Params) : Obj := (Obj.mk .none none (Data.fields ⟨[]⟩) ⟨[]⟩)
noncomputable def x725 (P : Params) : Obj := Obj.mk .none none (Data.func (fdOf (st2 70 16) (FuncData.mk (ofString "can_end") (ofString "TokenTaker.can_end") default (.stmts []) default 0 [] .none .none .none .none none .none .none 0))) ⟨[]⟩
noncomputable def x729 (P : Params) : Obj := (Obj.mk .none none (Data.fields ⟨[]⟩) ⟨[]⟩)
noncomputable def x732 (P : Params) : Obj := Obj.mk .none none (Data.func (fdOf (st2 70 17) (FuncData.mk (ofString "end_statement") (ofString "TokenTaker.end_statement") default (.stmts []) default 0 [] .none .none .none .none none .none .none 0))) ⟨[]⟩
noncomputable def x740 (P : Params) : Obj := (Obj.mk (.type "super") none (Data.fields ⟨[(.ref 737), (.ref 737), (.ref 737)]⟩) ⟨[]⟩)
noncomputable def x741 (P : Params) : Obj := (Obj.mk (.type "builtin_function_or_method") none (Data.fields ⟨[(.builtin "object.__init_subclass__"), (.ref 737)]⟩) ⟨[]⟩)
noncomputable def x743 (P : Params) : Obj := (Obj.mk (.type "dict") none (Data.dict ⟨[(DictEntry.mk (PyData.keyHash P (ofString ">>>")) (.str (ofString ">>>") 1417) (.int 8 1418)), (DictEntry.mk (PyData.keyHash P (ofString "+")) (.str (ofString "+") 1419) (.int 9 1420)), (DictEntry.mk (PyData.keyHash P (ofString "-")) (.str (ofString "-") 1421) (.int 9 1422)), (DictEntry.mk (PyData.keyHash P (ofString "*")) (.str (ofString "*") 1423) (.int 10 1424)), (DictEntry.mk (PyData.keyHash P (ofString "/")) (.str (ofString "/") 1425) (.int 10 1426)), (DictEntry.mk (PyData.keyHash P (ofString "%")) (.str (ofString "%") 1427) (.int 10 1428))]⟩ 6) ⟨[]⟩)
noncomputable def x749 (P : Params) : Obj := (Obj.mk (.type "builtin_function_or_method") none (Data.fields ⟨[(.builtin "type.__prepare__"), (.type "type")]⟩) ⟨[]⟩)
noncomputable def x750 (P : Params) : Obj := (Obj.mk (.type "dict") none (Data.dict ⟨[(DictEntry.mk (PyData.keyHash P (ofString "__module__")) (.str (ofString "__module__") 1468) (.str (ofString "js.parse_expr") 1364)), (DictEntry.mk (PyData.keyHash P (ofString "__qualname__")) (.str (ofString "__qualname__") 1470) (.str (ofString "ExprParser") 1469)), (DictEntry.mk (PyData.keyHash P (ofString "__firstlineno__")) (.str (ofString "__firstlineno__") 1472) (.int 533 1471)), (DictEntry.mk (PyData.keyHash P (ofString "function")) (.str (ofString "function") 1480) (.ref 761)), (DictEntry.mk (PyData.keyHash P (ofString "expression")) (.str (ofString "expression") 1490) (.ref 768)), (DictEntry.mk (PyData.keyHash P (ofString "assignment")) (.str (ofString "assignment") 1500) (.ref 775)), (DictEntry.mk (PyData.keyHash P (ofString "need_target")) (.str (ofString "need_target") 1508) (.ref 782)), (DictEntry.mk (PyData.keyHash P (ofString "conditional")) (.str (ofString "conditional") 1518) (.ref 789)), (DictEntry.mk (PyData.keyHash P (ofString "priority")) (.str (ofString "priority") 1526) (.ref 796)), (DictEntry.mk (PyData.keyHash P (ofString "binary")) (.str (ofString "binary") 1539) (.ref 803)), (DictEntry.mk (PyData.keyHash P (ofString "unary")) (.str (ofString "unary") 1551) (.ref 810)), (DictEntry.mk (PyData.keyHash P (ofString "operand_behind")) (.str (ofString "operand_behind") 1559) (.ref 817)), (DictEntry.mk (PyData.keyHash P (ofString "postfix")) (.str (ofString "postfix") 1567) (.ref 824)), (DictEntry.mk (PyData.keyHash P (ofString "left_hand")) (.str (ofString "left_hand") 1575) (.ref 831)), (DictEntry.mk (PyData.keyHash P (ofString "with_members")) (.str (ofString "with_members") 1584) (.ref 838)), (DictEntry.mk (PyData.keyHash P (ofString "creation")) (.str (ofString "creation") 1593) (.ref 845)), (DictEntry.mk (PyData.keyHash P (ofString "arguments")) (.str (ofString "arguments") 1601) (.ref 852)), (DictEntry.mk (PyData.keyHash P (ofString "primary")) (.str (ofString "primary") 1610) (.ref 859)), (DictEntry.mk (PyData.keyHash P (ofString "word_operand")) (.str (ofString "word_operand") 1618) (.ref 866)), (DictEntry.mk (PyData.keyHash P (ofString "array")) (.str (ofString "array") 1627) (.ref 873)), (DictEntry.mk (PyData.keyHash P (ofString "object")) (.str (ofString "object") 1634) (.ref 880)), (DictEntry.mk (PyData.keyHash P (ofString "__static_attributes__")) (.str (ofString "__static_attributes__") 1636) (.ref 881))]⟩ 22) ⟨[]⟩)
noncomputable def x751 (P : Params) : Obj := (Obj.mk (.type "tuple") none (Data.seq ⟨[]⟩ 0) ⟨[]⟩)
noncomputable def x752 (P : Params) : Obj := (Obj.mk .none none (Data.fields ⟨[(.int 535 0), (.int 4 0), (.ref 760), (.int 538 0), (.int 4 0), (.ref 767), (.int 547 0), (.int 4 0), (.ref 774), (.int 557 0), (.int 4 0), (.ref 781), (.int 560 0), (.int 4 0), (.ref 788), (.int 568 0), (.int 4 0), (.ref 795), (.int 575 0), (.int 4 0), (.ref 802), (.int 584 0), (.int 4 0), (.ref 809), (.int 599 0), (.int 4 0), (.ref 816), (.int 606 0), (.int 4 0), (.ref 823), (.int 613 0), (.int 4 0), (.ref 830), (.int 619 0), (.int 4 0), (.ref 837), (.int 629 0), (.int 4 0), (.ref 844), (.int 636 0), (.int 4 0), (.ref 851), (.int 648 0), (.int 4 0), (.ref 858), (.int 671 0), (.int 4 0), (.ref 865), (.int 685 0), (.int 4 0), (.ref 872), (.int 698 0), (.int 4 0), (.ref 879)]⟩) ⟨[]⟩)
noncomputable def x753 (P : Params) : Obj := (Obj.mk (.type "code") none (Data.fields ⟨[(.str (ofString "ExprParser") 1463), (.str (ofString "ExprParser") 1464), (.str (ofString "/claim/cut.py") 1465), (.int 533 0), (.int 0 0), (.int 0 0), (.int 0 0), (.int 0 0), (.ref 751), (Value.bool false), (.int 181 0), (.ref 752), .none, .none, .none, .none, (.int 1466 0), (.int 533 0), (.str (ofString "/claim/cut.py") 1467)]⟩) ⟨[]⟩)
noncomputable def x754 (P : Params) : Obj := (Obj.mk (.type "frame") none Data.plain ⟨[(some (.ref 753)), (some (.ref 3)), (some (.ref 750)), none, (some (.str (ofString "js.parse_expr") 1364)), none, (some (.ref 0))]⟩)
noncomputable def x756 (P : Params) : Obj := (Obj.mk .none none (Data.fields ⟨[]⟩) ⟨[]⟩)
noncomputable def x759 (P : Params) : Obj := Obj.mk .none none (Data.func (fdOf (st2 77 0) (FuncData.mk (ofString "function") (ofString "ExprParser.function") default (.stmts []) default 0 [] .none .none .none .none none .none .none 0))) ⟨[]⟩
noncomputable def x763 (P : Params) : Obj := (Obj.mk .none none (Data.fields ⟨[]⟩) ⟨[]⟩)
noncomputable def x766 (P : Params) : Obj := Obj.mk .none none (Data.func (fdOf (st2 77 1) (FuncData.mk (ofString "expression") (ofString "ExprParser.expression") default (.stmts []) default 0 [] .none .none .none .none none .none .none 0))) ⟨[]⟩
noncomputable def x770 (P : Params) : Obj := (Obj.mk .none none (Data.fields ⟨[]⟩) ⟨[]⟩)
noncomputable def x773 (P : Params) : Obj := Obj.mk .none none (Data.func (fdOf (st2 77 2) (FuncData.mk (ofString "assignment") (ofString "ExprParser.assignment") default (.stmts []) default 0 [] .none .none .none .none none .none .none 0))) ⟨[]⟩
noncomputable def x777 (P : Params) : Obj := (Obj.mk .none none (Data.fields ⟨[]⟩) ⟨[]⟩)
noncomputable def x780 (P : Params) : Obj := Obj.mk .none none (Data.func (fdOf (st2 77 3) (FuncData.mk (ofString "need_target") (ofString "ExprParser.need_target") default (.stmts []) default 0 [] .none .none .none .none none .none .none 0))) ⟨[]⟩
noncomputable def x784 (P : Params) : Obj := (Obj.mk .none none (Data.fields ⟨[]⟩) ⟨[]⟩)
noncomputable def x787 (P : Params) : Obj := Obj.mk .none none (Data.func (fdOf (st2 77 4) (FuncData.mk (ofString "conditional") (ofString "ExprParser.conditional") default (.stmts []) default 0 [] .none .none .none .none none .none .none 0))) ⟨[]⟩
noncomputable def x791 (P : Params) : Obj := (Obj.mk .none none (Data.fields ⟨[]⟩) ⟨[]⟩)
noncomputable def x794 (P : Params) : Obj := Obj.mk .none none (Data.func (fdOf (st2 77 5) (FuncData.mk (ofString "priority") (ofString "ExprParser.priority") default (.stmts []) default 0 [] .none .none .none .none none .none .none 0))) ⟨[]⟩
noncomputable def x798 (P : Params) : Obj := (Obj.mk .none none (Data.fields ⟨[]⟩) ⟨[]⟩)
noncomputable def x801 (P : Params) : Obj := Obj.mk .none none (Data.func (fdOf (st2 77 6) (FuncData.mk (ofString "binary") (ofString "ExprParser.binary") default (.stmts []) default 0 [] .none .none .none .none none .none .none 0))) ⟨[]⟩
noncomputable def x805 (P : Params) : Obj := (Obj.mk .none none (Data.fields ⟨[]⟩) ⟨[]⟩)
noncomputable def x808 (P : Params) : Obj := Obj.mk .none none (Data.func (fdOf (st2 77 7) (FuncData.mk (ofString "unary") (ofString "ExprParser.unary") default (.stmts []) default 0 [] .none .none .none .none none .none .none 0))) ⟨[]⟩
noncomputable def x812 (P : Params) : Obj := (Obj.mk .none none (Data.fields ⟨[]⟩) ⟨[]⟩)
noncomputable def x815 (P : Params) : Obj := Obj.mk .none none (Data.func (fdOf (st2 77 8) (FuncData.mk (ofString "operand_behind") (ofString "ExprParser.operand_behind") default (.stmts []) default 0 [] .none .none .none .none none .none .none 0))) ⟨[]⟩
noncomputable def x819 (P : Params) : Obj := (Obj.mk .none none (Data.fields ⟨[]⟩) ⟨[]⟩)
noncomputable def x822 (P : Params) : Obj := Obj.mk .none none (Data.func (fdOf (st2 77 9) (FuncData.mk (ofString "postfix") (ofString "ExprParser.postfix") default (.stmts []) default 0 [] .none .none .none .none none .none .none 0))) ⟨[]⟩
noncomputable def x826 (P : Params) : Obj := (Obj.mk .none none (Data.fields ⟨[]⟩) ⟨[]⟩)
noncomputable def x829 (P : Params) : Obj := Obj.mk .none none (Data.func (fdOf (st2 77 10) (FuncData.mk (ofString "left_hand") (ofString "ExprParser.left_hand") default (.stmts []) default 0 [] .none .none .none .none none .none .none 0))) ⟨[]⟩
noncomputable def x833 (P : Params) : Obj := (Obj.mk .none none (Data.fields ⟨[]⟩) ⟨[]⟩)
noncomputable def x836 (P : Params) : Obj := Obj.mk .none none (Data.func (fdOf (st2 77 11) (FuncData.mk (ofString "with_members") (ofString "ExprParser.with_members") default (.stmts []) default 0 [] .none .none .none .none none .none .none 0))) ⟨[]⟩
noncomputable def x840 (P : Params) : Obj := (Obj.mk .none none (Data.fields ⟨[]⟩) ⟨[]⟩)
noncomputable def x843 (P : Params) : Obj := Obj.mk .none none (Data.func (fdOf (st2 77 12) (FuncData.mk (ofString "creation") (ofString "ExprParser.creation") default (.stmts []) default 0 [] .none .none .none .none none .none .none 0))) ⟨[]⟩
noncomputable def x847 (P : Params) : Obj := (Obj.mk .none none (Data.fields ⟨[]⟩) ⟨[]⟩)
noncomputable def x850 (P : Params) : Obj := Obj.mk .none none (Data.func (fdOf (st2 77 13) (FuncData.mk (ofString "arguments") (ofString "ExprParser.arguments") default (.stmts []) default 0 [] .none .none .none .none none .none .none 0))) ⟨[]⟩
noncomputable def x854 (P : Params) : Obj := (Obj.mk .none none (Data.fields ⟨[]⟩) ⟨[]⟩)
noncomputable def x857 (P : Params) : Obj := Obj.mk .none none (Data.func (fdOf (st2 77 14) (FuncData.mk (ofString "primary") (ofString "ExprParser.primary") default (.stmts []) default 0 [] .none .none .none .none none .none .none 0))) ⟨[]⟩
noncomputable def x861 (P : Params) : Obj := (Obj.mk .none none (Data.fields ⟨[]⟩) ⟨[]⟩)
noncomputable def x864 (P : Params) : Obj := Obj.mk .none none (Data.func (fdOf (st2 77 15) (FuncData.mk (ofString "word_operand") (ofString "ExprParser.word_operand") default (.stmts []) default 0 [] .none .none .none .none none .none .none 0))) ⟨[]⟩
noncomputable def x868 (P : Params) : Obj := (Obj.mk .none none (Data.fields ⟨[]⟩) ⟨[]⟩)
noncomputable def x871 (P : Params) : Obj := Obj.mk .none none (Data.func (fdOf (st2 77 16) (FuncData.mk (ofString "array") (ofString "ExprParser.array") default (.stmts []) default 0 [] .none .none .none .none none .none .none 0))) ⟨[]⟩
noncomputable def x875 (P : Params) : Obj := (Obj.mk .none none (Data.fields ⟨[]⟩) ⟨[]⟩)
noncomputable def x878 (P : Params) : Obj := Obj.mk .none none (Data.func (fdOf (st2 77 17) (FuncData.mk (ofString "object") (ofString "ExprParser.object") default (.stmts []) default 0 [] .none .none .none .none none .none .none 0))) ⟨[]⟩
noncomputable def x884 (P : Params) : Obj := (Obj.mk (.type "super") none (Data.fields ⟨[(.ref 883), (.ref 883), (.ref 883)]⟩) ⟨[]⟩)
noncomputable def x885 (P : Params) : Obj := (Obj.mk (.type "builtin_function_or_method") none (Data.fields ⟨[(.builtin "object.__init_subclass__"), (.ref 883)]⟩) ⟨[]⟩)
noncomputable def x887 (P : Params) : Obj := (Obj.mk .none none (Data.fields ⟨[]⟩) ⟨[]⟩)
noncomputable def x890 (P : Params) : Obj := Obj.mk .none none (Data.func (fdOf (st1 79) (FuncData.mk (ofString "parse_expression") (ofString "parse_expression") default (.stmts []) default 0 [] .none .none .none .none none .none .none 0))) ⟨[]⟩
noncomputable def x894 (P : Params) : Obj := (Obj.mk .none none (Data.fields ⟨[]⟩) ⟨[]⟩)
noncomputable def x897 (P : Params) : Obj := Obj.mk .none none (Data.func (fdOf (st1 81) (FuncData.mk (ofString "_law_pick") (ofString "_law_pick") default (.stmts []) default 0 [] .none .none .none .none none .none .none 0))) ⟨[]⟩
noncomputable def x901 (P : Params) : Obj := (Obj.mk .none none (Data.fields ⟨[]⟩) ⟨[]⟩)
noncomputable def x904 (P : Params) : Obj := Obj.mk .none none (Data.func (fdOf (st1 82) (FuncData.mk (ofString "_law_line") (ofString "_law_line") default (.stmts []) default 0 [] .none .none .none .none none .none .none 0))) ⟨[]⟩
noncomputable def x908 (P : Params) : Obj := (Obj.mk .none none (Data.fields ⟨[]⟩) ⟨[]⟩)
noncomputable def x911 (P : Params) : Obj := Obj.mk .none none (Data.func (fdOf (st1 83) (FuncData.mk (ofString "law") (ofString "law") default (.stmts []) default 0 [] .none .none .none .none none .none .none 0))) ⟨[]⟩
noncomputable def y0_2 (P : Params) : Obj := (Obj.mk .none none (Data.dict ⟨[]⟩ 0) ⟨[]⟩)
noncomputable def y0_3 (P : Params) : Obj := cutD 9 9 (.str (ofString "__main__") 164) (ob 1 P)
noncomputable def y0_12 (P : Params) : Obj := cutF 0 (x12 P)
noncomputable def T0 (P : Params) : BT := (node (boot_o_0 P) (node (boot_o_1 P) (node (y0_3 P) (node (boot_o_7 P) BT.nil BT.nil) (node (x11 P) BT.nil BT.nil)) (node (boot_o_5 P) (node (boot_o_9 P) BT.nil BT.nil) (node (x13 P) BT.nil BT.nil))) (node (y0_2 P) (node (boot_o_4 P) (node (boot_o_8 P) BT.nil BT.nil) (node (y0_12 P) BT.nil BT.nil)) (node (boot_o_6 P) (node (boot_o_10 P) BT.nil BT.nil) (node (x14 P) BT.nil BT.nil))))
noncomputable def S0 (w : World) (os : OsState) : SharedT := ⟨T0 w.params, 15, (Life.mk [] [] [] 0 [] [] false ⟨[]⟩ [] 0 false false false 0 [2000, 10, 10] false 0 true [] [] 0 false), ⟨[]⟩, (Drawn.mk 0 0 0 0), 187, os⟩
noncomputable def y1_2 (P : Params) : Obj := (Obj.mk .none none (Data.dict ⟨[]⟩ 0) ⟨[]⟩)
noncomputable def y1_3 (P : Params) : Obj := cutD 44 44 (.str (ofString "js.escapes") 492) (ob 1 P)
noncomputable def y1_12 (P : Params) : Obj := cutF 66 (x12 P)
noncomputable def T1 (P : Params) : BT := (node (boot_o_0 P) (node (boot_o_1 P) (node (y1_3 P) (node (boot_o_7 P) (node (ob 2 P) (node (ob 8 P) (node (ob 33 P) (node (ob 88 P) BT.nil BT.nil) (node (ob 134 P) BT.nil BT.nil)) (node (ob 65 P) (node (ob 111 P) BT.nil BT.nil) (node (ob 157 P) BT.nil BT.nil))) (node (x47 P) (node (ob 49 P) (node (x143 P) BT.nil BT.nil) (node (x207 P) BT.nil BT.nil)) (node (ob 77 P) (node (x175 P) BT.nil BT.nil) BT.nil))) (node (x23 P) (node (ob 15 P) (node (ob 41 P) (node (ob 94 P) BT.nil BT.nil) (node (x199 P) BT.nil BT.nil)) (node (ob 71 P) (node (ob 117 P) BT.nil BT.nil) BT.nil)) (node (ob 25 P) (node (ob 57 P) (node (ob 105 P) BT.nil BT.nil) (node (ob 151 P) BT.nil BT.nil)) (node (x119 P) (node (ob 128 P) BT.nil BT.nil) BT.nil)))) (node (x11 P) (node (x19 P) (node (ob 11 P) (node (ob 37 P) (node (ob 91 P) BT.nil BT.nil) (node (ob 137 P) BT.nil BT.nil)) (node (ob 68 P) (node (ob 114 P) BT.nil BT.nil) BT.nil)) (node (x51 P) (node (ob 53 P) (node (x147 P) BT.nil BT.nil) (node (x211 P) BT.nil BT.nil)) (node (x115 P) (node (ob 125 P) BT.nil BT.nil) BT.nil))) (node (x27 P) (node (ob 17 P) (node (ob 45 P) (node (ob 97 P) BT.nil BT.nil) (node (ob 143 P) BT.nil BT.nil)) (node (ob 74 P) (node (x171 P) BT.nil BT.nil) BT.nil)) (node (ob 29 P) (node (ob 61 P) (node (ob 108 P) BT.nil BT.nil) (node (ob 154 P) BT.nil BT.nil)) (node (ob 85 P) (node (ob 131 P) BT.nil BT.nil) BT.nil))))) (node (boot_o_5 P) (node (boot_o_9 P) (node (ob 3 P) (node (x33 P) (node (ob 35 P) (node (x129 P) BT.nil BT.nil) (node (ob 135 P) BT.nil BT.nil)) (node (ob 67 P) (node (x161 P) BT.nil BT.nil) BT.nil)) (node (ob 21 P) (node (ob 51 P) (node (ob 101 P) BT.nil BT.nil) (node (ob 147 P) BT.nil BT.nil)) (node (ob 78 P) (node (ob 124 P) BT.nil BT.nil) BT.nil))) (node (x25 P) (node (x41 P) (node (ob 43 P) (node (ob 95 P) BT.nil BT.nil) (node (ob 141 P) BT.nil BT.nil)) (node (x105 P) (node (ob 118 P) BT.nil BT.nil) BT.nil)) (node (ob 27 P) (node (ob 59 P) (node (ob 107 P) BT.nil BT.nil) (node (ob 153 P) BT.nil BT.nil)) (node (ob 84 P) (node (x185 P) BT.nil BT.nil) BT.nil)))) (node (x13 P) (node (ob 6 P) (node (ob 13 P) (node (ob 39 P) (node (x133 P) BT.nil BT.nil) (node (ob 138 P) BT.nil BT.nil)) (node (x101 P) (node (ob 115 P) BT.nil BT.nil) BT.nil)) (node (ob 23 P) (node (ob 55 P) (node (ob 104 P) BT.nil BT.nil) (node (ob 150 P) BT.nil BT.nil)) (node (ob 81 P) (node (ob 127 P) BT.nil BT.nil) BT.nil))) (node (ob 7 P) (node (ob 18 P) (node (ob 47 P) (node (ob 98 P) BT.nil BT.nil) (node (ob 144 P) BT.nil BT.nil)) (node (ob 75 P) (node (ob 121 P) BT.nil BT.nil) BT.nil)) (node (ob 31 P) (node (ob 63 P) (node (x157 P) BT.nil BT.nil) (node (x221 P) BT.nil BT.nil)) (node (ob 87 P) (node (x189 P) BT.nil BT.nil) BT.nil)))))) (node (y1_2 P) (node (boot_o_4 P) (node (boot_o_8 P) (node (x16 P) (node (ob 9 P) (node (ob 34 P) (node (ob 89 P) BT.nil BT.nil) (node (x192 P) BT.nil BT.nil)) (node (ob 66 P) (node (ob 112 P) BT.nil BT.nil) BT.nil)) (node (ob 20 P) (node (ob 50 P) (node (ob 100 P) BT.nil BT.nil) (node (ob 146 P) BT.nil BT.nil)) (node (x112 P) (node (ob 123 P) BT.nil BT.nil) BT.nil))) (node (x24 P) (node (ob 16 P) (node (ob 42 P) (node (x136 P) BT.nil BT.nil) (node (ob 140 P) BT.nil BT.nil)) (node (ob 72 P) (node (x168 P) BT.nil BT.nil) BT.nil)) (node (ob 26 P) (node (ob 58 P) (node (ob 106 P) BT.nil BT.nil) (node (ob 152 P) BT.nil BT.nil)) (node (ob 83 P) (node (ob 129 P) BT.nil BT.nil) BT.nil)))) (node (y1_12 P) (node (ob 5 P) (node (ob 12 P) (node (ob 38 P) (node (ob 92 P) BT.nil BT.nil) (node (x196 P) BT.nil BT.nil)) (node (ob 69 P) (node (x164 P) BT.nil BT.nil) BT.nil)) (node (x52 P) (node (ob 54 P) (node (ob 103 P) BT.nil BT.nil) (node (ob 149 P) BT.nil BT.nil)) (node (ob 80 P) (node (ob 126 P) BT.nil BT.nil) BT.nil))) (node (x28 P) (node (x44 P) (node (ob 46 P) (node (x140 P) BT.nil BT.nil) (node (x204 P) BT.nil BT.nil)) (node (x108 P) (node (ob 120 P) BT.nil BT.nil) BT.nil)) (node (ob 30 P) (node (ob 62 P) (node (ob 109 P) BT.nil BT.nil) (node (ob 155 P) BT.nil BT.nil)) (node (ob 86 P) (node (ob 132 P) BT.nil BT.nil) BT.nil))))) (node (boot_o_6 P) (node (boot_o_10 P) (node (ob 4 P) (node (ob 10 P) (node (ob 36 P) (node (ob 90 P) BT.nil BT.nil) (node (ob 136 P) BT.nil BT.nil)) (node (x98 P) (node (ob 113 P) BT.nil BT.nil) BT.nil)) (node (ob 22 P) (node (ob 52 P) (node (ob 102 P) BT.nil BT.nil) (node (ob 148 P) BT.nil BT.nil)) (node (ob 79 P) (node (x178 P) BT.nil BT.nil) BT.nil))) (node (x26 P) (node (x42 P) (node (ob 44 P) (node (ob 96 P) BT.nil BT.nil) (node (ob 142 P) BT.nil BT.nil)) (node (ob 73 P) (node (ob 119 P) BT.nil BT.nil) BT.nil)) (node (ob 28 P) (node (ob 60 P) (node (x154 P) BT.nil BT.nil) (node (x218 P) BT.nil BT.nil)) (node (x122 P) (node (ob 130 P) BT.nil BT.nil) BT.nil)))) (node (x14 P) (node (x22 P) (node (ob 14 P) (node (ob 40 P) (node (ob 93 P) BT.nil BT.nil) (node (ob 139 P) BT.nil BT.nil)) (node (ob 70 P) (node (ob 116 P) BT.nil BT.nil) BT.nil)) (node (ob 24 P) (node (ob 56 P) (node (x150 P) BT.nil BT.nil) (node (x214 P) BT.nil BT.nil)) (node (ob 82 P) (node (x182 P) BT.nil BT.nil) BT.nil))) (node (x30 P) (node (ob 19 P) (node (ob 48 P) (node (ob 99 P) BT.nil BT.nil) (node (ob 145 P) BT.nil BT.nil)) (node (ob 76 P) (node (ob 122 P) BT.nil BT.nil) BT.nil)) (node (ob 32 P) (node (ob 64 P) (node (ob 110 P) BT.nil BT.nil) (node (ob 156 P) BT.nil BT.nil)) (node (x126 P) (node (ob 133 P) BT.nil BT.nil) BT.nil)))))))
noncomputable def S1 (w : World) (os : OsState) : SharedT := ⟨T1 w.params, 224, (Life.mk [] [] [] 0 [] [] false ⟨[]⟩ [] 0 false false false 0 [2000, 10, 10] false 0 true [] [] 0 false), ⟨[]⟩, (Drawn.mk 0 0 0 0), 541, os⟩
noncomputable def y2_2 (P : Params) : Obj := (Obj.mk .none none (Data.dict ⟨[]⟩ 0) ⟨[]⟩)
noncomputable def y2_3 (P : Params) : Obj := cutD 52 52 (.str (ofString "js.tokens") 599) (ob 1 P)
noncomputable def y2_12 (P : Params) : Obj := cutF 81 (x12 P)
noncomputable def T2 (P : Params) : BT := (node (boot_o_0 P) (node (boot_o_1 P) (node (y2_3 P) (node (boot_o_7 P) (node (ob 2 P) (node (ob 8 P) (node (ob 33 P) (node (ob 88 P) (node (ob 180 P) BT.nil BT.nil) BT.nil) (node (ob 134 P) BT.nil BT.nil)) (node (ob 65 P) (node (ob 111 P) BT.nil BT.nil) (node (ob 157 P) BT.nil BT.nil))) (node (x47 P) (node (ob 49 P) (node (x143 P) BT.nil BT.nil) (node (x207 P) BT.nil BT.nil)) (node (ob 77 P) (node (x175 P) BT.nil BT.nil) (node (x239 P) BT.nil BT.nil)))) (node (x23 P) (node (ob 15 P) (node (ob 41 P) (node (ob 94 P) BT.nil BT.nil) (node (x199 P) BT.nil BT.nil)) (node (ob 71 P) (node (ob 117 P) BT.nil BT.nil) (node (ob 163 P) BT.nil BT.nil))) (node (ob 25 P) (node (ob 57 P) (node (ob 105 P) BT.nil BT.nil) (node (ob 151 P) BT.nil BT.nil)) (node (x119 P) (node (ob 128 P) BT.nil BT.nil) (node (ob 174 P) BT.nil BT.nil))))) (node (x11 P) (node (x19 P) (node (ob 11 P) (node (ob 37 P) (node (ob 91 P) (node (ob 183 P) BT.nil BT.nil) BT.nil) (node (ob 137 P) BT.nil BT.nil)) (node (ob 68 P) (node (ob 114 P) BT.nil BT.nil) (node (ob 160 P) BT.nil BT.nil))) (node (x51 P) (node (ob 53 P) (node (x147 P) BT.nil BT.nil) (node (x211 P) BT.nil BT.nil)) (node (x115 P) (node (ob 125 P) BT.nil BT.nil) (node (ob 171 P) BT.nil BT.nil)))) (node (x27 P) (node (ob 17 P) (node (ob 45 P) (node (ob 97 P) BT.nil BT.nil) (node (ob 143 P) BT.nil BT.nil)) (node (ob 74 P) (node (x171 P) BT.nil BT.nil) (node (x235 P) BT.nil BT.nil))) (node (ob 29 P) (node (ob 61 P) (node (ob 108 P) BT.nil BT.nil) (node (ob 154 P) BT.nil BT.nil)) (node (ob 85 P) (node (ob 131 P) BT.nil BT.nil) (node (ob 177 P) BT.nil BT.nil)))))) (node (boot_o_5 P) (node (boot_o_9 P) (node (ob 3 P) (node (x33 P) (node (ob 35 P) (node (x129 P) (node (ob 181 P) BT.nil BT.nil) BT.nil) (node (ob 135 P) BT.nil BT.nil)) (node (ob 67 P) (node (x161 P) BT.nil BT.nil) (node (x225 P) BT.nil BT.nil))) (node (ob 21 P) (node (ob 51 P) (node (ob 101 P) BT.nil BT.nil) (node (ob 147 P) BT.nil BT.nil)) (node (ob 78 P) (node (ob 124 P) BT.nil BT.nil) (node (ob 170 P) BT.nil BT.nil)))) (node (x25 P) (node (x41 P) (node (ob 43 P) (node (ob 95 P) BT.nil BT.nil) (node (ob 141 P) BT.nil BT.nil)) (node (x105 P) (node (ob 118 P) BT.nil BT.nil) (node (ob 164 P) BT.nil BT.nil))) (node (ob 27 P) (node (ob 59 P) (node (ob 107 P) BT.nil BT.nil) (node (ob 153 P) BT.nil BT.nil)) (node (ob 84 P) (node (x185 P) BT.nil BT.nil) (node (x249 P) BT.nil BT.nil))))) (node (x13 P) (node (ob 6 P) (node (ob 13 P) (node (ob 39 P) (node (x133 P) BT.nil BT.nil) (node (ob 138 P) BT.nil BT.nil)) (node (x101 P) (node (ob 115 P) BT.nil BT.nil) (node (ob 161 P) BT.nil BT.nil))) (node (ob 23 P) (node (ob 55 P) (node (ob 104 P) BT.nil BT.nil) (node (ob 150 P) BT.nil BT.nil)) (node (ob 81 P) (node (ob 127 P) BT.nil BT.nil) (node (ob 173 P) BT.nil BT.nil)))) (node (ob 7 P) (node (ob 18 P) (node (ob 47 P) (node (ob 98 P) BT.nil BT.nil) (node (ob 144 P) BT.nil BT.nil)) (node (ob 75 P) (node (ob 121 P) BT.nil BT.nil) (node (ob 167 P) BT.nil BT.nil))) (node (ob 31 P) (node (ob 63 P) (node (x157 P) BT.nil BT.nil) (node (x221 P) BT.nil BT.nil)) (node (ob 87 P) (node (x189 P) BT.nil BT.nil) (node (x253 P) BT.nil BT.nil))))))) (node (y2_2 P) (node (boot_o_4 P) (node (boot_o_8 P) (node (x16 P) (node (ob 9 P) (node (ob 34 P) (node (ob 89 P) (node (x256 P) BT.nil BT.nil) BT.nil) (node (x192 P) BT.nil BT.nil)) (node (ob 66 P) (node (ob 112 P) BT.nil BT.nil) (node (ob 158 P) BT.nil BT.nil))) (node (ob 20 P) (node (ob 50 P) (node (ob 100 P) BT.nil BT.nil) (node (ob 146 P) BT.nil BT.nil)) (node (x112 P) (node (ob 123 P) BT.nil BT.nil) (node (ob 169 P) BT.nil BT.nil)))) (node (x24 P) (node (ob 16 P) (node (ob 42 P) (node (x136 P) BT.nil BT.nil) (node (ob 140 P) BT.nil BT.nil)) (node (ob 72 P) (node (x168 P) BT.nil BT.nil) (node (x232 P) BT.nil BT.nil))) (node (ob 26 P) (node (ob 58 P) (node (ob 106 P) BT.nil BT.nil) (node (ob 152 P) BT.nil BT.nil)) (node (ob 83 P) (node (ob 129 P) BT.nil BT.nil) (node (ob 175 P) BT.nil BT.nil))))) (node (y2_12 P) (node (ob 5 P) (node (ob 12 P) (node (ob 38 P) (node (ob 92 P) (node (x260 P) BT.nil BT.nil) BT.nil) (node (x196 P) BT.nil BT.nil)) (node (ob 69 P) (node (x164 P) BT.nil BT.nil) (node (x228 P) BT.nil BT.nil))) (node (x52 P) (node (ob 54 P) (node (ob 103 P) BT.nil BT.nil) (node (ob 149 P) BT.nil BT.nil)) (node (ob 80 P) (node (ob 126 P) BT.nil BT.nil) (node (ob 172 P) BT.nil BT.nil)))) (node (x28 P) (node (x44 P) (node (ob 46 P) (node (x140 P) BT.nil BT.nil) (node (x204 P) BT.nil BT.nil)) (node (x108 P) (node (ob 120 P) BT.nil BT.nil) (node (ob 166 P) BT.nil BT.nil))) (node (ob 30 P) (node (ob 62 P) (node (ob 109 P) BT.nil BT.nil) (node (ob 155 P) BT.nil BT.nil)) (node (ob 86 P) (node (ob 132 P) BT.nil BT.nil) (node (ob 178 P) BT.nil BT.nil)))))) (node (boot_o_6 P) (node (boot_o_10 P) (node (ob 4 P) (node (ob 10 P) (node (ob 36 P) (node (ob 90 P) (node (ob 182 P) BT.nil BT.nil) BT.nil) (node (ob 136 P) BT.nil BT.nil)) (node (x98 P) (node (ob 113 P) BT.nil BT.nil) (node (ob 159 P) BT.nil BT.nil))) (node (ob 22 P) (node (ob 52 P) (node (ob 102 P) BT.nil BT.nil) (node (ob 148 P) BT.nil BT.nil)) (node (ob 79 P) (node (x178 P) BT.nil BT.nil) (node (x242 P) BT.nil BT.nil)))) (node (x26 P) (node (x42 P) (node (ob 44 P) (node (ob 96 P) BT.nil BT.nil) (node (ob 142 P) BT.nil BT.nil)) (node (ob 73 P) (node (ob 119 P) BT.nil BT.nil) (node (ob 165 P) BT.nil BT.nil))) (node (ob 28 P) (node (ob 60 P) (node (x154 P) BT.nil BT.nil) (node (x218 P) BT.nil BT.nil)) (node (x122 P) (node (ob 130 P) BT.nil BT.nil) (node (ob 176 P) BT.nil BT.nil))))) (node (x14 P) (node (x22 P) (node (ob 14 P) (node (ob 40 P) (node (ob 93 P) BT.nil BT.nil) (node (ob 139 P) BT.nil BT.nil)) (node (ob 70 P) (node (ob 116 P) BT.nil BT.nil) (node (ob 162 P) BT.nil BT.nil))) (node (ob 24 P) (node (ob 56 P) (node (x150 P) BT.nil BT.nil) (node (x214 P) BT.nil BT.nil)) (node (ob 82 P) (node (x182 P) BT.nil BT.nil) (node (x246 P) BT.nil BT.nil)))) (node (x30 P) (node (ob 19 P) (node (ob 48 P) (node (ob 99 P) BT.nil BT.nil) (node (ob 145 P) BT.nil BT.nil)) (node (ob 76 P) (node (ob 122 P) BT.nil BT.nil) (node (ob 168 P) BT.nil BT.nil))) (node (ob 32 P) (node (ob 64 P) (node (ob 110 P) BT.nil BT.nil) (node (ob 156 P) BT.nil BT.nil)) (node (x126 P) (node (ob 133 P) BT.nil BT.nil) (node (ob 179 P) BT.nil BT.nil))))))))
noncomputable def S2 (w : World) (os : OsState) : SharedT := ⟨T2 w.params, 261, (Life.mk [] [] [] 0 [] [] false ⟨[]⟩ [] 0 false false false 0 [2000, 10, 10] false 0 true [] [] 0 false), ⟨[]⟩, (Drawn.mk 0 0 0 0), 687, os⟩
noncomputable def y3_2 (P : Params) : Obj := (Obj.mk .none none (Data.dict ⟨[]⟩ 0) ⟨[]⟩)
noncomputable def y3_3 (P : Params) : Obj := cutD 53 53 (.str (ofString "js.tokens") 599) (ob 1 P)
noncomputable def y3_12 (P : Params) : Obj := cutF 81 (x12 P)
noncomputable def T3 (P : Params) : BT := (node (boot_o_0 P) (node (boot_o_1 P) (node (y3_3 P) (node (boot_o_7 P) (node (ob 2 P) (node (ob 8 P) (node (ob 33 P) (node (ob 88 P) (node (ob 180 P) BT.nil BT.nil) BT.nil) (node (ob 134 P) (node (x319 P) BT.nil BT.nil) BT.nil)) (node (ob 65 P) (node (ob 111 P) (node (x287 P) BT.nil BT.nil) BT.nil) (node (ob 157 P) BT.nil BT.nil))) (node (x47 P) (node (ob 49 P) (node (x143 P) (node (x271 P) BT.nil BT.nil) BT.nil) (node (x207 P) BT.nil BT.nil)) (node (ob 77 P) (node (x175 P) (node (x303 P) BT.nil BT.nil) BT.nil) (node (x239 P) BT.nil BT.nil)))) (node (x23 P) (node (ob 15 P) (node (ob 41 P) (node (ob 94 P) (node (x263 P) BT.nil BT.nil) BT.nil) (node (x199 P) BT.nil BT.nil)) (node (ob 71 P) (node (ob 117 P) (node (x295 P) BT.nil BT.nil) BT.nil) (node (ob 163 P) BT.nil BT.nil))) (node (ob 25 P) (node (ob 57 P) (node (ob 105 P) (node (x279 P) BT.nil BT.nil) BT.nil) (node (ob 151 P) BT.nil BT.nil)) (node (x119 P) (node (ob 128 P) (node (x311 P) BT.nil BT.nil) BT.nil) (node (ob 174 P) BT.nil BT.nil))))) (node (x11 P) (node (x19 P) (node (ob 11 P) (node (ob 37 P) (node (ob 91 P) (node (ob 183 P) BT.nil BT.nil) BT.nil) (node (ob 137 P) BT.nil BT.nil)) (node (ob 68 P) (node (ob 114 P) (node (x291 P) BT.nil BT.nil) BT.nil) (node (ob 160 P) BT.nil BT.nil))) (node (x51 P) (node (ob 53 P) (node (x147 P) (node (x275 P) BT.nil BT.nil) BT.nil) (node (x211 P) BT.nil BT.nil)) (node (x115 P) (node (ob 125 P) (node (x307 P) BT.nil BT.nil) BT.nil) (node (ob 171 P) BT.nil BT.nil)))) (node (x27 P) (node (ob 17 P) (node (ob 45 P) (node (ob 97 P) (node (x267 P) BT.nil BT.nil) BT.nil) (node (ob 143 P) BT.nil BT.nil)) (node (ob 74 P) (node (x171 P) (node (x299 P) BT.nil BT.nil) BT.nil) (node (x235 P) BT.nil BT.nil))) (node (ob 29 P) (node (ob 61 P) (node (ob 108 P) (node (x283 P) BT.nil BT.nil) BT.nil) (node (ob 154 P) BT.nil BT.nil)) (node (ob 85 P) (node (ob 131 P) (node (x315 P) BT.nil BT.nil) BT.nil) (node (ob 177 P) BT.nil BT.nil)))))) (node (boot_o_5 P) (node (boot_o_9 P) (node (ob 3 P) (node (x33 P) (node (ob 35 P) (node (x129 P) (node (ob 181 P) BT.nil BT.nil) BT.nil) (node (ob 135 P) BT.nil BT.nil)) (node (ob 67 P) (node (x161 P) (node (x289 P) BT.nil BT.nil) BT.nil) (node (x225 P) BT.nil BT.nil))) (node (ob 21 P) (node (ob 51 P) (node (ob 101 P) (node (x273 P) BT.nil BT.nil) BT.nil) (node (ob 147 P) BT.nil BT.nil)) (node (ob 78 P) (node (ob 124 P) (node (x305 P) BT.nil BT.nil) BT.nil) (node (ob 170 P) BT.nil BT.nil)))) (node (x25 P) (node (x41 P) (node (ob 43 P) (node (ob 95 P) (node (x265 P) BT.nil BT.nil) BT.nil) (node (ob 141 P) BT.nil BT.nil)) (node (x105 P) (node (ob 118 P) (node (x297 P) BT.nil BT.nil) BT.nil) (node (ob 164 P) BT.nil BT.nil))) (node (ob 27 P) (node (ob 59 P) (node (ob 107 P) (node (x281 P) BT.nil BT.nil) BT.nil) (node (ob 153 P) BT.nil BT.nil)) (node (ob 84 P) (node (x185 P) (node (x313 P) BT.nil BT.nil) BT.nil) (node (x249 P) BT.nil BT.nil))))) (node (x13 P) (node (ob 6 P) (node (ob 13 P) (node (ob 39 P) (node (x133 P) (node (x261 P) BT.nil BT.nil) BT.nil) (node (ob 138 P) BT.nil BT.nil)) (node (x101 P) (node (ob 115 P) (node (x293 P) BT.nil BT.nil) BT.nil) (node (ob 161 P) BT.nil BT.nil))) (node (ob 23 P) (node (ob 55 P) (node (ob 104 P) (node (x277 P) BT.nil BT.nil) BT.nil) (node (ob 150 P) BT.nil BT.nil)) (node (ob 81 P) (node (ob 127 P) (node (x309 P) BT.nil BT.nil) BT.nil) (node (ob 173 P) BT.nil BT.nil)))) (node (ob 7 P) (node (ob 18 P) (node (ob 47 P) (node (ob 98 P) (node (x269 P) BT.nil BT.nil) BT.nil) (node (ob 144 P) BT.nil BT.nil)) (node (ob 75 P) (node (ob 121 P) (node (x301 P) BT.nil BT.nil) BT.nil) (node (ob 167 P) BT.nil BT.nil))) (node (ob 31 P) (node (ob 63 P) (node (x157 P) (node (x285 P) BT.nil BT.nil) BT.nil) (node (x221 P) BT.nil BT.nil)) (node (ob 87 P) (node (x189 P) (node (x317 P) BT.nil BT.nil) BT.nil) (node (x253 P) BT.nil BT.nil))))))) (node (y3_2 P) (node (boot_o_4 P) (node (boot_o_8 P) (node (x16 P) (node (ob 9 P) (node (ob 34 P) (node (ob 89 P) (node (x256 P) BT.nil BT.nil) BT.nil) (node (x192 P) BT.nil BT.nil)) (node (ob 66 P) (node (ob 112 P) (node (x288 P) BT.nil BT.nil) BT.nil) (node (ob 158 P) BT.nil BT.nil))) (node (ob 20 P) (node (ob 50 P) (node (ob 100 P) (node (x272 P) BT.nil BT.nil) BT.nil) (node (ob 146 P) BT.nil BT.nil)) (node (x112 P) (node (ob 123 P) (node (x304 P) BT.nil BT.nil) BT.nil) (node (ob 169 P) BT.nil BT.nil)))) (node (x24 P) (node (ob 16 P) (node (ob 42 P) (node (x136 P) (node (x264 P) BT.nil BT.nil) BT.nil) (node (ob 140 P) BT.nil BT.nil)) (node (ob 72 P) (node (x168 P) (node (x296 P) BT.nil BT.nil) BT.nil) (node (x232 P) BT.nil BT.nil))) (node (ob 26 P) (node (ob 58 P) (node (ob 106 P) (node (x280 P) BT.nil BT.nil) BT.nil) (node (ob 152 P) BT.nil BT.nil)) (node (ob 83 P) (node (ob 129 P) (node (x312 P) BT.nil BT.nil) BT.nil) (node (ob 175 P) BT.nil BT.nil))))) (node (y3_12 P) (node (ob 5 P) (node (ob 12 P) (node (ob 38 P) (node (ob 92 P) (node (x260 P) BT.nil BT.nil) BT.nil) (node (x196 P) BT.nil BT.nil)) (node (ob 69 P) (node (x164 P) (node (x292 P) BT.nil BT.nil) BT.nil) (node (x228 P) BT.nil BT.nil))) (node (x52 P) (node (ob 54 P) (node (ob 103 P) (node (x276 P) BT.nil BT.nil) BT.nil) (node (ob 149 P) BT.nil BT.nil)) (node (ob 80 P) (node (ob 126 P) (node (x308 P) BT.nil BT.nil) BT.nil) (node (ob 172 P) BT.nil BT.nil)))) (node (x28 P) (node (x44 P) (node (ob 46 P) (node (x140 P) (node (x268 P) BT.nil BT.nil) BT.nil) (node (x204 P) BT.nil BT.nil)) (node (x108 P) (node (ob 120 P) (node (x300 P) BT.nil BT.nil) BT.nil) (node (ob 166 P) BT.nil BT.nil))) (node (ob 30 P) (node (ob 62 P) (node (ob 109 P) (node (x284 P) BT.nil BT.nil) BT.nil) (node (ob 155 P) BT.nil BT.nil)) (node (ob 86 P) (node (ob 132 P) (node (x316 P) BT.nil BT.nil) BT.nil) (node (ob 178 P) BT.nil BT.nil)))))) (node (boot_o_6 P) (node (boot_o_10 P) (node (ob 4 P) (node (ob 10 P) (node (ob 36 P) (node (ob 90 P) (node (ob 182 P) BT.nil BT.nil) BT.nil) (node (ob 136 P) BT.nil BT.nil)) (node (x98 P) (node (ob 113 P) (node (x290 P) BT.nil BT.nil) BT.nil) (node (ob 159 P) BT.nil BT.nil))) (node (ob 22 P) (node (ob 52 P) (node (ob 102 P) (node (x274 P) BT.nil BT.nil) BT.nil) (node (ob 148 P) BT.nil BT.nil)) (node (ob 79 P) (node (x178 P) (node (x306 P) BT.nil BT.nil) BT.nil) (node (x242 P) BT.nil BT.nil)))) (node (x26 P) (node (x42 P) (node (ob 44 P) (node (ob 96 P) (node (x266 P) BT.nil BT.nil) BT.nil) (node (ob 142 P) BT.nil BT.nil)) (node (ob 73 P) (node (ob 119 P) (node (x298 P) BT.nil BT.nil) BT.nil) (node (ob 165 P) BT.nil BT.nil))) (node (ob 28 P) (node (ob 60 P) (node (x154 P) (node (x282 P) BT.nil BT.nil) BT.nil) (node (x218 P) BT.nil BT.nil)) (node (x122 P) (node (ob 130 P) (node (ob 184 P) BT.nil BT.nil) BT.nil) (node (ob 176 P) BT.nil BT.nil))))) (node (x14 P) (node (x22 P) (node (ob 14 P) (node (ob 40 P) (node (ob 93 P) (node (x262 P) BT.nil BT.nil) BT.nil) (node (ob 139 P) BT.nil BT.nil)) (node (ob 70 P) (node (ob 116 P) (node (x294 P) BT.nil BT.nil) BT.nil) (node (ob 162 P) BT.nil BT.nil))) (node (ob 24 P) (node (ob 56 P) (node (x150 P) (node (x278 P) BT.nil BT.nil) BT.nil) (node (x214 P) BT.nil BT.nil)) (node (ob 82 P) (node (x182 P) (node (x310 P) BT.nil BT.nil) BT.nil) (node (x246 P) BT.nil BT.nil)))) (node (x30 P) (node (ob 19 P) (node (ob 48 P) (node (ob 99 P) (node (x270 P) BT.nil BT.nil) BT.nil) (node (ob 145 P) BT.nil BT.nil)) (node (ob 76 P) (node (ob 122 P) (node (x302 P) BT.nil BT.nil) BT.nil) (node (ob 168 P) BT.nil BT.nil))) (node (ob 32 P) (node (ob 64 P) (node (ob 110 P) (node (x286 P) BT.nil BT.nil) BT.nil) (node (ob 156 P) BT.nil BT.nil)) (node (x126 P) (node (ob 133 P) (node (x318 P) BT.nil BT.nil) BT.nil) (node (ob 179 P) BT.nil BT.nil))))))))
noncomputable def S3 (w : World) (os : OsState) : SharedT := ⟨T3 w.params, 320, (Life.mk [] [] [] 0 [] [] false ⟨[]⟩ [] 0 false false false 0 [2000, 10, 10] false 0 true [] [] 0 false), ⟨[]⟩, (Drawn.mk 0 0 0 0), 787, os⟩
noncomputable def y4_3 (P : Params) : Obj := cutD 57 57 (.str (ofString "js.lexer") 878) (ob 1 P)
noncomputable def y4_12 (P : Params) : Obj := cutF 93 (x12 P)
noncomputable def T4 (P : Params) : BT := (node (boot_o_0 P) (node (boot_o_1 P) (node (y4_3 P) (node (boot_o_7 P) (node (ob 2 P) (node (ob 8 P) (node (ob 33 P) (node (ob 88 P) (node (ob 180 P) BT.nil BT.nil) BT.nil) (node (ob 134 P) (node (x319 P) BT.nil BT.nil) BT.nil)) (node (ob 65 P) (node (ob 111 P) (node (x287 P) BT.nil BT.nil) BT.nil) (node (ob 157 P) (node (ob 202 P) BT.nil BT.nil) BT.nil))) (node (x47 P) (node (ob 49 P) (node (x143 P) (node (x271 P) BT.nil BT.nil) BT.nil) (node (x207 P) (node (ob 191 P) BT.nil BT.nil) BT.nil)) (node (ob 77 P) (node (x175 P) (node (x303 P) BT.nil BT.nil) BT.nil) (node (x239 P) (node (ob 209 P) BT.nil BT.nil) BT.nil)))) (node (x23 P) (node (ob 15 P) (node (ob 41 P) (node (ob 94 P) (node (x263 P) BT.nil BT.nil) BT.nil) (node (x199 P) (node (ob 185 P) BT.nil BT.nil) BT.nil)) (node (ob 71 P) (node (ob 117 P) (node (x295 P) BT.nil BT.nil) BT.nil) (node (ob 163 P) (node (x359 P) BT.nil BT.nil) BT.nil))) (node (ob 25 P) (node (ob 57 P) (node (ob 105 P) (node (x279 P) BT.nil BT.nil) BT.nil) (node (ob 151 P) (node (ob 196 P) BT.nil BT.nil) BT.nil)) (node (x119 P) (node (ob 128 P) (node (x311 P) BT.nil BT.nil) BT.nil) (node (ob 174 P) BT.nil BT.nil))))) (node (x11 P) (node (x19 P) (node (ob 11 P) (node (ob 37 P) (node (ob 91 P) (node (ob 183 P) BT.nil BT.nil) BT.nil) (node (ob 137 P) (node (x323 P) BT.nil BT.nil) BT.nil)) (node (ob 68 P) (node (ob 114 P) (node (x291 P) BT.nil BT.nil) BT.nil) (node (ob 160 P) (node (ob 205 P) BT.nil BT.nil) BT.nil))) (node (x51 P) (node (ob 53 P) (node (x147 P) (node (x275 P) BT.nil BT.nil) BT.nil) (node (x211 P) (node (x339 P) BT.nil BT.nil) BT.nil)) (node (x115 P) (node (ob 125 P) (node (x307 P) BT.nil BT.nil) BT.nil) (node (ob 171 P) (node (ob 213 P) BT.nil BT.nil) BT.nil)))) (node (x27 P) (node (ob 17 P) (node (ob 45 P) (node (ob 97 P) (node (x267 P) BT.nil BT.nil) BT.nil) (node (ob 143 P) (node (x331 P) BT.nil BT.nil) BT.nil)) (node (ob 74 P) (node (x171 P) (node (x299 P) BT.nil BT.nil) BT.nil) (node (x235 P) (node (x363 P) BT.nil BT.nil) BT.nil))) (node (ob 29 P) (node (ob 61 P) (node (ob 108 P) (node (x283 P) BT.nil BT.nil) BT.nil) (node (ob 154 P) (node (ob 199 P) BT.nil BT.nil) BT.nil)) (node (ob 85 P) (node (ob 131 P) (node (x315 P) BT.nil BT.nil) BT.nil) (node (ob 177 P) BT.nil BT.nil)))))) (node (boot_o_5 P) (node (boot_o_9 P) (node (ob 3 P) (node (x33 P) (node (ob 35 P) (node (x129 P) (node (ob 181 P) BT.nil BT.nil) BT.nil) (node (ob 135 P) (node (x321 P) BT.nil BT.nil) BT.nil)) (node (ob 67 P) (node (x161 P) (node (x289 P) BT.nil BT.nil) BT.nil) (node (x225 P) (node (ob 203 P) BT.nil BT.nil) BT.nil))) (node (ob 21 P) (node (ob 51 P) (node (ob 101 P) (node (x273 P) BT.nil BT.nil) BT.nil) (node (ob 147 P) (node (ob 193 P) BT.nil BT.nil) BT.nil)) (node (ob 78 P) (node (ob 124 P) (node (x305 P) BT.nil BT.nil) BT.nil) (node (ob 170 P) (node (ob 211 P) BT.nil BT.nil) BT.nil)))) (node (x25 P) (node (x41 P) (node (ob 43 P) (node (ob 95 P) (node (x265 P) BT.nil BT.nil) BT.nil) (node (ob 141 P) (node (ob 186 P) BT.nil BT.nil) BT.nil)) (node (x105 P) (node (ob 118 P) (node (x297 P) BT.nil BT.nil) BT.nil) (node (ob 164 P) (node (x361 P) BT.nil BT.nil) BT.nil))) (node (ob 27 P) (node (ob 59 P) (node (ob 107 P) (node (x281 P) BT.nil BT.nil) BT.nil) (node (ob 153 P) (node (x345 P) BT.nil BT.nil) BT.nil)) (node (ob 84 P) (node (x185 P) (node (x313 P) BT.nil BT.nil) BT.nil) (node (x249 P) BT.nil BT.nil))))) (node (x13 P) (node (ob 6 P) (node (ob 13 P) (node (ob 39 P) (node (x133 P) (node (x261 P) BT.nil BT.nil) BT.nil) (node (ob 138 P) (node (x325 P) BT.nil BT.nil) BT.nil)) (node (x101 P) (node (ob 115 P) (node (x293 P) BT.nil BT.nil) BT.nil) (node (ob 161 P) (node (x357 P) BT.nil BT.nil) BT.nil))) (node (ob 23 P) (node (ob 55 P) (node (ob 104 P) (node (x277 P) BT.nil BT.nil) BT.nil) (node (ob 150 P) (node (ob 195 P) BT.nil BT.nil) BT.nil)) (node (ob 81 P) (node (ob 127 P) (node (x309 P) BT.nil BT.nil) BT.nil) (node (ob 173 P) (node (x373 P) BT.nil BT.nil) BT.nil)))) (node (ob 7 P) (node (ob 18 P) (node (ob 47 P) (node (ob 98 P) (node (x269 P) BT.nil BT.nil) BT.nil) (node (ob 144 P) (node (ob 189 P) BT.nil BT.nil) BT.nil)) (node (ob 75 P) (node (ob 121 P) (node (x301 P) BT.nil BT.nil) BT.nil) (node (ob 167 P) (node (ob 208 P) BT.nil BT.nil) BT.nil))) (node (ob 31 P) (node (ob 63 P) (node (x157 P) (node (x285 P) BT.nil BT.nil) BT.nil) (node (x221 P) (node (x349 P) BT.nil BT.nil) BT.nil)) (node (ob 87 P) (node (x189 P) (node (x317 P) BT.nil BT.nil) BT.nil) (node (x253 P) BT.nil BT.nil))))))) (node (ob 0 P) (node (boot_o_4 P) (node (boot_o_8 P) (node (x16 P) (node (ob 9 P) (node (ob 34 P) (node (ob 89 P) (node (x256 P) BT.nil BT.nil) BT.nil) (node (x192 P) (node (x320 P) BT.nil BT.nil) BT.nil)) (node (ob 66 P) (node (ob 112 P) (node (x288 P) BT.nil BT.nil) BT.nil) (node (ob 158 P) (node (x352 P) BT.nil BT.nil) BT.nil))) (node (ob 20 P) (node (ob 50 P) (node (ob 100 P) (node (x272 P) BT.nil BT.nil) BT.nil) (node (ob 146 P) (node (ob 192 P) BT.nil BT.nil) BT.nil)) (node (x112 P) (node (ob 123 P) (node (x304 P) BT.nil BT.nil) BT.nil) (node (ob 169 P) (node (ob 210 P) BT.nil BT.nil) BT.nil)))) (node (x24 P) (node (ob 16 P) (node (ob 42 P) (node (x136 P) (node (x264 P) BT.nil BT.nil) BT.nil) (node (ob 140 P) (node (x328 P) BT.nil BT.nil) BT.nil)) (node (ob 72 P) (node (x168 P) (node (x296 P) BT.nil BT.nil) BT.nil) (node (x232 P) (node (x360 P) BT.nil BT.nil) BT.nil))) (node (ob 26 P) (node (ob 58 P) (node (ob 106 P) (node (x280 P) BT.nil BT.nil) BT.nil) (node (ob 152 P) (node (ob 197 P) BT.nil BT.nil) BT.nil)) (node (ob 83 P) (node (ob 129 P) (node (x312 P) BT.nil BT.nil) BT.nil) (node (ob 175 P) BT.nil BT.nil))))) (node (y4_12 P) (node (ob 5 P) (node (ob 12 P) (node (ob 38 P) (node (ob 92 P) (node (x260 P) BT.nil BT.nil) BT.nil) (node (x196 P) (node (x324 P) BT.nil BT.nil) BT.nil)) (node (ob 69 P) (node (x164 P) (node (x292 P) BT.nil BT.nil) BT.nil) (node (x228 P) (node (x356 P) BT.nil BT.nil) BT.nil))) (node (x52 P) (node (ob 54 P) (node (ob 103 P) (node (x276 P) BT.nil BT.nil) BT.nil) (node (ob 149 P) (node (x340 P) BT.nil BT.nil) BT.nil)) (node (ob 80 P) (node (ob 126 P) (node (x308 P) BT.nil BT.nil) BT.nil) (node (ob 172 P) (node (ob 214 P) BT.nil BT.nil) BT.nil)))) (node (x28 P) (node (x44 P) (node (ob 46 P) (node (x140 P) (node (x268 P) BT.nil BT.nil) BT.nil) (node (x204 P) (node (ob 188 P) BT.nil BT.nil) BT.nil)) (node (x108 P) (node (ob 120 P) (node (x300 P) BT.nil BT.nil) BT.nil) (node (ob 166 P) (node (ob 207 P) BT.nil BT.nil) BT.nil))) (node (ob 30 P) (node (ob 62 P) (node (ob 109 P) (node (x284 P) BT.nil BT.nil) BT.nil) (node (ob 155 P) (node (ob 200 P) BT.nil BT.nil) BT.nil)) (node (ob 86 P) (node (ob 132 P) (node (x316 P) BT.nil BT.nil) BT.nil) (node (ob 178 P) BT.nil BT.nil)))))) (node (boot_o_6 P) (node (boot_o_10 P) (node (ob 4 P) (node (ob 10 P) (node (ob 36 P) (node (ob 90 P) (node (ob 182 P) BT.nil BT.nil) BT.nil) (node (ob 136 P) (node (x322 P) BT.nil BT.nil) BT.nil)) (node (x98 P) (node (ob 113 P) (node (x290 P) BT.nil BT.nil) BT.nil) (node (ob 159 P) (node (ob 204 P) BT.nil BT.nil) BT.nil))) (node (ob 22 P) (node (ob 52 P) (node (ob 102 P) (node (x274 P) BT.nil BT.nil) BT.nil) (node (ob 148 P) (node (ob 194 P) BT.nil BT.nil) BT.nil)) (node (ob 79 P) (node (x178 P) (node (x306 P) BT.nil BT.nil) BT.nil) (node (x242 P) (node (ob 212 P) BT.nil BT.nil) BT.nil)))) (node (x26 P) (node (x42 P) (node (ob 44 P) (node (ob 96 P) (node (x266 P) BT.nil BT.nil) BT.nil) (node (ob 142 P) (node (ob 187 P) BT.nil BT.nil) BT.nil)) (node (ob 73 P) (node (ob 119 P) (node (x298 P) BT.nil BT.nil) BT.nil) (node (ob 165 P) (node (ob 206 P) BT.nil BT.nil) BT.nil))) (node (ob 28 P) (node (ob 60 P) (node (x154 P) (node (x282 P) BT.nil BT.nil) BT.nil) (node (x218 P) (node (ob 198 P) BT.nil BT.nil) BT.nil)) (node (x122 P) (node (ob 130 P) (node (ob 184 P) BT.nil BT.nil) BT.nil) (node (ob 176 P) BT.nil BT.nil))))) (node (x14 P) (node (x22 P) (node (ob 14 P) (node (ob 40 P) (node (ob 93 P) (node (x262 P) BT.nil BT.nil) BT.nil) (node (ob 139 P) (node (x326 P) BT.nil BT.nil) BT.nil)) (node (ob 70 P) (node (ob 116 P) (node (x294 P) BT.nil BT.nil) BT.nil) (node (ob 162 P) (node (x358 P) BT.nil BT.nil) BT.nil))) (node (ob 24 P) (node (ob 56 P) (node (x150 P) (node (x278 P) BT.nil BT.nil) BT.nil) (node (x214 P) (node (x342 P) BT.nil BT.nil) BT.nil)) (node (ob 82 P) (node (x182 P) (node (x310 P) BT.nil BT.nil) BT.nil) (node (x246 P) (node (x374 P) BT.nil BT.nil) BT.nil)))) (node (x30 P) (node (ob 19 P) (node (ob 48 P) (node (ob 99 P) (node (x270 P) BT.nil BT.nil) BT.nil) (node (ob 145 P) (node (ob 190 P) BT.nil BT.nil) BT.nil)) (node (ob 76 P) (node (ob 122 P) (node (x302 P) BT.nil BT.nil) BT.nil) (node (ob 168 P) (node (x366 P) BT.nil BT.nil) BT.nil))) (node (ob 32 P) (node (ob 64 P) (node (ob 110 P) (node (x286 P) BT.nil BT.nil) BT.nil) (node (ob 156 P) (node (ob 201 P) BT.nil BT.nil) BT.nil)) (node (x126 P) (node (ob 133 P) (node (x318 P) BT.nil BT.nil) BT.nil) (node (ob 179 P) BT.nil BT.nil))))))))
noncomputable def S4 (w : World) (os : OsState) : SharedT := ⟨T4 w.params, 375, (Life.mk [] [] [] 0 [] [] false ⟨[]⟩ [] 0 false false false 0 [2000, 10, 10] false 0 true [] [] 0 false), ⟨[]⟩, (Drawn.mk 0 0 0 0), 880, os⟩
noncomputable def y5_3 (P : Params) : Obj := cutD 66 66 (.str (ofString "js.strictness") 1081) (ob 1 P)
noncomputable def y5_12 (P : Params) : Obj := cutF 111 (x12 P)
noncomputable def T5 (P : Params) : BT := (node (boot_o_0 P) (node (boot_o_1 P) (node (y5_3 P) (node (boot_o_7 P) (node (ob 2 P) (node (ob 8 P) (node (ob 33 P) (node (ob 88 P) (node (ob 180 P) (node (ob 307 P) BT.nil BT.nil) BT.nil) (node (x383 P) BT.nil BT.nil)) (node (ob 134 P) (node (x319 P) BT.nil BT.nil) (node (ob 261 P) BT.nil BT.nil))) (node (ob 65 P) (node (ob 111 P) (node (x287 P) (node (x543 P) BT.nil BT.nil) BT.nil) (node (ob 238 P) BT.nil BT.nil)) (node (ob 157 P) (node (ob 202 P) BT.nil BT.nil) (node (ob 284 P) BT.nil BT.nil)))) (node (x47 P) (node (ob 49 P) (node (x143 P) (node (x271 P) (node (ob 319 P) BT.nil BT.nil) BT.nil) (node (ob 227 P) BT.nil BT.nil)) (node (x207 P) (node (ob 191 P) BT.nil BT.nil) (node (x463 P) BT.nil BT.nil))) (node (ob 77 P) (node (x175 P) (node (x303 P) (node (ob 342 P) BT.nil BT.nil) BT.nil) (node (ob 250 P) BT.nil BT.nil)) (node (x239 P) (node (ob 209 P) BT.nil BT.nil) (node (x495 P) BT.nil BT.nil))))) (node (x23 P) (node (ob 15 P) (node (ob 41 P) (node (ob 94 P) (node (x263 P) (node (ob 314 P) BT.nil BT.nil) BT.nil) (node (ob 221 P) BT.nil BT.nil)) (node (x199 P) (node (ob 185 P) BT.nil BT.nil) (node (ob 267 P) BT.nil BT.nil))) (node (ob 71 P) (node (ob 117 P) (node (x295 P) (node (ob 336 P) BT.nil BT.nil) BT.nil) (node (ob 244 P) BT.nil BT.nil)) (node (ob 163 P) (node (x359 P) BT.nil BT.nil) (node (ob 290 P) BT.nil BT.nil)))) (node (ob 25 P) (node (ob 57 P) (node (ob 105 P) (node (x279 P) (node (ob 325 P) BT.nil BT.nil) BT.nil) (node (x407 P) BT.nil BT.nil)) (node (ob 151 P) (node (ob 196 P) BT.nil BT.nil) (node (ob 278 P) BT.nil BT.nil))) (node (x119 P) (node (ob 128 P) (node (x311 P) BT.nil BT.nil) (node (x439 P) BT.nil BT.nil)) (node (ob 174 P) (node (x375 P) BT.nil BT.nil) (node (ob 301 P) BT.nil BT.nil)))))) (node (x11 P) (node (x19 P) (node (ob 11 P) (node (ob 37 P) (node (ob 91 P) (node (ob 183 P) (node (ob 310 P) BT.nil BT.nil) BT.nil) (node (ob 218 P) BT.nil BT.nil)) (node (ob 137 P) (node (x323 P) BT.nil BT.nil) (node (ob 264 P) BT.nil BT.nil))) (node (ob 68 P) (node (ob 114 P) (node (x291 P) (node (x547 P) BT.nil BT.nil) BT.nil) (node (ob 241 P) BT.nil BT.nil)) (node (ob 160 P) (node (ob 205 P) BT.nil BT.nil) (node (ob 287 P) BT.nil BT.nil)))) (node (x51 P) (node (ob 53 P) (node (x147 P) (node (x275 P) (node (ob 322 P) BT.nil BT.nil) BT.nil) (node (ob 230 P) BT.nil BT.nil)) (node (x211 P) (node (x339 P) BT.nil BT.nil) (node (x467 P) BT.nil BT.nil))) (node (x115 P) (node (ob 125 P) (node (x307 P) BT.nil BT.nil) (node (x435 P) BT.nil BT.nil)) (node (ob 171 P) (node (ob 213 P) BT.nil BT.nil) (node (ob 298 P) BT.nil BT.nil))))) (node (x27 P) (node (ob 17 P) (node (ob 45 P) (node (ob 97 P) (node (x267 P) (node (ob 316 P) BT.nil BT.nil) BT.nil) (node (ob 224 P) BT.nil BT.nil)) (node (ob 143 P) (node (x331 P) BT.nil BT.nil) (node (ob 270 P) BT.nil BT.nil))) (node (ob 74 P) (node (x171 P) (node (x299 P) (node (ob 339 P) BT.nil BT.nil) BT.nil) (node (ob 247 P) BT.nil BT.nil)) (node (x235 P) (node (x363 P) BT.nil BT.nil) (node (x491 P) BT.nil BT.nil)))) (node (ob 29 P) (node (ob 61 P) (node (ob 108 P) (node (x283 P) (node (ob 328 P) BT.nil BT.nil) BT.nil) (node (x411 P) BT.nil BT.nil)) (node (ob 154 P) (node (ob 199 P) BT.nil BT.nil) (node (ob 281 P) BT.nil BT.nil))) (node (ob 85 P) (node (ob 131 P) (node (x315 P) BT.nil BT.nil) (node (ob 258 P) BT.nil BT.nil)) (node (ob 177 P) (node (x379 P) BT.nil BT.nil) (node (ob 304 P) BT.nil BT.nil))))))) (node (boot_o_5 P) (node (boot_o_9 P) (node (ob 3 P) (node (x33 P) (node (ob 35 P) (node (x129 P) (node (ob 181 P) (node (ob 308 P) BT.nil BT.nil) BT.nil) (node (ob 217 P) BT.nil BT.nil)) (node (ob 135 P) (node (x321 P) BT.nil BT.nil) (node (x449 P) BT.nil BT.nil))) (node (ob 67 P) (node (x161 P) (node (x289 P) (node (ob 332 P) BT.nil BT.nil) BT.nil) (node (ob 240 P) BT.nil BT.nil)) (node (x225 P) (node (ob 203 P) BT.nil BT.nil) (node (x481 P) BT.nil BT.nil)))) (node (ob 21 P) (node (ob 51 P) (node (ob 101 P) (node (x273 P) (node (x529 P) BT.nil BT.nil) BT.nil) (node (ob 228 P) BT.nil BT.nil)) (node (ob 147 P) (node (ob 193 P) BT.nil BT.nil) (node (ob 274 P) BT.nil BT.nil))) (node (ob 78 P) (node (ob 124 P) (node (x305 P) BT.nil BT.nil) (node (ob 251 P) BT.nil BT.nil)) (node (ob 170 P) (node (ob 211 P) BT.nil BT.nil) (node (ob 297 P) BT.nil BT.nil))))) (node (x25 P) (node (x41 P) (node (ob 43 P) (node (ob 95 P) (node (x265 P) (node (x521 P) BT.nil BT.nil) BT.nil) (node (x393 P) BT.nil BT.nil)) (node (ob 141 P) (node (ob 186 P) BT.nil BT.nil) (node (ob 268 P) BT.nil BT.nil))) (node (x105 P) (node (ob 118 P) (node (x297 P) (node (ob 338 P) BT.nil BT.nil) BT.nil) (node (x425 P) BT.nil BT.nil)) (node (ob 164 P) (node (x361 P) BT.nil BT.nil) (node (ob 291 P) BT.nil BT.nil)))) (node (ob 27 P) (node (ob 59 P) (node (ob 107 P) (node (x281 P) (node (ob 326 P) BT.nil BT.nil) BT.nil) (node (ob 234 P) BT.nil BT.nil)) (node (ob 153 P) (node (x345 P) BT.nil BT.nil) (node (ob 280 P) BT.nil BT.nil))) (node (ob 84 P) (node (x185 P) (node (x313 P) BT.nil BT.nil) (node (ob 257 P) BT.nil BT.nil)) (node (x249 P) (node (x377 P) BT.nil BT.nil) (node (x505 P) BT.nil BT.nil)))))) (node (x13 P) (node (ob 6 P) (node (ob 13 P) (node (ob 39 P) (node (x133 P) (node (x261 P) (node (ob 312 P) BT.nil BT.nil) BT.nil) (node (ob 220 P) BT.nil BT.nil)) (node (ob 138 P) (node (x325 P) BT.nil BT.nil) (node (x453 P) BT.nil BT.nil))) (node (x101 P) (node (ob 115 P) (node (x293 P) (node (ob 335 P) BT.nil BT.nil) BT.nil) (node (x421 P) BT.nil BT.nil)) (node (ob 161 P) (node (x357 P) BT.nil BT.nil) (node (ob 288 P) BT.nil BT.nil)))) (node (ob 23 P) (node (ob 55 P) (node (ob 104 P) (node (x277 P) (node (x533 P) BT.nil BT.nil) BT.nil) (node (ob 231 P) BT.nil BT.nil)) (node (ob 150 P) (node (ob 195 P) BT.nil BT.nil) (node (ob 277 P) BT.nil BT.nil))) (node (ob 81 P) (node (ob 127 P) (node (x309 P) BT.nil BT.nil) (node (ob 254 P) BT.nil BT.nil)) (node (ob 173 P) (node (x373 P) BT.nil BT.nil) (node (ob 300 P) BT.nil BT.nil))))) (node (ob 7 P) (node (ob 18 P) (node (ob 47 P) (node (ob 98 P) (node (x269 P) (node (ob 318 P) BT.nil BT.nil) BT.nil) (node (x397 P) BT.nil BT.nil)) (node (ob 144 P) (node (ob 189 P) BT.nil BT.nil) (node (ob 271 P) BT.nil BT.nil))) (node (ob 75 P) (node (ob 121 P) (node (x301 P) (node (x557 P) BT.nil BT.nil) BT.nil) (node (ob 248 P) BT.nil BT.nil)) (node (ob 167 P) (node (ob 208 P) BT.nil BT.nil) (node (ob 294 P) BT.nil BT.nil)))) (node (ob 31 P) (node (ob 63 P) (node (x157 P) (node (x285 P) (node (ob 329 P) BT.nil BT.nil) BT.nil) (node (ob 237 P) BT.nil BT.nil)) (node (x221 P) (node (x349 P) BT.nil BT.nil) (node (x477 P) BT.nil BT.nil))) (node (ob 87 P) (node (x189 P) (node (x317 P) BT.nil BT.nil) (node (ob 260 P) BT.nil BT.nil)) (node (x253 P) (node (x381 P) BT.nil BT.nil) (node (x509 P) BT.nil BT.nil)))))))) (node (ob 0 P) (node (boot_o_4 P) (node (boot_o_8 P) (node (x16 P) (node (ob 9 P) (node (ob 34 P) (node (ob 89 P) (node (x256 P) (node (x512 P) BT.nil BT.nil) BT.nil) (node (ob 216 P) BT.nil BT.nil)) (node (x192 P) (node (x320 P) BT.nil BT.nil) (node (ob 262 P) BT.nil BT.nil))) (node (ob 66 P) (node (ob 112 P) (node (x288 P) (node (ob 331 P) BT.nil BT.nil) BT.nil) (node (ob 239 P) BT.nil BT.nil)) (node (ob 158 P) (node (x352 P) BT.nil BT.nil) (node (ob 285 P) BT.nil BT.nil)))) (node (ob 20 P) (node (ob 50 P) (node (ob 100 P) (node (x272 P) (node (ob 320 P) BT.nil BT.nil) BT.nil) (node (x400 P) BT.nil BT.nil)) (node (ob 146 P) (node (ob 192 P) BT.nil BT.nil) (node (ob 273 P) BT.nil BT.nil))) (node (x112 P) (node (ob 123 P) (node (x304 P) BT.nil BT.nil) (node (x432 P) BT.nil BT.nil)) (node (ob 169 P) (node (ob 210 P) BT.nil BT.nil) (node (ob 296 P) BT.nil BT.nil))))) (node (x24 P) (node (ob 16 P) (node (ob 42 P) (node (x136 P) (node (x264 P) (node (x520 P) BT.nil BT.nil) BT.nil) (node (ob 222 P) BT.nil BT.nil)) (node (ob 140 P) (node (x328 P) BT.nil BT.nil) (node (x456 P) BT.nil BT.nil))) (node (ob 72 P) (node (x168 P) (node (x296 P) (node (ob 337 P) BT.nil BT.nil) BT.nil) (node (ob 245 P) BT.nil BT.nil)) (node (x232 P) (node (x360 P) BT.nil BT.nil) (node (x488 P) BT.nil BT.nil)))) (node (ob 26 P) (node (ob 58 P) (node (ob 106 P) (node (x280 P) (node (x536 P) BT.nil BT.nil) BT.nil) (node (ob 233 P) BT.nil BT.nil)) (node (ob 152 P) (node (ob 197 P) BT.nil BT.nil) (node (ob 279 P) BT.nil BT.nil))) (node (ob 83 P) (node (ob 129 P) (node (x312 P) BT.nil BT.nil) (node (ob 256 P) BT.nil BT.nil)) (node (ob 175 P) (node (x376 P) BT.nil BT.nil) (node (ob 302 P) BT.nil BT.nil)))))) (node (y5_12 P) (node (ob 5 P) (node (ob 12 P) (node (ob 38 P) (node (ob 92 P) (node (x260 P) (node (ob 311 P) BT.nil BT.nil) BT.nil) (node (ob 219 P) BT.nil BT.nil)) (node (x196 P) (node (x324 P) BT.nil BT.nil) (node (ob 265 P) BT.nil BT.nil))) (node (ob 69 P) (node (x164 P) (node (x292 P) (node (ob 334 P) BT.nil BT.nil) BT.nil) (node (ob 242 P) BT.nil BT.nil)) (node (x228 P) (node (x356 P) BT.nil BT.nil) (node (x484 P) BT.nil BT.nil)))) (node (x52 P) (node (ob 54 P) (node (ob 103 P) (node (x276 P) (node (ob 323 P) BT.nil BT.nil) BT.nil) (node (x404 P) BT.nil BT.nil)) (node (ob 149 P) (node (x340 P) BT.nil BT.nil) (node (ob 276 P) BT.nil BT.nil))) (node (ob 80 P) (node (ob 126 P) (node (x308 P) BT.nil BT.nil) (node (ob 253 P) BT.nil BT.nil)) (node (ob 172 P) (node (ob 214 P) BT.nil BT.nil) (node (ob 299 P) BT.nil BT.nil))))) (node (x28 P) (node (x44 P) (node (ob 46 P) (node (x140 P) (node (x268 P) (node (ob 317 P) BT.nil BT.nil) BT.nil) (node (ob 225 P) BT.nil BT.nil)) (node (x204 P) (node (ob 188 P) BT.nil BT.nil) (node (x460 P) BT.nil BT.nil))) (node (x108 P) (node (ob 120 P) (node (x300 P) (node (ob 340 P) BT.nil BT.nil) BT.nil) (node (x428 P) BT.nil BT.nil)) (node (ob 166 P) (node (ob 207 P) BT.nil BT.nil) (node (ob 293 P) BT.nil BT.nil)))) (node (ob 30 P) (node (ob 62 P) (node (ob 109 P) (node (x284 P) (node (x540 P) BT.nil BT.nil) BT.nil) (node (ob 236 P) BT.nil BT.nil)) (node (ob 155 P) (node (ob 200 P) BT.nil BT.nil) (node (ob 282 P) BT.nil BT.nil))) (node (ob 86 P) (node (ob 132 P) (node (x316 P) BT.nil BT.nil) (node (ob 259 P) BT.nil BT.nil)) (node (ob 178 P) (node (x380 P) BT.nil BT.nil) (node (ob 305 P) BT.nil BT.nil))))))) (node (boot_o_6 P) (node (boot_o_10 P) (node (ob 4 P) (node (ob 10 P) (node (ob 36 P) (node (ob 90 P) (node (ob 182 P) (node (ob 309 P) BT.nil BT.nil) BT.nil) (node (x386 P) BT.nil BT.nil)) (node (ob 136 P) (node (x322 P) BT.nil BT.nil) (node (ob 263 P) BT.nil BT.nil))) (node (x98 P) (node (ob 113 P) (node (x290 P) (node (ob 333 P) BT.nil BT.nil) BT.nil) (node (x418 P) BT.nil BT.nil)) (node (ob 159 P) (node (ob 204 P) BT.nil BT.nil) (node (ob 286 P) BT.nil BT.nil)))) (node (ob 22 P) (node (ob 52 P) (node (ob 102 P) (node (x274 P) (node (ob 321 P) BT.nil BT.nil) BT.nil) (node (ob 229 P) BT.nil BT.nil)) (node (ob 148 P) (node (ob 194 P) BT.nil BT.nil) (node (ob 275 P) BT.nil BT.nil))) (node (ob 79 P) (node (x178 P) (node (x306 P) BT.nil BT.nil) (node (ob 252 P) BT.nil BT.nil)) (node (x242 P) (node (ob 212 P) BT.nil BT.nil) (node (x498 P) BT.nil BT.nil))))) (node (x26 P) (node (x42 P) (node (ob 44 P) (node (ob 96 P) (node (x266 P) (node (ob 315 P) BT.nil BT.nil) BT.nil) (node (ob 223 P) BT.nil BT.nil)) (node (ob 142 P) (node (ob 187 P) BT.nil BT.nil) (node (ob 269 P) BT.nil BT.nil))) (node (ob 73 P) (node (ob 119 P) (node (x298 P) (node (x554 P) BT.nil BT.nil) BT.nil) (node (ob 246 P) BT.nil BT.nil)) (node (ob 165 P) (node (ob 206 P) BT.nil BT.nil) (node (ob 292 P) BT.nil BT.nil)))) (node (ob 28 P) (node (ob 60 P) (node (x154 P) (node (x282 P) (node (ob 327 P) BT.nil BT.nil) BT.nil) (node (ob 235 P) BT.nil BT.nil)) (node (x218 P) (node (ob 198 P) BT.nil BT.nil) (node (x474 P) BT.nil BT.nil))) (node (x122 P) (node (ob 130 P) (node (ob 184 P) BT.nil BT.nil) (node (x442 P) BT.nil BT.nil)) (node (ob 176 P) (node (x378 P) BT.nil BT.nil) (node (ob 303 P) BT.nil BT.nil)))))) (node (x14 P) (node (x22 P) (node (ob 14 P) (node (ob 40 P) (node (ob 93 P) (node (x262 P) (node (ob 313 P) BT.nil BT.nil) BT.nil) (node (x390 P) BT.nil BT.nil)) (node (ob 139 P) (node (x326 P) BT.nil BT.nil) (node (ob 266 P) BT.nil BT.nil))) (node (ob 70 P) (node (ob 116 P) (node (x294 P) (node (x550 P) BT.nil BT.nil) BT.nil) (node (ob 243 P) BT.nil BT.nil)) (node (ob 162 P) (node (x358 P) BT.nil BT.nil) (node (ob 289 P) BT.nil BT.nil)))) (node (ob 24 P) (node (ob 56 P) (node (x150 P) (node (x278 P) (node (ob 324 P) BT.nil BT.nil) BT.nil) (node (ob 232 P) BT.nil BT.nil)) (node (x214 P) (node (x342 P) BT.nil BT.nil) (node (x470 P) BT.nil BT.nil))) (node (ob 82 P) (node (x182 P) (node (x310 P) BT.nil BT.nil) (node (ob 255 P) BT.nil BT.nil)) (node (x246 P) (node (x374 P) BT.nil BT.nil) (node (x502 P) BT.nil BT.nil))))) (node (x30 P) (node (ob 19 P) (node (ob 48 P) (node (ob 99 P) (node (x270 P) (node (x526 P) BT.nil BT.nil) BT.nil) (node (ob 226 P) BT.nil BT.nil)) (node (ob 145 P) (node (ob 190 P) BT.nil BT.nil) (node (ob 272 P) BT.nil BT.nil))) (node (ob 76 P) (node (ob 122 P) (node (x302 P) (node (ob 341 P) BT.nil BT.nil) BT.nil) (node (ob 249 P) BT.nil BT.nil)) (node (ob 168 P) (node (x366 P) BT.nil BT.nil) (node (ob 295 P) BT.nil BT.nil)))) (node (ob 32 P) (node (ob 64 P) (node (ob 110 P) (node (x286 P) (node (ob 330 P) BT.nil BT.nil) BT.nil) (node (x414 P) BT.nil BT.nil)) (node (ob 156 P) (node (ob 201 P) BT.nil BT.nil) (node (ob 283 P) BT.nil BT.nil))) (node (x126 P) (node (ob 133 P) (node (x318 P) BT.nil BT.nil) (node (x446 P) BT.nil BT.nil)) (node (ob 179 P) (node (ob 215 P) BT.nil BT.nil) (node (ob 306 P) BT.nil BT.nil)))))))))
noncomputable def S5 (w : World) (os : OsState) : SharedT := ⟨T5 w.params, 560, (Life.mk [] [] [] 0 [] [] false ⟨[]⟩ [] 0 false false false 0 [2000, 10, 10] false 0 true [] [] 0 false), ⟨[]⟩, (Drawn.mk 0 0 0 0), 1141, os⟩
noncomputable def y6_3 (P : Params) : Obj := cutD 70 70 (.str (ofString "js.parse_expr") 1364) (ob 1 P)
noncomputable def y6_12 (P : Params) : Obj := cutF 117 (x12 P)
noncomputable def y6_737 (P : Params) : Obj := (Obj.mk (.type "type") none (Data.cls (ClassData.mk (ofString "TokenTaker") [(.type "object")] [(.ref 737), (.type "object")] 736 (ofString "TokenTaker") true [] [] false none false)) ⟨[none, none, (some (.str (ofString "TokenTaker") 1201)), (some (.str (ofString "TokenTaker") 1209)), (some (.builtin "object.__new__")), (some (Value.bool true))]⟩)
noncomputable def T6 (P : Params) : BT := (node (boot_o_0 P) (node (boot_o_1 P) (node (y6_3 P) (node (boot_o_7 P) (node (ob 2 P) (node (ob 8 P) (node (ob 33 P) (node (ob 88 P) (node (ob 180 P) (node (ob 307 P) BT.nil BT.nil) BT.nil) (node (x383 P) (node (ob 389 P) BT.nil BT.nil) BT.nil)) (node (ob 134 P) (node (x319 P) (node (x575 P) BT.nil BT.nil) BT.nil) (node (ob 261 P) (node (ob 435 P) BT.nil BT.nil) BT.nil))) (node (ob 65 P) (node (ob 111 P) (node (x287 P) (node (x543 P) BT.nil BT.nil) BT.nil) (node (ob 238 P) (node (ob 412 P) BT.nil BT.nil) BT.nil)) (node (ob 157 P) (node (ob 202 P) (node (x607 P) BT.nil BT.nil) BT.nil) (node (ob 284 P) (node (ob 458 P) BT.nil BT.nil) BT.nil)))) (node (x47 P) (node (ob 49 P) (node (x143 P) (node (x271 P) (node (ob 319 P) BT.nil BT.nil) BT.nil) (node (ob 227 P) (node (x655 P) BT.nil BT.nil) BT.nil)) (node (x207 P) (node (ob 191 P) (node (ob 360 P) BT.nil BT.nil) BT.nil) (node (x463 P) (node (ob 446 P) BT.nil BT.nil) BT.nil))) (node (ob 77 P) (node (x175 P) (node (x303 P) (node (ob 342 P) BT.nil BT.nil) BT.nil) (node (ob 250 P) (node (x687 P) BT.nil BT.nil) BT.nil)) (node (x239 P) (node (ob 209 P) (node (ob 378 P) BT.nil BT.nil) BT.nil) (node (x495 P) BT.nil BT.nil))))) (node (x23 P) (node (ob 15 P) (node (ob 41 P) (node (ob 94 P) (node (x263 P) (node (ob 314 P) BT.nil BT.nil) BT.nil) (node (ob 221 P) (node (ob 395 P) BT.nil BT.nil) BT.nil)) (node (x199 P) (node (ob 185 P) (node (ob 354 P) BT.nil BT.nil) BT.nil) (node (ob 267 P) (node (x711 P) BT.nil BT.nil) BT.nil))) (node (ob 71 P) (node (ob 117 P) (node (x295 P) (node (ob 336 P) BT.nil BT.nil) BT.nil) (node (ob 244 P) (node (ob 418 P) BT.nil BT.nil) BT.nil)) (node (ob 163 P) (node (x359 P) (node (ob 372 P) BT.nil BT.nil) BT.nil) (node (ob 290 P) BT.nil BT.nil)))) (node (ob 25 P) (node (ob 57 P) (node (ob 105 P) (node (x279 P) (node (ob 325 P) BT.nil BT.nil) BT.nil) (node (x407 P) (node (ob 406 P) BT.nil BT.nil) BT.nil)) (node (ob 151 P) (node (ob 196 P) (node (ob 367 P) BT.nil BT.nil) BT.nil) (node (ob 278 P) (node (ob 452 P) BT.nil BT.nil) BT.nil))) (node (x119 P) (node (ob 128 P) (node (x311 P) (node (ob 343 P) BT.nil BT.nil) BT.nil) (node (x439 P) (node (ob 429 P) BT.nil BT.nil) BT.nil)) (node (ob 174 P) (node (x375 P) (node (x631 P) BT.nil BT.nil) BT.nil) (node (ob 301 P) BT.nil BT.nil)))))) (node (x11 P) (node (x19 P) (node (ob 11 P) (node (ob 37 P) (node (ob 91 P) (node (ob 183 P) (node (ob 310 P) BT.nil BT.nil) BT.nil) (node (ob 218 P) (node (ob 392 P) BT.nil BT.nil) BT.nil)) (node (ob 137 P) (node (x323 P) (node (ob 351 P) BT.nil BT.nil) BT.nil) (node (ob 264 P) (node (ob 438 P) BT.nil BT.nil) BT.nil))) (node (ob 68 P) (node (ob 114 P) (node (x291 P) (node (x547 P) BT.nil BT.nil) BT.nil) (node (ob 241 P) (node (ob 415 P) BT.nil BT.nil) BT.nil)) (node (ob 160 P) (node (ob 205 P) (node (ob 369 P) BT.nil BT.nil) BT.nil) (node (ob 287 P) (node (ob 462 P) BT.nil BT.nil) BT.nil)))) (node (x51 P) (node (ob 53 P) (node (x147 P) (node (x275 P) (node (ob 322 P) BT.nil BT.nil) BT.nil) (node (ob 230 P) (node (x659 P) BT.nil BT.nil) BT.nil)) (node (x211 P) (node (x339 P) (node (ob 363 P) BT.nil BT.nil) BT.nil) (node (x467 P) (node (ob 449 P) BT.nil BT.nil) BT.nil))) (node (x115 P) (node (ob 125 P) (node (x307 P) (node (x563 P) BT.nil BT.nil) BT.nil) (node (x435 P) (node (ob 426 P) BT.nil BT.nil) BT.nil)) (node (ob 171 P) (node (ob 213 P) (node (x627 P) BT.nil BT.nil) BT.nil) (node (ob 298 P) BT.nil BT.nil))))) (node (x27 P) (node (ob 17 P) (node (ob 45 P) (node (ob 97 P) (node (x267 P) (node (ob 316 P) BT.nil BT.nil) BT.nil) (node (ob 224 P) (node (ob 398 P) BT.nil BT.nil) BT.nil)) (node (ob 143 P) (node (x331 P) (node (ob 357 P) BT.nil BT.nil) BT.nil) (node (ob 270 P) (node (x715 P) BT.nil BT.nil) BT.nil))) (node (ob 74 P) (node (x171 P) (node (x299 P) (node (ob 339 P) BT.nil BT.nil) BT.nil) (node (ob 247 P) (node (x683 P) BT.nil BT.nil) BT.nil)) (node (x235 P) (node (x363 P) (node (ob 375 P) BT.nil BT.nil) BT.nil) (node (x491 P) BT.nil BT.nil)))) (node (ob 29 P) (node (ob 61 P) (node (ob 108 P) (node (x283 P) (node (ob 328 P) BT.nil BT.nil) BT.nil) (node (x411 P) (node (ob 409 P) BT.nil BT.nil) BT.nil)) (node (ob 154 P) (node (ob 199 P) (node (x603 P) BT.nil BT.nil) BT.nil) (node (ob 281 P) (node (ob 455 P) BT.nil BT.nil) BT.nil))) (node (ob 85 P) (node (ob 131 P) (node (x315 P) (node (x571 P) BT.nil BT.nil) BT.nil) (node (ob 258 P) (node (ob 432 P) BT.nil BT.nil) BT.nil)) (node (ob 177 P) (node (x379 P) (node (ob 386 P) BT.nil BT.nil) BT.nil) (node (ob 304 P) BT.nil BT.nil))))))) (node (boot_o_5 P) (node (boot_o_9 P) (node (ob 3 P) (node (x33 P) (node (ob 35 P) (node (x129 P) (node (ob 181 P) (node (ob 308 P) BT.nil BT.nil) BT.nil) (node (ob 217 P) (node (x641 P) BT.nil BT.nil) BT.nil)) (node (ob 135 P) (node (x321 P) (node (ob 350 P) BT.nil BT.nil) BT.nil) (node (x449 P) (node (ob 436 P) BT.nil BT.nil) BT.nil))) (node (ob 67 P) (node (x161 P) (node (x289 P) (node (ob 332 P) BT.nil BT.nil) BT.nil) (node (ob 240 P) (node (x673 P) BT.nil BT.nil) BT.nil)) (node (x225 P) (node (ob 203 P) (node (ob 368 P) BT.nil BT.nil) BT.nil) (node (x481 P) (node (y6_737 P) BT.nil BT.nil) BT.nil)))) (node (ob 21 P) (node (ob 51 P) (node (ob 101 P) (node (x273 P) (node (x529 P) BT.nil BT.nil) BT.nil) (node (ob 228 P) (node (ob 402 P) BT.nil BT.nil) BT.nil)) (node (ob 147 P) (node (ob 193 P) (node (ob 361 P) BT.nil BT.nil) BT.nil) (node (ob 274 P) (node (ob 448 P) BT.nil BT.nil) BT.nil))) (node (ob 78 P) (node (ob 124 P) (node (x305 P) (node (x561 P) BT.nil BT.nil) BT.nil) (node (ob 251 P) (node (ob 425 P) BT.nil BT.nil) BT.nil)) (node (ob 170 P) (node (ob 211 P) (node (ob 379 P) BT.nil BT.nil) BT.nil) (node (ob 297 P) BT.nil BT.nil))))) (node (x25 P) (node (x41 P) (node (ob 43 P) (node (ob 95 P) (node (x265 P) (node (x521 P) BT.nil BT.nil) BT.nil) (node (x393 P) (node (ob 396 P) BT.nil BT.nil) BT.nil)) (node (ob 141 P) (node (ob 186 P) (node (x585 P) BT.nil BT.nil) BT.nil) (node (ob 268 P) (node (ob 442 P) BT.nil BT.nil) BT.nil))) (node (x105 P) (node (ob 118 P) (node (x297 P) (node (ob 338 P) BT.nil BT.nil) BT.nil) (node (x425 P) (node (ob 419 P) BT.nil BT.nil) BT.nil)) (node (ob 164 P) (node (x361 P) (node (x617 P) BT.nil BT.nil) BT.nil) (node (ob 291 P) BT.nil BT.nil)))) (node (ob 27 P) (node (ob 59 P) (node (ob 107 P) (node (x281 P) (node (ob 326 P) BT.nil BT.nil) BT.nil) (node (ob 234 P) (node (ob 408 P) BT.nil BT.nil) BT.nil)) (node (ob 153 P) (node (x345 P) (node (x601 P) BT.nil BT.nil) BT.nil) (node (ob 280 P) (node (x729 P) BT.nil BT.nil) BT.nil))) (node (ob 84 P) (node (x185 P) (node (x313 P) (node (ob 344 P) BT.nil BT.nil) BT.nil) (node (ob 257 P) (node (x697 P) BT.nil BT.nil) BT.nil)) (node (x249 P) (node (x377 P) (node (ob 385 P) BT.nil BT.nil) BT.nil) (node (x505 P) BT.nil BT.nil)))))) (node (x13 P) (node (ob 6 P) (node (ob 13 P) (node (ob 39 P) (node (x133 P) (node (x261 P) (node (ob 312 P) BT.nil BT.nil) BT.nil) (node (ob 220 P) (node (x645 P) BT.nil BT.nil) BT.nil)) (node (ob 138 P) (node (x325 P) (node (ob 353 P) BT.nil BT.nil) BT.nil) (node (x453 P) (node (ob 439 P) BT.nil BT.nil) BT.nil))) (node (x101 P) (node (ob 115 P) (node (x293 P) (node (ob 335 P) BT.nil BT.nil) BT.nil) (node (x421 P) (node (ob 416 P) BT.nil BT.nil) BT.nil)) (node (ob 161 P) (node (x357 P) (node (x613 P) BT.nil BT.nil) BT.nil) (node (ob 288 P) (node (x741 P) BT.nil BT.nil) BT.nil)))) (node (ob 23 P) (node (ob 55 P) (node (ob 104 P) (node (x277 P) (node (x533 P) BT.nil BT.nil) BT.nil) (node (ob 231 P) (node (ob 405 P) BT.nil BT.nil) BT.nil)) (node (ob 150 P) (node (ob 195 P) (node (ob 365 P) BT.nil BT.nil) BT.nil) (node (ob 277 P) (node (x725 P) BT.nil BT.nil) BT.nil))) (node (ob 81 P) (node (ob 127 P) (node (x309 P) (node (x565 P) BT.nil BT.nil) BT.nil) (node (ob 254 P) (node (ob 428 P) BT.nil BT.nil) BT.nil)) (node (ob 173 P) (node (x373 P) (node (ob 382 P) BT.nil BT.nil) BT.nil) (node (ob 300 P) BT.nil BT.nil))))) (node (ob 7 P) (node (ob 18 P) (node (ob 47 P) (node (ob 98 P) (node (x269 P) (node (ob 318 P) BT.nil BT.nil) BT.nil) (node (x397 P) (node (ob 399 P) BT.nil BT.nil) BT.nil)) (node (ob 144 P) (node (ob 189 P) (node (x589 P) BT.nil BT.nil) BT.nil) (node (ob 271 P) (node (ob 445 P) BT.nil BT.nil) BT.nil))) (node (ob 75 P) (node (ob 121 P) (node (x301 P) (node (x557 P) BT.nil BT.nil) BT.nil) (node (ob 248 P) (node (ob 422 P) BT.nil BT.nil) BT.nil)) (node (ob 167 P) (node (ob 208 P) (node (ob 376 P) BT.nil BT.nil) BT.nil) (node (ob 294 P) BT.nil BT.nil)))) (node (ob 31 P) (node (ob 63 P) (node (x157 P) (node (x285 P) (node (ob 329 P) BT.nil BT.nil) BT.nil) (node (ob 237 P) (node (x669 P) BT.nil BT.nil) BT.nil)) (node (x221 P) (node (x349 P) (node (x605 P) BT.nil BT.nil) BT.nil) (node (x477 P) (node (ob 456 P) BT.nil BT.nil) BT.nil))) (node (ob 87 P) (node (x189 P) (node (x317 P) (node (ob 347 P) BT.nil BT.nil) BT.nil) (node (ob 260 P) (node (x701 P) BT.nil BT.nil) BT.nil)) (node (x253 P) (node (x381 P) (node (ob 388 P) BT.nil BT.nil) BT.nil) (node (x509 P) BT.nil BT.nil)))))))) (node (ob 0 P) (node (boot_o_4 P) (node (boot_o_8 P) (node (x16 P) (node (ob 9 P) (node (ob 34 P) (node (ob 89 P) (node (x256 P) (node (x512 P) BT.nil BT.nil) BT.nil) (node (ob 216 P) (node (ob 390 P) BT.nil BT.nil) BT.nil)) (node (x192 P) (node (x320 P) (node (ob 349 P) BT.nil BT.nil) BT.nil) (node (ob 262 P) (node (x704 P) BT.nil BT.nil) BT.nil))) (node (ob 66 P) (node (ob 112 P) (node (x288 P) (node (ob 331 P) BT.nil BT.nil) BT.nil) (node (ob 239 P) (node (ob 413 P) BT.nil BT.nil) BT.nil)) (node (ob 158 P) (node (x352 P) (node (x608 P) BT.nil BT.nil) BT.nil) (node (ob 285 P) (node (ob 459 P) BT.nil BT.nil) BT.nil)))) (node (ob 20 P) (node (ob 50 P) (node (ob 100 P) (node (x272 P) (node (ob 320 P) BT.nil BT.nil) BT.nil) (node (x400 P) (node (ob 401 P) BT.nil BT.nil) BT.nil)) (node (ob 146 P) (node (ob 192 P) (node (x592 P) BT.nil BT.nil) BT.nil) (node (ob 273 P) (node (ob 447 P) BT.nil BT.nil) BT.nil))) (node (x112 P) (node (ob 123 P) (node (x304 P) (node (x560 P) BT.nil BT.nil) BT.nil) (node (x432 P) (node (ob 424 P) BT.nil BT.nil) BT.nil)) (node (ob 169 P) (node (ob 210 P) (node (x624 P) BT.nil BT.nil) BT.nil) (node (ob 296 P) BT.nil BT.nil))))) (node (x24 P) (node (ob 16 P) (node (ob 42 P) (node (x136 P) (node (x264 P) (node (x520 P) BT.nil BT.nil) BT.nil) (node (ob 222 P) (node (x648 P) BT.nil BT.nil) BT.nil)) (node (ob 140 P) (node (x328 P) (node (ob 355 P) BT.nil BT.nil) BT.nil) (node (x456 P) (node (ob 441 P) BT.nil BT.nil) BT.nil))) (node (ob 72 P) (node (x168 P) (node (x296 P) (node (ob 337 P) BT.nil BT.nil) BT.nil) (node (ob 245 P) (node (x680 P) BT.nil BT.nil) BT.nil)) (node (x232 P) (node (x360 P) (node (ob 373 P) BT.nil BT.nil) BT.nil) (node (x488 P) BT.nil BT.nil)))) (node (ob 26 P) (node (ob 58 P) (node (ob 106 P) (node (x280 P) (node (x536 P) BT.nil BT.nil) BT.nil) (node (ob 233 P) (node (ob 407 P) BT.nil BT.nil) BT.nil)) (node (ob 152 P) (node (ob 197 P) (node (x600 P) BT.nil BT.nil) BT.nil) (node (ob 279 P) (node (ob 453 P) BT.nil BT.nil) BT.nil))) (node (ob 83 P) (node (ob 129 P) (node (x312 P) (node (x568 P) BT.nil BT.nil) BT.nil) (node (ob 256 P) (node (ob 430 P) BT.nil BT.nil) BT.nil)) (node (ob 175 P) (node (x376 P) (node (ob 384 P) BT.nil BT.nil) BT.nil) (node (ob 302 P) BT.nil BT.nil)))))) (node (y6_12 P) (node (ob 5 P) (node (ob 12 P) (node (ob 38 P) (node (ob 92 P) (node (x260 P) (node (ob 311 P) BT.nil BT.nil) BT.nil) (node (ob 219 P) (node (ob 393 P) BT.nil BT.nil) BT.nil)) (node (x196 P) (node (x324 P) (node (ob 352 P) BT.nil BT.nil) BT.nil) (node (ob 265 P) (node (x708 P) BT.nil BT.nil) BT.nil))) (node (ob 69 P) (node (x164 P) (node (x292 P) (node (ob 334 P) BT.nil BT.nil) BT.nil) (node (ob 242 P) (node (x676 P) BT.nil BT.nil) BT.nil)) (node (x228 P) (node (x356 P) (node (ob 370 P) BT.nil BT.nil) BT.nil) (node (x484 P) (node (x740 P) BT.nil BT.nil) BT.nil)))) (node (x52 P) (node (ob 54 P) (node (ob 103 P) (node (x276 P) (node (ob 323 P) BT.nil BT.nil) BT.nil) (node (x404 P) (node (ob 404 P) BT.nil BT.nil) BT.nil)) (node (ob 149 P) (node (x340 P) (node (ob 364 P) BT.nil BT.nil) BT.nil) (node (ob 276 P) (node (ob 450 P) BT.nil BT.nil) BT.nil))) (node (ob 80 P) (node (ob 126 P) (node (x308 P) (node (x564 P) BT.nil BT.nil) BT.nil) (node (ob 253 P) (node (ob 427 P) BT.nil BT.nil) BT.nil)) (node (ob 172 P) (node (ob 214 P) (node (ob 381 P) BT.nil BT.nil) BT.nil) (node (ob 299 P) BT.nil BT.nil))))) (node (x28 P) (node (x44 P) (node (ob 46 P) (node (x140 P) (node (x268 P) (node (ob 317 P) BT.nil BT.nil) BT.nil) (node (ob 225 P) (node (x652 P) BT.nil BT.nil) BT.nil)) (node (x204 P) (node (ob 188 P) (node (ob 358 P) BT.nil BT.nil) BT.nil) (node (x460 P) (node (ob 444 P) BT.nil BT.nil) BT.nil))) (node (x108 P) (node (ob 120 P) (node (x300 P) (node (ob 340 P) BT.nil BT.nil) BT.nil) (node (x428 P) (node (ob 421 P) BT.nil BT.nil) BT.nil)) (node (ob 166 P) (node (ob 207 P) (node (x620 P) BT.nil BT.nil) BT.nil) (node (ob 293 P) BT.nil BT.nil)))) (node (ob 30 P) (node (ob 62 P) (node (ob 109 P) (node (x284 P) (node (x540 P) BT.nil BT.nil) BT.nil) (node (ob 236 P) (node (ob 410 P) BT.nil BT.nil) BT.nil)) (node (ob 155 P) (node (ob 200 P) (node (x604 P) BT.nil BT.nil) BT.nil) (node (ob 282 P) (node (x732 P) BT.nil BT.nil) BT.nil))) (node (ob 86 P) (node (ob 132 P) (node (x316 P) (node (ob 346 P) BT.nil BT.nil) BT.nil) (node (ob 259 P) (node (ob 433 P) BT.nil BT.nil) BT.nil)) (node (ob 178 P) (node (x380 P) (node (ob 387 P) BT.nil BT.nil) BT.nil) (node (ob 305 P) BT.nil BT.nil))))))) (node (boot_o_6 P) (node (boot_o_10 P) (node (ob 4 P) (node (ob 10 P) (node (ob 36 P) (node (ob 90 P) (node (ob 182 P) (node (ob 309 P) BT.nil BT.nil) BT.nil) (node (x386 P) (node (ob 391 P) BT.nil BT.nil) BT.nil)) (node (ob 136 P) (node (x322 P) (node (x578 P) BT.nil BT.nil) BT.nil) (node (ob 263 P) (node (ob 437 P) BT.nil BT.nil) BT.nil))) (node (x98 P) (node (ob 113 P) (node (x290 P) (node (ob 333 P) BT.nil BT.nil) BT.nil) (node (x418 P) (node (ob 414 P) BT.nil BT.nil) BT.nil)) (node (ob 159 P) (node (ob 204 P) (node (x610 P) BT.nil BT.nil) BT.nil) (node (ob 286 P) (node (ob 461 P) BT.nil BT.nil) BT.nil)))) (node (ob 22 P) (node (ob 52 P) (node (ob 102 P) (node (x274 P) (node (ob 321 P) BT.nil BT.nil) BT.nil) (node (ob 229 P) (node (ob 403 P) BT.nil BT.nil) BT.nil)) (node (ob 148 P) (node (ob 194 P) (node (ob 362 P) BT.nil BT.nil) BT.nil) (node (ob 275 P) (node (x722 P) BT.nil BT.nil) BT.nil))) (node (ob 79 P) (node (x178 P) (node (x306 P) (node (x562 P) BT.nil BT.nil) BT.nil) (node (ob 252 P) (node (x690 P) BT.nil BT.nil) BT.nil)) (node (x242 P) (node (ob 212 P) (node (ob 380 P) BT.nil BT.nil) BT.nil) (node (x498 P) BT.nil BT.nil))))) (node (x26 P) (node (x42 P) (node (ob 44 P) (node (ob 96 P) (node (x266 P) (node (ob 315 P) BT.nil BT.nil) BT.nil) (node (ob 223 P) (node (ob 397 P) BT.nil BT.nil) BT.nil)) (node (ob 142 P) (node (ob 187 P) (node (ob 356 P) BT.nil BT.nil) BT.nil) (node (ob 269 P) (node (ob 443 P) BT.nil BT.nil) BT.nil))) (node (ob 73 P) (node (ob 119 P) (node (x298 P) (node (x554 P) BT.nil BT.nil) BT.nil) (node (ob 246 P) (node (ob 420 P) BT.nil BT.nil) BT.nil)) (node (ob 165 P) (node (ob 206 P) (node (ob 374 P) BT.nil BT.nil) BT.nil) (node (ob 292 P) BT.nil BT.nil)))) (node (ob 28 P) (node (ob 60 P) (node (x154 P) (node (x282 P) (node (ob 327 P) BT.nil BT.nil) BT.nil) (node (ob 235 P) (node (x666 P) BT.nil BT.nil) BT.nil)) (node (x218 P) (node (ob 198 P) (node (x602 P) BT.nil BT.nil) BT.nil) (node (x474 P) (node (ob 454 P) BT.nil BT.nil) BT.nil))) (node (x122 P) (node (ob 130 P) (node (ob 184 P) (node (ob 345 P) BT.nil BT.nil) BT.nil) (node (x442 P) (node (ob 431 P) BT.nil BT.nil) BT.nil)) (node (ob 176 P) (node (x378 P) (node (x634 P) BT.nil BT.nil) BT.nil) (node (ob 303 P) BT.nil BT.nil)))))) (node (x14 P) (node (x22 P) (node (ob 14 P) (node (ob 40 P) (node (ob 93 P) (node (x262 P) (node (ob 313 P) BT.nil BT.nil) BT.nil) (node (x390 P) (node (ob 394 P) BT.nil BT.nil) BT.nil)) (node (ob 139 P) (node (x326 P) (node (x582 P) BT.nil BT.nil) BT.nil) (node (ob 266 P) (node (ob 440 P) BT.nil BT.nil) BT.nil))) (node (ob 70 P) (node (ob 116 P) (node (x294 P) (node (x550 P) BT.nil BT.nil) BT.nil) (node (ob 243 P) (node (ob 417 P) BT.nil BT.nil) BT.nil)) (node (ob 162 P) (node (x358 P) (node (ob 371 P) BT.nil BT.nil) BT.nil) (node (ob 289 P) BT.nil BT.nil)))) (node (ob 24 P) (node (ob 56 P) (node (x150 P) (node (x278 P) (node (ob 324 P) BT.nil BT.nil) BT.nil) (node (ob 232 P) (node (x662 P) BT.nil BT.nil) BT.nil)) (node (x214 P) (node (x342 P) (node (ob 366 P) BT.nil BT.nil) BT.nil) (node (x470 P) (node (ob 451 P) BT.nil BT.nil) BT.nil))) (node (ob 82 P) (node (x182 P) (node (x310 P) (node (x566 P) BT.nil BT.nil) BT.nil) (node (ob 255 P) (node (x694 P) BT.nil BT.nil) BT.nil)) (node (x246 P) (node (x374 P) (node (ob 383 P) BT.nil BT.nil) BT.nil) (node (x502 P) BT.nil BT.nil))))) (node (x30 P) (node (ob 19 P) (node (ob 48 P) (node (ob 99 P) (node (x270 P) (node (x526 P) BT.nil BT.nil) BT.nil) (node (ob 226 P) (node (ob 400 P) BT.nil BT.nil) BT.nil)) (node (ob 145 P) (node (ob 190 P) (node (ob 359 P) BT.nil BT.nil) BT.nil) (node (ob 272 P) (node (x718 P) BT.nil BT.nil) BT.nil))) (node (ob 76 P) (node (ob 122 P) (node (x302 P) (node (ob 341 P) BT.nil BT.nil) BT.nil) (node (ob 249 P) (node (ob 423 P) BT.nil BT.nil) BT.nil)) (node (ob 168 P) (node (x366 P) (node (ob 377 P) BT.nil BT.nil) BT.nil) (node (ob 295 P) BT.nil BT.nil)))) (node (ob 32 P) (node (ob 64 P) (node (ob 110 P) (node (x286 P) (node (ob 330 P) BT.nil BT.nil) BT.nil) (node (x414 P) (node (ob 411 P) BT.nil BT.nil) BT.nil)) (node (ob 156 P) (node (ob 201 P) (node (x606 P) BT.nil BT.nil) BT.nil) (node (ob 283 P) (node (ob 457 P) BT.nil BT.nil) BT.nil))) (node (x126 P) (node (ob 133 P) (node (x318 P) (node (ob 348 P) BT.nil BT.nil) BT.nil) (node (x446 P) (node (ob 434 P) BT.nil BT.nil) BT.nil)) (node (ob 179 P) (node (ob 215 P) (node (x638 P) BT.nil BT.nil) BT.nil) (node (ob 306 P) BT.nil BT.nil)))))))))
noncomputable def S6 (w : World) (os : OsState) : SharedT := ⟨T6 w.params, 742, (Life.mk [] [] [] 0 [] [] false ⟨[]⟩ [] 0 false false false 0 [2000, 10, 10] false 0 true [] [] 0 false), ⟨[]⟩, (Drawn.mk 0 0 0 0), 1366, os⟩
noncomputable def y7_3 (P : Params) : Obj := cutD 76 76 (.str (ofString "js.parse_one") 1640) (ob 1 P)
noncomputable def y7_12 (P : Params) : Obj := cutF 120 (x12 P)
noncomputable def T7 (P : Params) : BT := (node (boot_o_0 P) (node (boot_o_1 P) (node (y7_3 P) (node (boot_o_7 P) (node (ob 2 P) (node (ob 8 P) (node (ob 33 P) (node (ob 88 P) (node (ob 180 P) (node (ob 307 P) BT.nil BT.nil) (node (ob 477 P) BT.nil BT.nil)) (node (x383 P) (node (ob 389 P) BT.nil BT.nil) BT.nil)) (node (ob 134 P) (node (x319 P) (node (x575 P) BT.nil BT.nil) (node (ob 523 P) BT.nil BT.nil)) (node (ob 261 P) (node (ob 435 P) BT.nil BT.nil) BT.nil))) (node (ob 65 P) (node (ob 111 P) (node (x287 P) (node (x543 P) BT.nil BT.nil) (node (ob 500 P) BT.nil BT.nil)) (node (ob 238 P) (node (ob 412 P) BT.nil BT.nil) BT.nil)) (node (ob 157 P) (node (ob 202 P) (node (x607 P) BT.nil BT.nil) (node (ob 546 P) BT.nil BT.nil)) (node (ob 284 P) (node (ob 458 P) BT.nil BT.nil) BT.nil)))) (node (x47 P) (node (ob 49 P) (node (x143 P) (node (x271 P) (node (ob 319 P) BT.nil BT.nil) (node (ob 489 P) BT.nil BT.nil)) (node (ob 227 P) (node (x655 P) BT.nil BT.nil) BT.nil)) (node (x207 P) (node (ob 191 P) (node (ob 360 P) BT.nil BT.nil) (node (x847 P) BT.nil BT.nil)) (node (x463 P) (node (ob 446 P) BT.nil BT.nil) BT.nil))) (node (ob 77 P) (node (x175 P) (node (x303 P) (node (ob 342 P) BT.nil BT.nil) (node (x815 P) BT.nil BT.nil)) (node (ob 250 P) (node (x687 P) BT.nil BT.nil) BT.nil)) (node (x239 P) (node (ob 209 P) (node (ob 378 P) BT.nil BT.nil) (node (ob 557 P) BT.nil BT.nil)) (node (x495 P) (node (x751 P) BT.nil BT.nil) BT.nil))))) (node (x23 P) (node (ob 15 P) (node (ob 41 P) (node (ob 94 P) (node (x263 P) (node (ob 314 P) BT.nil BT.nil) (node (ob 483 P) BT.nil BT.nil)) (node (ob 221 P) (node (ob 395 P) BT.nil BT.nil) BT.nil)) (node (x199 P) (node (ob 185 P) (node (ob 354 P) BT.nil BT.nil) (node (ob 529 P) BT.nil BT.nil)) (node (ob 267 P) (node (x711 P) BT.nil BT.nil) BT.nil))) (node (ob 71 P) (node (ob 117 P) (node (x295 P) (node (ob 336 P) BT.nil BT.nil) (node (ob 506 P) BT.nil BT.nil)) (node (ob 244 P) (node (ob 418 P) BT.nil BT.nil) BT.nil)) (node (ob 163 P) (node (x359 P) (node (ob 372 P) BT.nil BT.nil) (node (x871 P) BT.nil BT.nil)) (node (ob 290 P) (node (x743 P) BT.nil BT.nil) BT.nil)))) (node (ob 25 P) (node (ob 57 P) (node (ob 105 P) (node (x279 P) (node (ob 325 P) BT.nil BT.nil) (node (x791 P) BT.nil BT.nil)) (node (x407 P) (node (ob 406 P) BT.nil BT.nil) BT.nil)) (node (ob 151 P) (node (ob 196 P) (node (ob 367 P) BT.nil BT.nil) (node (ob 540 P) BT.nil BT.nil)) (node (ob 278 P) (node (ob 452 P) BT.nil BT.nil) BT.nil))) (node (x119 P) (node (ob 128 P) (node (x311 P) (node (ob 343 P) BT.nil BT.nil) (node (ob 517 P) BT.nil BT.nil)) (node (x439 P) (node (ob 429 P) BT.nil BT.nil) BT.nil)) (node (ob 174 P) (node (x375 P) (node (x631 P) BT.nil BT.nil) BT.nil) (node (ob 301 P) (node (x759 P) BT.nil BT.nil) BT.nil)))))) (node (x11 P) (node (x19 P) (node (ob 11 P) (node (ob 37 P) (node (ob 91 P) (node (ob 183 P) (node (ob 310 P) BT.nil BT.nil) (node (ob 480 P) BT.nil BT.nil)) (node (ob 218 P) (node (ob 392 P) BT.nil BT.nil) BT.nil)) (node (ob 137 P) (node (x323 P) (node (ob 351 P) BT.nil BT.nil) (node (ob 526 P) BT.nil BT.nil)) (node (ob 264 P) (node (ob 438 P) BT.nil BT.nil) BT.nil))) (node (ob 68 P) (node (ob 114 P) (node (x291 P) (node (x547 P) BT.nil BT.nil) (node (ob 503 P) BT.nil BT.nil)) (node (ob 241 P) (node (ob 415 P) BT.nil BT.nil) BT.nil)) (node (ob 160 P) (node (ob 205 P) (node (ob 369 P) BT.nil BT.nil) (node (ob 549 P) BT.nil BT.nil)) (node (ob 287 P) (node (ob 462 P) BT.nil BT.nil) BT.nil)))) (node (x51 P) (node (ob 53 P) (node (x147 P) (node (x275 P) (node (ob 322 P) BT.nil BT.nil) (node (x787 P) BT.nil BT.nil)) (node (ob 230 P) (node (x659 P) BT.nil BT.nil) BT.nil)) (node (x211 P) (node (x339 P) (node (ob 363 P) BT.nil BT.nil) (node (ob 537 P) BT.nil BT.nil)) (node (x467 P) (node (ob 449 P) BT.nil BT.nil) BT.nil))) (node (x115 P) (node (ob 125 P) (node (x307 P) (node (x563 P) BT.nil BT.nil) (node (x819 P) BT.nil BT.nil)) (node (x435 P) (node (ob 426 P) BT.nil BT.nil) BT.nil)) (node (ob 171 P) (node (ob 213 P) (node (x627 P) BT.nil BT.nil) (node (ob 561 P) BT.nil BT.nil)) (node (ob 298 P) (node (ob 469 P) BT.nil BT.nil) BT.nil))))) (node (x27 P) (node (ob 17 P) (node (ob 45 P) (node (ob 97 P) (node (x267 P) (node (ob 316 P) BT.nil BT.nil) (node (ob 486 P) BT.nil BT.nil)) (node (ob 224 P) (node (ob 398 P) BT.nil BT.nil) BT.nil)) (node (ob 143 P) (node (x331 P) (node (ob 357 P) BT.nil BT.nil) (node (x843 P) BT.nil BT.nil)) (node (ob 270 P) (node (x715 P) BT.nil BT.nil) BT.nil))) (node (ob 74 P) (node (x171 P) (node (x299 P) (node (ob 339 P) BT.nil BT.nil) (node (ob 509 P) BT.nil BT.nil)) (node (ob 247 P) (node (x683 P) BT.nil BT.nil) BT.nil)) (node (x235 P) (node (x363 P) (node (ob 375 P) BT.nil BT.nil) (node (x875 P) BT.nil BT.nil)) (node (x491 P) (node (ob 467 P) BT.nil BT.nil) BT.nil)))) (node (ob 29 P) (node (ob 61 P) (node (ob 108 P) (node (x283 P) (node (ob 328 P) BT.nil BT.nil) (node (ob 497 P) BT.nil BT.nil)) (node (x411 P) (node (ob 409 P) BT.nil BT.nil) BT.nil)) (node (ob 154 P) (node (ob 199 P) (node (x603 P) BT.nil BT.nil) (node (ob 543 P) BT.nil BT.nil)) (node (ob 281 P) (node (ob 455 P) BT.nil BT.nil) BT.nil))) (node (ob 85 P) (node (ob 131 P) (node (x315 P) (node (x571 P) BT.nil BT.nil) (node (ob 520 P) BT.nil BT.nil)) (node (ob 258 P) (node (ob 432 P) BT.nil BT.nil) BT.nil)) (node (ob 177 P) (node (x379 P) (node (ob 386 P) BT.nil BT.nil) BT.nil) (node (ob 304 P) (node (x763 P) BT.nil BT.nil) BT.nil))))))) (node (boot_o_5 P) (node (boot_o_9 P) (node (ob 3 P) (node (x33 P) (node (ob 35 P) (node (x129 P) (node (ob 181 P) (node (ob 308 P) BT.nil BT.nil) (node (ob 479 P) BT.nil BT.nil)) (node (ob 217 P) (node (x641 P) BT.nil BT.nil) BT.nil)) (node (ob 135 P) (node (x321 P) (node (ob 350 P) BT.nil BT.nil) (node (x833 P) BT.nil BT.nil)) (node (x449 P) (node (ob 436 P) BT.nil BT.nil) BT.nil))) (node (ob 67 P) (node (x161 P) (node (x289 P) (node (ob 332 P) BT.nil BT.nil) (node (x801 P) BT.nil BT.nil)) (node (ob 240 P) (node (x673 P) BT.nil BT.nil) BT.nil)) (node (x225 P) (node (ob 203 P) (node (ob 368 P) BT.nil BT.nil) (node (ob 547 P) BT.nil BT.nil)) (node (x481 P) (node (ob 460 P) BT.nil BT.nil) BT.nil)))) (node (ob 21 P) (node (ob 51 P) (node (ob 101 P) (node (x273 P) (node (x529 P) BT.nil BT.nil) (node (ob 490 P) BT.nil BT.nil)) (node (ob 228 P) (node (ob 402 P) BT.nil BT.nil) BT.nil)) (node (ob 147 P) (node (ob 193 P) (node (ob 361 P) BT.nil BT.nil) (node (ob 536 P) BT.nil BT.nil)) (node (ob 274 P) (node (ob 448 P) BT.nil BT.nil) BT.nil))) (node (ob 78 P) (node (ob 124 P) (node (x305 P) (node (x561 P) BT.nil BT.nil) (node (ob 513 P) BT.nil BT.nil)) (node (ob 251 P) (node (ob 425 P) BT.nil BT.nil) BT.nil)) (node (ob 170 P) (node (ob 211 P) (node (ob 379 P) BT.nil BT.nil) (node (ob 559 P) BT.nil BT.nil)) (node (ob 297 P) (node (x753 P) BT.nil BT.nil) BT.nil))))) (node (x25 P) (node (x41 P) (node (ob 43 P) (node (ob 95 P) (node (x265 P) (node (x521 P) BT.nil BT.nil) (node (x777 P) BT.nil BT.nil)) (node (x393 P) (node (ob 396 P) BT.nil BT.nil) BT.nil)) (node (ob 141 P) (node (ob 186 P) (node (x585 P) BT.nil BT.nil) (node (ob 530 P) BT.nil BT.nil)) (node (ob 268 P) (node (ob 442 P) BT.nil BT.nil) BT.nil))) (node (x105 P) (node (ob 118 P) (node (x297 P) (node (ob 338 P) BT.nil BT.nil) (node (ob 507 P) BT.nil BT.nil)) (node (x425 P) (node (ob 419 P) BT.nil BT.nil) BT.nil)) (node (ob 164 P) (node (x361 P) (node (x617 P) BT.nil BT.nil) (node (ob 553 P) BT.nil BT.nil)) (node (ob 291 P) (node (ob 465 P) BT.nil BT.nil) BT.nil)))) (node (ob 27 P) (node (ob 59 P) (node (ob 107 P) (node (x281 P) (node (ob 326 P) BT.nil BT.nil) (node (ob 496 P) BT.nil BT.nil)) (node (ob 234 P) (node (ob 408 P) BT.nil BT.nil) BT.nil)) (node (ob 153 P) (node (x345 P) (node (x601 P) BT.nil BT.nil) (node (x857 P) BT.nil BT.nil)) (node (ob 280 P) (node (x729 P) BT.nil BT.nil) BT.nil))) (node (ob 84 P) (node (x185 P) (node (x313 P) (node (ob 344 P) BT.nil BT.nil) (node (ob 519 P) BT.nil BT.nil)) (node (ob 257 P) (node (x697 P) BT.nil BT.nil) BT.nil)) (node (x249 P) (node (x377 P) (node (ob 385 P) BT.nil BT.nil) BT.nil) (node (x505 P) (node (ob 473 P) BT.nil BT.nil) BT.nil)))))) (node (x13 P) (node (ob 6 P) (node (ob 13 P) (node (ob 39 P) (node (x133 P) (node (x261 P) (node (ob 312 P) BT.nil BT.nil) (node (x773 P) BT.nil BT.nil)) (node (ob 220 P) (node (x645 P) BT.nil BT.nil) BT.nil)) (node (ob 138 P) (node (x325 P) (node (ob 353 P) BT.nil BT.nil) (node (ob 527 P) BT.nil BT.nil)) (node (x453 P) (node (ob 439 P) BT.nil BT.nil) BT.nil))) (node (x101 P) (node (ob 115 P) (node (x293 P) (node (ob 335 P) BT.nil BT.nil) (node (x805 P) BT.nil BT.nil)) (node (x421 P) (node (ob 416 P) BT.nil BT.nil) BT.nil)) (node (ob 161 P) (node (x357 P) (node (x613 P) BT.nil BT.nil) (node (ob 550 P) BT.nil BT.nil)) (node (ob 288 P) (node (x741 P) BT.nil BT.nil) BT.nil)))) (node (ob 23 P) (node (ob 55 P) (node (ob 104 P) (node (x277 P) (node (x533 P) BT.nil BT.nil) (node (ob 493 P) BT.nil BT.nil)) (node (ob 231 P) (node (ob 405 P) BT.nil BT.nil) BT.nil)) (node (ob 150 P) (node (ob 195 P) (node (ob 365 P) BT.nil BT.nil) (node (ob 539 P) BT.nil BT.nil)) (node (ob 277 P) (node (x725 P) BT.nil BT.nil) BT.nil))) (node (ob 81 P) (node (ob 127 P) (node (x309 P) (node (x565 P) BT.nil BT.nil) (node (ob 516 P) BT.nil BT.nil)) (node (ob 254 P) (node (ob 428 P) BT.nil BT.nil) BT.nil)) (node (ob 173 P) (node (x373 P) (node (ob 382 P) BT.nil BT.nil) (node (x885 P) BT.nil BT.nil)) (node (ob 300 P) (node (ob 470 P) BT.nil BT.nil) BT.nil))))) (node (ob 7 P) (node (ob 18 P) (node (ob 47 P) (node (ob 98 P) (node (x269 P) (node (ob 318 P) BT.nil BT.nil) (node (ob 487 P) BT.nil BT.nil)) (node (x397 P) (node (ob 399 P) BT.nil BT.nil) BT.nil)) (node (ob 144 P) (node (ob 189 P) (node (x589 P) BT.nil BT.nil) (node (ob 533 P) BT.nil BT.nil)) (node (ob 271 P) (node (ob 445 P) BT.nil BT.nil) BT.nil))) (node (ob 75 P) (node (ob 121 P) (node (x301 P) (node (x557 P) BT.nil BT.nil) (node (ob 510 P) BT.nil BT.nil)) (node (ob 248 P) (node (ob 422 P) BT.nil BT.nil) BT.nil)) (node (ob 167 P) (node (ob 208 P) (node (ob 376 P) BT.nil BT.nil) (node (ob 556 P) BT.nil BT.nil)) (node (ob 294 P) (node (x749 P) BT.nil BT.nil) BT.nil)))) (node (ob 31 P) (node (ob 63 P) (node (x157 P) (node (x285 P) (node (ob 329 P) BT.nil BT.nil) (node (ob 499 P) BT.nil BT.nil)) (node (ob 237 P) (node (x669 P) BT.nil BT.nil) BT.nil)) (node (x221 P) (node (x349 P) (node (x605 P) BT.nil BT.nil) (node (x861 P) BT.nil BT.nil)) (node (x477 P) (node (ob 456 P) BT.nil BT.nil) BT.nil))) (node (ob 87 P) (node (x189 P) (node (x317 P) (node (ob 347 P) BT.nil BT.nil) (node (x829 P) BT.nil BT.nil)) (node (ob 260 P) (node (x701 P) BT.nil BT.nil) BT.nil)) (node (x253 P) (node (x381 P) (node (ob 388 P) BT.nil BT.nil) BT.nil) (node (x509 P) (node (ob 476 P) BT.nil BT.nil) BT.nil)))))))) (node (ob 0 P) (node (boot_o_4 P) (node (boot_o_8 P) (node (x16 P) (node (ob 9 P) (node (ob 34 P) (node (ob 89 P) (node (x256 P) (node (x512 P) BT.nil BT.nil) (node (ob 478 P) BT.nil BT.nil)) (node (ob 216 P) (node (ob 390 P) BT.nil BT.nil) BT.nil)) (node (x192 P) (node (x320 P) (node (ob 349 P) BT.nil BT.nil) (node (ob 524 P) BT.nil BT.nil)) (node (ob 262 P) (node (x704 P) BT.nil BT.nil) BT.nil))) (node (ob 66 P) (node (ob 112 P) (node (x288 P) (node (ob 331 P) BT.nil BT.nil) (node (ob 501 P) BT.nil BT.nil)) (node (ob 239 P) (node (ob 413 P) BT.nil BT.nil) BT.nil)) (node (ob 158 P) (node (x352 P) (node (x608 P) BT.nil BT.nil) (node (x864 P) BT.nil BT.nil)) (node (ob 285 P) (node (ob 459 P) BT.nil BT.nil) BT.nil)))) (node (ob 20 P) (node (ob 50 P) (node (ob 100 P) (node (x272 P) (node (ob 320 P) BT.nil BT.nil) (node (x784 P) BT.nil BT.nil)) (node (x400 P) (node (ob 401 P) BT.nil BT.nil) BT.nil)) (node (ob 146 P) (node (ob 192 P) (node (x592 P) BT.nil BT.nil) (node (ob 535 P) BT.nil BT.nil)) (node (ob 273 P) (node (ob 447 P) BT.nil BT.nil) BT.nil))) (node (x112 P) (node (ob 123 P) (node (x304 P) (node (x560 P) BT.nil BT.nil) (node (ob 512 P) BT.nil BT.nil)) (node (x432 P) (node (ob 424 P) BT.nil BT.nil) BT.nil)) (node (ob 169 P) (node (ob 210 P) (node (x624 P) BT.nil BT.nil) (node (ob 558 P) BT.nil BT.nil)) (node (ob 296 P) (node (x752 P) BT.nil BT.nil) BT.nil))))) (node (x24 P) (node (ob 16 P) (node (ob 42 P) (node (x136 P) (node (x264 P) (node (x520 P) BT.nil BT.nil) (node (ob 484 P) BT.nil BT.nil)) (node (ob 222 P) (node (x648 P) BT.nil BT.nil) BT.nil)) (node (ob 140 P) (node (x328 P) (node (ob 355 P) BT.nil BT.nil) (node (x840 P) BT.nil BT.nil)) (node (x456 P) (node (ob 441 P) BT.nil BT.nil) BT.nil))) (node (ob 72 P) (node (x168 P) (node (x296 P) (node (ob 337 P) BT.nil BT.nil) (node (x808 P) BT.nil BT.nil)) (node (ob 245 P) (node (x680 P) BT.nil BT.nil) BT.nil)) (node (x232 P) (node (x360 P) (node (ob 373 P) BT.nil BT.nil) (node (ob 552 P) BT.nil BT.nil)) (node (x488 P) (node (ob 464 P) BT.nil BT.nil) BT.nil)))) (node (ob 26 P) (node (ob 58 P) (node (ob 106 P) (node (x280 P) (node (x536 P) BT.nil BT.nil) (node (ob 495 P) BT.nil BT.nil)) (node (ob 233 P) (node (ob 407 P) BT.nil BT.nil) BT.nil)) (node (ob 152 P) (node (ob 197 P) (node (x600 P) BT.nil BT.nil) (node (ob 541 P) BT.nil BT.nil)) (node (ob 279 P) (node (ob 453 P) BT.nil BT.nil) BT.nil))) (node (ob 83 P) (node (ob 129 P) (node (x312 P) (node (x568 P) BT.nil BT.nil) (node (ob 518 P) BT.nil BT.nil)) (node (ob 256 P) (node (ob 430 P) BT.nil BT.nil) BT.nil)) (node (ob 175 P) (node (x376 P) (node (ob 384 P) BT.nil BT.nil) BT.nil) (node (ob 302 P) (node (ob 472 P) BT.nil BT.nil) BT.nil)))))) (node (y7_12 P) (node (ob 5 P) (node (ob 12 P) (node (ob 38 P) (node (ob 92 P) (node (x260 P) (node (ob 311 P) BT.nil BT.nil) (node (ob 481 P) BT.nil BT.nil)) (node (ob 219 P) (node (ob 393 P) BT.nil BT.nil) BT.nil)) (node (x196 P) (node (x324 P) (node (ob 352 P) BT.nil BT.nil) (node (x836 P) BT.nil BT.nil)) (node (ob 265 P) (node (x708 P) BT.nil BT.nil) BT.nil))) (node (ob 69 P) (node (x164 P) (node (x292 P) (node (ob 334 P) BT.nil BT.nil) (node (ob 504 P) BT.nil BT.nil)) (node (ob 242 P) (node (x676 P) BT.nil BT.nil) BT.nil)) (node (x228 P) (node (x356 P) (node (ob 370 P) BT.nil BT.nil) (node (x868 P) BT.nil BT.nil)) (node (x484 P) (node (x740 P) BT.nil BT.nil) BT.nil)))) (node (x52 P) (node (ob 54 P) (node (ob 103 P) (node (x276 P) (node (ob 323 P) BT.nil BT.nil) (node (ob 492 P) BT.nil BT.nil)) (node (x404 P) (node (ob 404 P) BT.nil BT.nil) BT.nil)) (node (ob 149 P) (node (x340 P) (node (ob 364 P) BT.nil BT.nil) (node (ob 538 P) BT.nil BT.nil)) (node (ob 276 P) (node (ob 450 P) BT.nil BT.nil) BT.nil))) (node (ob 80 P) (node (ob 126 P) (node (x308 P) (node (x564 P) BT.nil BT.nil) (node (ob 515 P) BT.nil BT.nil)) (node (ob 253 P) (node (ob 427 P) BT.nil BT.nil) BT.nil)) (node (ob 172 P) (node (ob 214 P) (node (ob 381 P) BT.nil BT.nil) (node (x884 P) BT.nil BT.nil)) (node (ob 299 P) (node (x756 P) BT.nil BT.nil) BT.nil))))) (node (x28 P) (node (x44 P) (node (ob 46 P) (node (x140 P) (node (x268 P) (node (ob 317 P) BT.nil BT.nil) (node (x780 P) BT.nil BT.nil)) (node (ob 225 P) (node (x652 P) BT.nil BT.nil) BT.nil)) (node (x204 P) (node (ob 188 P) (node (ob 358 P) BT.nil BT.nil) (node (ob 532 P) BT.nil BT.nil)) (node (x460 P) (node (ob 444 P) BT.nil BT.nil) BT.nil))) (node (x108 P) (node (ob 120 P) (node (x300 P) (node (ob 340 P) BT.nil BT.nil) (node (x812 P) BT.nil BT.nil)) (node (x428 P) (node (ob 421 P) BT.nil BT.nil) BT.nil)) (node (ob 166 P) (node (ob 207 P) (node (x620 P) BT.nil BT.nil) (node (ob 555 P) BT.nil BT.nil)) (node (ob 293 P) (node (ob 468 P) BT.nil BT.nil) BT.nil)))) (node (ob 30 P) (node (ob 62 P) (node (ob 109 P) (node (x284 P) (node (x540 P) BT.nil BT.nil) (node (ob 498 P) BT.nil BT.nil)) (node (ob 236 P) (node (ob 410 P) BT.nil BT.nil) BT.nil)) (node (ob 155 P) (node (ob 200 P) (node (x604 P) BT.nil BT.nil) (node (ob 544 P) BT.nil BT.nil)) (node (ob 282 P) (node (x732 P) BT.nil BT.nil) BT.nil))) (node (ob 86 P) (node (ob 132 P) (node (x316 P) (node (ob 346 P) BT.nil BT.nil) (node (ob 521 P) BT.nil BT.nil)) (node (ob 259 P) (node (ob 433 P) BT.nil BT.nil) BT.nil)) (node (ob 178 P) (node (x380 P) (node (ob 387 P) BT.nil BT.nil) BT.nil) (node (ob 305 P) (node (ob 475 P) BT.nil BT.nil) BT.nil))))))) (node (boot_o_6 P) (node (boot_o_10 P) (node (ob 4 P) (node (ob 10 P) (node (ob 36 P) (node (ob 90 P) (node (ob 182 P) (node (ob 309 P) BT.nil BT.nil) (node (x770 P) BT.nil BT.nil)) (node (x386 P) (node (ob 391 P) BT.nil BT.nil) BT.nil)) (node (ob 136 P) (node (x322 P) (node (x578 P) BT.nil BT.nil) (node (ob 525 P) BT.nil BT.nil)) (node (ob 263 P) (node (ob 437 P) BT.nil BT.nil) BT.nil))) (node (x98 P) (node (ob 113 P) (node (x290 P) (node (ob 333 P) BT.nil BT.nil) (node (ob 502 P) BT.nil BT.nil)) (node (x418 P) (node (ob 414 P) BT.nil BT.nil) BT.nil)) (node (ob 159 P) (node (ob 204 P) (node (x610 P) BT.nil BT.nil) (node (ob 548 P) BT.nil BT.nil)) (node (ob 286 P) (node (ob 461 P) BT.nil BT.nil) BT.nil)))) (node (ob 22 P) (node (ob 52 P) (node (ob 102 P) (node (x274 P) (node (ob 321 P) BT.nil BT.nil) (node (ob 491 P) BT.nil BT.nil)) (node (ob 229 P) (node (ob 403 P) BT.nil BT.nil) BT.nil)) (node (ob 148 P) (node (ob 194 P) (node (ob 362 P) BT.nil BT.nil) (node (x850 P) BT.nil BT.nil)) (node (ob 275 P) (node (x722 P) BT.nil BT.nil) BT.nil))) (node (ob 79 P) (node (x178 P) (node (x306 P) (node (x562 P) BT.nil BT.nil) (node (ob 514 P) BT.nil BT.nil)) (node (ob 252 P) (node (x690 P) BT.nil BT.nil) BT.nil)) (node (x242 P) (node (ob 212 P) (node (ob 380 P) BT.nil BT.nil) (node (ob 560 P) BT.nil BT.nil)) (node (x498 P) (node (x754 P) BT.nil BT.nil) BT.nil))))) (node (x26 P) (node (x42 P) (node (ob 44 P) (node (ob 96 P) (node (x266 P) (node (ob 315 P) BT.nil BT.nil) (node (ob 485 P) BT.nil BT.nil)) (node (ob 223 P) (node (ob 397 P) BT.nil BT.nil) BT.nil)) (node (ob 142 P) (node (ob 187 P) (node (ob 356 P) BT.nil BT.nil) (node (ob 531 P) BT.nil BT.nil)) (node (ob 269 P) (node (ob 443 P) BT.nil BT.nil) BT.nil))) (node (ob 73 P) (node (ob 119 P) (node (x298 P) (node (x554 P) BT.nil BT.nil) (node (ob 508 P) BT.nil BT.nil)) (node (ob 246 P) (node (ob 420 P) BT.nil BT.nil) BT.nil)) (node (ob 165 P) (node (ob 206 P) (node (ob 374 P) BT.nil BT.nil) (node (ob 554 P) BT.nil BT.nil)) (node (ob 292 P) (node (ob 466 P) BT.nil BT.nil) BT.nil)))) (node (ob 28 P) (node (ob 60 P) (node (x154 P) (node (x282 P) (node (ob 327 P) BT.nil BT.nil) (node (x794 P) BT.nil BT.nil)) (node (ob 235 P) (node (x666 P) BT.nil BT.nil) BT.nil)) (node (x218 P) (node (ob 198 P) (node (x602 P) BT.nil BT.nil) (node (ob 542 P) BT.nil BT.nil)) (node (x474 P) (node (ob 454 P) BT.nil BT.nil) BT.nil))) (node (x122 P) (node (ob 130 P) (node (ob 184 P) (node (ob 345 P) BT.nil BT.nil) (node (x826 P) BT.nil BT.nil)) (node (x442 P) (node (ob 431 P) BT.nil BT.nil) BT.nil)) (node (ob 176 P) (node (x378 P) (node (x634 P) BT.nil BT.nil) BT.nil) (node (ob 303 P) (node (ob 474 P) BT.nil BT.nil) BT.nil)))))) (node (x14 P) (node (x22 P) (node (ob 14 P) (node (ob 40 P) (node (ob 93 P) (node (x262 P) (node (ob 313 P) BT.nil BT.nil) (node (ob 482 P) BT.nil BT.nil)) (node (x390 P) (node (ob 394 P) BT.nil BT.nil) BT.nil)) (node (ob 139 P) (node (x326 P) (node (x582 P) BT.nil BT.nil) (node (ob 528 P) BT.nil BT.nil)) (node (ob 266 P) (node (ob 440 P) BT.nil BT.nil) BT.nil))) (node (ob 70 P) (node (ob 116 P) (node (x294 P) (node (x550 P) BT.nil BT.nil) (node (ob 505 P) BT.nil BT.nil)) (node (ob 243 P) (node (ob 417 P) BT.nil BT.nil) BT.nil)) (node (ob 162 P) (node (x358 P) (node (ob 371 P) BT.nil BT.nil) (node (ob 551 P) BT.nil BT.nil)) (node (ob 289 P) (node (ob 463 P) BT.nil BT.nil) BT.nil)))) (node (ob 24 P) (node (ob 56 P) (node (x150 P) (node (x278 P) (node (ob 324 P) BT.nil BT.nil) (node (ob 494 P) BT.nil BT.nil)) (node (ob 232 P) (node (x662 P) BT.nil BT.nil) BT.nil)) (node (x214 P) (node (x342 P) (node (ob 366 P) BT.nil BT.nil) (node (x854 P) BT.nil BT.nil)) (node (x470 P) (node (ob 451 P) BT.nil BT.nil) BT.nil))) (node (ob 82 P) (node (x182 P) (node (x310 P) (node (x566 P) BT.nil BT.nil) (node (x822 P) BT.nil BT.nil)) (node (ob 255 P) (node (x694 P) BT.nil BT.nil) BT.nil)) (node (x246 P) (node (x374 P) (node (ob 383 P) BT.nil BT.nil) BT.nil) (node (x502 P) (node (ob 471 P) BT.nil BT.nil) BT.nil))))) (node (x30 P) (node (ob 19 P) (node (ob 48 P) (node (ob 99 P) (node (x270 P) (node (x526 P) BT.nil BT.nil) (node (ob 488 P) BT.nil BT.nil)) (node (ob 226 P) (node (ob 400 P) BT.nil BT.nil) BT.nil)) (node (ob 145 P) (node (ob 190 P) (node (ob 359 P) BT.nil BT.nil) (node (ob 534 P) BT.nil BT.nil)) (node (ob 272 P) (node (x718 P) BT.nil BT.nil) BT.nil))) (node (ob 76 P) (node (ob 122 P) (node (x302 P) (node (ob 341 P) BT.nil BT.nil) (node (ob 511 P) BT.nil BT.nil)) (node (ob 249 P) (node (ob 423 P) BT.nil BT.nil) BT.nil)) (node (ob 168 P) (node (x366 P) (node (ob 377 P) BT.nil BT.nil) (node (x878 P) BT.nil BT.nil)) (node (ob 295 P) (node (x750 P) BT.nil BT.nil) BT.nil)))) (node (ob 32 P) (node (ob 64 P) (node (ob 110 P) (node (x286 P) (node (ob 330 P) BT.nil BT.nil) (node (x798 P) BT.nil BT.nil)) (node (x414 P) (node (ob 411 P) BT.nil BT.nil) BT.nil)) (node (ob 156 P) (node (ob 201 P) (node (x606 P) BT.nil BT.nil) (node (ob 545 P) BT.nil BT.nil)) (node (ob 283 P) (node (ob 457 P) BT.nil BT.nil) BT.nil))) (node (x126 P) (node (ob 133 P) (node (x318 P) (node (ob 348 P) BT.nil BT.nil) (node (ob 522 P) BT.nil BT.nil)) (node (x446 P) (node (ob 434 P) BT.nil BT.nil) BT.nil)) (node (ob 179 P) (node (ob 215 P) (node (x638 P) BT.nil BT.nil) BT.nil) (node (ob 306 P) (node (x766 P) BT.nil BT.nil) BT.nil)))))))))
noncomputable def S7 (w : World) (os : OsState) : SharedT := ⟨T7 w.params, 886, (Life.mk [] [] [] 0 [] [] false ⟨[]⟩ [] 0 false false false 0 [2000, 10, 10] false 0 true [] [] 0 false), ⟨[]⟩, (Drawn.mk 0 0 0 0), 1642, os⟩
noncomputable def T8 (P : Params) : BT := (node (boot_o_0 P) (node (boot_o_1 P) (node (ob 1 P) (node (boot_o_7 P) (node (ob 2 P) (node (ob 8 P) (node (ob 33 P) (node (ob 88 P) (node (ob 180 P) (node (ob 307 P) BT.nil BT.nil) (node (ob 477 P) BT.nil BT.nil)) (node (x383 P) (node (ob 389 P) BT.nil BT.nil) (node (ob 568 P) BT.nil BT.nil))) (node (ob 134 P) (node (x319 P) (node (x575 P) BT.nil BT.nil) (node (ob 523 P) BT.nil BT.nil)) (node (ob 261 P) (node (ob 435 P) BT.nil BT.nil) BT.nil))) (node (ob 65 P) (node (ob 111 P) (node (x287 P) (node (x543 P) BT.nil BT.nil) (node (ob 500 P) BT.nil BT.nil)) (node (ob 238 P) (node (ob 412 P) BT.nil BT.nil) BT.nil)) (node (ob 157 P) (node (ob 202 P) (node (x607 P) BT.nil BT.nil) (node (ob 546 P) BT.nil BT.nil)) (node (ob 284 P) (node (ob 458 P) BT.nil BT.nil) BT.nil)))) (node (x47 P) (node (ob 49 P) (node (x143 P) (node (x271 P) (node (ob 319 P) BT.nil BT.nil) (node (ob 489 P) BT.nil BT.nil)) (node (ob 227 P) (node (x655 P) BT.nil BT.nil) (node (x911 P) BT.nil BT.nil))) (node (x207 P) (node (ob 191 P) (node (ob 360 P) BT.nil BT.nil) (node (x847 P) BT.nil BT.nil)) (node (x463 P) (node (ob 446 P) BT.nil BT.nil) BT.nil))) (node (ob 77 P) (node (x175 P) (node (x303 P) (node (ob 342 P) BT.nil BT.nil) (node (x815 P) BT.nil BT.nil)) (node (ob 250 P) (node (x687 P) BT.nil BT.nil) BT.nil)) (node (x239 P) (node (ob 209 P) (node (ob 378 P) BT.nil BT.nil) (node (ob 557 P) BT.nil BT.nil)) (node (x495 P) (node (x751 P) BT.nil BT.nil) BT.nil))))) (node (x23 P) (node (ob 15 P) (node (ob 41 P) (node (ob 94 P) (node (x263 P) (node (ob 314 P) BT.nil BT.nil) (node (ob 483 P) BT.nil BT.nil)) (node (ob 221 P) (node (ob 395 P) BT.nil BT.nil) (node (ob 574 P) BT.nil BT.nil))) (node (x199 P) (node (ob 185 P) (node (ob 354 P) BT.nil BT.nil) (node (ob 529 P) BT.nil BT.nil)) (node (ob 267 P) (node (x711 P) BT.nil BT.nil) BT.nil))) (node (ob 71 P) (node (ob 117 P) (node (x295 P) (node (ob 336 P) BT.nil BT.nil) (node (ob 506 P) BT.nil BT.nil)) (node (ob 244 P) (node (ob 418 P) BT.nil BT.nil) BT.nil)) (node (ob 163 P) (node (x359 P) (node (ob 372 P) BT.nil BT.nil) (node (x871 P) BT.nil BT.nil)) (node (ob 290 P) (node (x743 P) BT.nil BT.nil) BT.nil)))) (node (ob 25 P) (node (ob 57 P) (node (ob 105 P) (node (x279 P) (node (ob 325 P) BT.nil BT.nil) (node (x791 P) BT.nil BT.nil)) (node (x407 P) (node (ob 406 P) BT.nil BT.nil) BT.nil)) (node (ob 151 P) (node (ob 196 P) (node (ob 367 P) BT.nil BT.nil) (node (ob 540 P) BT.nil BT.nil)) (node (ob 278 P) (node (ob 452 P) BT.nil BT.nil) BT.nil))) (node (x119 P) (node (ob 128 P) (node (x311 P) (node (ob 343 P) BT.nil BT.nil) (node (ob 517 P) BT.nil BT.nil)) (node (x439 P) (node (ob 429 P) BT.nil BT.nil) BT.nil)) (node (ob 174 P) (node (x375 P) (node (x631 P) BT.nil BT.nil) (node (x887 P) BT.nil BT.nil)) (node (ob 301 P) (node (x759 P) BT.nil BT.nil) BT.nil)))))) (node (x11 P) (node (x19 P) (node (ob 11 P) (node (ob 37 P) (node (ob 91 P) (node (ob 183 P) (node (ob 310 P) BT.nil BT.nil) (node (ob 480 P) BT.nil BT.nil)) (node (ob 218 P) (node (ob 392 P) BT.nil BT.nil) (node (ob 571 P) BT.nil BT.nil))) (node (ob 137 P) (node (x323 P) (node (ob 351 P) BT.nil BT.nil) (node (ob 526 P) BT.nil BT.nil)) (node (ob 264 P) (node (ob 438 P) BT.nil BT.nil) BT.nil))) (node (ob 68 P) (node (ob 114 P) (node (x291 P) (node (x547 P) BT.nil BT.nil) (node (ob 503 P) BT.nil BT.nil)) (node (ob 241 P) (node (ob 415 P) BT.nil BT.nil) BT.nil)) (node (ob 160 P) (node (ob 205 P) (node (ob 369 P) BT.nil BT.nil) (node (ob 549 P) BT.nil BT.nil)) (node (ob 287 P) (node (ob 462 P) BT.nil BT.nil) BT.nil)))) (node (x51 P) (node (ob 53 P) (node (x147 P) (node (x275 P) (node (ob 322 P) BT.nil BT.nil) (node (x787 P) BT.nil BT.nil)) (node (ob 230 P) (node (x659 P) BT.nil BT.nil) BT.nil)) (node (x211 P) (node (x339 P) (node (ob 363 P) BT.nil BT.nil) (node (ob 537 P) BT.nil BT.nil)) (node (x467 P) (node (ob 449 P) BT.nil BT.nil) BT.nil))) (node (x115 P) (node (ob 125 P) (node (x307 P) (node (x563 P) BT.nil BT.nil) (node (x819 P) BT.nil BT.nil)) (node (x435 P) (node (ob 426 P) BT.nil BT.nil) BT.nil)) (node (ob 171 P) (node (ob 213 P) (node (x627 P) BT.nil BT.nil) (node (ob 561 P) BT.nil BT.nil)) (node (ob 298 P) (node (ob 469 P) BT.nil BT.nil) BT.nil))))) (node (x27 P) (node (ob 17 P) (node (ob 45 P) (node (ob 97 P) (node (x267 P) (node (ob 316 P) BT.nil BT.nil) (node (ob 486 P) BT.nil BT.nil)) (node (ob 224 P) (node (ob 398 P) BT.nil BT.nil) (node (ob 577 P) BT.nil BT.nil))) (node (ob 143 P) (node (x331 P) (node (ob 357 P) BT.nil BT.nil) (node (x843 P) BT.nil BT.nil)) (node (ob 270 P) (node (x715 P) BT.nil BT.nil) BT.nil))) (node (ob 74 P) (node (x171 P) (node (x299 P) (node (ob 339 P) BT.nil BT.nil) (node (ob 509 P) BT.nil BT.nil)) (node (ob 247 P) (node (x683 P) BT.nil BT.nil) BT.nil)) (node (x235 P) (node (x363 P) (node (ob 375 P) BT.nil BT.nil) (node (x875 P) BT.nil BT.nil)) (node (x491 P) (node (ob 467 P) BT.nil BT.nil) BT.nil)))) (node (ob 29 P) (node (ob 61 P) (node (ob 108 P) (node (x283 P) (node (ob 328 P) BT.nil BT.nil) (node (ob 497 P) BT.nil BT.nil)) (node (x411 P) (node (ob 409 P) BT.nil BT.nil) BT.nil)) (node (ob 154 P) (node (ob 199 P) (node (x603 P) BT.nil BT.nil) (node (ob 543 P) BT.nil BT.nil)) (node (ob 281 P) (node (ob 455 P) BT.nil BT.nil) BT.nil))) (node (ob 85 P) (node (ob 131 P) (node (x315 P) (node (x571 P) BT.nil BT.nil) (node (ob 520 P) BT.nil BT.nil)) (node (ob 258 P) (node (ob 432 P) BT.nil BT.nil) BT.nil)) (node (ob 177 P) (node (x379 P) (node (ob 386 P) BT.nil BT.nil) (node (ob 565 P) BT.nil BT.nil)) (node (ob 304 P) (node (x763 P) BT.nil BT.nil) BT.nil))))))) (node (boot_o_5 P) (node (boot_o_9 P) (node (ob 3 P) (node (x33 P) (node (ob 35 P) (node (x129 P) (node (ob 181 P) (node (ob 308 P) BT.nil BT.nil) (node (ob 479 P) BT.nil BT.nil)) (node (ob 217 P) (node (x641 P) BT.nil BT.nil) (node (x897 P) BT.nil BT.nil))) (node (ob 135 P) (node (x321 P) (node (ob 350 P) BT.nil BT.nil) (node (x833 P) BT.nil BT.nil)) (node (x449 P) (node (ob 436 P) BT.nil BT.nil) BT.nil))) (node (ob 67 P) (node (x161 P) (node (x289 P) (node (ob 332 P) BT.nil BT.nil) (node (x801 P) BT.nil BT.nil)) (node (ob 240 P) (node (x673 P) BT.nil BT.nil) BT.nil)) (node (x225 P) (node (ob 203 P) (node (ob 368 P) BT.nil BT.nil) (node (ob 547 P) BT.nil BT.nil)) (node (x481 P) (node (ob 460 P) BT.nil BT.nil) BT.nil)))) (node (ob 21 P) (node (ob 51 P) (node (ob 101 P) (node (x273 P) (node (x529 P) BT.nil BT.nil) (node (ob 490 P) BT.nil BT.nil)) (node (ob 228 P) (node (ob 402 P) BT.nil BT.nil) (node (ob 581 P) BT.nil BT.nil))) (node (ob 147 P) (node (ob 193 P) (node (ob 361 P) BT.nil BT.nil) (node (ob 536 P) BT.nil BT.nil)) (node (ob 274 P) (node (ob 448 P) BT.nil BT.nil) BT.nil))) (node (ob 78 P) (node (ob 124 P) (node (x305 P) (node (x561 P) BT.nil BT.nil) (node (ob 513 P) BT.nil BT.nil)) (node (ob 251 P) (node (ob 425 P) BT.nil BT.nil) BT.nil)) (node (ob 170 P) (node (ob 211 P) (node (ob 379 P) BT.nil BT.nil) (node (ob 559 P) BT.nil BT.nil)) (node (ob 297 P) (node (x753 P) BT.nil BT.nil) BT.nil))))) (node (x25 P) (node (x41 P) (node (ob 43 P) (node (ob 95 P) (node (x265 P) (node (x521 P) BT.nil BT.nil) (node (x777 P) BT.nil BT.nil)) (node (x393 P) (node (ob 396 P) BT.nil BT.nil) (node (ob 575 P) BT.nil BT.nil))) (node (ob 141 P) (node (ob 186 P) (node (x585 P) BT.nil BT.nil) (node (ob 530 P) BT.nil BT.nil)) (node (ob 268 P) (node (ob 442 P) BT.nil BT.nil) BT.nil))) (node (x105 P) (node (ob 118 P) (node (x297 P) (node (ob 338 P) BT.nil BT.nil) (node (ob 507 P) BT.nil BT.nil)) (node (x425 P) (node (ob 419 P) BT.nil BT.nil) BT.nil)) (node (ob 164 P) (node (x361 P) (node (x617 P) BT.nil BT.nil) (node (ob 553 P) BT.nil BT.nil)) (node (ob 291 P) (node (ob 465 P) BT.nil BT.nil) BT.nil)))) (node (ob 27 P) (node (ob 59 P) (node (ob 107 P) (node (x281 P) (node (ob 326 P) BT.nil BT.nil) (node (ob 496 P) BT.nil BT.nil)) (node (ob 234 P) (node (ob 408 P) BT.nil BT.nil) BT.nil)) (node (ob 153 P) (node (x345 P) (node (x601 P) BT.nil BT.nil) (node (x857 P) BT.nil BT.nil)) (node (ob 280 P) (node (x729 P) BT.nil BT.nil) BT.nil))) (node (ob 84 P) (node (x185 P) (node (x313 P) (node (ob 344 P) BT.nil BT.nil) (node (ob 519 P) BT.nil BT.nil)) (node (ob 257 P) (node (x697 P) BT.nil BT.nil) BT.nil)) (node (x249 P) (node (x377 P) (node (ob 385 P) BT.nil BT.nil) (node (ob 564 P) BT.nil BT.nil)) (node (x505 P) (node (ob 473 P) BT.nil BT.nil) BT.nil)))))) (node (x13 P) (node (ob 6 P) (node (ob 13 P) (node (ob 39 P) (node (x133 P) (node (x261 P) (node (ob 312 P) BT.nil BT.nil) (node (x773 P) BT.nil BT.nil)) (node (ob 220 P) (node (x645 P) BT.nil BT.nil) (node (x901 P) BT.nil BT.nil))) (node (ob 138 P) (node (x325 P) (node (ob 353 P) BT.nil BT.nil) (node (ob 527 P) BT.nil BT.nil)) (node (x453 P) (node (ob 439 P) BT.nil BT.nil) BT.nil))) (node (x101 P) (node (ob 115 P) (node (x293 P) (node (ob 335 P) BT.nil BT.nil) (node (x805 P) BT.nil BT.nil)) (node (x421 P) (node (ob 416 P) BT.nil BT.nil) BT.nil)) (node (ob 161 P) (node (x357 P) (node (x613 P) BT.nil BT.nil) (node (ob 550 P) BT.nil BT.nil)) (node (ob 288 P) (node (x741 P) BT.nil BT.nil) BT.nil)))) (node (ob 23 P) (node (ob 55 P) (node (ob 104 P) (node (x277 P) (node (x533 P) BT.nil BT.nil) (node (ob 493 P) BT.nil BT.nil)) (node (ob 231 P) (node (ob 405 P) BT.nil BT.nil) BT.nil)) (node (ob 150 P) (node (ob 195 P) (node (ob 365 P) BT.nil BT.nil) (node (ob 539 P) BT.nil BT.nil)) (node (ob 277 P) (node (x725 P) BT.nil BT.nil) BT.nil))) (node (ob 81 P) (node (ob 127 P) (node (x309 P) (node (x565 P) BT.nil BT.nil) (node (ob 516 P) BT.nil BT.nil)) (node (ob 254 P) (node (ob 428 P) BT.nil BT.nil) BT.nil)) (node (ob 173 P) (node (x373 P) (node (ob 382 P) BT.nil BT.nil) (node (x885 P) BT.nil BT.nil)) (node (ob 300 P) (node (ob 470 P) BT.nil BT.nil) BT.nil))))) (node (ob 7 P) (node (ob 18 P) (node (ob 47 P) (node (ob 98 P) (node (x269 P) (node (ob 318 P) BT.nil BT.nil) (node (ob 487 P) BT.nil BT.nil)) (node (x397 P) (node (ob 399 P) BT.nil BT.nil) (node (ob 578 P) BT.nil BT.nil))) (node (ob 144 P) (node (ob 189 P) (node (x589 P) BT.nil BT.nil) (node (ob 533 P) BT.nil BT.nil)) (node (ob 271 P) (node (ob 445 P) BT.nil BT.nil) BT.nil))) (node (ob 75 P) (node (ob 121 P) (node (x301 P) (node (x557 P) BT.nil BT.nil) (node (ob 510 P) BT.nil BT.nil)) (node (ob 248 P) (node (ob 422 P) BT.nil BT.nil) BT.nil)) (node (ob 167 P) (node (ob 208 P) (node (ob 376 P) BT.nil BT.nil) (node (ob 556 P) BT.nil BT.nil)) (node (ob 294 P) (node (x749 P) BT.nil BT.nil) BT.nil)))) (node (ob 31 P) (node (ob 63 P) (node (x157 P) (node (x285 P) (node (ob 329 P) BT.nil BT.nil) (node (ob 499 P) BT.nil BT.nil)) (node (ob 237 P) (node (x669 P) BT.nil BT.nil) BT.nil)) (node (x221 P) (node (x349 P) (node (x605 P) BT.nil BT.nil) (node (x861 P) BT.nil BT.nil)) (node (x477 P) (node (ob 456 P) BT.nil BT.nil) BT.nil))) (node (ob 87 P) (node (x189 P) (node (x317 P) (node (ob 347 P) BT.nil BT.nil) (node (x829 P) BT.nil BT.nil)) (node (ob 260 P) (node (x701 P) BT.nil BT.nil) BT.nil)) (node (x253 P) (node (x381 P) (node (ob 388 P) BT.nil BT.nil) (node (ob 567 P) BT.nil BT.nil)) (node (x509 P) (node (ob 476 P) BT.nil BT.nil) BT.nil)))))))) (node (ob 0 P) (node (boot_o_4 P) (node (boot_o_8 P) (node (x16 P) (node (ob 9 P) (node (ob 34 P) (node (ob 89 P) (node (x256 P) (node (x512 P) BT.nil BT.nil) (node (ob 478 P) BT.nil BT.nil)) (node (ob 216 P) (node (ob 390 P) BT.nil BT.nil) (node (ob 569 P) BT.nil BT.nil))) (node (x192 P) (node (x320 P) (node (ob 349 P) BT.nil BT.nil) (node (ob 524 P) BT.nil BT.nil)) (node (ob 262 P) (node (x704 P) BT.nil BT.nil) BT.nil))) (node (ob 66 P) (node (ob 112 P) (node (x288 P) (node (ob 331 P) BT.nil BT.nil) (node (ob 501 P) BT.nil BT.nil)) (node (ob 239 P) (node (ob 413 P) BT.nil BT.nil) BT.nil)) (node (ob 158 P) (node (x352 P) (node (x608 P) BT.nil BT.nil) (node (x864 P) BT.nil BT.nil)) (node (ob 285 P) (node (ob 459 P) BT.nil BT.nil) BT.nil)))) (node (ob 20 P) (node (ob 50 P) (node (ob 100 P) (node (x272 P) (node (ob 320 P) BT.nil BT.nil) (node (x784 P) BT.nil BT.nil)) (node (x400 P) (node (ob 401 P) BT.nil BT.nil) (node (ob 580 P) BT.nil BT.nil))) (node (ob 146 P) (node (ob 192 P) (node (x592 P) BT.nil BT.nil) (node (ob 535 P) BT.nil BT.nil)) (node (ob 273 P) (node (ob 447 P) BT.nil BT.nil) BT.nil))) (node (x112 P) (node (ob 123 P) (node (x304 P) (node (x560 P) BT.nil BT.nil) (node (ob 512 P) BT.nil BT.nil)) (node (x432 P) (node (ob 424 P) BT.nil BT.nil) BT.nil)) (node (ob 169 P) (node (ob 210 P) (node (x624 P) BT.nil BT.nil) (node (ob 558 P) BT.nil BT.nil)) (node (ob 296 P) (node (x752 P) BT.nil BT.nil) BT.nil))))) (node (x24 P) (node (ob 16 P) (node (ob 42 P) (node (x136 P) (node (x264 P) (node (x520 P) BT.nil BT.nil) (node (ob 484 P) BT.nil BT.nil)) (node (ob 222 P) (node (x648 P) BT.nil BT.nil) (node (x904 P) BT.nil BT.nil))) (node (ob 140 P) (node (x328 P) (node (ob 355 P) BT.nil BT.nil) (node (x840 P) BT.nil BT.nil)) (node (x456 P) (node (ob 441 P) BT.nil BT.nil) BT.nil))) (node (ob 72 P) (node (x168 P) (node (x296 P) (node (ob 337 P) BT.nil BT.nil) (node (x808 P) BT.nil BT.nil)) (node (ob 245 P) (node (x680 P) BT.nil BT.nil) BT.nil)) (node (x232 P) (node (x360 P) (node (ob 373 P) BT.nil BT.nil) (node (ob 552 P) BT.nil BT.nil)) (node (x488 P) (node (ob 464 P) BT.nil BT.nil) BT.nil)))) (node (ob 26 P) (node (ob 58 P) (node (ob 106 P) (node (x280 P) (node (x536 P) BT.nil BT.nil) (node (ob 495 P) BT.nil BT.nil)) (node (ob 233 P) (node (ob 407 P) BT.nil BT.nil) BT.nil)) (node (ob 152 P) (node (ob 197 P) (node (x600 P) BT.nil BT.nil) (node (ob 541 P) BT.nil BT.nil)) (node (ob 279 P) (node (ob 453 P) BT.nil BT.nil) BT.nil))) (node (ob 83 P) (node (ob 129 P) (node (x312 P) (node (x568 P) BT.nil BT.nil) (node (ob 518 P) BT.nil BT.nil)) (node (ob 256 P) (node (ob 430 P) BT.nil BT.nil) BT.nil)) (node (ob 175 P) (node (x376 P) (node (ob 384 P) BT.nil BT.nil) (node (ob 563 P) BT.nil BT.nil)) (node (ob 302 P) (node (ob 472 P) BT.nil BT.nil) BT.nil)))))) (node (x12 P) (node (ob 5 P) (node (ob 12 P) (node (ob 38 P) (node (ob 92 P) (node (x260 P) (node (ob 311 P) BT.nil BT.nil) (node (ob 481 P) BT.nil BT.nil)) (node (ob 219 P) (node (ob 393 P) BT.nil BT.nil) (node (ob 572 P) BT.nil BT.nil))) (node (x196 P) (node (x324 P) (node (ob 352 P) BT.nil BT.nil) (node (x836 P) BT.nil BT.nil)) (node (ob 265 P) (node (x708 P) BT.nil BT.nil) BT.nil))) (node (ob 69 P) (node (x164 P) (node (x292 P) (node (ob 334 P) BT.nil BT.nil) (node (ob 504 P) BT.nil BT.nil)) (node (ob 242 P) (node (x676 P) BT.nil BT.nil) BT.nil)) (node (x228 P) (node (x356 P) (node (ob 370 P) BT.nil BT.nil) (node (x868 P) BT.nil BT.nil)) (node (x484 P) (node (x740 P) BT.nil BT.nil) BT.nil)))) (node (x52 P) (node (ob 54 P) (node (ob 103 P) (node (x276 P) (node (ob 323 P) BT.nil BT.nil) (node (ob 492 P) BT.nil BT.nil)) (node (x404 P) (node (ob 404 P) BT.nil BT.nil) BT.nil)) (node (ob 149 P) (node (x340 P) (node (ob 364 P) BT.nil BT.nil) (node (ob 538 P) BT.nil BT.nil)) (node (ob 276 P) (node (ob 450 P) BT.nil BT.nil) BT.nil))) (node (ob 80 P) (node (ob 126 P) (node (x308 P) (node (x564 P) BT.nil BT.nil) (node (ob 515 P) BT.nil BT.nil)) (node (ob 253 P) (node (ob 427 P) BT.nil BT.nil) BT.nil)) (node (ob 172 P) (node (ob 214 P) (node (ob 381 P) BT.nil BT.nil) (node (x884 P) BT.nil BT.nil)) (node (ob 299 P) (node (x756 P) BT.nil BT.nil) BT.nil))))) (node (x28 P) (node (x44 P) (node (ob 46 P) (node (x140 P) (node (x268 P) (node (ob 317 P) BT.nil BT.nil) (node (x780 P) BT.nil BT.nil)) (node (ob 225 P) (node (x652 P) BT.nil BT.nil) (node (x908 P) BT.nil BT.nil))) (node (x204 P) (node (ob 188 P) (node (ob 358 P) BT.nil BT.nil) (node (ob 532 P) BT.nil BT.nil)) (node (x460 P) (node (ob 444 P) BT.nil BT.nil) BT.nil))) (node (x108 P) (node (ob 120 P) (node (x300 P) (node (ob 340 P) BT.nil BT.nil) (node (x812 P) BT.nil BT.nil)) (node (x428 P) (node (ob 421 P) BT.nil BT.nil) BT.nil)) (node (ob 166 P) (node (ob 207 P) (node (x620 P) BT.nil BT.nil) (node (ob 555 P) BT.nil BT.nil)) (node (ob 293 P) (node (ob 468 P) BT.nil BT.nil) BT.nil)))) (node (ob 30 P) (node (ob 62 P) (node (ob 109 P) (node (x284 P) (node (x540 P) BT.nil BT.nil) (node (ob 498 P) BT.nil BT.nil)) (node (ob 236 P) (node (ob 410 P) BT.nil BT.nil) BT.nil)) (node (ob 155 P) (node (ob 200 P) (node (x604 P) BT.nil BT.nil) (node (ob 544 P) BT.nil BT.nil)) (node (ob 282 P) (node (x732 P) BT.nil BT.nil) BT.nil))) (node (ob 86 P) (node (ob 132 P) (node (x316 P) (node (ob 346 P) BT.nil BT.nil) (node (ob 521 P) BT.nil BT.nil)) (node (ob 259 P) (node (ob 433 P) BT.nil BT.nil) BT.nil)) (node (ob 178 P) (node (x380 P) (node (ob 387 P) BT.nil BT.nil) (node (ob 566 P) BT.nil BT.nil)) (node (ob 305 P) (node (ob 475 P) BT.nil BT.nil) BT.nil))))))) (node (boot_o_6 P) (node (boot_o_10 P) (node (ob 4 P) (node (ob 10 P) (node (ob 36 P) (node (ob 90 P) (node (ob 182 P) (node (ob 309 P) BT.nil BT.nil) (node (x770 P) BT.nil BT.nil)) (node (x386 P) (node (ob 391 P) BT.nil BT.nil) (node (ob 570 P) BT.nil BT.nil))) (node (ob 136 P) (node (x322 P) (node (x578 P) BT.nil BT.nil) (node (ob 525 P) BT.nil BT.nil)) (node (ob 263 P) (node (ob 437 P) BT.nil BT.nil) BT.nil))) (node (x98 P) (node (ob 113 P) (node (x290 P) (node (ob 333 P) BT.nil BT.nil) (node (ob 502 P) BT.nil BT.nil)) (node (x418 P) (node (ob 414 P) BT.nil BT.nil) BT.nil)) (node (ob 159 P) (node (ob 204 P) (node (x610 P) BT.nil BT.nil) (node (ob 548 P) BT.nil BT.nil)) (node (ob 286 P) (node (ob 461 P) BT.nil BT.nil) BT.nil)))) (node (ob 22 P) (node (ob 52 P) (node (ob 102 P) (node (x274 P) (node (ob 321 P) BT.nil BT.nil) (node (ob 491 P) BT.nil BT.nil)) (node (ob 229 P) (node (ob 403 P) BT.nil BT.nil) BT.nil)) (node (ob 148 P) (node (ob 194 P) (node (ob 362 P) BT.nil BT.nil) (node (x850 P) BT.nil BT.nil)) (node (ob 275 P) (node (x722 P) BT.nil BT.nil) BT.nil))) (node (ob 79 P) (node (x178 P) (node (x306 P) (node (x562 P) BT.nil BT.nil) (node (ob 514 P) BT.nil BT.nil)) (node (ob 252 P) (node (x690 P) BT.nil BT.nil) BT.nil)) (node (x242 P) (node (ob 212 P) (node (ob 380 P) BT.nil BT.nil) (node (ob 560 P) BT.nil BT.nil)) (node (x498 P) (node (x754 P) BT.nil BT.nil) BT.nil))))) (node (x26 P) (node (x42 P) (node (ob 44 P) (node (ob 96 P) (node (x266 P) (node (ob 315 P) BT.nil BT.nil) (node (ob 485 P) BT.nil BT.nil)) (node (ob 223 P) (node (ob 397 P) BT.nil BT.nil) (node (ob 576 P) BT.nil BT.nil))) (node (ob 142 P) (node (ob 187 P) (node (ob 356 P) BT.nil BT.nil) (node (ob 531 P) BT.nil BT.nil)) (node (ob 269 P) (node (ob 443 P) BT.nil BT.nil) BT.nil))) (node (ob 73 P) (node (ob 119 P) (node (x298 P) (node (x554 P) BT.nil BT.nil) (node (ob 508 P) BT.nil BT.nil)) (node (ob 246 P) (node (ob 420 P) BT.nil BT.nil) BT.nil)) (node (ob 165 P) (node (ob 206 P) (node (ob 374 P) BT.nil BT.nil) (node (ob 554 P) BT.nil BT.nil)) (node (ob 292 P) (node (ob 466 P) BT.nil BT.nil) BT.nil)))) (node (ob 28 P) (node (ob 60 P) (node (x154 P) (node (x282 P) (node (ob 327 P) BT.nil BT.nil) (node (x794 P) BT.nil BT.nil)) (node (ob 235 P) (node (x666 P) BT.nil BT.nil) BT.nil)) (node (x218 P) (node (ob 198 P) (node (x602 P) BT.nil BT.nil) (node (ob 542 P) BT.nil BT.nil)) (node (x474 P) (node (ob 454 P) BT.nil BT.nil) BT.nil))) (node (x122 P) (node (ob 130 P) (node (ob 184 P) (node (ob 345 P) BT.nil BT.nil) (node (x826 P) BT.nil BT.nil)) (node (x442 P) (node (ob 431 P) BT.nil BT.nil) BT.nil)) (node (ob 176 P) (node (x378 P) (node (x634 P) BT.nil BT.nil) (node (x890 P) BT.nil BT.nil)) (node (ob 303 P) (node (ob 474 P) BT.nil BT.nil) BT.nil)))))) (node (x14 P) (node (x22 P) (node (ob 14 P) (node (ob 40 P) (node (ob 93 P) (node (x262 P) (node (ob 313 P) BT.nil BT.nil) (node (ob 482 P) BT.nil BT.nil)) (node (x390 P) (node (ob 394 P) BT.nil BT.nil) (node (ob 573 P) BT.nil BT.nil))) (node (ob 139 P) (node (x326 P) (node (x582 P) BT.nil BT.nil) (node (ob 528 P) BT.nil BT.nil)) (node (ob 266 P) (node (ob 440 P) BT.nil BT.nil) BT.nil))) (node (ob 70 P) (node (ob 116 P) (node (x294 P) (node (x550 P) BT.nil BT.nil) (node (ob 505 P) BT.nil BT.nil)) (node (ob 243 P) (node (ob 417 P) BT.nil BT.nil) BT.nil)) (node (ob 162 P) (node (x358 P) (node (ob 371 P) BT.nil BT.nil) (node (ob 551 P) BT.nil BT.nil)) (node (ob 289 P) (node (ob 463 P) BT.nil BT.nil) BT.nil)))) (node (ob 24 P) (node (ob 56 P) (node (x150 P) (node (x278 P) (node (ob 324 P) BT.nil BT.nil) (node (ob 494 P) BT.nil BT.nil)) (node (ob 232 P) (node (x662 P) BT.nil BT.nil) BT.nil)) (node (x214 P) (node (x342 P) (node (ob 366 P) BT.nil BT.nil) (node (x854 P) BT.nil BT.nil)) (node (x470 P) (node (ob 451 P) BT.nil BT.nil) BT.nil))) (node (ob 82 P) (node (x182 P) (node (x310 P) (node (x566 P) BT.nil BT.nil) (node (x822 P) BT.nil BT.nil)) (node (ob 255 P) (node (x694 P) BT.nil BT.nil) BT.nil)) (node (x246 P) (node (x374 P) (node (ob 383 P) BT.nil BT.nil) (node (ob 562 P) BT.nil BT.nil)) (node (x502 P) (node (ob 471 P) BT.nil BT.nil) BT.nil))))) (node (x30 P) (node (ob 19 P) (node (ob 48 P) (node (ob 99 P) (node (x270 P) (node (x526 P) BT.nil BT.nil) (node (ob 488 P) BT.nil BT.nil)) (node (ob 226 P) (node (ob 400 P) BT.nil BT.nil) (node (ob 579 P) BT.nil BT.nil))) (node (ob 145 P) (node (ob 190 P) (node (ob 359 P) BT.nil BT.nil) (node (ob 534 P) BT.nil BT.nil)) (node (ob 272 P) (node (x718 P) BT.nil BT.nil) BT.nil))) (node (ob 76 P) (node (ob 122 P) (node (x302 P) (node (ob 341 P) BT.nil BT.nil) (node (ob 511 P) BT.nil BT.nil)) (node (ob 249 P) (node (ob 423 P) BT.nil BT.nil) BT.nil)) (node (ob 168 P) (node (x366 P) (node (ob 377 P) BT.nil BT.nil) (node (x878 P) BT.nil BT.nil)) (node (ob 295 P) (node (x750 P) BT.nil BT.nil) BT.nil)))) (node (ob 32 P) (node (ob 64 P) (node (ob 110 P) (node (x286 P) (node (ob 330 P) BT.nil BT.nil) (node (x798 P) BT.nil BT.nil)) (node (x414 P) (node (ob 411 P) BT.nil BT.nil) BT.nil)) (node (ob 156 P) (node (ob 201 P) (node (x606 P) BT.nil BT.nil) (node (ob 545 P) BT.nil BT.nil)) (node (ob 283 P) (node (ob 457 P) BT.nil BT.nil) BT.nil))) (node (x126 P) (node (ob 133 P) (node (x318 P) (node (ob 348 P) BT.nil BT.nil) (node (ob 522 P) BT.nil BT.nil)) (node (x446 P) (node (ob 434 P) BT.nil BT.nil) BT.nil)) (node (ob 179 P) (node (ob 215 P) (node (x638 P) BT.nil BT.nil) (node (x894 P) BT.nil BT.nil)) (node (ob 306 P) (node (x766 P) BT.nil BT.nil) BT.nil)))))))))
noncomputable def S8 (w : World) (os : OsState) : SharedT := ⟨T8 w.params, 914, (Life.mk [] [] [] 0 [] [] false ⟨[]⟩ [] 0 false false false 0 [2000, 10, 10] false 0 true [] [] 0 false), ⟨[]⟩, (Drawn.mk 0 0 0 0), 1686, os⟩
end
noncomputable section
set_option maxRecDepth 100000 in
theorem g1_f (w : World) (os : OsState) : segRunT treeTable pw (World.withFollow w "special-get-raises" false) 11 (some (.ref 6)) 1 1301 (S0 (World.withFollow w "special-get-raises" false) os) ⟨(execs (sts 0 39) hEnv).wrap doneF deadEnd id id, hC, Pos.mk 0 0 0 0, hB⟩ = some (Flow.next, S1 (World.withFollow w "special-get-raises" false) os, hC, Pos.mk 120 0 121 78) := by
  rw [PySem.W.Fast.te10110043849684766642, PySem.W.Fast.te14364793385576792824, PySem.W.Fast.te12563942051412417395]
  kernel_rfl
set_option maxRecDepth 100000 in
theorem g1_t (w : World) (os : OsState) : segRunT treeTable pw (World.withFollow w "special-get-raises" true) 11 (some (.ref 6)) 1 1301 (S0 (World.withFollow w "special-get-raises" true) os) ⟨(execs (sts 0 39) hEnv).wrap doneF deadEnd id id, hC, Pos.mk 0 0 0 0, hB⟩ = some (Flow.next, S1 (World.withFollow w "special-get-raises" true) os, hC, Pos.mk 120 0 121 78) := by
  rw [PySem.W.Fast.te10110043849684766642, PySem.W.Fast.te14364793385576792824, PySem.W.Fast.te12563942051412417395]
  kernel_rfl
theorem g1 (w : World) (os : OsState) : segRunT treeTable pw w 11 (some (.ref 6)) 1 1301 (S0 w os) ⟨(execs (sts 0 39) hEnv).wrap doneF deadEnd id id, hC, Pos.mk 0 0 0 0, hB⟩ = some (Flow.next, S1 w os, hC, Pos.mk 120 0 121 78) :=
  byRow2 "special-get-raises" (P := fun w => segRunT treeTable pw w 11 (some (.ref 6)) 1 1301 (S0 w os) ⟨(execs (sts 0 39) hEnv).wrap doneF deadEnd id id, hC, Pos.mk 0 0 0 0, hB⟩ = some (Flow.next, S1 w os, hC, Pos.mk 120 0 121 78)) (fun w => g1_f w os) (fun w => g1_t w os) w
set_option maxRecDepth 100000 in
theorem g2 (w : World) (os : OsState) : segRunT treeTable pw w 11 (some (.ref 6)) 1 296 (S1 w os) ⟨(execs (sts 39 10) hEnv).wrap doneF deadEnd id id, hC, Pos.mk 120 0 121 78, hB⟩ = some (Flow.next, S2 w os, hC, Pos.mk 176 0 176 6) := by
  rw [PySem.W.Fast.te10110043849684766642, PySem.W.Fast.te14364793385576792824, PySem.W.Fast.te12563942051412417395]
  kernel_rfl
set_option maxRecDepth 100000 in
theorem g3_ff (w : World) (os : OsState) : segRunT treeTable pw (World.withFollow (World.withFollow w "comprehension-iter-twice" false) "special-get-raises" false) 11 (some (.ref 6)) 1 2768 (S2 (World.withFollow (World.withFollow w "comprehension-iter-twice" false) "special-get-raises" false) os) ⟨(execs (sts 49 1) hEnv).wrap doneF deadEnd id id, hC, Pos.mk 176 0 176 6, hB⟩ = some (Flow.next, S3 (World.withFollow (World.withFollow w "comprehension-iter-twice" false) "special-get-raises" false) os, hC, Pos.mk 177 0 177 11) := by
  rw [PySem.W.Fast.te10110043849684766642, PySem.W.Fast.te14364793385576792824, PySem.W.Fast.te12563942051412417395]
  kernel_rfl
set_option maxRecDepth 100000 in
theorem g3_ft (w : World) (os : OsState) : segRunT treeTable pw (World.withFollow (World.withFollow w "comprehension-iter-twice" false) "special-get-raises" true) 11 (some (.ref 6)) 1 2768 (S2 (World.withFollow (World.withFollow w "comprehension-iter-twice" false) "special-get-raises" true) os) ⟨(execs (sts 49 1) hEnv).wrap doneF deadEnd id id, hC, Pos.mk 176 0 176 6, hB⟩ = some (Flow.next, S3 (World.withFollow (World.withFollow w "comprehension-iter-twice" false) "special-get-raises" true) os, hC, Pos.mk 177 0 177 11) := by
  rw [PySem.W.Fast.te10110043849684766642, PySem.W.Fast.te14364793385576792824, PySem.W.Fast.te12563942051412417395]
  kernel_rfl
set_option maxRecDepth 100000 in
theorem g3_tf (w : World) (os : OsState) : segRunT treeTable pw (World.withFollow (World.withFollow w "comprehension-iter-twice" true) "special-get-raises" false) 11 (some (.ref 6)) 1 2768 (S2 (World.withFollow (World.withFollow w "comprehension-iter-twice" true) "special-get-raises" false) os) ⟨(execs (sts 49 1) hEnv).wrap doneF deadEnd id id, hC, Pos.mk 176 0 176 6, hB⟩ = some (Flow.next, S3 (World.withFollow (World.withFollow w "comprehension-iter-twice" true) "special-get-raises" false) os, hC, Pos.mk 177 0 177 11) := by
  rw [PySem.W.Fast.te10110043849684766642, PySem.W.Fast.te14364793385576792824, PySem.W.Fast.te12563942051412417395]
  kernel_rfl
set_option maxRecDepth 100000 in
theorem g3_tt (w : World) (os : OsState) : segRunT treeTable pw (World.withFollow (World.withFollow w "comprehension-iter-twice" true) "special-get-raises" true) 11 (some (.ref 6)) 1 2768 (S2 (World.withFollow (World.withFollow w "comprehension-iter-twice" true) "special-get-raises" true) os) ⟨(execs (sts 49 1) hEnv).wrap doneF deadEnd id id, hC, Pos.mk 176 0 176 6, hB⟩ = some (Flow.next, S3 (World.withFollow (World.withFollow w "comprehension-iter-twice" true) "special-get-raises" true) os, hC, Pos.mk 177 0 177 11) := by
  rw [PySem.W.Fast.te10110043849684766642, PySem.W.Fast.te14364793385576792824, PySem.W.Fast.te12563942051412417395]
  kernel_rfl
theorem g3 (w : World) (os : OsState) : segRunT treeTable pw w 11 (some (.ref 6)) 1 2768 (S2 w os) ⟨(execs (sts 49 1) hEnv).wrap doneF deadEnd id id, hC, Pos.mk 176 0 176 6, hB⟩ = some (Flow.next, S3 w os, hC, Pos.mk 177 0 177 11) :=
  byRow2 "special-get-raises" (P := fun w => segRunT treeTable pw w 11 (some (.ref 6)) 1 2768 (S2 w os) ⟨(execs (sts 49 1) hEnv).wrap doneF deadEnd id id, hC, Pos.mk 176 0 176 6, hB⟩ = some (Flow.next, S3 w os, hC, Pos.mk 177 0 177 11)) ((byRow2 "comprehension-iter-twice" (fun w => g3_ff w os) (fun w => g3_tf w os))) ((byRow2 "comprehension-iter-twice" (fun w => g3_ft w os) (fun w => g3_tt w os))) w
set_option maxRecDepth 100000 in
theorem g4 (w : World) (os : OsState) : segRunT treeTable pw w 11 (some (.ref 6)) 1 544 (S3 w os) ⟨(execs (sts 50 6) hEnv).wrap doneF deadEnd id id, hC, Pos.mk 177 0 177 11, hB⟩ = some (Flow.next, S4 w os, hC, Pos.mk 203 0 203 8) := by
  rw [PySem.W.Fast.te10110043849684766642, PySem.W.Fast.te14364793385576792824, PySem.W.Fast.te12563942051412417395]
  kernel_rfl
set_option maxRecDepth 100000 in
theorem g5 (w : World) (os : OsState) : segRunT treeTable pw w 11 (some (.ref 6)) 1 1031 (S4 w os) ⟨(execs (sts 56 10) hEnv).wrap doneF deadEnd id id, hC, Pos.mk 203 0 203 8, hB⟩ = some (Flow.next, S5 w os, hC, Pos.mk 427 0 428 77) := by
  rw [PySem.W.Fast.te10110043849684766642, PySem.W.Fast.te14364793385576792824, PySem.W.Fast.te12563942051412417395]
  kernel_rfl
set_option maxRecDepth 100000 in
theorem g6 (w : World) (os : OsState) : segRunT treeTable pw w 11 (some (.ref 6)) 1 1120 (S5 w os) ⟨(execs (sts 66 6) hEnv).wrap doneF deadEnd id id, hC, Pos.mk 427 0 428 77, hB⟩ = some (Flow.next, S6 w os, hC, Pos.mk 527 0 527 8) := by
  rw [PySem.W.Fast.te10110043849684766642, PySem.W.Fast.te14364793385576792824, PySem.W.Fast.te12563942051412417395]
  kernel_rfl
set_option maxRecDepth 100000 in
theorem g7_f (w : World) (os : OsState) : segRunT treeTable pw (World.withFollow w "special-get-raises" false) 11 (some (.ref 6)) 1 1276 (S6 (World.withFollow w "special-get-raises" false) os) ⟨(execs (sts 72 7) hEnv).wrap doneF deadEnd id id, hC, Pos.mk 527 0 527 8, hB⟩ = some (Flow.next, S7 (World.withFollow w "special-get-raises" false) os, hC, Pos.mk 700 0 700 8) := by
  rw [PySem.W.Fast.te10110043849684766642, PySem.W.Fast.te14364793385576792824, PySem.W.Fast.te12563942051412417395]
  kernel_rfl
set_option maxRecDepth 100000 in
theorem g7_t (w : World) (os : OsState) : segRunT treeTable pw (World.withFollow w "special-get-raises" true) 11 (some (.ref 6)) 1 1276 (S6 (World.withFollow w "special-get-raises" true) os) ⟨(execs (sts 72 7) hEnv).wrap doneF deadEnd id id, hC, Pos.mk 527 0 527 8, hB⟩ = some (Flow.next, S7 (World.withFollow w "special-get-raises" true) os, hC, Pos.mk 700 0 700 8) := by
  rw [PySem.W.Fast.te10110043849684766642, PySem.W.Fast.te14364793385576792824, PySem.W.Fast.te12563942051412417395]
  kernel_rfl
theorem g7 (w : World) (os : OsState) : segRunT treeTable pw w 11 (some (.ref 6)) 1 1276 (S6 w os) ⟨(execs (sts 72 7) hEnv).wrap doneF deadEnd id id, hC, Pos.mk 527 0 527 8, hB⟩ = some (Flow.next, S7 w os, hC, Pos.mk 700 0 700 8) :=
  byRow2 "special-get-raises" (P := fun w => segRunT treeTable pw w 11 (some (.ref 6)) 1 1276 (S6 w os) ⟨(execs (sts 72 7) hEnv).wrap doneF deadEnd id id, hC, Pos.mk 527 0 527 8, hB⟩ = some (Flow.next, S7 w os, hC, Pos.mk 700 0 700 8)) (fun w => g7_f w os) (fun w => g7_t w os) w
set_option maxRecDepth 100000 in
theorem g8 (w : World) (os : OsState) : segRunT treeTable pw w 11 (some (.ref 6)) 1 140 (S7 w os) ⟨(execs (sts 79 5) hEnv).wrap doneF deadEnd id id, hC, Pos.mk 700 0 700 8, hB⟩ = some (Flow.next, S8 w os, hC, Pos.mk 721 0 736 74) := by
  rw [PySem.W.Fast.te10110043849684766642, PySem.W.Fast.te14364793385576792824, PySem.W.Fast.te12563942051412417395]
  kernel_rfl
end
noncomputable section
theorem hLink {w : World} {n N i k : Nat} {s s' : SharedT} {r : Shared} {pos p' : Pos}
    (h : segRunT treeTable pw w 11 (some (.ref 6)) 1 n s ⟨(execs (sts i k) hEnv).wrap doneF deadEnd id id, hC, pos, hB⟩ = some (Flow.next, s', hC, p'))
    (c : topRun treeTable pw w 11 (some (.ref 6)) N s'.abs (restOf ((behindTheImports pw).drop (i + k)) hEnv hC p' hB) = some r) :
    topRun treeTable pw w 11 (some (.ref 6)) (n + N) s.abs (restOf ((behindTheImports pw).drop i) hEnv hC pos hB) = some r := by
  have e := (List.take_append_drop k ((behindTheImports pw).drop i)).symm
  rw [List.drop_drop] at e
  rw [e]
  exact piece_app (segRun_of h) c
set_option maxRecDepth 100000 in
theorem hPre (w : World) (os : OsState) : topGo treeTable pw w 11 (some (.ref 6)) 12 ⟨boot_heap w.params, ⟨[]⟩, boot_drawn, boot_toks, os⟩ (topStub pw) = some ((S0 w os).abs, ⟨denote treeTable hC, hC, Pos.mk 0 0 0 0, hB⟩) := by
  rw [PySem.W.Fast.te15667345088766844465, PySem.W.Fast.te14364793385576792824, PySem.W.Fast.te11892475500146522536]
  kernel_rfl
set_option maxRecDepth 100000 in
theorem hBlock (w : World) (os : OsState) : segRun treeTable pw w 11 (some (.ref 6)) 1 1 (S0 w os).abs (blockOf (behindTheImports pw) hEnv hC (Pos.mk 0 0 0 0) [topFrame (Pos.mk 0 0 0 0)]) = some (Flow.next, (S0 w os).abs, hC, Pos.mk 0 0 0 0) := by
  kernel_rfl
set_option maxRecDepth 100000 in
theorem hFin (w : World) (os : OsState) : topRun treeTable pw w 11 (some (.ref 6)) 2 (S8 w os).abs (restOf ((behindTheImports pw).drop 84) hEnv hC (Pos.mk 721 0 736 74) hB) = some (S8 w os).abs := by
  kernel_rfl
theorem hRun (w : World) (os : OsState) : topRun treeTable pw w 11 (some (.ref 6)) (12 + (1 + (1301 + (296 + (2768 + (544 + (1031 + (1120 + (1276 + (140 + 2)))))))))) ⟨boot_heap w.params, ⟨[]⟩, boot_drawn, boot_toks, os⟩ (topStub pw) = some (S8 w os).abs :=
  go_top (hPre w os) (piece_block (hBlock w os) (hLink (g1 w os) (hLink (g2 w os) (hLink (g3 w os) (hLink (g4 w os) (hLink (g5 w os) (hLink (g6 w os) (hLink (g7 w os) (hLink (g8 w os) (hFin w os))))))))))
end
noncomputable section
noncomputable def hq : Program := view pw [83]
noncomputable def hLoose : List Str := [ofString "_wall", ofString "Node", ofString "children", ofString "is_too_high", ofString "BLANKS", ofString "LINE_ENDS", ofString "LETTERS", ofString "PARTS", ofString "is_among", ofString "is_white", ofString "is_line_end", ofString "is_digit", ofString "is_octal_digit", ofString "hex_value", ofString "is_id_start", ofString "is_id_part", ofString "SIGN_BIT", ofString "FRACTION_BITS", ofString "HIDDEN_BIT", ofString "EXPONENT_MASK", ofString "EXPONENT_SHIFT", ofString "LEAST_POWER", ofString "ZERO", ofString "INF", ofString "width", ofString "pack", ofString "signed", ofString "quotient", ofString "round_ratio", ofString "assembled", ofString "from_int", ofString "SINGLE", ofString "code_at", ofString "hex_at", ofString "line_end_size", ofString "octal_escape", ofString "read_escape", ofString "FARTHEST", ofString "figure_of", ofString "worth", ofString "from_decimal", ofString "KEYWORDS", ofString "PUNCTS", ofString "PUNCT_TABLE", ofString "Token", ofString "is_keyword", ofString "punct_at", ofString "SyntaxFail", ofString "Lexer", ofString "STRICT_WORDS", ofString "RESTRICTED", ofString "TARGETS", ofString "name_fault", ofString "binding_fault", ofString "target_fault", ofString "delete_fault", ofString "octal_fault", ofString "Jumps", ofString "MOST_NESTED", ofString "MOST_LEVELS", ofString "TokenTaker", ofString "PRIORITY", ofString "ASSIGNING", ofString "UNARY_SIGNS", ofString "UNARY_WORDS", ofString "STEPS", ofString "ExprParser", ofString "parse_expression", ofString "_law_pick", ofString "_law_line"]
noncomputable def hAs : List Addr := [2, 3, 15, 17, 18, 20, 21, 29, 31, 32, 34, 35, 36, 37, 38, 39, 40, 43, 45, 46, 48, 49, 50, 53, 54, 55, 56, 57, 58, 59, 60, 61, 62, 63, 64, 65, 66, 67, 68, 69, 70, 71, 72, 73, 74, 75, 76, 77, 78, 79, 80, 81, 82, 83, 84, 85, 86, 87, 88, 89, 90, 91, 92, 93, 94, 95, 96, 97, 99, 100, 102, 103, 104, 106, 107, 109, 110, 111, 113, 114, 116, 117, 118, 120, 121, 123, 124, 125, 127, 128, 130, 131, 132, 134, 135, 137, 138, 139, 141, 142, 144, 145, 146, 148, 149, 151, 152, 153, 155, 156, 158, 159, 160, 162, 163, 165, 166, 167, 169, 170, 172, 173, 174, 176, 177, 179, 180, 181, 183, 184, 186, 187, 188, 190, 191, 193, 194, 195, 197, 198, 200, 201, 202, 203, 205, 206, 208, 209, 210, 212, 213, 215, 216, 217, 219, 220, 222, 223, 224, 226, 227, 229, 230, 231, 233, 234, 236, 237, 238, 240, 241, 243, 244, 245, 247, 248, 250, 251, 252, 254, 255, 257, 258, 259, 314, 327, 329, 330, 332, 333, 334, 335, 336, 337, 338, 341, 343, 344, 346, 347, 348, 350, 351, 353, 354, 355, 362, 364, 365, 367, 368, 369, 370, 371, 372, 382, 384, 385, 387, 388, 389, 391, 392, 394, 395, 396, 398, 399, 401, 402, 403, 405, 406, 408, 409, 410, 412, 413, 415, 416, 417, 419, 420, 422, 423, 424, 426, 427, 429, 430, 431, 433, 434, 436, 437, 438, 440, 441, 443, 444, 445, 447, 448, 450, 451, 452, 454, 455, 457, 458, 459, 461, 462, 464, 465, 466, 468, 469, 471, 472, 473, 475, 476, 478, 479, 480, 482, 483, 485, 486, 487, 489, 490, 492, 493, 494, 496, 497, 499, 500, 501, 503, 504, 506, 507, 508, 510, 511, 513, 514, 515, 516, 517, 518, 519, 522, 523, 524, 525, 527, 528, 530, 531, 532, 534, 535, 537, 538, 539, 541, 542, 544, 545, 546, 548, 549, 551, 552, 553, 555, 556, 558, 559, 567, 569, 570, 572, 573, 574, 576, 577, 579, 580, 581, 583, 584, 586, 587, 588, 590, 591, 593, 594, 595, 596, 597, 598, 599, 609, 611, 612, 614, 615, 616, 618, 619, 621, 622, 623, 625, 626, 628, 629, 630, 632, 633, 635, 636, 637, 639, 640, 642, 643, 644, 646, 647, 649, 650, 651, 653, 654, 656, 657, 658, 660, 661, 663, 664, 665, 667, 668, 670, 671, 672, 674, 675, 677, 678, 679, 681, 682, 684, 685, 686, 688, 689, 691, 692, 693, 695, 696, 698, 699, 700, 702, 703, 705, 706, 707, 709, 710, 712, 713, 714, 716, 717, 719, 720, 721, 723, 724, 726, 727, 728, 730, 731, 733, 734, 735, 736, 737, 738, 739, 742, 744, 745, 746, 747, 748, 755, 757, 758, 760, 761, 762, 764, 765, 767, 768, 769, 771, 772, 774, 775, 776, 778, 779, 781, 782, 783, 785, 786, 788, 789, 790, 792, 793, 795, 796, 797, 799, 800, 802, 803, 804, 806, 807, 809, 810, 811, 813, 814, 816, 817, 818, 820, 821, 823, 824, 825, 827, 828, 830, 831, 832, 834, 835, 837, 838, 839, 841, 842, 844, 845, 846, 848, 849, 851, 852, 853, 855, 856, 858, 859, 860, 862, 863, 865, 866, 867, 869, 870, 872, 873, 874, 876, 877, 879, 880, 881, 882, 883, 886, 888, 889, 891, 892, 893, 895, 896, 898, 899, 900, 902, 903, 905, 906, 907, 909, 910, 912, 913]
set_option maxRecDepth 100000 in
theorem hAs_eq : ∀ P, hAs = (k0.heap_1 P).map (·.1) := fun P => by kernel_rfl
noncomputable def hF (P : Params) : Heap := absHeap (T8 P) 914 (Life.mk [] [] [] 0 [] [] false ⟨[]⟩ [] 0 false false false 0 [2000, 10, 10] false 0 true [] [] 0 false)
noncomputable abbrev hYf : Shared → List (Option Obj) := fun s => hAs.map s.heap.get?
noncomputable abbrev hYa : World → List (Option Obj) := fun w => (k0.heap_1 w.params).map fun p => some p.2
noncomputable abbrev hXt : Shared → Bool := fun s => xlAt hq [] s && recOk [] s
set_option maxRecDepth 100000 in
theorem hBoot (w : World) : (importEnds treeTable (opening pw) w 600 (start (opening pw)).1 (start (opening pw)).2).map (fun s => (s.heap, s.gens, s.drawn, s.toks)) = some (boot_heap w.params, Array.mk [], boot_drawn, boot_toks) := by
  rw [PySem.W.Fast.te10274390034422433532, PySem.W.Fast.te1435165496053646825, PySem.W.Fast.te14364793385576792824]
  kernel_rfl
set_option maxRecDepth 100000 in
theorem hFence (s : Shared) : fenceModules? pw s = some s := by kernel_rfl
theorem hOpen (w : World) : (fencedOpening treeTable pw w 20000).map (fun s => (s.heap, s.gens, s.drawn, s.toks)) = some (boot_heap w.params, Array.mk [], boot_drawn, boot_toks) := by
  obtain ⟨s, hs, hv⟩ := Option.map_eq_some_iff.mp (hBoot w)
  have m : importEnds treeTable (opening pw) w 20000 (start (opening pw)).1 (start (opening pw)).2 = some s := importEnds_mono 19400 600 _ _ _ hs
  unfold fencedOpening
  rw [m]
  show (fenceModules? pw s).map _ = _
  rw [hFence s]
  exact congrArg some hv
set_option maxRecDepth 100000 in
theorem hSize (w : World) : ((boot_heap w.params).isNs mainGlobals && (Array.mk [] : Array GenState).size == 0, (boot_heap w.params).objs.size, (boot_heap w.params).nsMap mainGlobals "__annotations__") = (true, 11, some (.ref 6)) := by kernel_rfl
noncomputable abbrev hSt (w : World) (os : OsState) : Shared := (S8 w os).abs
set_option maxRecDepth 100000 in
theorem hLook1a (w : World) : staticsOk (importedModules pw.main.body) (boot_heap w.params) (hF w.params) = true := by
  unfold staticsOk
  rw [PySem.W.Fast.te5923862056798008813, PySem.W.Fast.te8920871248978507458]
  kernel_rfl
set_option maxRecDepth 100000 in
theorem hLook1b (w : World) : namesBound pw (hF w.params) = true := by
  unfold namesBound
  rw [PySem.W.Fast.te18344453789297297638]
  kernel_rfl
set_option maxRecDepth 100000 in
theorem hLook1c (w : World) (os : OsState) : gensDone (hSt w os) = true := by kernel_rfl
set_option maxRecDepth 100000 in
theorem hLook1d (w : World) : laidKept (boot_heap w.params) (hF w.params) = true := by
  unfold laidKept
  rw [PySem.W.Fast.te8920871248978507458]
  kernel_rfl
theorem hLook1 (w : World) (os : OsState) : (staticsOk (importedModules pw.main.body) (boot_heap w.params) (hF w.params) && namesBound pw (hF w.params) && gensDone (hSt w os) && laidKept (boot_heap w.params) (hF w.params)) = true := by
  rw [hLook1a, hLook1b, hLook1c, hLook1d]; rfl
set_option maxRecDepth 100000 in
theorem hSee0 (w : World) (os : OsState) : seen ((recsOf hq).map (·.name)) (ownsOf hq) [] { hSt w os with gens := #[] } = expectedOf hq := by kernel_rfl
set_option maxRecDepth 100000 in
theorem hSee1 (w : World) (os : OsState) : (hSt w os).heap.bltView = bltViewBooted := by kernel_rfl
set_option maxRecDepth 100000 in
theorem hSee2 (w : World) (os : OsState) : ((hSt w os).heap.keysOk (looseW hq hLoose) ((recsOf hq).map (·.name)) ((litsOf hq).map (·.1)) ((clssOf hq (looseW hq hLoose)).map (·.name)) && (hSt w os).heap.accountedOkI (importedModules pw.main.body) && (hSt w os).heap.isNs mainGlobals && (hSt w os).heap.isNs builtinsNs && tablesOk hq (hSt w os).heap && hXt (hSt w os) && (if true then (hSt w os).gens.size == 0 else !leftWithCleanup (hSt w os).gens)) = true := by kernel_rfl
set_option maxRecDepth 100000 in
theorem hSee3 (w : World) (os : OsState) : tabsOk hq (hSt w os) = true := by kernel_rfl
set_option maxRecDepth 100000 in
theorem hSee4 (w : World) (os : OsState) : pinSeenD hq (drecsOf hq) (hSt w os) = pinGoodD (drecsOf hq) := by kernel_rfl
set_option maxRecDepth 100000 in
theorem hSee5 (w : World) (os : OsState) : plainSeenE hq (looseW hq hLoose) (hSt w os) = plainGoodE hq (looseW hq hLoose) := by kernel_rfl
set_option maxRecDepth 100000 in
theorem hSee6 (w : World) (os : OsState) : plainSeenD hq hLoose (hSt w os) = plainGoodD hq hLoose := by kernel_rfl
set_option maxRecDepth 100000 in
theorem hSee7 (w : World) (os : OsState) : wideSeen hq (hSt w os) = wideGood hq := by kernel_rfl
set_option maxRecDepth 100000 in
theorem hSee8 (w : World) (os : OsState) : clsSeenW hq hLoose (hSt w os) = clsGoodW hq hLoose := by kernel_rfl
theorem hLook2 (w : World) (os : OsState) : openSeen hq hLoose (importedModules pw.main.body) hXt true (hSt w os) = openGood hq hLoose := looks_pair (hSee0 w os) (looks_pair (hSee1 w os) (looks_pair (hSee2 w os) (looks_pair (hSee3 w os) (looks_pair (hSee4 w os) (looks_pair (hSee5 w os) (looks_pair (hSee6 w os) (looks_pair (hSee7 w os) (hSee8 w os))))))))
theorem hGets {t : BT} {n : Nat} {life : Life} (l : List (Nat × Obj)) (h : l.map (fun p => (Nat.blt p.1 n, (t.get p.1).bind alive)) = l.map fun p => (true, some p.2)) : l.map (fun p => (absHeap t n life).get? p.1) = l.map fun p => some p.2 :=
  List.map_congr_left fun p hp => by
    have e := List.map_inj_left.mp h p hp
    have e1 := (Prod.mk.inj e).1
    have e2 := (Prod.mk.inj e).2
    cases g : t.get p.1 with
    | none => rw [g] at e2; cases e2
    | some o => rw [abs_get (Nat.le_of_ble_eq_true e1) g]; rw [g] at e2; exact e2
set_option maxRecDepth 100000 in
theorem hGot (P : Params) : (k0.heap_1 P).map (fun p => (Nat.blt p.1 914, ((T8 P).get p.1).bind alive)) = (k0.heap_1 P).map fun p => (true, some p.2) := by kernel_rfl
set_option maxRecDepth 100000 in
theorem hLook3 (w : World) (os : OsState) : hYf (hSt w os) = hYa w := by
  unfold hYf hYa
  rw [hAs_eq w.params, List.map_map]
  exact hGets _ (hGot w.params)
abbrev rwL := PySem.Challenge.rw_pc0091_01
set_option maxRecDepth 100000 in
theorem hSay1 : (sreFenced pw.main && ((moduleNames pw.main.body).isEmpty || lookedIntoSs (moduleNames pw.main.body) pw.main.body)) = true := by rw [PySem.W.Fast.te11788848310118352699]; kernel_rfl
set_option maxRecDepth 100000 in
theorem hSay2 : namesResolve pw = true := by rw [PySem.W.Fast.te8377067652309620493]; kernel_rfl
set_option maxRecDepth 100000 in
theorem hSay3 : pw.boundNames.all (fun n => !worldNames.contains n) = true := by rw [PySem.W.Fast.te18344453789297297638]; kernel_rfl
set_option maxRecDepth 100000 in
theorem hSay4 : noRoadLSs { strict := !(importedModules pw.main.body).all cThrough.contains, foot := none, bare := (["vars", "dir", "locals"] : List Str).filter (readsOut pw pw.main.body) } pw.main.body = true := by
  rw [PySem.W.Fast.te8326940854005059898, PySem.W.Fast.te13343964577679436407, PySem.W.Fast.te5923862056798008813]
  kernel_rfl
set_option maxRecDepth 100000 in
theorem hSay5 : (namesMeet pw pw.main.body fun _ n => attrL n) = true := by rw [PySem.W.Fast.te17119622794617984870]; kernel_rfl
theorem hSay : looksOpen pw = true := by
  unfold looksOpen
  rw [hSay1, hSay2, hSay3, hSay4, hSay5]; rfl
set_option maxRecDepth 100000 in
theorem hSayR : rwL.row.wellSaid = true := by
  unfold OpenRow.wellSaid OpenRow.partSaid
  rw [show looksOpen rwL.row.prog = true from hSay]
  kernel_rfl
set_option maxRecDepth 100000 in
theorem hSaid : rwL.wellSaid = true := by
  unfold OpenLaw.wellSaid
  rw [hSayR]
  kernel_rfl
theorem hLeft : LeftO pw hq hLoose hXt hYf hYa 20000 true :=
  LeftO.of_pieces (H₀ := fun P => boot_heap P) (H₁ := hF) hOpen hSize hRun (by decide) fun w => funext fun os => looks_pair (hLook1 w os) (looks_pair (hLook2 w os) (hLook3 w os))
end
end
section
set_option maxRecDepth 100000 in
theorem hOk : (chainsOk hq && opensWell rwL.row.prog && (frees rwL.row.toRowW && rwL.row.within.isEmpty)) = true := by kernel_rfl
set_option maxRecDepth 100000 in
theorem hBare : rwL.row.prog.bare := ⟨rfl, rfl, rfl, rfl, rfl, by decide +kernel⟩
local macro_rules | `(tactic| k_qdec) => `(tactic| decide +kernel)
local macro_rules | `(tactic| walk_at "compareOp In str str") => `(tactic| refine SB.contains ?_)
local macro_rules | `(tactic| walk_at "binaryOp Add str str") => `(tactic| (refine hold_ ?_))
local macro_rules | `(tactic| walk_at "binaryOp Mult str int") => `(tactic| (refine SB.mul (by assumption) ?_; intro _ _))
local macro_rules | `(tactic| walk_at "eval IfExp") => `(tactic| (k_here; refine hold_ ?_))
set_option maxRecDepth 100000 in
set_option maxHeartbeats 8000000 in
theorem hTop : rwL.Holds := by
  w_on
  refine holds_law hSaid fun said => ?_
  refine holds_open (q := hq) (loose := hLoose) (Xt := hXt) (XP := XL hq []) (Yf := hYf) (Ya := hYa) (YP := (kHook k0.heap_1 hAs hAs_eq).says) (N := 20000) hLeft (InK.of hAs_eq) InK.keeps (fun s e => xl_of s (Bool.and_eq_true_iff.mp e).1) XL.keeps (by rfl) (by rfl) (by rfl) (fun s e => recFacts_of (Bool.and_eq_true_iff.mp e).2) (by rfl) said hOk hBare ?hw ?hc
  case hw => w_witness2
  w_strict k_go0
  (all_goals try k_fold)
  k_steps
  (rename News _ _ _ _ => N1)
  (k_dflt refine' pick_use (pen_first [_, _, _, _, _, _, _, _] N1) ?hi ?hz rfl ?hne rfl rfl ?q1 ?q2 ?q3 ?q4 ⟨rfl, rfl⟩ (by decide) (by decide) ?_; (case hi => assumption); (case hz => exact List.length_take_le _ _); (case hne => apply Ne.symm; apply Nat.ne_of_lt; refine (by assumption : ∀ p : Addr × Obj, p ∈ _ → p.1 < _) (_, _) (by k_mem)); (case q1 => k_asm); (case q2 => k_asm); (case q3 => k_asm); (case q4 => k_asm))
  intro r1 rt1 y1 n1 h1 tk1 hne hr1 F1 N1
  ((try dsimp only); (try k_fold); (try k_sweep))
  refine' item_r N1 ?hm ?hr ?hz ?_
  case hm => k_mem
  case hr => exact hr1
  case hz => exact rfl
  intro v1 hv1
  obtain ⟨p1, a, b, ta, tb, rfl, hm1, hab⟩ : ∃ p a b ta tb, v1 = .ref p ∧ News _ _ h1 [(p, tupS a b ta tb)] ∧ tab1[r1]? = some (a, b) := by
    rcases r1 with _ | _ | _ | _ | _ | _ | _ | r1
    all_goals first | (obtain rfl := Option.some.inj hv1; exact ⟨_, _, _, _, _, rfl, List.forall_mem_cons.mpr ⟨N1 _ (by k_mem), List.forall_mem_nil _⟩, rfl⟩) | exact absurd hr1 (Nat.not_lt.mpr (Nat.le_add_left 7 r1))
  replace N1 := News.app hm1 (News.sub (l' := [_, _]) N1 (List.forall_mem_cons.mpr ⟨.head _, List.forall_mem_cons.mpr ⟨.tail _ (.head _), List.forall_mem_nil _⟩⟩))
  simp only [List.cons_append, List.nil_append] at N1
  clear hv1 hm1
  k_steps
  (rename Fr _ _ _ _ => F2)
  (rename News _ _ _ _ => N2)
  replace N2 := News.sub (l' := [_, _]) N2 (List.forall_mem_cons.mpr ⟨.tail _ (.head _), List.forall_mem_cons.mpr ⟨.tail _ (.tail _ (.head _)), List.forall_mem_nil _⟩⟩)
  refine unhold ?_
  refine join_int (i := 3) (fun k => 0 ≤ k ∧ k < 45) F2 N2 ?walk1 ?rest1
  case walk1 =>
    refine IfExp_ ?_
    k_steps
    (k_dflt refine' pick_use N2 ?hi ?hz rfl ?hne rfl rfl ?q1 ?q2 ?q3 ?q4 ⟨rfl, rfl⟩ (by decide) (by decide) ?_; (case hi => assumption); (case hz => exact List.length_take_le _ _); (case hne => exact hne); (case q1 => k_asm); (case q2 => k_asm); (case q3 => k_asm); (case q4 => k_asm))
    intro r2 rt2 y2 n2 h2 tk2 _ hr2 F3 N3
    ((try dsimp only); (try k_fold); (try k_sweep))
    k_steps
    · (rename News _ _ _ _ => N4)
      replace N4 := News.sub (l' := [_, _, _]) N4 (List.forall_mem_cons.mpr ⟨.tail _ (.head _), List.forall_mem_cons.mpr ⟨.tail _ (.tail _ (.head _)), List.forall_mem_cons.mpr ⟨.head _, List.forall_mem_nil _⟩⟩⟩)
      (k_dflt refine' pick_use N4 ?hi ?hz rfl ?hne rfl rfl ?q1 ?q2 ?q3 ?q4 ⟨rfl, rfl⟩ (by decide) (by decide) ?_; (case hi => assumption); (case hz => exact List.length_take_le _ _); (case hne => exact hne); (case q1 => k_asm); (case q2 => k_asm); (case q3 => k_asm); (case q4 => k_asm))
      intro r4 rt4 y4 n4 h4 tk4 _ hr4 F4 N5
      ((try dsimp only); (try k_fold); (try k_sweep))
      refine' item_r N5 ?hm ?hr ?hz ?_
      case hm => k_mem
      case hr => exact hr4
      case hz => exact rfl
      intro v4 hv4
      obtain ⟨k, kt, rfl, hk⟩ : ∃ k kt, v4 = .int k kt ∧ (0 ≤ k ∧ k < 45) := by
        clear N5 F4
        rcases r4 with _ | _ | _ | _ | _ | _ | r4
        all_goals first | (obtain rfl := Option.some.inj hv4; exact ⟨_, _, rfl, by decide⟩) | exact absurd hr4 (Nat.not_lt.mpr (Nat.le_add_left 6 r4))
      exact ⟨k, kt, _, _, _, _, hk, rfl, rfl, F4, News.sub N5 (List.forall_mem_cons.mpr ⟨.head _, List.forall_mem_cons.mpr ⟨.tail _ (.head _), List.forall_mem_nil _⟩⟩)⟩
    · (rename News _ _ _ _ => N4)
      (k_dflt refine' pick_use N4 ?hi ?hz rfl ?hne rfl rfl ?q1 ?q2 ?q3 ?q4 ⟨rfl, rfl⟩ (by decide) (by decide) ?_; (case hi => assumption); (case hz => exact List.length_take_le _ _); (case hne => exact hne); (case q1 => k_asm); (case q2 => k_asm); (case q3 => k_asm); (case q4 => k_asm))
      intro r4 rt4 y4 n4 h4 tk4 _ hr4 F4 N5
      exact ⟨r4, rt4, _, _, _, _, ⟨Int.natCast_nonneg r4, Int.ofNat_lt.mpr hr4⟩, rfl, rfl, F4, N5⟩
  case rest1 =>
    intro k kt h5 tk5 y5 n5 hk F5 N5
    obtain ⟨many, rfl⟩ := Int.eq_ofNat_of_zero_le hk.1
    have hmany : many < 45 := Int.ofNat_lt.mp hk.2
    clear hk
    ((try dsimp only); (try k_fold); (try k_sweep))
    k_steps
    (rename Fr _ _ _ _ => F6)
    (rename News _ _ _ _ => N6)
    refine unhold ?_
    refine join_int (i := 3) (fun k => k = dueN r1 many) F6 N6 ?walk2 ?rest2
    case walk2 =>
      have hq1 := tab1_q hab
      refine IfExp_ ?_
      k_steps
      · (rename (many : Int) < 40 => q)
        exact ⟨_, _, _, _, _, _, (if_pos (Int.ofNat_lt.mp q)).symm, rfl, rfl, F6, N6⟩
      · (rename ¬ (many : Int) < 40 => q)
        have q' : ¬ many < 40 := fun z => q (Int.ofNat_lt.mpr z)
        refine unhold ?_
        refine IfExp_ ?_
        k_steps
        · (rename Txt.contains _ _ = true => c)
          exact ⟨_, _, _, _, _, _, ((if_neg q').trans (if_pos (of_decide_eq_true (hq1.symm.trans c)))).symm, rfl, rfl, F6, N6⟩
        · (rename Txt.contains _ _ = false => c)
          exact ⟨_, _, _, _, _, _, ((if_neg q').trans (if_neg (of_decide_eq_false (hq1.symm.trans c)))).symm, rfl, rfl, F6, N6⟩
    case rest2 =>
      rintro k kt h7 tk7 y7 n7 rfl F7 N7
      have hl := tab1_len hab
      have hma := mul_ok hl.1 (Nat.lt_trans hmany (by decide))
      have hmb := mul_ok hl.2 (Nat.lt_trans hmany (by decide))
      ((try dsimp only); (try k_fold); (try k_sweep))
      k_steps
      refine unhold ?_
      refine SB.add (fun t8 k8 => ?_) ?z1
      case z1 => rw [mul_len]; exact line3 (Nat.le_trans (Nat.add_le_add_right (Nat.mul_le_mul (Nat.le_of_lt hmany) hl.1) _) (by decide))
      ((try dsimp only); (try k_fold); (try k_sweep))
      k_steps
      refine unhold ?_
      refine SB.add (fun t9 k9 => ?_) ?z2
      case z2 => rw [Str.length_append, mul_len, mul_len]; exact line3 (Nat.le_trans (Nat.add_le_add (Nat.add_le_add_right (Nat.mul_le_mul (Nat.le_of_lt hmany) hl.1) _) (Nat.mul_le_mul (Nat.le_of_lt hmany) hl.2)) (by decide))
      ((try dsimp only); (try k_fold); (try k_sweep))
      k_steps
      k_dflt refine' law_line_c _ _ _ _ (line_con _ 600 (by decide) _ _ _ (nest_at hab hmany) (nest_ans hr1 hmany)) ?q1 ?q2 ?q3 ?q4 ?q5 ⟨rfl, rfl⟩ (by decide) (by decide) ?_
      case q1 => k_asm
      case q2 => k_asm
      case q3 => k_asm
      case q4 => k_asm
      case q5 => k_asm
      intro h9 tk9 t10 F9 N9
      have hne2 : (dueN r1 many != dueN r1 many) = false := bne_self_eq_false _
      ((try dsimp only); (try k_fold); (try k_sweep))
      k_steps
      (rename News _ _ _ _ => N10)
      (k_dflt refine' pick_use N10 ?hi ?hz rfl ?hne rfl rfl ?q1 ?q2 ?q3 ?q4 ⟨rfl, rfl⟩ (by decide) (by decide) ?_; (case hi => assumption); (case hz => exact List.length_take_le _ _); (case hne => exact hne); (case q1 => k_asm); (case q2 => k_asm); (case q3 => k_asm); (case q4 => k_asm))
      intro r5 rt5 y5 n5 h10 tk10 _ hr5 F10 N10
      ((try dsimp only); (try k_fold); (try k_sweep))
      k_steps
      (rename News _ _ _ _ => N10)
      (k_dflt refine' pick_use N10 ?hi ?hz rfl ?hne rfl rfl ?q1 ?q2 ?q3 ?q4 ⟨rfl, rfl⟩ (by decide) (by decide) ?_; (case hi => assumption); (case hz => exact List.length_take_le _ _); (case hne => exact hne); (case q1 => k_asm); (case q2 => k_asm); (case q3 => k_asm); (case q4 => k_asm))
      intro r6 rt6 y6 n6 h11 tk11 _ hr6 F11 N11
      ((try dsimp only); (try k_fold); (try k_sweep))
      repeat (first | (k_unfold; (try dsimp only)) | ((fail_if_success (with_reducible show wpAny _ _ (subscriptTail _ _ _ _) _ _ _)); walk1) | ((fail_if_success (with_reducible show wpAny _ _ (subscriptTail _ _ _ _) _ _ _)); dsimp only; walk1))
      (rename News _ _ _ _ => N12)
      refine' item_r N12 ?hm ?hr ?hz ?_
      case hm => k_mem
      case hr => exact hr5
      case hz => exact rfl
      intro v5 hv5
      (rename Fr _ _ _ _ => F12)
      obtain ⟨p5, c1, c2, c3, tc1, tc2, tc3, rfl, hm5, hcc⟩ : ∃ p a b c ta tb tc, v5 = .ref p ∧ News _ _ _ [(p, tupS3 a b c ta tb tc)] ∧ tab2[r5]? = some (a, b, c) := by
        rcases r5 with _ | _ | _ | r5
        all_goals first | (obtain rfl := Option.some.inj hv5; exact ⟨_, _, _, _, _, _, _, rfl, List.forall_mem_cons.mpr ⟨N12 _ (by k_mem), List.forall_mem_nil _⟩, rfl⟩) | exact absurd hr5 (Nat.not_lt.mpr (Nat.le_add_left 3 r5))
      replace N12 := News.app hm5 (News.sub (l' := [_, _]) N12 (List.forall_mem_cons.mpr ⟨.tail _ (.tail _ (.tail _ (.tail _ (.tail _ (.head _))))), List.forall_mem_cons.mpr ⟨.tail _ (.tail _ (.tail _ (.tail _ (.tail _ (.tail _ (.head _)))))), List.forall_mem_nil _⟩⟩))
      simp only [List.cons_append, List.nil_append] at N12
      clear hv5 hm5
      obtain ⟨-, -, z1, z2, z3⟩ := tab2_at hcc
      have hm6 := mul_ok z2 (Nat.lt_trans hr6 (by decide))
      k_steps
      refine unhold ?_
      refine SB.add (fun t12 k12 => ?_) ?z4
      case z4 => rw [mul_len]; exact line3 (Nat.le_trans (Nat.add_le_add z1 (Nat.mul_le_mul (Nat.le_of_lt hr6) z2)) (by decide))
      ((try dsimp only); (try k_fold); (try k_sweep))
      k_steps
      refine unhold ?_
      refine SB.add (fun t13 k13 => ?_) ?z5
      case z5 => rw [Str.length_append, mul_len]; exact line3 (Nat.le_trans (Nat.add_le_add (Nat.add_le_add z1 (Nat.mul_le_mul (Nat.le_of_lt hr6) z2)) z3) (by decide))
      ((try dsimp only); (try k_fold); (try k_sweep))
      k_steps
      k_dflt refine' law_line_c _ _ _ _ (line_con _ 600 (by decide) _ _ _ (row_at hcc hr6) (row_ans hr5 hr6)) ?q1 ?q2 ?q3 ?q4 ?q5 ⟨rfl, rfl⟩ (by decide) (by decide) ?_
      case q1 => k_asm
      case q2 => k_asm
      case q3 => k_asm
      case q4 => k_asm
      case q5 => k_asm
      intro h13 tk13 t14 F13 N13
      ((try dsimp only); (try k_fold); (try k_sweep))
      k_steps
      (rename News _ _ _ _ => N14)
      replace N14 := News.sub (l' := [_, _]) N14 (List.forall_mem_cons.mpr ⟨.tail _ (.head _), List.forall_mem_cons.mpr ⟨.tail _ (.tail _ (.head _)), List.forall_mem_nil _⟩⟩)
      (k_dflt refine' pick_use N14 ?hi ?hz rfl ?hne rfl rfl ?q1 ?q2 ?q3 ?q4 ⟨rfl, rfl⟩ (by decide) (by decide) ?_; (case hi => assumption); (case hz => exact List.length_take_le _ _); (case hne => exact hne); (case q1 => k_asm); (case q2 => k_asm); (case q3 => k_asm); (case q4 => k_asm))
      intro r7 rt7 y7 n7 h14 tk14 _ hr7 F14 N15
      ((try dsimp only); (try k_fold); (try k_sweep))
      k_steps
      (rename News _ _ _ _ => N16)
      replace N16 := News.sub (l' := [_, _, _]) N16 (List.forall_mem_cons.mpr ⟨.tail _ (.head _), List.forall_mem_cons.mpr ⟨.tail _ (.tail _ (.head _)), List.forall_mem_cons.mpr ⟨.head _, List.forall_mem_nil _⟩⟩⟩)
      (k_dflt refine' pick_use N16 ?hi ?hz rfl ?hne rfl rfl ?q1 ?q2 ?q3 ?q4 ⟨rfl, rfl⟩ (by decide) (by decide) ?_; (case hi => assumption); (case hz => exact List.length_take_le _ _); (case hne => exact hne); (case q1 => k_asm); (case q2 => k_asm); (case q3 => k_asm); (case q4 => k_asm))
      intro r8 rt8 y8 n8 h15 tk15 _ hr8 F15 N17
      ((try dsimp only); (try k_fold); (try k_sweep))
      refine' item_r N17 ?hm ?hr ?hz ?_
      case hm => k_mem
      case hr => exact hr8
      case hz => exact rfl
      intro v8 hv8
      obtain ⟨lk, lt, rfl, hlk⟩ : ∃ lk lt, v8 = .str lk lt ∧ tab3[r8]? = some lk := by
        clear N17 F15
        rcases r8 with _ | _ | r8
        all_goals first | (obtain rfl := Option.some.inj hv8; exact ⟨_, _, rfl, rfl⟩) | exact absurd hr8 (Nat.not_lt.mpr (Nat.le_add_left 2 r8))
      clear hv8
      replace N17 := News.sub (l' := [_, _]) N17 (List.forall_mem_cons.mpr ⟨.head _, List.forall_mem_cons.mpr ⟨.tail _ (.head _), List.forall_mem_nil _⟩⟩)
      k_steps
      (rename News _ _ _ _ => N18)
      replace N18 := News.sub (l' := [_, _, _]) N18 (List.forall_mem_cons.mpr ⟨.tail _ (.head _), List.forall_mem_cons.mpr ⟨.tail _ (.tail _ (.head _)), List.forall_mem_cons.mpr ⟨.head _, List.forall_mem_nil _⟩⟩⟩)
      (k_dflt refine' pick_use N18 ?hi ?hz rfl ?hne rfl rfl ?q1 ?q2 ?q3 ?q4 ⟨rfl, rfl⟩ (by decide) (by decide) ?_; (case hi => assumption); (case hz => exact List.length_take_le _ _); (case hne => exact hne); (case q1 => k_asm); (case q2 => k_asm); (case q3 => k_asm); (case q4 => k_asm))
      intro r9 rt9 y9 n9 h16 tk16 _ hr9 F16 N19
      ((try dsimp only); (try k_fold); (try k_sweep))
      refine' item_r N19 ?hm ?hr ?hz ?_
      case hm => k_mem
      case hr => exact hr9
      case hz => exact rfl
      intro v9 hv9
      obtain ⟨lo, lot, rfl, hlo⟩ : ∃ (lo : Nat) (lot : Tok), v9 = .int (lo : Nat) lot ∧ (lo = 118 ∨ lo = 119 ∨ lo = 120 ∨ lo = 121) := by
        clear N19 F16
        rcases r9 with _ | _ | _ | _ | r9
        · obtain rfl := Option.some.inj hv9; exact ⟨118, _, rfl, .inl rfl⟩
        · obtain rfl := Option.some.inj hv9; exact ⟨119, _, rfl, .inr (.inl rfl)⟩
        · obtain rfl := Option.some.inj hv9; exact ⟨120, _, rfl, .inr (.inr (.inl rfl))⟩
        · obtain rfl := Option.some.inj hv9; exact ⟨121, _, rfl, .inr (.inr (.inr rfl))⟩
        · exact absurd hr9 (Nat.not_lt.mpr (Nat.le_add_left 4 r9))
      clear hv9
      have hl200 : lo < 200 := by rcases hlo with rfl | rfl | rfl | rfl <;> decide
      obtain ⟨-, -, z6⟩ := tab3_at hlk
      have hm7 := mul_ok z6 (Nat.lt_trans hl200 (by decide))
      k_steps
      refine unhold ?_
      refine SB.add (fun t16 k16 => ?_) ?z7
      case z7 => rw [mul_len]; exact line3 (Nat.le_trans (Nat.add_le_add_left (Nat.mul_le_mul (Nat.le_of_lt hl200) z6) _) (by decide))
      ((try dsimp only); (try k_fold); (try k_sweep))
      k_steps
      refine unhold ?_
      refine SB.add (fun t17 k17 => ?_) ?z8
      case z8 => rw [Str.length_append, mul_len]; exact line3 (Nat.le_trans (Nat.add_le_add_right (Nat.add_le_add_left (Nat.mul_le_mul (Nat.le_of_lt hl200) z6) _) _) (by decide))
      ((try dsimp only); (try k_fold); (try k_sweep))
      k_steps
      obtain ⟨dd, hdd, hde⟩ : ∃ d : Int, ans (parse 600 (linkX r8 lo)) = some d ∧ d = (if lo < 120 then 0 else 2) := ⟨_, link_ans hr8 hlo, rfl⟩
      k_dflt refine' law_line_c _ _ _ _ (line_con _ 600 (by decide) _ _ _ (link_at hlk hl200) hdd) ?q1 ?q2 ?q3 ?q4 ?q5 ⟨rfl, rfl⟩ (by decide) (by decide) ?_
      case q1 => k_asm
      case q2 => k_asm
      case q3 => k_asm
      case q4 => k_asm
      case q5 => k_asm
      intro h17 tk17 t18 F17 N20
      ((try dsimp only); (try k_fold); (try k_sweep))
      k_steps
      refine unhold ?_
      refine IfExp_ ?_
      rcases (Decidable.em (lo < 120)) with q | q
      · have q' : (lo : Int) < 120 := Int.ofNat_lt.mpr q
        rw [if_pos q] at hde
        subst hde
        k_steps
      · have q' : ¬ (lo : Int) < 120 := fun z => q (Int.ofNat_lt.mp z)
        rw [if_neg q] at hde
        subst hde
        k_steps
end
end
end Mine
theorem PySem.Challenge.cw_pc0091_01_holds : PySem.Challenge.rw_pc0091_01.Holds :=
  Mine.hTop
